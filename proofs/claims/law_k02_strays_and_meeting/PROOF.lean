import PyProof.Rows.All
import PyProof.P3Statements
import PyProof.ReprReads
import PyProof.EqLayable
import HandS.ForMost
import HandS.Exc
import HandS.ExcOwn
import HandS.TryMany
import HandS.IsInst
import HandS.Deep
import HandS.Lambda
import HandS.Iter
import HandS.TupAny
import HandS.Style
import PyProof.P3In
import HandS.SortInts
import HandS.Conv
import HandS.Strs
import PyProof.ReprRoads
import PyProof.CallFns
import HandS.Zip
import KE.GoesEnum
import HandS.TupMul
import HandS.SetFor
import HandS.ExcInit
import HandS.ExcField
import HandS.ExcIs
import KE.KExcIs
import HandS.EndBits
import HandS.EndTab
import HandS.AnyAll
import HandS.Nested
import PyProof.GenCompD
import HandS.WordsDict
import HandS.TryOnly
import PySem.Challenge.RW_neverfour_k02_strays_and_meeting
section
set_option linter.all false
/-! The plain meaning of a small part of Python: values are data, a local list stands in its slot. -/
namespace N4
open PySem

abbrev D := PyData
/-- an object of one's own that is no list: a dict (keys whole numbers), a set of whole numbers -/
inductive Ob where
  | dct (kvs : List (D × D))
  | st (xs : List Int)
/-- what a slot holds: data that never changes again, or a list of one's own, or the pool of draws -/
inductive Sl where
  | val (d : D)
  | own (xs : List D)
  | pool
  | raw
  | exc (x : D)
  | obj (b : Ob)
  /-- a dict that is walked just now -/
  | ro (kvs : List (D × D))
abbrev Pl := Int × Int × List Int
structure St where
  sl : List (Option Sl)
  pl : Option Pl
/-- what an expression gives: data, the list that stands in a slot, a new list, the pool -/
inductive Ev where
  | val (d : D)
  | slot (i : Nat)
  | fresh (xs : List D)
  | pool
  | obj (b : Ob)
  | junk
/-- the end of a reckoning: a value, an error (its class, its what), or nothing is said -/
inductive Out (α : Type) where
  | ok (a : α) (s : St)
  | err (c : String) (x : D) (s : St)
  | bad
abbrev M (α : Type) := St → Out α
def mRet {α : Type} (a : α) : M α := fun s => .ok a s
def mBad {α : Type} : M α := fun _ => .bad
def mBind {α β : Type} (m : M α) (k : α → M β) : M β := fun s => match m s with
  | .ok a s1 => k a s1
  | .err c x s1 => .err c x s1
  | .bad => .bad
def lineN : Nat := 16777216

/-- the data of a value as it stands now -/
def look (s : St) : Ev → Option D
  | .val d => some d
  | .slot i => match s.sl[i]? with
    | some (some (.own xs)) => some (.list xs)
    | _ => none
  | .fresh xs => some (.list xs)
  | .pool => none
  | .obj _ => none
  | .junk => none
def setSl (s : St) (i : Nat) (x : Option Sl) : St := { s with sl := s.sl.set i x }
/-- a new list is data from now on -/
def settle : Ev → Ev
  | .fresh xs => .val (.list xs)
  | .obj _ => .junk
  | e => e
/-- the value as data that never changes again -/
def freeze (e : Ev) : M D := fun s => match e with
  | .val d => .ok d s
  | .slot i => match s.sl[i]? with
    | some (some (.own xs)) => .ok (.list xs) (setSl s i (some (.val (.list xs))))
    | _ => .bad
  | .fresh xs => .ok (.list xs) s
  | .pool => .bad
  | .obj _ => .bad
  | .junk => .bad

/-! ### expressions -/
def eC (d : D) : M Ev := mRet (.val d)
def eV (i : Nat) : M Ev := fun s => match s.sl[i]? with
  | some (some (.val d)) => .ok (.val d) s
  | some (some (.own _)) => .ok (.slot i) s
  | some (some .pool) => .ok .pool s
  | some (some (.obj _)) => .ok (.slot i) s
  | some (some (.ro _)) => .ok (.slot i) s
  | _ => .bad
def eOp (f : D → D → Option Ev) (a b : M Ev) : M Ev := mBind a fun x => mBind b fun y => fun s => match look s x, look s y with
  | some d, some e => match f d e with
    | some r => .ok r s
    | none => .bad
  | _, _ => .bad
def eUn (f : D → Option Ev) (a : M Ev) : M Ev := mBind a fun x => fun s => match look s x with
  | some d => match f d with
    | some r => .ok r s
    | none => .bad
  | none => .bad
/-- arguments of a builtin: looked at when all stand -/
def evs : List (M Ev) → M (List Ev)
  | [] => mRet []
  | a :: as => mBind a fun x => mBind (evs as) fun xs => mRet (settle x :: xs)
def looks (s : St) : List Ev → Option (List D)
  | [] => some []
  | e :: es => match look s e, looks s es with
    | some d, some ds => some (d :: ds)
    | _, _ => none
def eBu (f : List D → Option Ev) (as : List (M Ev)) : M Ev := mBind (evs as) fun xs => fun s => match looks s xs with
  | some ds => match f ds with
    | some r => .ok r s
    | none => .bad
  | none => .bad
/-- items of a display, of a row of arguments: data each -/
def frzs : List (M Ev) → M (List D)
  | [] => mRet []
  | a :: as => mBind a fun x => mBind (freeze x) fun d => mBind (frzs as) fun ds => mRet (d :: ds)
def eTup (as : List (M Ev)) : M Ev := mBind (frzs as) fun ds => if ds.length ≤ lineN then mRet (.val (.tuple ds)) else mBad
def eLst (as : List (M Ev)) : M Ev := mBind (frzs as) fun ds => if ds.length ≤ lineN then mRet (.fresh ds) else mBad
/-! ### tests -/
def tV (a : M Ev) : M Bool := mBind a fun x => match x with
  | .val (.bool b) => mRet b
  | _ => mBad
def tAnd (a b : M Bool) : M Bool := mBind a fun x => if x then b else mRet false
def tOr (a b : M Bool) : M Bool := mBind a fun x => if x then mRet true else b
def tNot (a : M Bool) : M Bool := mBind a fun x => mRet (!x)
def eIf (c : M Bool) (a b : M Ev) : M Ev := mBind c fun x => if x then a else b
def boolOf : Ev → Option Bool
  | .val (.bool b) => some b
  | _ => none
def eAnd (a b : M Ev) : M Ev := mBind a fun x => match boolOf x with
  | some k => if k then b else mRet (.val (.bool false))
  | none => mBad
def eOr (a b : M Ev) : M Ev := mBind a fun x => match boolOf x with
  | some k => if k then mRet (.val (.bool true)) else b
  | none => mBad
def eNot (a : M Ev) : M Ev := mBind a fun x => match boolOf x with
  | some k => mRet (.val (.bool !k))
  | none => mBad
/-- a op1 b op2 c -/
def eChain (f g : D → D → Option Ev) (a b c : M Ev) : M Ev := mBind a fun x => mBind b fun y => fun s => match look s x, look s y with
  | some d, some e => match f d e with
    | some (.val (.bool true)) => mBind c (fun z => fun s2 => match look s2 y, look s2 z with
      | some e2, some d2 => match g e2 d2 with
        | some r => .ok r s2
        | none => .bad
      | _, _ => .bad) s
    | some (.val (.bool false)) => .ok (.val (.bool false)) s
    | _ => .bad
  | _, _ => .bad

/-! ### defs -/
inductive FOut where
  | ok (r : Ev) (p : Option Pl)
  | err (c : String) (x : D) (p : Option Pl)
  | bad
abbrev Fn := List Sl → Option Pl → FOut
def argOf (e : Ev) : M Sl := match e with
  | .pool => mRet .pool
  | e => mBind (freeze e) fun d => mRet (.val d)
def args : List (M Ev) → M (List Sl)
  | [] => mRet []
  | a :: as => mBind a fun x => mBind (argOf x) fun d => mBind (args as) fun ds => mRet (d :: ds)
def eCall (F : Fn) (as : List (M Ev)) : M Ev := mBind (args as) fun ds => fun s => match F ds s.pl with
  | .ok r p => .ok r { s with pl := p }
  | .err c x p => .err c x { s with pl := p }
  | .bad => .bad

/-! ### statements -/
inductive SOut where
  | nx (s : St)
  | ret (e : Ev) (s : St)
  | brk (s : St)
  | cnt (s : St)
  | err (c : String) (x : D) (s : St)
  | bad
abbrev SM := St → SOut
def sE {α : Type} (m : M α) (k : α → SM) : SM := fun s => match m s with
  | .ok a s1 => k a s1
  | .err c x s1 => .err c x s1
  | .bad => .bad
def sSeq (a b : SM) : SM := fun s => match a s with
  | .nx s1 => b s1
  | o => o
def sNil : SM := .nx
def sBrk : SM := .brk
def sCnt : SM := .cnt
/-- a value is stored in a slot -/
def store (i : Nat) (e : Ev) : SM := match e with
  | .fresh xs => fun s => if i < s.sl.length then .nx (setSl s i (some (.own xs))) else .bad
  | .pool => fun s => .bad
  | .obj b => fun s => if i < s.sl.length then .nx (setSl s i (some (.obj b))) else .bad
  | e => sE (freeze e) fun d s => if i < s.sl.length then .nx (setSl s i (some (.val d))) else .bad
def sSet (i : Nat) (e : M Ev) : SM := sE e (store i)
/-- data, or a list that is new -/
def own1 : Ev → M Ev
  | .fresh xs => mRet (.fresh xs)
  | .obj b => mRet (.obj b)
  | e => mBind (freeze e) fun d => mRet (.val d)
def prs : List (M Ev) → M (List Ev)
  | [] => mRet []
  | a :: as => mBind a fun x => mBind (own1 x) fun x => mBind (prs as) fun xs => mRet (x :: xs)
def putEv (i : Nat) (e : Ev) : SM := fun s => match e with
  | .val d => if i < s.sl.length then .nx (setSl s i (some (.val d))) else .bad
  | .fresh xs => if i < s.sl.length then .nx (setSl s i (some (.own xs))) else .bad
  | .obj b => if i < s.sl.length then .nx (setSl s i (some (.obj b))) else .bad
  | _ => .bad
def putEvs : List Nat → List Ev → SM
  | [], [] => sNil
  | i :: is, e :: es => sSeq (putEv i e) (putEvs is es)
  | _, _ => fun _ => .bad
/-- a, b = x, y: the values, then the names -/
def sPars (is : List Nat) (as : List (M Ev)) : SM := sE (prs as) fun es => if es.length = is.length then putEvs is es else fun _ => .bad
def sRet (e : M Ev) : SM := sE e fun x s => .ret x s
def sRetN : SM := fun s => .ret (.val .none) s
def sExpr (e : M Ev) : SM := sE e fun _ s => .nx s
def sIf (c : M Bool) (a b : SM) : SM := sE c fun k => if k then a else b
def sRaise (c : String) (e : M Ev) : SM := sE e fun x => sE (freeze x) fun d s => .err c d s
/-- the targets of a for, of a store: data goes to them -/
abbrev Tg := D → St → Option St
def gN (i : Nat) : Tg := fun d s => if i < s.sl.length then some (setSl s i (some (.val d))) else none
def gAll : List Tg → List D → St → Option St
  | [], [], s => some s
  | g :: gs, d :: ds, s => match g d s with
    | some s1 => gAll gs ds s1
    | none => none
  | _, _, _ => none
def gT (gs : List Tg) : Tg := fun d s => match d with
  | .tuple ds => gAll gs ds s
  | _ => none
def gL (gs : List Tg) : Tg := fun d s => match d with
  | .list ds => gAll gs ds s
  | _ => none
/-- target = value, the target a row of names -/
def sTgt (g : Tg) (e : M Ev) : SM := sE e fun x => sE (freeze x) fun d s => match g d s with
  | some s1 => .nx s1
  | none => .bad
def loop (g : Tg) (b : SM) : List D → SM
  | [], s => .nx s
  | d :: ds, s => match g d s with
    | none => .bad
    | some s1 => match b s1 with
      | .nx s2 => loop g b ds s2
      | .cnt s2 => loop g b ds s2
      | .brk s2 => .nx s2
      | o => o
/-- what is walked: the items as data -/
def iSeq (e : M Ev) : M (List D) := mBind e fun x => mBind (freeze x) fun d => match d with
  | .list ds => mRet ds
  | .tuple ds => mRet ds
  | _ => mBad
def boundN : Int := 4611686018427387904
def intsN (lo : Int) : Nat → List D
  | 0 => []
  | n + 1 => .int lo :: intsN (lo + 1) n
def iRng1 (as : List (M Ev)) : M (List D) := mBind (evs as) fun xs => match xs with
  | [.val (.int j)] => if -boundN ≤ j ∧ j < boundN then mRet (intsN 0 j.toNat) else mBad
  | _ => mBad
def iRng2 (as : List (M Ev)) : M (List D) := mBind (evs as) fun xs => match xs with
  | [.val (.int i), .val (.int j)] => if -boundN ≤ i ∧ i < boundN ∧ -boundN ≤ j ∧ j < boundN then mRet (intsN i (j - i).toNat) else mBad
  | _ => mBad
def nums (k : Nat) : List D → List D
  | [] => []
  | d :: ds => .tuple [.int k, d] :: nums (k + 1) ds
def iEnum (e : M Ev) : M (List D) := mBind (iSeq e) fun ds => mRet (nums 0 ds)
def zips : List D → List D → List D
  | a :: as, b :: bs => .tuple [a, b] :: zips as bs
  | _, _ => []
def iZip (a b : M Ev) : M (List D) := mBind (iSeq a) fun as => mBind (iSeq b) fun bs => mRet (zips as bs)
def sFor (it : M (List D)) (g : Tg) (b : SM) : SM := sE it fun ds => loop g b ds
def fuelN : Nat := 1000000000
def whileN (c : M Bool) (b : SM) : Nat → SM
  | 0, _ => .bad
  | n + 1, s => match c s with
    | .ok true s1 => match b s1 with
      | .nx s2 => whileN c b n s2
      | .cnt s2 => whileN c b n s2
      | .brk s2 => .nx s2
      | o => o
    | .ok false s1 => .nx s1
    | .err c x s1 => .err c x s1
    | .bad => .bad
def sWhile (c : M Bool) (b : SM) : SM := whileN c b fuelN

/-! ### lists of one's own, changed -/
def isOwnB (s : St) (i : Nat) : Bool := match s.sl[i]? with
  | some (some (.own _)) => true
  | _ => false
def onOwn (i : Nat) (k : List D → SM) : SM := fun s => match s.sl[i]? with
  | some (some (.own xs)) => k xs s
  | _ => .bad
/-- x.append(e) -/
def sApp (i : Nat) (e : M Ev) : SM := onOwn i fun _ => sE e fun x => sE (freeze x) fun d => onOwn i fun xs s => if xs.length < lineN then .nx (setSl s i (some (.own (xs ++ [d])))) else .bad
/-- x.extend(e) -/
def sExt (i : Nat) (e : M Ev) : SM := onOwn i fun _ => sE e fun x => sE (freeze x) fun d => onOwn i fun xs s => match d with
  | .list ys => if xs.length + ys.length ≤ lineN then .nx (setSl s i (some (.own (xs ++ ys)))) else .bad
  | _ => .bad
/-- the place that an index means -/
def ixN (n : Nat) (k : Int) : Option Nat := if 0 ≤ k then (if k < n then some k.toNat else none) else if -(n : Int) ≤ k then some (k + n).toNat else none
/-- x[i] = e: e, then the place -/
def sPut (i : Nat) (at_ : M Ev) (e : M Ev) : SM := sE e fun x => sE (freeze x) fun d => onOwn i fun _ => sE at_ fun k => onOwn i fun xs s => match k with
  | .val (.int z) => match ixN xs.length z with
    | some j => .nx (setSl s i (some (.own (xs.set j d))))
    | none => .bad
  | _ => .bad
def ofOwn {α : Type} (i : Nat) (k : List D → M α) : M α := fun s => match s.sl[i]? with
  | some (some (.own xs)) => k xs s
  | _ => .bad
/-- x.pop() -/
def ePop (i : Nat) : M Ev := ofOwn i fun xs s => match xs[xs.length - 1]? with
  | some d => .ok (.val d) (setSl s i (some (.own xs.dropLast)))
  | none => .bad
/-- x.pop(e) -/
def ePopAt (i : Nat) (a : M Ev) : M Ev := ofOwn i fun _ => mBind a fun k => ofOwn i fun xs s => match k with
  | .val (.int z) => if -boundN ≤ z ∧ z < boundN then match ixN xs.length z with
    | some j => match xs[j]? with
      | some d => .ok (.val d) (setSl s i (some (.own (xs.eraseIdx j))))
      | none => .bad
    | none => .bad
    else .bad
  | _ => .bad

/-! ### comprehensions: the block's own slots are wiped, and stand again behind it -/
def wipeS (s : St) : List Nat → St
  | [] => s
  | i :: is => wipeS (setSl s i none) is
def keepS (s0 : St) : List Nat → St → St
  | [], s => s
  | i :: is, s => match s0.sl[i]? with
    | some (some (.val d)) => keepS s0 is (setSl s i (some (.val d)))
    | _ => keepS s0 is (setSl s i none)
def lcGo (own : List Nat) (g : Tg) (c : M Bool) (e : M Ev) : List D → List D → M (List D)
  | [], acc, s => .ok acc s
  | d :: ds, acc, s => match g d (wipeS s own) with
    | none => .bad
    | some s1 => match c s1 with
      | .ok true s2 => match mBind e freeze s2 with
        | .ok x s3 => if acc.length < lineN then lcGo own g c e ds (acc ++ [x]) s3 else .bad
        | _ => .bad
      | .ok false s2 => lcGo own g c e ds acc s2
      | _ => .bad
def eLC (own : List Nat) (it : M (List D)) (g : Tg) (c : M Bool) (e : M Ev) : M Ev := mBind it fun ds s => match lcGo own g c e ds [] s with
  | .ok xs s1 => .ok (.fresh xs) (keepS s own s1)
  | .err c x s1 => .bad
  | .bad => .bad

/-! ### a def's meaning by its body -/
def endOf : SOut → FOut
  | .nx s => .ok (.val .none) s.pl
  | .ret (.val d) s => .ok (.val d) s.pl
  | .ret (.fresh xs) s => .ok (.fresh xs) s.pl
  | .ret (.slot i) s => match s.sl[i]? with
    | some (some (.own xs)) => .ok (.fresh xs) s.pl
    | some (some (.obj b)) => .ok (.obj b) s.pl
    | _ => .bad
  | .ret (.obj b) s => .ok (.obj b) s.pl
  | .ret .junk _ => .bad
  | .ret .pool _ => .bad
  | .err c x s => .err c x s.pl
  | _ => .bad
def mkFn (np nn : Nat) (b : SM) : Fn := fun as p => if as.length = np then endOf (b ⟨as.map some ++ List.replicate (nn - np) none, p⟩) else .bad

/-! ### operators on data -/
def oAdd : D → D → Option Ev
  | .int i, .int j => some (.val (.int (i + j)))
  | .list xs, .list ys => if xs.length + ys.length ≤ lineN then some (.fresh (xs ++ ys)) else none
  | .tuple xs, .tuple ys => if xs.length + ys.length ≤ lineN then some (.val (.tuple (xs ++ ys))) else none
  | .str x, .str y => if x.length + y.length ≤ lineN then some (.val (.str (x ++ y))) else none
  | _, _ => none
def oSub : D → D → Option Ev
  | .int i, .int j => some (.val (.int (i - j)))
  | _, _ => none
def big64 : Int := 18446744073709551616
def oMul : D → D → Option Ev
  | .int i, .int j => if -big64 < i ∧ i < big64 ∨ -big64 < j ∧ j < big64 then some (.val (.int (i * j))) else none
  | _, _ => none
def oMod : D → D → Option Ev
  | .int i, .int j => if 0 < j then some (.val (.int (i % j))) else none
  | _, _ => none
def oDiv : D → D → Option Ev
  | .int i, .int j => if 0 < j ∧ j < 1073741824 then some (.val (.int (i / j))) else none
  | _, _ => none
def oPow : D → D → Option Ev
  | .int i, .int j => if 0 ≤ j ∧ j ≤ 1000000 ∧ i.natAbs < 18446744073709551616 then some (.val (.int (i ^ j.toNat))) else none
  | _, _ => none
def oLt : D → D → Option Ev
  | .int i, .int j => some (.val (.bool (decide (i < j))))
  | _, _ => none
def oLe : D → D → Option Ev
  | .int i, .int j => some (.val (.bool (decide (i ≤ j))))
  | _, _ => none
def oGt : D → D → Option Ev
  | .int i, .int j => some (.val (.bool (decide (j < i))))
  | _, _ => none
def oGe : D → D → Option Ev
  | .int i, .int j => some (.val (.bool (decide (j ≤ i))))
  | _, _ => none
def shal (d : D) : Bool := SeqAt.shaped d
def oEq : D → D → Option Ev := fun d e => if shal d && shal e then some (.val (.bool (PyData.eqv d e))) else none
def oNe : D → D → Option Ev := fun d e => if shal d && shal e then some (.val (.bool (!PyData.eqv d e))) else none
def isNone : D → Bool
  | .none => true
  | _ => false
def oIs : D → D → Option Ev
  | d, .none => some (.val (.bool (isNone d)))
  | _, _ => none
def oIsNot : D → D → Option Ev
  | d, .none => some (.val (.bool (!isNone d)))
  | _, _ => none
def oIn : D → D → Option Ev
  | d, .list ds => if shal d && shal (.list ds) then some (.val (.bool (ds.any fun z => PyData.eqv z d))) else none
  | d, .tuple ds => if shal d && shal (.tuple ds) then some (.val (.bool (ds.any fun z => PyData.eqv z d))) else none
  | _, _ => none
def oNotIn : D → D → Option Ev
  | d, .list ds => if shal d && shal (.list ds) then some (.val (.bool (!ds.any fun z => PyData.eqv z d))) else none
  | d, .tuple ds => if shal d && shal (.tuple ds) then some (.val (.bool (!ds.any fun z => PyData.eqv z d))) else none
  | _, _ => none
def oIx : D → D → Option Ev
  | .list xs, .int k => match ixN xs.length k with
    | some j => (xs[j]?).map .val
    | none => none
  | .tuple xs, .int k => match ixN xs.length k with
    | some j => (xs[j]?).map .val
    | none => none
  | _, _ => none
def oNeg : D → Option Ev
  | .int i => some (.val (.int (-i)))
  | _ => none

/-! ### builtins -/
def bLen : List D → Option Ev
  | [.list xs] => some (.val (.int xs.length))
  | [.tuple xs] => some (.val (.int xs.length))
  | _ => none
def bList : List D → Option Ev
  | [.list xs] => some (.fresh xs)
  | [.tuple xs] => some (.fresh xs)
  | _ => none
def bTuple : List D → Option Ev
  | [.list xs] => some (.val (.tuple xs))
  | [.tuple xs] => some (.val (.tuple xs))
  | _ => none
def isaInt : D → Bool
  | .int _ => true
  | .bool _ => true
  | _ => false
def isaBool : D → Bool
  | .bool _ => true
  | _ => false
def isaTuple : D → Bool
  | .tuple _ => true
  | _ => false
def isaList : D → Bool
  | .list _ => true
  | _ => false
def isaStr : D → Bool
  | .str _ => true
  | _ => false
def bIsa (p : D → Bool) : List D → Option Ev
  | [d] => some (.val (.bool (p d)))
  | _ => none
def bRepr : List D → Option Ev
  | [d] => if d.showable && decide (d.shown.length ≤ lineN) && shal d then some (.val (.str d.shown)) else none
  | _ => none
def bMin2 : List D → Option Ev
  | [.int i, .int j] => some (.val (.int (if j < i then j else i)))
  | _ => none
def bMax2 : List D → Option Ev
  | [.int i, .int j] => some (.val (.int (if j > i then j else i)))
  | _ => none
def bInt : List D → Option Ev
  | [.int i] => some (.val (.int i))
  | [.bool b] => some (.val (.int (if b then 1 else 0)))
  | _ => none
/-- the first place of an equal item -/
def idxOf (d : D) : List D → Option Nat
  | [] => none
  | x :: xs => if PyData.eqv x d then some 0 else (idxOf d xs).map (· + 1)
def bIndex : D → List D → Option Ev
  | .list xs, [d] => if shal d && shal (.list xs) then (idxOf d xs).map fun j => .val (.int (j : Nat)) else none
  | _, _ => none
def eMt (f : D → List D → Option Ev) (a : M Ev) (as : List (M Ev)) : M Ev := mBind a fun x => mBind (evs as) fun ys => fun s => match look s x, looks s ys with
  | some d, some ds => match f d ds with
    | some r => .ok r s
    | none => .bad
  | _, _ => .bad
end N4
end
section
set_option Elab.async false
set_option linter.all false
set_option autoImplicit false
set_option maxRecDepth 100000
set_option maxHeartbeats 1000000
/-! The plain meaning holds of the model: states, and the readings of expressions, tests, statements. -/
namespace N4
open PySem PySem.Spec PyProof.Rows L2

structure Cf where
  K : PySem.W.Frag
  T : List (Addr × PySem.Str)
  cls : String → Addr
  ga : Addr
  gx : Option Addr
  g1 : Hp
  gp : Option (Addr × Addr)
  gc : Addr
  gq : PySem.Str
/-- the entry of a def: what was tracked, what was data, where the pool stands -/
structure Fr where
  H0 : Hp
  F0 : Hp
  pa : Option (Addr × Addr)

/-! ### data -/
mutual
/-- the value v is the data d: its lists are tracked and never change, its tuples are tracked or the module's -/
inductive Dt (K : PySem.W.Frag) (F : Hp) : V → D → Prop
  | non : Dt K F .non .none
  | bl (b : Bool) : Dt K F (.bl b) (.bool b)
  | int (i : Int) : Dt K F (.int i) (.int i)
  | str (x : PySem.Str) : Dt K F (.str x) (.str x)
  | lst {a : Addr} {xs : List V} {ds : List D} : F a = some (.lst xs) → DtAll K F xs ds → Dt K F (.ref a) (.list ds)
  | tup {a : Addr} {xs : List V} {ds : List D} : SqT K F a xs → DtAll K F xs ds → Dt K F (.ref a) (.tuple ds)
inductive DtAll (K : PySem.W.Frag) (F : Hp) : List V → List D → Prop
  | nil : DtAll K F [] []
  | cons {v : V} {vs : List V} {d : D} {ds : List D} : Dt K F v d → DtAll K F vs ds → DtAll K F (v :: vs) (d :: ds)
end
theorem same_seqT {K : PySem.W.Frag} {H H' : Hp} {a : Addr} {xs : List V} (e : Same H H') (h : SqT K H a xs) : SqT K H' a xs := by
  rcases h with (h | ⟨o, h⟩) | h
  · exact .inl (.inl (e _ _ h))
  · exact .inl (.inr ⟨o, e _ _ h⟩)
  · exact .inr h
mutual
theorem Dt.dp {K : PySem.W.Frag} {F H : Hp} (s : Same F H) : ∀ (d : D) (v : V), Dt K F v d → Dp K H v d
  | .none, _, h => by cases h; exact .non
  | .bool b, _, h => by cases h; exact .bl b
  | .int i, _, h => by cases h; exact .int i
  | .str x, _, h => by cases h; exact .str x
  | .list ds, _, h => by
    cases h with
    | lst hs ha => exact .lst (SqL.of (s _ _ hs)) (DtAll.dp s ds _ ha)
  | .tuple ds, _, h => by
    cases h with
    | tup hs ha => exact .tup (same_seqT s hs) (DtAll.dp s ds _ ha)
  | .dict _, _, h => by cases h
theorem DtAll.dp {K : PySem.W.Frag} {F H : Hp} (s : Same F H) : ∀ (ds : List D) (vs : List V), DtAll K F vs ds → DpAll K H vs ds
  | [], _, h => by cases h; exact .nil
  | d :: ds, _, h => by
    cases h with
    | cons h1 h2 => exact .cons (Dt.dp s d _ h1) (DtAll.dp s ds _ h2)
end
mutual
theorem Dt.grow {K : PySem.W.Frag} {F F' : Hp} (s : Same F F') : ∀ (d : D) (v : V), Dt K F v d → Dt K F' v d
  | .none, _, h => by cases h; exact .non
  | .bool b, _, h => by cases h; exact .bl b
  | .int i, _, h => by cases h; exact .int i
  | .str x, _, h => by cases h; exact .str x
  | .list ds, _, h => by
    cases h with
    | lst hs ha => exact .lst (s _ _ hs) (Dt.growAll s ds _ ha)
  | .tuple ds, _, h => by
    cases h with
    | tup hs ha =>
      exact .tup (same_seqT s hs) (Dt.growAll s ds _ ha)
  | .dict _, _, h => by cases h
theorem Dt.growAll {K : PySem.W.Frag} {F F' : Hp} (s : Same F F') : ∀ (ds : List D) (vs : List V), DtAll K F vs ds → DtAll K F' vs ds
  | [], _, h => by cases h; exact .nil
  | d :: ds, _, h => by
    cases h with
    | cons h1 h2 => exact .cons (Dt.grow s d _ h1) (Dt.growAll s ds _ h2)
end
theorem dtAll_length {K : PySem.W.Frag} {F : Hp} : ∀ {vs : List V} {ds : List D}, DtAll K F vs ds → vs.length = ds.length
  | _, _, .nil => rfl
  | _, _, .cons _ h => congrArg (· + 1) (dtAll_length h)
theorem dtAll_append {K : PySem.W.Frag} {F : Hp} : ∀ {vs ws : List V} {ds es : List D}, DtAll K F vs ds → DtAll K F ws es → DtAll K F (vs ++ ws) (ds ++ es)
  | _, _, _, _, .nil, h => h
  | _, _, _, _, .cons a b, h => .cons a (dtAll_append b h)
theorem dtAll_get {K : PySem.W.Frag} {F : Hp} : ∀ {vs : List V} {ds : List D} {i : Nat} {d : D}, DtAll K F vs ds → ds[i]? = some d → ∃ v, vs[i]? = some v ∧ Dt K F v d
  | _, _, _, _, .nil, h => by simp at h
  | _, _, 0, _, .cons a b, h => by
    simp at h
    subst h
    exact ⟨_, rfl, a⟩
  | _, _, i + 1, _, .cons a b, h => by
    obtain ⟨v, h1, h2⟩ := dtAll_get (i := i) b (by simpa using h)
    exact ⟨v, by simpa using h1, h2⟩
theorem dtAll_at {K : PySem.W.Frag} {F : Hp} : ∀ {vs : List V} {ds : List D} {i : Nat} {v : V}, DtAll K F vs ds → vs[i]? = some v → ∃ d, ds[i]? = some d ∧ Dt K F v d
  | _, _, _, _, .nil, h => by simp at h
  | _, _, 0, _, .cons a b, h => by
    simp at h
    subst h
    exact ⟨_, rfl, a⟩
  | _, _, i + 1, _, .cons a b, h => by
    obtain ⟨v, h1, h2⟩ := dtAll_at (i := i) b (by simpa using h)
    exact ⟨v, by simpa using h1, h2⟩
theorem dtAll_set {K : PySem.W.Frag} {F : Hp} {v : V} {d : D} (h : Dt K F v d) : ∀ {vs : List V} {ds : List D} (i : Nat), DtAll K F vs ds → DtAll K F (vs.set i v) (ds.set i d)
  | _, _, _, .nil => .nil
  | _, _, 0, .cons _ b => .cons h b
  | _, _, i + 1, .cons a b => .cons a (dtAll_set h i b)
theorem dtAll_erase {K : PySem.W.Frag} {F : Hp} : ∀ {vs : List V} {ds : List D} (i : Nat), DtAll K F vs ds → DtAll K F (vs.eraseIdx i) (ds.eraseIdx i)
  | _, _, _, .nil => .nil
  | _, _, 0, .cons _ b => b
  | _, _, i + 1, .cons a b => .cons a (dtAll_erase i b)
theorem dtAll_take {K : PySem.W.Frag} {F : Hp} : ∀ {vs : List V} {ds : List D} (i : Nat), DtAll K F vs ds → DtAll K F (vs.take i) (ds.take i)
  | _, _, 0, _ => .nil
  | _, _, _ + 1, .nil => .nil
  | _, _, i + 1, .cons a b => .cons a (dtAll_take i b)
theorem dtAll_drop {K : PySem.W.Frag} {F : Hp} : ∀ {vs : List V} {ds : List D} (i : Nat), DtAll K F vs ds → DtAll K F (vs.drop i) (ds.drop i)
  | _, _, 0, h => h
  | _, _, _ + 1, .nil => .nil
  | _, _, i + 1, .cons _ b => dtAll_drop i b
theorem dtAll_ints {K : PySem.W.Frag} {F : Hp} : ∀ ns : List Int, DtAll K F (ns.map V.int) (ns.map PyData.int)
  | [] => .nil
  | n :: ns => .cons (.int n) (dtAll_ints ns)

/-- data as seen now: what it holds is data -/
def Vw (K : PySem.W.Frag) (F H : Hp) (v : V) : D → Prop
  | .none => v = .non
  | .bool b => v = .bl b
  | .int i => v = .int i
  | .str x => v = .str x
  | .list xs => ∃ a vs, v = .ref a ∧ H a = some (.lst vs) ∧ DtAll K F vs xs
  | .tuple xs => ∃ a vs, v = .ref a ∧ SqT K F a vs ∧ DtAll K F vs xs
  | .dict _ => False
theorem Dt.vw {K : PySem.W.Frag} {F H : Hp} (s : Same F H) {v : V} {d : D} (h : Dt K F v d) : Vw K F H v d := by
  cases d with
  | none => cases h; rfl
  | bool b => cases h; rfl
  | int i => cases h; rfl
  | str x => cases h; rfl
  | list ds =>
    cases h with
    | lst hs ha => exact ⟨_, _, rfl, s _ _ hs, ha⟩
  | tuple ds =>
    cases h with
    | tup hs ha => exact ⟨_, _, rfl, hs, ha⟩
  | dict _ => cases h
theorem Vw.dp {K : PySem.W.Frag} {F H : Hp} (s : Same F H) {v : V} {d : D} (h : Vw K F H v d) : Dp K H v d := by
  cases d with
  | none => cases h; exact .non
  | bool b => cases h; exact .bl b
  | int i => cases h; exact .int i
  | str x => cases h; exact .str x
  | list ds =>
    obtain ⟨a, vs, rfl, hs, ha⟩ := h
    exact .lst (SqL.of hs) (DtAll.dp s _ _ ha)
  | tuple ds =>
    obtain ⟨a, vs, rfl, hs, ha⟩ := h
    exact .tup (same_seqT s hs) (DtAll.dp s _ _ ha)
  | dict _ => exact h.elim
/-! ### states -/
def _root_.N4.Sl.isOwn : Sl → Bool
  | .own _ => true
  | .obj _ => true
  | _ => false
def IsOwn (τ : N4.St) (i : Nat) : Prop := ∃ s, τ.sl[i]? = some (some s) ∧ s.isOwn = true
theorem IsOwn.lst {τ : N4.St} {i : Nat} {xs : List D} (h : τ.sl[i]? = some (some (.own xs))) : IsOwn τ i := ⟨_, h, rfl⟩
theorem IsOwn.ob {τ : N4.St} {i : Nat} {b : Ob} (h : τ.sl[i]? = some (some (.obj b))) : IsOwn τ i := ⟨_, h, rfl⟩
/-- a dict's entries: the keys whole numbers, the values data -/
inductive KsOk (K : PySem.W.Frag) (F : Hp) : List (L2.Key × V) → List (D × D) → Prop
  | nil : KsOk K F [] []
  | cons {i : Int} {v : V} {d : D} {ks : List (L2.Key × V)} {kvs : List (D × D)} : Dt K F v d → KsOk K F ks kvs → KsOk K F ((.inl i, v) :: ks) ((.int i, d) :: kvs)
theorem KsOk.grow {K : PySem.W.Frag} {F F' : Hp} (s : Same F F') {ks : List (L2.Key × V)} {kvs : List (D × D)} (h : KsOk K F ks kvs) : KsOk K F' ks kvs := by
  induction h with
  | nil => exact .nil
  | cons h _ ih => exact .cons (Dt.grow s _ _ h) ih
/-- the object o is b -/
def ObOk (K : PySem.W.Frag) (F : Hp) : Ob → HO → Prop
  | .dct kvs, o => ∃ ks, o = .dK ks ∧ KsOk K F ks kvs
  | .st xs, o => ∃ n, o = .set (fun i => decide (i ∈ xs)) n ∧ n = xs.length ∧ xs.Nodup
theorem ObOk.grow {K : PySem.W.Frag} {F F' : Hp} (s : Same F F') {b : Ob} {o : HO} (h : ObOk K F b o) : ObOk K F' b o := by
  cases b with
  | dct kvs => obtain ⟨ks, e, r⟩ := h; exact ⟨ks, e, r.grow s⟩
  | st xs => exact h
theorem ObOk.notbl {K : PySem.W.Frag} {F : Hp} {b : Ob} {o : HO} (h : ObOk K F b o) : ∀ ps, o ≠ .tbl ps := fun ps z => by
  cases b with
  | dct kvs => obtain ⟨ks, e, r⟩ := h; rw [e] at z; cases z
  | st xs => obtain ⟨n, e, r⟩ := h; rw [e] at z; cases z
theorem ObOk.nolst {K : PySem.W.Frag} {F : Hp} {b : Ob} {o : HO} (h : ObOk K F b o) : ∀ xs, o ≠ .lst xs := fun ps z => by
  cases b with
  | dct kvs => obtain ⟨ks, e, r⟩ := h; rw [e] at z; cases z
  | st xs => obtain ⟨n, e, r⟩ := h; rw [e] at z; cases z
abbrev whatS : PySem.Str := "what"
def SlOk (c : Cf) (fr : Fr) (H F : Hp) (v : V) : Sl → Prop
  | .val d => Dt c.K F v d
  | .own xs => ∃ a vs, v = .ref a ∧ H a = some (.lst vs) ∧ DtAll c.K F vs xs ∧ F a = none ∧ fr.H0 a = none
  | .pool => ∃ pp pq, fr.pa = some (pp, pq) ∧ v = .ref pp
  | .raw => v = .ref c.ga ∧ Same c.g1 F ∧ fr.pa = c.gp ∧ fr.H0 c.gc = some (LamX.CodeO c.gc c.gq) ∧ ∀ pp pq, fr.pa = some (pp, pq) → c.gc ≠ pp ∧ c.gc ≠ pq
  | .obj b => ∃ a o, v = .ref a ∧ H a = some o ∧ ObOk c.K F b o ∧ F a = none ∧ fr.H0 a = none
  | .ro kvs => ∃ a ob ks, v = .ref a ∧ fr.H0 a = some (.frz ob (.dK ks)) ∧ (∀ pp pq, fr.pa = some (pp, pq) → a ≠ pp ∧ a ≠ pq) ∧ KsOk c.K F ks kvs
  | .exc x => ∃ dd y, c.gx = some dd ∧ v = .ref c.ga ∧ (fr.H0 dd = some (.xd [(whatS, y)]) ∧ ∀ pp pq, fr.pa = some (pp, pq) → dd ≠ pp ∧ dd ≠ pq) ∧ Dt c.K F y x
def PoolOk (fr : Fr) (H F : Hp) : Option Pl → Prop
  | none => fr.pa = none
  | some (x, y, l) => ∃ pp pq, fr.pa = some (pp, pq) ∧ pp ≠ pq ∧ H pp = some (.lst [.int x, .int y, .ref pq]) ∧ H pq = some (.lst (l.map V.int)) ∧ F pp = none ∧ F pq = none ∧ fr.H0 pp ≠ none ∧ fr.H0 pq ≠ none
/-- no table of code objects -/
def NoTbl (F : Hp) : Prop := ∀ b ps, F b ≠ some (.tbl ps)
theorem NoTbl.upd {F : Hp} (h : NoTbl F) {a : Addr} {o : HO} (n : ∀ ps, o ≠ .tbl ps) : NoTbl (upd F a o) := fun b ps e => by
  by_cases z : b = a
  · rw [z, upd_same] at e
    exact n ps (Option.some.inj e)
  · rw [upd_ne z] at e
    exact h b ps e
/-- a heap without its tables -/
def noT (H : Hp) : Hp := fun b => match H b with
  | some (.tbl _) => none
  | x => x
theorem noT_ok (H : Hp) : NoTbl (noT H) := fun b ps e => by
  unfold noT at e
  split at e
  · cases e
  · rename_i x h
    exact h ps e
theorem noT_of {H : Hp} {b : Addr} {o : HO} (e : H b = some o) (n : ∀ ps, o ≠ .tbl ps) : noT H b = some o := by
  unfold noT
  rw [e]
  split
  · rename_i ps z
    exact absurd (Option.some.inj z) (n ps)
  · rfl
theorem noT_some {H : Hp} {b : Addr} {o : HO} (e : noT H b = some o) : H b = some o := by
  unfold noT at e
  split at e
  · cases e
  · exact e
theorem noT_none {H : Hp} {b : Addr} (e : H b = none) : noT H b = none := by
  unfold noT
  rw [e]
structure Sat (c : Cf) (fr : Fr) (τ : N4.St) (σ : L2.St) (H F : Hp) : Prop where
  sub : Same F H
  tabs : LamX.Tabs c.T H
  keep : ∀ b o, fr.H0 b = some o → (∀ pp pq, fr.pa = some (pp, pq) → b ≠ pp ∧ b ≠ pq) → (∀ ps, o ≠ .tbl ps) → H b = some o
  there : ∀ b, fr.H0 b ≠ none → H b ≠ none
  nw : ∀ b o, F b = some o → fr.F0 b = some o ∨ fr.H0 b = none
  base : Same fr.F0 F
  slot : ∀ (i : Nat) (s : Sl), τ.sl[i]? = some (some s) → ∃ v, σ[i]? = some (some v) ∧ SlOk c fr H F v s
  dist : ∀ (i j : Nat) (a : Addr), i ≠ j → IsOwn τ i → IsOwn τ j → σ[i]? = some (some (.ref a)) → σ[j]? = some (some (.ref a)) → False
  pool : PoolOk fr H F τ.pl
  len : τ.sl.length ≤ σ.length
  ntb : NoTbl F ∧ NoTbl fr.H0
/-- what a value is that an expression gave -/
def EvOk (c : Cf) (fr : Fr) (σ : L2.St) (τ : N4.St) (H F : Hp) (v : V) : Ev → Prop
  | .val d => Dt c.K F v d
  | .slot i => σ[i]? = some (some v)
  | .fresh xs => ∃ a vs, v = .ref a ∧ H a = some (.lst vs) ∧ DtAll c.K F vs xs ∧ F a = none ∧ fr.H0 a = none ∧ ∀ i : Nat, IsOwn τ i → σ[i]? ≠ some (some (.ref a))
  | .pool => ∃ pp pq, fr.pa = some (pp, pq) ∧ v = .ref pp
  | .obj b => ∃ a o, v = .ref a ∧ H a = some o ∧ ObOk c.K F b o ∧ F a = none ∧ fr.H0 a = none ∧ ∀ i : Nat, IsOwn τ i → σ[i]? ≠ some (some (.ref a))
  | .junk => True

section
variable {c : Cf} {fr : Fr} {τ : N4.St} {σ : L2.St} {H F : Hp}
theorem Sat.own (S : Sat c fr τ σ H F) {i : Nat} {xs : List D} (h : τ.sl[i]? = some (some (.own xs))) : ∃ a vs, σ[i]? = some (some (.ref a)) ∧ H a = some (.lst vs) ∧ DtAll c.K F vs xs ∧ F a = none ∧ fr.H0 a = none := by
  obtain ⟨v, e, a, vs, rfl, h1, h2, h3, h4⟩ := S.slot i _ h
  exact ⟨a, vs, e, h1, h2, h3, h4⟩
theorem Sat.ob (S : Sat c fr τ σ H F) {i : Nat} {b : Ob} (h : τ.sl[i]? = some (some (.obj b))) : ∃ a o, σ[i]? = some (some (.ref a)) ∧ H a = some o ∧ ObOk c.K F b o ∧ F a = none ∧ fr.H0 a = none := by
  obtain ⟨v, e, a, o, rfl, h1, h2, h3, h4⟩ := S.slot i _ h
  exact ⟨a, o, e, h1, h2, h3, h4⟩
/-- an object of one's own, a list or another one -/
theorem Sat.own1 (S : Sat c fr τ σ H F) {i : Nat} (h : IsOwn τ i) : ∃ a o, σ[i]? = some (some (.ref a)) ∧ H a = some o ∧ F a = none ∧ fr.H0 a = none := by
  obtain ⟨s, e, hs⟩ := h
  cases s with
  | own xs => obtain ⟨a, vs, e1, e2, _, e4, e5⟩ := S.own e; exact ⟨a, _, e1, e2, e4, e5⟩
  | obj b => obtain ⟨a, o, e1, e2, _, e4, e5⟩ := S.ob e; exact ⟨a, _, e1, e2, e4, e5⟩
  | _ => cases hs
theorem Sat.apart (S : Sat c fr τ σ H F) {a : Addr} (h : fr.H0 a = none) : ∀ pp pq, fr.pa = some (pp, pq) → a ≠ pp ∧ a ≠ pq := fun pp pq e => by
  have p := S.pool
  cases hp : τ.pl with
  | none =>
    rw [hp] at p
    have p : fr.pa = none := p
    rw [p] at e
    cases e
  | some pl =>
    obtain ⟨x, y, l⟩ := pl
    rw [hp] at p
    obtain ⟨p1, p2, q, _, _, _, _, _, n1, n2⟩ := p
    rw [q] at e
    cases e
    exact ⟨fun z => n1 (z ▸ h), fun z => n2 (z ▸ h)⟩
theorem look_vw (S : Sat c fr τ σ H F) {v : V} {e : Ev} {d : D} (r : EvOk c fr σ τ H F v e) (h : look τ e = some d) : Vw c.K F H v d := by
  cases e with
  | val d' =>
    cases h
    exact Dt.vw S.sub r
  | slot i =>
    cases hs : τ.sl[i]? with
    | none =>
      simp only [look, hs] at h
      cases h
    | some o =>
      cases o with
      | none =>
        simp only [look, hs] at h
        cases h
      | some s =>
        cases s with
        | own xs =>
          simp only [look, hs] at h
          cases h
          obtain ⟨a, vs, e1, e2, e3, _⟩ := S.own hs
          have r' : σ[i]? = some (some v) := r
          rw [e1] at r'
          cases r'
          exact ⟨a, vs, rfl, e2, e3⟩
        | val _ =>
          simp only [look, hs] at h
          cases h
        | pool =>
          simp only [look, hs] at h
          cases h
        | raw =>
          simp only [look, hs] at h
          cases h
        | obj b =>
          simp only [look, hs] at h
          cases h
        | ro kvs =>
          simp only [look, hs] at h
          cases h
        | exc x =>
          simp only [look, hs] at h
          cases h
  | fresh xs =>
    cases h
    obtain ⟨a, vs, rfl, h1, h2, _⟩ := r
    exact ⟨a, vs, rfl, h1, h2⟩
  | pool => cases h
  | obj b => cases h
  | junk => cases h

/-- a slot's content by its place -/
theorem setSl_self {i : Nat} {x : Option Sl} (h : i < τ.sl.length) : (setSl τ i x).sl[i]? = some x := List.getElem?_set_self h
theorem setSl_ne {i j : Nat} {x : Option Sl} (h : i ≠ j) : (setSl τ i x).sl[j]? = τ.sl[j]? := List.getElem?_set_ne h
theorem slot_lt {i : Nat} {s : Option Sl} (h : τ.sl[i]? = some s) : i < τ.sl.length := (List.getElem?_eq_some_iff.mp h).1

/-- a list becomes data: where it stands alone -/
theorem Sat.frz (S : Sat c fr τ σ H F) {a : Addr} {vs : List V} {xs : List D} (h1 : H a = some (.lst vs)) (h2 : DtAll c.K F vs xs) (h3 : F a = none) (h4 : fr.H0 a = none) (h5 : ∀ i : Nat, IsOwn τ i → σ[i]? ≠ some (some (.ref a))) :
    Same F (upd F a (.lst vs)) ∧ Sat c fr τ σ H (upd F a (.lst vs)) ∧ Dt c.K (upd F a (.lst vs)) (.ref a) (.list xs) := by
  have g : Same F (upd F a (.lst vs)) := fun b o e => by rw [upd_ne (ne_of_none e h3)]; exact e
  refine ⟨g, ⟨fun b o e => ?_, S.tabs, S.keep, S.there, fun b o e => ?_, fun b o e => g b o (S.base b o e), fun i s e => ?_, S.dist, ?_, S.len, ⟨S.ntb.1.upd (fun ps z => nomatch z), S.ntb.2⟩⟩, .lst upd_same (Dt.growAll g _ _ h2)⟩
  · by_cases hb : b = a
    · subst hb
      rw [upd_same] at e
      cases e
      exact h1
    · rw [upd_ne hb] at e
      exact S.sub b o e
  · by_cases hb : b = a
    · subst hb
      exact .inr h4
    · rw [upd_ne hb] at e
      exact S.nw b o e
  · obtain ⟨v, e1, e2⟩ := S.slot i s e
    refine ⟨v, e1, ?_⟩
    cases s with
    | val d => exact Dt.grow g _ _ e2
    | own ys =>
      obtain ⟨b, ws, rfl, q1, q2, q3, q4⟩ := e2
      refine ⟨b, ws, rfl, q1, Dt.growAll g _ _ q2, ?_, q4⟩
      rw [upd_ne (fun z : b = a => h5 i (.lst e) (by rw [← z]; exact e1))]
      exact q3
    | obj ob =>
      obtain ⟨b, o, rfl, q1, q2, q3, q4⟩ := e2
      refine ⟨b, o, rfl, q1, q2.grow g, ?_, q4⟩
      rw [upd_ne (fun z : b = a => h5 i (.ob e) (by rw [← z]; exact e1))]
      exact q3
    | pool => exact e2
    | raw => exact ⟨e2.1, e2.2.1.trans g, e2.2.2⟩
    | exc x =>
      obtain ⟨dd, y, k1, k2, k3, k4⟩ := e2
      exact ⟨dd, y, k1, k2, k3, Dt.grow g _ _ k4⟩
    | ro kvs =>
      obtain ⟨b, ob, ks, k1, k2, k3, k4⟩ := e2
      exact ⟨b, ob, ks, k1, k2, k3, k4.grow g⟩
  · have p := S.pool
    have ap := S.apart h4
    cases hp : τ.pl with
    | none =>
      rw [hp] at p
      exact p
    | some pl =>
      obtain ⟨x, y, l⟩ := pl
      rw [hp] at p
      obtain ⟨p1, p2, q, q1, q2, q3, q4, q5, q6, q7⟩ := p
      obtain ⟨n1, n2⟩ := ap _ _ q
      exact ⟨p1, p2, q, q1, q2, q3, by rw [upd_ne (Ne.symm n1)]; exact q4, by rw [upd_ne (Ne.symm n2)]; exact q5, q6, q7⟩
/-- what is known of a slot is changed, the machine's slots stay -/
theorem Sat.slots (S : Sat c fr τ σ H F) {i : Nat} {s : Option Sl} (hv : ∀ x, s = some x → ∃ v, σ[i]? = some (some v) ∧ SlOk c fr H F v x) (ho : ∀ x, s = some x → x.isOwn = false) : Sat c fr (setSl τ i s) σ H F := by
  have own : ∀ j, IsOwn (setSl τ i s) j → IsOwn τ j := fun j ⟨x, e, hx⟩ => by
    by_cases hj : i = j
    · subst hj
      have hl : i < τ.sl.length := by
        have := slot_lt e
        simpa [setSl] using this
      rw [setSl_self hl] at e
      rw [ho x (Option.some.inj e)] at hx
      cases hx
    · rw [setSl_ne hj] at e
      exact ⟨x, e, hx⟩
  refine ⟨S.sub, S.tabs, S.keep, S.there, S.nw, S.base, fun j x e => ?_, fun j k a n o1 o2 => S.dist j k a n (own j o1) (own k o2), S.pool, by simpa [setSl] using S.len, S.ntb⟩
  by_cases hj : i = j
  · subst hj
    have hl : i < τ.sl.length := by
      have := slot_lt e
      simpa [setSl] using this
    rw [setSl_self hl] at e
    exact hv x (Option.some.inj e)
  · rw [setSl_ne hj] at e
    exact S.slot j x e
/-- a slot is stored -/
theorem Sat.set (S : Sat c fr τ σ H F) {i : Nat} {v : V} {s : Sl} (hl : i < τ.sl.length) (hv : SlOk c fr H F v s) (ho : s.isOwn = true → ∀ a, v = .ref a → ∀ j, j ≠ i → IsOwn τ j → σ[j]? ≠ some (some (.ref a))) : Sat c fr (setSl τ i (some s)) (σ.set i (some v)) H F := by
  have hs : i < σ.length := Nat.lt_of_lt_of_le hl S.len
  refine ⟨S.sub, S.tabs, S.keep, S.there, S.nw, S.base, fun j x e => ?_, fun j k a n o1 o2 e1 e2 => ?_, S.pool, by simpa [setSl] using S.len, S.ntb⟩
  · by_cases hj : i = j
    · subst hj
      rw [setSl_self hl] at e
      cases e
      exact ⟨v, List.getElem?_set_self hs, hv⟩
    · rw [setSl_ne hj] at e
      obtain ⟨w, e1, e2⟩ := S.slot j x e
      exact ⟨w, by rw [List.getElem?_set_ne hj]; exact e1, e2⟩
  · have old : ∀ m, i ≠ m → IsOwn (setSl τ i (some s)) m → IsOwn τ m := fun m hm ⟨x, q, hx⟩ => ⟨x, by rw [setSl_ne hm] at q; exact q, hx⟩
    by_cases hj : i = j
    · subst hj
      obtain ⟨x, q, hx⟩ := o1
      rw [setSl_self hl] at q
      cases q
      rw [List.getElem?_set_self hs] at e1
      cases e1
      rw [List.getElem?_set_ne n] at e2
      exact ho hx a rfl k (Ne.symm n) (old k n o2) e2
    · by_cases hk : i = k
      · subst hk
        obtain ⟨x, q, hx⟩ := o2
        rw [setSl_self hl] at q
        cases q
        rw [List.getElem?_set_self hs] at e2
        cases e2
        rw [List.getElem?_set_ne (Ne.symm n)] at e1
        exact ho hx a rfl j n (old j (Ne.symm n) o1) e1
      · rw [List.getElem?_set_ne hj] at e1
        rw [List.getElem?_set_ne hk] at e2
        exact S.dist j k a n (old j hj o1) (old k hk o2) e1 e2
/-- a new object -/
theorem Sat.new (S : Sat c fr τ σ H F) {p : Addr} {o : HO} (hp : H p = none) : Same H (upd H p o) ∧ Sat c fr τ σ (upd H p o) F := by
  have g : Same H (upd H p o) := fun b x e => by rw [upd_ne (ne_of_none e hp)]; exact e
  refine ⟨g, fun b x e => g b x (S.sub b x e), S.tabs.ext g, fun b x e a t => g b x (S.keep b x e a t), fun b e => ?_, S.nw, S.base, fun i s e => ?_, S.dist, ?_, S.len, S.ntb⟩
  · have := S.there b e
    cases q : H b with
    | none => exact absurd q this
    | some x =>
      rw [g b x q]
      exact fun z => nomatch z
  · obtain ⟨v, e1, e2⟩ := S.slot i s e
    refine ⟨v, e1, ?_⟩
    cases s with
    | val d => exact e2
    | own ys =>
      obtain ⟨b, ws, rfl, q1, q⟩ := e2
      exact ⟨b, ws, rfl, g _ _ q1, q⟩
    | obj ob =>
      obtain ⟨b, o, rfl, q1, q⟩ := e2
      exact ⟨b, o, rfl, g _ _ q1, q⟩
    | pool => exact e2
    | raw => exact e2
    | exc x => exact e2
    | ro kvs => exact e2
  · have pk := S.pool
    cases hp : τ.pl with
    | none =>
      rw [hp] at pk
      exact pk
    | some pl =>
      obtain ⟨x, y, l⟩ := pl
      rw [hp] at pk
      obtain ⟨p1, p2, q, q1, q2, q3, q4⟩ := pk
      exact ⟨p1, p2, q, q1, g _ _ q2, g _ _ q3, q4⟩
theorem Sat.h0 (S : Sat c fr τ σ H F) {p : Addr} (hp : H p = none) : fr.H0 p = none := by
  cases q : fr.H0 p with
  | none => rfl
  | some x => exact absurd hp (S.there p (by rw [q]; exact fun z => nomatch z))
theorem Sat.f0 (S : Sat c fr τ σ H F) {p : Addr} (hp : H p = none) : F p = none := S.sub.free hp
theorem Sat.nown (S : Sat c fr τ σ H F) {p : Addr} (hp : H p = none) : ∀ i : Nat, IsOwn τ i → σ[i]? ≠ some (some (.ref p)) := fun i o q => by
  obtain ⟨a, vs, e1, e2, _⟩ := S.own1 o
  rw [q] at e1
  cases e1
  rw [hp] at e2
  cases e2
/-- a new list -/
theorem Sat.newL (S : Sat c fr τ σ H F) {p : Addr} {vs : List V} {xs : List D} (hp : H p = none) (h : DtAll c.K F vs xs) :
    Sat c fr τ σ (upd H p (.lst vs)) F ∧ EvOk c fr σ τ (upd H p (.lst vs)) F (.ref p) (.fresh xs) :=
  ⟨(S.new hp).2, p, vs, rfl, upd_same, h, S.f0 hp, S.h0 hp, S.nown hp⟩
/-- a new tuple is data -/
theorem Sat.newT (S : Sat c fr τ σ H F) {p : Addr} {vs : List V} {xs : List D} (hp : H p = none) (h : DtAll c.K F vs xs) :
    Same F (upd F p (.tup vs)) ∧ Sat c fr τ σ (upd H p (.tup vs)) (upd F p (.tup vs)) ∧ Dt c.K (upd F p (.tup vs)) (.ref p) (.tuple xs) := by
  have fp := S.f0 hp
  have g : Same F (upd F p (.tup vs)) := fun b o e => by rw [upd_ne (ne_of_none e fp)]; exact e
  obtain ⟨gh, S1⟩ := S.new (o := .tup vs) hp
  refine ⟨g, ⟨fun b o e => ?_, S1.tabs, S1.keep, S1.there, fun b o e => ?_, fun b o e => g b o (S.base b o e), fun i s e => ?_, S.dist, ?_, S.len, ⟨S.ntb.1.upd (fun ps z => nomatch z), S.ntb.2⟩⟩, .tup (.inl (.inl upd_same)) (Dt.growAll g _ _ h)⟩
  · by_cases hb : b = p
    · subst hb
      rw [upd_same] at e ⊢
      exact e
    · rw [upd_ne hb] at e ⊢
      exact S.sub b o e
  · by_cases hb : b = p
    · subst hb
      exact .inr (S.h0 hp)
    · rw [upd_ne hb] at e
      exact S.nw b o e
  · obtain ⟨v, e1, e2⟩ := S1.slot i s e
    refine ⟨v, e1, ?_⟩
    cases s with
    | val d => exact Dt.grow g _ _ e2
    | own ys =>
      obtain ⟨b, ws, rfl, q1, q2, q3, q4⟩ := e2
      refine ⟨b, ws, rfl, q1, Dt.growAll g _ _ q2, ?_, q4⟩
      rw [upd_ne (fun z : b = p => S.nown hp i (.lst e) (by rw [← z]; exact e1))]
      exact q3
    | obj ob =>
      obtain ⟨b, o, rfl, q1, q2, q3, q4⟩ := e2
      refine ⟨b, o, rfl, q1, q2.grow g, ?_, q4⟩
      rw [upd_ne (fun z : b = p => S.nown hp i (.ob e) (by rw [← z]; exact e1))]
      exact q3
    | pool => exact e2
    | raw => exact ⟨e2.1, e2.2.1.trans g, e2.2.2⟩
    | exc x =>
      obtain ⟨dd, y, k1, k2, k3, k4⟩ := e2
      exact ⟨dd, y, k1, k2, k3, Dt.grow g _ _ k4⟩
    | ro kvs =>
      obtain ⟨b, ob, ks, k1, k2, k3, k4⟩ := e2
      exact ⟨b, ob, ks, k1, k2, k3, k4.grow g⟩
  · have pk := S1.pool
    have ap := S.apart (S.h0 hp)
    cases hpl : τ.pl with
    | none =>
      rw [hpl] at pk
      exact pk
    | some pl =>
      obtain ⟨x, y, l⟩ := pl
      rw [hpl] at pk
      obtain ⟨p1, p2, q, q1, q2, q3, q4, q5, q6, q7⟩ := pk
      obtain ⟨n1, n2⟩ := ap _ _ q
      exact ⟨p1, p2, q, q1, q2, q3, by rw [upd_ne (Ne.symm n1)]; exact q4, by rw [upd_ne (Ne.symm n2)]; exact q5, q6, q7⟩
/-- a list of one's own is changed -/
theorem Sat.mut (S : Sat c fr τ σ H F) {i : Nat} {a : Addr} {xs ys : List D} {ws : List V} (h : τ.sl[i]? = some (some (.own xs))) (ha : σ[i]? = some (some (.ref a))) (hw : DtAll c.K F ws ys) : Sat c fr (setSl τ i (some (.own ys))) σ (upd H a (.lst ws)) F := by
  obtain ⟨a', vs, e1, e2, e3, e4, e5⟩ := S.own h
  rw [ha] at e1
  cases e1
  have hl := slot_lt h
  have ap := S.apart e5
  have ne : ∀ b o, F b = some o → b ≠ a := fun b o e => ne_of_none e e4
  have own : ∀ j, IsOwn (setSl τ i (some (.own ys))) j → IsOwn τ j := fun j ⟨z, e, hz⟩ => by
    by_cases hj : i = j
    · subst hj
      exact .lst h
    · rw [setSl_ne hj] at e
      exact ⟨z, e, hz⟩
  refine ⟨fun b o e => by rw [upd_ne (ne b o e)]; exact S.sub b o e, fun p hp => ?_, fun b o e q t => ?_, fun b e => ?_, S.nw, S.base, fun j s e => ?_, fun j k b n o1 o2 => S.dist j k b n (own j o1) (own k o2), ?_, by simpa [setSl] using S.len, S.ntb⟩
  · obtain ⟨ps, h1, h2, h3⟩ := S.tabs p hp
    have np : p.1 ≠ a := fun z => by rw [z, e2] at h1; cases h1
    refine ⟨ps, by rw [upd_ne np]; exact h1, h2, fun pos cv hc => ?_⟩
    obtain ⟨cc, g1, g2⟩ := h3 pos cv hc
    have nc : cc ≠ a := fun z => by
      rw [z, e2] at g2
      unfold LamX.CodeO at g2
      cases g2
    exact ⟨cc, g1, by rw [upd_ne nc]; exact g2⟩
  · rw [upd_ne (fun z => by rw [z, e5] at e; cases e)]
    exact S.keep b o e q t
  · by_cases hb : b = a
    · rw [hb, upd_same]
      exact fun z => nomatch z
    · rw [upd_ne hb]
      exact S.there b e
  · by_cases hj : i = j
    · subst hj
      rw [setSl_self hl] at e
      cases e
      exact ⟨_, ha, a, ws, rfl, upd_same, hw, e4, e5⟩
    · rw [setSl_ne hj] at e
      obtain ⟨v, q1, q2⟩ := S.slot j s e
      refine ⟨v, q1, ?_⟩
      cases s with
      | val d => exact q2
      | own zs =>
        obtain ⟨b, us, rfl, g1, g⟩ := q2
        have nb : b ≠ a := fun z => S.dist i j a hj (.lst h) (.lst e) ha (z ▸ q1)
        exact ⟨b, us, rfl, by rw [upd_ne nb]; exact g1, g⟩
      | obj ob =>
        obtain ⟨b, o, rfl, g1, g⟩ := q2
        have nb : b ≠ a := fun z => S.dist i j a hj (.lst h) (.ob e) ha (z ▸ q1)
        exact ⟨b, o, rfl, by rw [upd_ne nb]; exact g1, g⟩
      | pool => exact q2
      | raw => exact q2
      | exc x => exact q2
      | ro kvs => exact q2
  · have pk := S.pool
    have pk' : PoolOk fr (upd H a (.lst ws)) F τ.pl := by
      cases hpl : τ.pl with
      | none =>
        rw [hpl] at pk
        exact pk
      | some pl =>
        obtain ⟨x, y, l⟩ := pl
        rw [hpl] at pk
        obtain ⟨p1, p2, q, q1, q2, q3, q4⟩ := pk
        obtain ⟨n1, n2⟩ := ap _ _ q
        exact ⟨p1, p2, q, q1, by rw [upd_ne (Ne.symm n1)]; exact q2, by rw [upd_ne (Ne.symm n2)]; exact q3, q4⟩
    exact pk'
/-- a value settles: a new list is data from now on -/
theorem Sat.settle (S : Sat c fr τ σ H F) {v : V} {e : Ev} (r : EvOk c fr σ τ H F v e) : ∃ F', Same F F' ∧ Sat c fr τ σ H F' ∧ EvOk c fr σ τ H F' v (settle e) := by
  cases e with
  | val d => exact ⟨F, Same.refl F, S, r⟩
  | slot i => exact ⟨F, Same.refl F, S, r⟩
  | fresh xs =>
    obtain ⟨a, vs, rfl, h1, h2, h3, h4, h5⟩ := r
    obtain ⟨g, S', d⟩ := S.frz h1 h2 h3 h4 h5
    exact ⟨_, g, S', d⟩
  | pool => exact ⟨F, Same.refl F, S, r⟩
  | obj b => exact ⟨F, Same.refl F, S, trivial⟩
  | junk => exact ⟨F, Same.refl F, S, trivial⟩
theorem look_settle (e : Ev) : look τ (settle e) = look τ e := by cases e <;> rfl
theorem freeze_ok (S : Sat c fr τ σ H F) {v : V} {e : Ev} {d : D} {τ' : N4.St} (r : EvOk c fr σ τ H F v e) (h : freeze e τ = .ok d τ') : ∃ F', Same F F' ∧ Sat c fr τ' σ H F' ∧ Dt c.K F' v d := by
  cases e with
  | val d' =>
    cases h
    exact ⟨F, Same.refl F, S, r⟩
  | slot i =>
    cases hs : τ.sl[i]? with
    | none => simp only [freeze, hs] at h; cases h
    | some o =>
      cases o with
      | none => simp only [freeze, hs] at h; cases h
      | some s =>
        cases s with
        | val _ => simp only [freeze, hs] at h; cases h
        | pool => simp only [freeze, hs] at h; cases h
        | raw => simp only [freeze, hs] at h; cases h
        | exc x => simp only [freeze, hs] at h; cases h
        | obj b => simp only [freeze, hs] at h; cases h
        | ro kvs => simp only [freeze, hs] at h; cases h
        | own xs =>
          simp only [freeze, hs] at h
          cases h
          obtain ⟨a, vs, e1, e2, e3, e4, e5⟩ := S.own hs
          have r' : σ[i]? = some (some v) := r
          rw [e1] at r'
          cases r'
          -- first forget the slot, then the list is alone
          have S0 : Sat c fr (setSl τ i none) σ H F := S.slots (fun x q => nomatch q) (fun x q => nomatch q)
          have h5 : ∀ j, IsOwn (setSl τ i none) j → σ[j]? ≠ some (some (.ref a)) := fun j ⟨y, q, hy⟩ z => by
            by_cases hj : i = j
            · subst hj
              rw [setSl_self (slot_lt hs)] at q
              cases q
            · rw [setSl_ne hj] at q
              exact S.dist i j a hj (.lst hs) ⟨y, q, hy⟩ e1 z
          obtain ⟨g, S', dd⟩ := S0.frz e2 e3 e4 e5 h5
          refine ⟨_, g, ?_, dd⟩
          have S'' := S'.slots (i := i) (s := some (.val (.list xs))) (fun x q => by cases q; exact ⟨_, e1, dd⟩) (fun x q => by cases q; rfl)
          have e : setSl (setSl τ i none) i (some (.val (.list xs))) = setSl τ i (some (.val (.list xs))) := by
            simp [setSl]
          rw [e] at S''
          exact S''
  | fresh xs =>
    cases h
    obtain ⟨a, vs, rfl, h1, h2, h3, h4, h5⟩ := r
    obtain ⟨g, S', d⟩ := S.frz h1 h2 h3 h4 h5
    exact ⟨_, g, S', d⟩
  | pool => cases h
  | obj b => cases h
  | junk => cases h
theorem freeze_no {e : Ev} {cl : String} {x : D} {τ' : N4.St} (h : freeze e τ = .err cl x τ') : False := by
  cases e with
  | val d' => cases h
  | slot i =>
    simp only [freeze] at h
    split at h <;> cases h
  | fresh xs => cases h
  | pool => cases h
  | obj b => cases h
  | junk => cases h
/-- a value stays what it is while another one is reckoned -/
theorem EvOk.later {H' F' : Hp} {τ' : N4.St} {v : V} {e : Ev} (r : EvOk c fr σ τ H F v (settle e)) (g : Same F F') : EvOk c fr σ τ' H' F' v (settle e) := by
  cases e with
  | val d => exact Dt.grow g _ _ r
  | slot i => exact r
  | fresh xs => exact Dt.grow g _ _ r
  | pool => exact r
  | obj b => exact trivial
  | junk => exact trivial
/-- an object of one's own is changed -/
theorem Sat.mutO (S : Sat c fr τ σ H F) {i : Nat} {a : Addr} {b b2 : Ob} {o2 : HO} (h : τ.sl[i]? = some (some (.obj b))) (ha : σ[i]? = some (some (.ref a))) (hw : ObOk c.K F b2 o2) : Sat c fr (setSl τ i (some (.obj b2))) σ (upd H a o2) F := by
  obtain ⟨a', o, e1, e2, e3, e4, e5⟩ := S.ob h
  rw [ha] at e1
  cases e1
  have hl := slot_lt h
  have ap := S.apart e5
  have ne : ∀ b o, F b = some o → b ≠ a := fun b o e => ne_of_none e e4
  have own : ∀ j, IsOwn (setSl τ i (some (.obj b2))) j → IsOwn τ j := fun j ⟨z, e, hz⟩ => by
    by_cases hj : i = j
    · subst hj
      exact .ob h
    · rw [setSl_ne hj] at e
      exact ⟨z, e, hz⟩
  refine ⟨fun b o e => by rw [upd_ne (ne b o e)]; exact S.sub b o e, fun p hp => ?_, fun b o e q t => ?_, fun b e => ?_, S.nw, S.base, fun j s e => ?_, fun j k b n o1 o2 => S.dist j k b n (own j o1) (own k o2), ?_, by simpa [setSl] using S.len, S.ntb⟩
  · obtain ⟨ps, h1, h2, h3⟩ := S.tabs p hp
    have np : p.1 ≠ a := fun z => by rw [z, e2] at h1; exact e3.notbl _ (Option.some.inj h1)
    refine ⟨ps, by rw [upd_ne np]; exact h1, h2, fun pos cv hc => ?_⟩
    obtain ⟨cc, g1, g2⟩ := h3 pos cv hc
    have nc : cc ≠ a := fun z => by
      rw [z, e2] at g2
      unfold LamX.CodeO at g2
      have g2 := Option.some.inj g2
      cases b with
      | dct kvs => obtain ⟨ks, q, _⟩ := e3; rw [q] at g2; cases g2
          | st xs => obtain ⟨n, q, _⟩ := e3; rw [q] at g2; cases g2
    exact ⟨cc, g1, by rw [upd_ne nc]; exact g2⟩
  · rw [upd_ne (fun z => by rw [z, e5] at e; cases e)]
    exact S.keep b o e q t
  · by_cases hb : b = a
    · rw [hb, upd_same]
      exact fun z => nomatch z
    · rw [upd_ne hb]
      exact S.there b e
  · by_cases hj : i = j
    · subst hj
      rw [setSl_self hl] at e
      cases e
      exact ⟨_, ha, a, o2, rfl, upd_same, hw, e4, e5⟩
    · rw [setSl_ne hj] at e
      obtain ⟨v, q1, q2⟩ := S.slot j s e
      refine ⟨v, q1, ?_⟩
      cases s with
      | val d => exact q2
      | own zs =>
        obtain ⟨b, us, rfl, g1, g⟩ := q2
        have nb : b ≠ a := fun z => S.dist i j a hj (.ob h) (.lst e) ha (z ▸ q1)
        exact ⟨b, us, rfl, by rw [upd_ne nb]; exact g1, g⟩
      | obj ob =>
        obtain ⟨b, o, rfl, g1, g⟩ := q2
        have nb : b ≠ a := fun z => S.dist i j a hj (.ob h) (.ob e) ha (z ▸ q1)
        exact ⟨b, o, rfl, by rw [upd_ne nb]; exact g1, g⟩
      | pool => exact q2
      | raw => exact q2
      | exc x => exact q2
      | ro kvs => exact q2
  · have pk := S.pool
    have pk' : PoolOk fr (upd H a o2) F τ.pl := by
      cases hpl : τ.pl with
      | none =>
        rw [hpl] at pk
        exact pk
      | some pl =>
        obtain ⟨x, y, l⟩ := pl
        rw [hpl] at pk
        obtain ⟨p1, p2, q, q1, q2, q3, q4⟩ := pk
        obtain ⟨n1, n2⟩ := ap _ _ q
        exact ⟨p1, p2, q, q1, by rw [upd_ne (Ne.symm n1)]; exact q2, by rw [upd_ne (Ne.symm n2)]; exact q3, q4⟩
    exact pk'
end
end N4
end
section
set_option Elab.async false
set_option linter.all false
set_option autoImplicit false
set_option maxRecDepth 100000
set_option maxHeartbeats 1000000
/-! Readings: what a reckoning of the plain meaning is worth for the model. -/
namespace N4
open PySem PySem.Spec PyProof.Rows L2

/-- what is wanted where an error leaves -/
def ErrW (c : Cf) (W : WX) (fr : Fr) (F : Hp) (σ : L2.St) (cl : String) (x : D) (τ : N4.St) : Prop :=
  ∀ dx H F' y, Same F F' → Sat c fr τ σ H F' → H dx = some (.xd [(whatS, y)]) → Dt c.K F' y x → W (.ref (c.cls cl)) (some dx) σ H
def PostM {α β : Type} (c : Cf) (W : WX) (R : Fr → L2.St → N4.St → Hp → Hp → β → α → Prop) (fr : Fr) (F : Hp) (σ : L2.St) (Q : β → Hp → Prop) : Out α → Prop
  | .ok a τ => ∀ v H F', Same F F' → Sat c fr τ σ H F' → R fr σ τ H F' v a → Q v H
  | .err cl x τ => ∀ σ, ErrW c W fr F σ cl x τ
  | .bad => False
def rdM {α β : Type} (c : Cf) (W : WX) (R : Fr → L2.St → N4.St → Hp → Hp → β → α → Prop) (m : M α) : L2.St → Hp → (β → Hp → Prop) → Prop := fun σ H Q =>
  ∃ fr τ F, Sat c fr τ σ H F ∧ PostM c W R fr F σ Q (m τ)
abbrev rdE (c : Cf) (W : WX) (m : M Ev) : TE := rdM c W (EvOk c) m
def EqB : Fr → L2.St → N4.St → Hp → Hp → Bool → Bool → Prop := fun _ _ _ _ _ b k => b = k
abbrev rdT (c : Cf) (W : WX) (m : M Bool) : TT := rdM c W EqB m
def DsOk (c : Cf) : Fr → L2.St → N4.St → Hp → Hp → List V → List D → Prop := fun _ _ _ _ F vs ds => DtAll c.K F vs ds
abbrev rdD (c : Cf) (W : WX) (m : M (List D)) : TA := rdM c W (DsOk c) m
inductive EsOk (c : Cf) (fr : Fr) (σ : L2.St) (τ : N4.St) (H F : Hp) : List V → List Ev → Prop
  | nil : EsOk c fr σ τ H F [] []
  | cons {v : V} {vs : List V} {e : Ev} {es : List Ev} : settle e = e → EvOk c fr σ τ H F v e → EsOk c fr σ τ H F vs es → EsOk c fr σ τ H F (v :: vs) (e :: es)
abbrev rdV (c : Cf) (W : WX) (m : M (List Ev)) : TA := rdM c W (EsOk c) m
def ArOk (c : Cf) (fr : Fr) (F : Hp) (v : V) : Sl → Prop
  | .val d => Dt c.K F v d
  | .own _ => False
  | .pool => ∃ pp pq, fr.pa = some (pp, pq) ∧ v = .ref pp
  | .raw => False
  | .exc _ => False
  | .obj _ => False
  | .ro _ => False
inductive AsOk (c : Cf) (fr : Fr) (F : Hp) : List V → List Sl → Prop
  | nil : AsOk c fr F [] []
  | cons {v : V} {vs : List V} {s : Sl} {ss : List Sl} : ArOk c fr F v s → AsOk c fr F vs ss → AsOk c fr F (v :: vs) (s :: ss)
def AsR (c : Cf) : Fr → L2.St → N4.St → Hp → Hp → List V → List Sl → Prop := fun fr _ _ _ F vs ss => AsOk c fr F vs ss
abbrev rdG (c : Cf) (W : WX) (m : M (List Sl)) : TA := rdM c W (AsR c) m

section
variable {α β γ δ : Type} {c : Cf} {W : WX} {R : Fr → L2.St → N4.St → Hp → Hp → β → α → Prop} {R' : Fr → L2.St → N4.St → Hp → Hp → δ → γ → Prop} {fr : Fr} {τ : N4.St} {σ : L2.St} {H F F1 : Hp}
theorem ErrW.grow {cl : String} {x : D} (g : Same F F1) (h : ErrW c W fr F σ cl x τ) : ErrW c W fr F1 σ cl x τ := fun dx H F' y s S e d => h dx H F' y (g.trans s) S e d
theorem PostM.grow {Q : β → Hp → Prop} {o : Out α} (g : Same F F1) (h : PostM c W R fr F σ Q o) : PostM c W R fr F1 σ Q o := by
  cases o with
  | ok a t => exact fun v H F' s S r => h v H F' (g.trans s) S r
  | err cl x t => exact fun σ => ErrW.grow g (h σ)
  | bad => exact h
theorem rdM.mono {m : M α} {Q Q' : β → Hp → Prop} (h : rdM c W R m σ H Q) (k : ∀ v H, Q v H → Q' v H) : rdM c W R m σ H Q' := by
  obtain ⟨fr, τ, F, S, p⟩ := h
  refine ⟨fr, τ, F, S, ?_⟩
  cases e : m τ with
  | ok a t =>
    rw [e] at p
    exact fun v H F' s S r => k v H (p v H F' s S r)
  | err cl x t =>
    rw [e] at p
    exact p
  | bad =>
    rw [e] at p
    exact p
/-- one reckoning, then another one -/
theorem post_bind {m : M α} {k : α → M γ} {Q : δ → Hp → Prop} (S : Sat c fr τ σ H F) (h : PostM c W R' fr F σ Q (mBind m k τ)) :
    rdM c W R m σ H (fun (v : β) H1 => ∃ a τ1 F1, Same F F1 ∧ Sat c fr τ1 σ H1 F1 ∧ R fr σ τ1 H1 F1 v a ∧ PostM c W R' fr F1 σ Q (k a τ1)) := by
  refine ⟨fr, τ, F, S, ?_⟩
  cases e : m τ with
  | ok a t =>
    simp only [mBind, e] at h
    exact fun v H F' s S r => ⟨a, t, F', s, S, r, h.grow s⟩
  | err cl x t =>
    simp only [mBind, e] at h
    exact h
  | bad =>
    simp only [mBind, e] at h
    exact h
theorem post_ret {a : α} {Q : β → Hp → Prop} (S : Sat c fr τ σ H F) (h : PostM c W R fr F σ Q (mRet a τ)) {v : β} (r : R fr σ τ H F v a) : Q v H := h v H F (Same.refl F) S r
end

section
variable {X : Cx}
theorem _root_.L2.PE.impN {e : Expr} {t u : TE} (h : PE X e t) (k : ∀ σ H Q, u σ H Q → t σ H Q) : PE X e u := ⟨fun pins s σ H Q I q => h.run pins s σ H Q I (k σ H Q q)⟩
theorem _root_.L2.PT.impN {e : Expr} {t u : TT} (h : PT X e t) (k : ∀ σ H Q, u σ H Q → t σ H Q) : PT X e u := ⟨fun pins s σ H Q I q => h.run pins s σ H Q I (k σ H Q q)⟩
theorem _root_.L2.PW.impN {e : Expr} {t u : TT} (h : PW X e t) (k : ∀ σ H Q, u σ H Q → t σ H Q) : PW X e u := ⟨fun wh pins s σ H Q I q => h.run wh pins s σ H Q I (k σ H Q q)⟩
theorem _root_.L2.PA.impN {es : List Expr} {t u : TA} (h : PA X es t) (k : ∀ σ H Q, u σ H Q → t σ H Q) : PA X es u := ⟨fun pos pins s σ H Q I q => h.run pos pins s σ H Q I (k σ H Q q)⟩
theorem _root_.L2.PS.impN {st : Stmt} {t u : TS} (h : PS X st t) (k : ∀ D σ H, u D σ H → t D σ H) : PS X st u := ⟨fun pins s σ H D I q => h.run pins s σ H D I (k D σ H q)⟩
theorem _root_.L2.PSs.impN {st : List Stmt} {t u : TS} (h : PSs X st t) (k : ∀ D σ H, u D σ H → t D σ H) : PSs X st u := ⟨fun pins s σ H D I q => h.run pins s σ H D I (k D σ H q)⟩
end

/-! ### operators, builtins, methods by values -/
def OpOk (c : Cf) (r : R2) (f : D → D → Option Ev) : Prop := ∀ (fr : Fr) (τ : N4.St) (σ : L2.St) (H F : Hp) (x y : V) (d e : D) (res : Ev) (Q : VK), Sat c fr τ σ H F → Vw c.K F H x d → Vw c.K F H y e → f d e = some res →
  (∀ v H' F', Same F F' → Sat c fr τ σ H' F' → EvOk c fr σ τ H' F' v res → Q v H') → r x y H Q
def UnOk (c : Cf) (r : V → Hp → VK → Prop) (f : D → Option Ev) : Prop := ∀ (fr : Fr) (τ : N4.St) (σ : L2.St) (H F : Hp) (x : V) (d : D) (res : Ev) (Q : VK), Sat c fr τ σ H F → Vw c.K F H x d → f d = some res →
  (∀ v H' F', Same F F' → Sat c fr τ σ H' F' → EvOk c fr σ τ H' F' v res → Q v H') → r x H Q
inductive Vws (K : PySem.W.Frag) (F H : Hp) : List V → List D → Prop
  | nil : Vws K F H [] []
  | cons {v : V} {vs : List V} {d : D} {ds : List D} : Vw K F H v d → Vws K F H vs ds → Vws K F H (v :: vs) (d :: ds)
def BuOk (c : Cf) (r : List V → Hp → VK → Prop) (f : List D → Option Ev) : Prop := ∀ (fr : Fr) (τ : N4.St) (σ : L2.St) (H F : Hp) (xs : List V) (ds : List D) (res : Ev) (Q : VK), Sat c fr τ σ H F → Vws c.K F H xs ds → f ds = some res →
  (∀ v H' F', Same F F' → Sat c fr τ σ H' F' → EvOk c fr σ τ H' F' v res → Q v H') → r xs H Q
def MtOk (c : Cf) (r : V → List V → Hp → VK → Prop) (f : D → List D → Option Ev) : Prop := ∀ (fr : Fr) (τ : N4.St) (σ : L2.St) (H F : Hp) (x : V) (xs : List V) (d : D) (ds : List D) (res : Ev) (Q : VK), Sat c fr τ σ H F → Vw c.K F H x d → Vws c.K F H xs ds → f d ds = some res →
  (∀ v H' F', Same F F' → Sat c fr τ σ H' F' → EvOk c fr σ τ H' F' v res → Q v H') → r x xs H Q

section
variable {X : Cx} {c : Cf} {W : WX} {a b e : Expr} {es : List Expr} {pos p : Pos} {ma mb mc : M Ev} {ms : List (M Ev)}
/-! ### expressions -/
theorem x_c {v : V} {d : D} (h : PE X e (tC v)) (hd : ∀ F, Dt c.K F v d) : PE X e (rdE c W (eC d)) :=
  h.impN fun σ H Q ⟨fr, τ, F, S, q⟩ => q v H F (Same.refl F) S (hd F)
theorem x_int {i : Int} {j : Nat} : PE X (.Constant (.int i) j pos) (rdE c W (eC (.int i))) := x_c pe_int fun _ => .int i
theorem x_bl {i : Bool} {j : Nat} : PE X (.Constant (.bool i) j pos) (rdE c W (eC (.bool i))) := x_c pe_bl fun _ => .bl i
theorem x_str {x : PySem.Str} {j : Nat} : PE X (.Constant (.str x) j pos) (rdE c W (eC (.str x))) := x_c pe_str fun _ => .str x
theorem x_non {j : Nat} : PE X (.Constant .none j pos) (rdE c W (eC .none)) := x_c pe_non fun _ => .non
theorem x_gi {x : PySem.Str} {i : Int} {t : Tok} (hm : X.mg x = some (.int i t)) (hg : Gl X x := by rfl) (hd : (x == ("__debug__" : PySem.Str)) = false := by decide) : PE X (.Name x pos) (rdE c W (eC (.int i))) :=
  x_c (v := .int i) (pe_glob hg hm ⟨t, rfl⟩ hd) fun _ => .int i
theorem x_v (i : Nat) {x : PySem.Str} (hN : X.N[i]? = some x := by rfl) (hv : Vis X.env.scope x := by first | exact Or.inl rfl | exact Or.inr (Or.inl rfl) | exact Or.inr (Or.inr rfl)) (hd : (x == ("__debug__" : PySem.Str)) = false := by decide)
    (hcd : (x == ("__classdict__" : PySem.Str)) = false := by decide) : PE X (.Name x pos) (rdE c W (eV i)) :=
  (pe_var hN hv hd hcd).impN fun σ H Q ⟨fr, τ, F, S, q⟩ => by
    cases hs : τ.sl[i]? with
    | none => simp only [eV, hs] at q; exact q.elim
    | some o =>
      cases o with
      | none => simp only [eV, hs] at q; exact q.elim
      | some s =>
        obtain ⟨v, e1, e2⟩ := S.slot i s hs
        refine ⟨v, e1, ?_⟩
        cases s with
        | val d =>
          simp only [eV, hs] at q
          exact q v H F (Same.refl F) S e2
        | own xs =>
          simp only [eV, hs] at q
          exact q v H F (Same.refl F) S e1
        | pool =>
          simp only [eV, hs] at q
          exact q v H F (Same.refl F) S e2
        | raw => simp only [eV, hs] at q; exact q.elim
        | exc x => simp only [eV, hs] at q; exact q.elim
        | obj b =>
          simp only [eV, hs] at q
          exact q v H F (Same.refl F) S e1
        | ro kvs =>
          simp only [eV, hs] at q
          exact q v H F (Same.refl F) S e1
/-- both sides of an operator -/
theorem rd_two {f : D → D → Option Ev} {r : R2} (hk : OpOk c r f) {σ : L2.St} {H : Hp} {Q : VK} (h : rdE c W (eOp f ma mb) σ H Q) : rdE c W ma σ H fun x H1 => rdE c W mb σ H1 fun y H2 => r x y H2 Q := by
  obtain ⟨fr, τ, F, S, q⟩ := h
  refine (post_bind (R := EvOk c) S q).mono fun v H1 ⟨e1, τ1, F1, g1, S1, r1, q1⟩ => ?_
  obtain ⟨F2, g2, S2, r2⟩ := S1.settle r1
  refine (post_bind (R := EvOk c) S2 (q1.grow g2)).mono fun w H3 ⟨e3, τ3, F3, g3, S3, r3, q3⟩ => ?_
  have rv : EvOk c fr σ τ3 H3 F3 v (settle e1) := EvOk.later (by exact r2) g3
  cases hd : look τ3 e1 with
  | none => simp only [hd] at q3; exact q3.elim
  | some d =>
    cases he : look τ3 e3 with
    | none => simp only [hd, he] at q3; exact q3.elim
    | some d' =>
      simp only [hd, he] at q3
      cases hf : f d d' with
      | none => simp only [hf] at q3; exact q3.elim
      | some res =>
        simp only [hf] at q3
        exact hk fr τ3 σ H3 F3 v w d d' res Q S3 (look_vw S3 rv (by rw [look_settle]; exact hd)) (look_vw S3 r3 he) hf fun v' H' F' s S' r' => q3 v' H' F' s S' r'
theorem x_op {op : Operator} {f : D → D → Option Ev} {r : R2} (ho : OpR X (binaryOp op) r) (hk : OpOk c r f) (ha : PE X a (rdE c W ma)) (hb : PE X b (rdE c W mb)) : PE X (.BinOp a op b pos) (rdE c W (eOp f ma mb)) :=
  (pe_op ho ha hb).impN fun _ _ _ h => rd_two hk h
theorem x_cmp {op : CmpOp} {f : D → D → Option Ev} {r : R2} (ho : OpR X (compareOp op) r) (hk : OpOk c r f) (ha : PE X a (rdE c W ma)) (hb : PE X b (rdE c W mb)) (hm : behindInMarks op b = false := by first | exact nomark _ | rfl | with_unfolding_all rfl) : PE X (.Compare a [op] [b] pos) (rdE c W (eOp f ma mb)) :=
  (pe_cmpR ho ha hb hm).impN fun _ _ _ h => rd_two hk h
theorem x_ix {f : D → D → Option Ev} {r : R2} (ho : IxR X r) (hk : OpOk c r f) (ha : PE X a (rdE c W ma)) (hb : PE X b (rdE c W mb)) (hs : PlainIx b := by exact fun _ _ => rfl) : PE X (.Subscript a b pos) (rdE c W (eOp f ma mb)) :=
  (pe_ix ho ha hb hs).impN fun _ _ _ h => rd_two hk h
theorem rd_one {f : D → Option Ev} {r : V → Hp → VK → Prop} (hk : UnOk c r f) {σ : L2.St} {H : Hp} {Q : VK} (h : rdE c W (eUn f ma) σ H Q) : rdE c W ma σ H fun x H1 => r x H1 Q := by
  obtain ⟨fr, τ, F, S, q⟩ := h
  refine (post_bind (R := EvOk c) S q).mono fun v H1 ⟨e1, τ1, F1, g1, S1, r1, q1⟩ => ?_
  cases hd : look τ1 e1 with
  | none => simp only [hd] at q1; exact q1.elim
  | some d =>
    simp only [hd] at q1
    cases hf : f d with
    | none => simp only [hf] at q1; exact q1.elim
    | some res =>
      simp only [hf] at q1
      exact hk fr τ1 σ H1 F1 v d res Q S1 (look_vw S1 r1 hd) hf fun v' H' F' s S' r' => q1 v' H' F' s S' r'
theorem x_un {op : UnaryOp} {f : D → Option Ev} {r : V → Hp → VK → Prop} (ho : UnR X (unaryOp op) r) (hk : UnOk c r f) (ha : PE X a (rdE c W ma)) : PE X (.UnaryOp op a pos) (rdE c W (eUn f ma)) :=
  (pe_un ho ha).impN fun _ _ _ h => rd_one hk h
/-! ### rows of expressions -/
theorem a_nil : PA X [] (rdV c W (evs [])) := pa_nil.impN fun σ H Q ⟨fr, τ, F, S, q⟩ => post_ret S q .nil
theorem EsOk.later {fr : Fr} {σ : L2.St} {τ τ' : N4.St} {H H' F F' : Hp} {vs : List V} {xs : List Ev} (r : EsOk c fr σ τ H F vs xs) (g : Same F F') : EsOk c fr σ τ' H' F' vs xs := by
  induction r with
  | nil => exact .nil
  | cons hs h _ ih => exact .cons hs (by rw [← hs] at h ⊢; exact EvOk.later h g) ih
theorem settle2 (e : Ev) : settle (settle e) = settle e := by cases e <;> rfl
theorem a_cons (he : PE X e (rdE c W ma)) (hr : PA X es (rdV c W (evs ms))) (hs : starEach (e :: es) X.env = (false, eval e X.env) :: starEach es X.env := by rfl) : PA X (e :: es) (rdV c W (evs (ma :: ms))) :=
  (pa_cons he hr hs).impN fun σ H Q ⟨fr, τ, F, S, q⟩ => by
    refine (post_bind (R := EvOk c) S q).mono fun v H1 ⟨e1, τ1, F1, g1, S1, r1, q1⟩ => ?_
    obtain ⟨F2, g2, S2, r2⟩ := S1.settle r1
    refine (post_bind (R := EsOk c) S2 (q1.grow g2)).mono fun vs H3 ⟨xs, τ3, F3, g3, S3, r3, q3⟩ => ?_
    exact post_ret S3 q3 (.cons (settle2 _) (EvOk.later r2 g3) r3)
theorem d_nil : PA X [] (rdD c W (frzs [])) := pa_nil.impN fun σ H Q ⟨fr, τ, F, S, q⟩ => post_ret S q DtAll.nil
theorem post_freeze {β γ : Type} {R : Fr → L2.St → N4.St → Hp → Hp → β → γ → Prop} {fr : Fr} {σ : L2.St} {τ : N4.St} {H F : Hp} {v : V} {x : Ev} {k : D → M γ} {Q : β → Hp → Prop} (S : Sat c fr τ σ H F) (r : EvOk c fr σ τ H F v x) (q : PostM c W R fr F σ Q (mBind (freeze x) k τ)) :
    ∃ d τ1 F1, Same F F1 ∧ Sat c fr τ1 σ H F1 ∧ Dt c.K F1 v d ∧ PostM c W R fr F1 σ Q (k d τ1) := by
  cases hf : freeze x τ with
  | ok d τ1 =>
    obtain ⟨F1, g1, S1, d1⟩ := freeze_ok S r hf
    simp only [mBind, hf] at q
    exact ⟨d, τ1, F1, g1, S1, d1, q.grow g1⟩
  | err cl y t => exact (freeze_no hf).elim
  | bad =>
    simp only [mBind, hf] at q
    exact q.elim
theorem d_cons (he : PE X e (rdE c W ma)) (hr : PA X es (rdD c W (frzs ms))) (hs : starEach (e :: es) X.env = (false, eval e X.env) :: starEach es X.env := by rfl) : PA X (e :: es) (rdD c W (frzs (ma :: ms))) :=
  (pa_cons he hr hs).impN fun σ H Q ⟨fr, τ, F, S, q⟩ => by
    refine (post_bind (R := EvOk c) S q).mono fun v H1 ⟨e1, τ1, F1, g1, S1, r1, q1⟩ => ?_
    obtain ⟨d, τ2, F2, g2, S2, r2, q2⟩ := post_freeze S1 r1 q1
    refine (post_bind (R := DsOk c) S2 q2).mono fun vs H3 ⟨xs, τ3, F3, g3, S3, r3, q3⟩ => ?_
    exact post_ret S3 q3 (DtAll.cons (Dt.grow g3 _ _ r2) r3)
theorem g_nil : PA X [] (rdG c W (args [])) := pa_nil.impN fun σ H Q ⟨fr, τ, F, S, q⟩ => post_ret S q AsOk.nil
theorem ArOk.grow {fr : Fr} {F F' : Hp} {v : V} {s : Sl} (g : Same F F') (h : ArOk c fr F v s) : ArOk c fr F' v s := by
  cases s with
  | val d => exact Dt.grow g _ _ h
  | own _ => exact h
  | pool => exact h
  | raw => exact h
  | exc x => exact h
  | obj b => exact h
  | ro kvs => exact h
theorem AsOk.grow {fr : Fr} {F F' : Hp} {vs : List V} {ss : List Sl} (g : Same F F') (h : AsOk c fr F vs ss) : AsOk c fr F' vs ss := by
  induction h with
  | nil => exact .nil
  | cons h _ ih => exact .cons (h.grow g) ih
theorem post_arg {β γ : Type} {R : Fr → L2.St → N4.St → Hp → Hp → β → γ → Prop} {fr : Fr} {σ : L2.St} {τ : N4.St} {H F : Hp} {v : V} {x : Ev} {k : Sl → M γ} {Q : β → Hp → Prop} (S : Sat c fr τ σ H F) (r : EvOk c fr σ τ H F v x) (q : PostM c W R fr F σ Q (mBind (argOf x) k τ)) :
    ∃ d τ1 F1, Same F F1 ∧ Sat c fr τ1 σ H F1 ∧ ArOk c fr F1 v d ∧ PostM c W R fr F1 σ Q (k d τ1) := by
  have data : argOf x = (mBind (freeze x) fun d => mRet (.val d)) → ∃ d τ1 F1, Same F F1 ∧ Sat c fr τ1 σ H F1 ∧ ArOk c fr F1 v d ∧ PostM c W R fr F1 σ Q (k d τ1) := fun e => by
    rw [e] at q
    have q' : PostM c W R fr F σ Q (mBind (freeze x) (fun d => k (.val d)) τ) := by
      cases hf : freeze x τ with
      | ok d t => simpa only [mBind, mRet, hf] using q
      | err _ _ _ => simpa only [mBind, mRet, hf] using q
      | bad => simpa only [mBind, mRet, hf] using q
    obtain ⟨d, τ1, F1, g1, S1, r1, q1⟩ := post_freeze S r q'
    exact ⟨.val d, τ1, F1, g1, S1, r1, q1⟩
  cases x with
  | val d => exact data rfl
  | slot i => exact data rfl
  | fresh xs => exact data rfl
  | pool => exact ⟨.pool, τ, F, Same.refl F, S, r, q⟩
  | obj b => exact data rfl
  | junk => exact data rfl
theorem g_cons {ks : List (M Ev)} (he : PE X e (rdE c W ma)) (hr : PA X es (rdG c W (args ks))) (hs : starEach (e :: es) X.env = (false, eval e X.env) :: starEach es X.env := by rfl) : PA X (e :: es) (rdG c W (args (ma :: ks))) :=
  (pa_cons he hr hs).impN fun σ H Q ⟨fr, τ, F, S, q⟩ => by
    refine (post_bind (R := EvOk c) S q).mono fun v H1 ⟨e1, τ1, F1, g1, S1, r1, q1⟩ => ?_
    obtain ⟨d, τ2, F2, g2, S2, r2, q2⟩ := post_arg S1 r1 q1
    refine (post_bind (R := AsR c) S2 q2).mono fun vs H3 ⟨xs, τ3, F3, g3, S3, r3, q3⟩ => ?_
    exact post_ret S3 q3 (AsOk.cons (r2.grow g3) r3)
theorem line_eq : lineN = sizeLine := by rw [sizeLine_eq]; rfl
theorem x_tup {k : Nat} (h : PA X es (rdD c W (frzs ms))) : PE X (.Tuple es k pos) (rdE c W (eTup ms)) :=
  (pe_tup h).impN fun σ H Q ⟨fr, τ, F, S, q⟩ => by
    refine (post_bind (R := DsOk c) S q).mono fun vs H1 ⟨ds, τ1, F1, g1, S1, r1, q1⟩ => ?_
    have hl := dtAll_length r1
    by_cases hz : ds.length ≤ lineN
    · rw [if_pos hz] at q1
      refine ⟨by rw [hl, ← line_eq]; exact hz, fun p hp => ?_⟩
      obtain ⟨g2, S2, d2⟩ := S1.newT hp r1
      exact q1 _ _ _ g2 S2 d2
    · rw [if_neg hz] at q1
      exact q1.elim
theorem x_lst (h : PA X es (rdD c W (frzs ms))) : PE X (.List es pos) (rdE c W (eLst ms)) :=
  (pe_lst h).impN fun σ H Q ⟨fr, τ, F, S, q⟩ => by
    refine (post_bind (R := DsOk c) S q).mono fun vs H1 ⟨ds, τ1, F1, g1, S1, r1, q1⟩ => ?_
    have hl := dtAll_length r1
    by_cases hz : ds.length ≤ lineN
    · rw [if_pos hz] at q1
      refine ⟨by rw [hl, ← line_eq]; exact hz, fun p hp => ?_⟩
      obtain ⟨S2, d2⟩ := S1.newL hp r1
      exact q1 _ _ _ (Same.refl F1) S2 d2
    · rw [if_neg hz] at q1
      exact q1.elim
theorem looks_vws {fr : Fr} {σ : L2.St} {τ : N4.St} {H F : Hp} (S : Sat c fr τ σ H F) : ∀ {vs : List V} {xs : List Ev} {ds : List D}, EsOk c fr σ τ H F vs xs → looks τ xs = some ds → Vws c.K F H vs ds
  | _, _, _, .nil, h => by cases h; exact .nil
  | _, _, ds, .cons (e := e) (es := es) _ h1 h2, h => by
    cases hd : look τ e with
    | none => simp only [looks, hd] at h; cases h
    | some d =>
      cases hs : looks τ es with
      | none => simp only [looks, hd, hs] at h; cases h
      | some rest =>
        simp only [looks, hd, hs] at h
        cases h
        exact .cons (look_vw S h1 hd) (looks_vws S h2 hs)
/-- a builtin's call -/
theorem rd_bu {f : List D → Option Ev} {r : List V → Hp → VK → Prop} (hk : BuOk c r f) {σ : L2.St} {H : Hp} {Q : VK} (h : rdE c W (eBu f ms) σ H Q) : rdV c W (evs ms) σ H fun vs H1 => r vs H1 Q := by
  obtain ⟨fr, τ, F, S, q⟩ := h
  refine (post_bind (R := EsOk c) S q).mono fun vs H1 ⟨xs, τ1, F1, g1, S1, r1, q1⟩ => ?_
  cases hd : looks τ1 xs with
  | none => simp only [hd] at q1; exact q1.elim
  | some ds =>
    simp only [hd] at q1
    cases hf : f ds with
    | none => simp only [hf] at q1; exact q1.elim
    | some res =>
      simp only [hf] at q1
      exact hk fr τ1 σ H1 F1 vs ds res Q S1 (looks_vws S1 r1 hd) hf fun v' H' F' s S' r' => q1 v' H' F' s S' r'
theorem x_bu {x : PySem.Str} {id : String} {f : List D → Option Ev} {r : List V → Hp → VK → Prop} (hc : CallR X (.builtin id) r) (hk : BuOk c r f) (hm : X.mg x = none) (hv : bootBuiltins x = some (.builtin id)) (ha : PA X (e :: es) (rdV c W (evs ms))) (hg : Gl X x := by rfl) (hn : x ≠ "__name__" := by decide)
    (hdb : (x == ("__debug__" : PySem.Str)) = false := by decide) (he : starEach (e :: es) X.env = (false, eval e X.env) :: starEach es X.env := by rfl) (hpl : (backTo pos (starEach es X.env)).any (·.1) = false := by rfl) : PE X (.Call (.Name x p) (e :: es) [] pos) (rdE c W (eBu f ms)) :=
  (pe_callB hc hg hm hv ha hn hdb he hpl).impN fun _ _ _ h => rd_bu hk h
theorem x_ty {x : PySem.Str} {T : String} {f : List D → Option Ev} {r : List V → Hp → VK → Prop} (hc : CallR X (.type T) r) (hk : BuOk c r f) (hm : X.mg x = none) (hv : bootBuiltins x = some (.type T)) (ha : PA X (e :: es) (rdV c W (evs ms))) (hg : Gl X x := by rfl) (hn : x ≠ "__name__" := by decide)
    (hdb : (x == ("__debug__" : PySem.Str)) = false := by decide) (he : starEach (e :: es) X.env = (false, eval e X.env) :: starEach es X.env := by rfl) (hpl : (backTo pos (starEach es X.env)).any (·.1) = false := by rfl) : PE X (.Call (.Name x p) (e :: es) [] pos) (rdE c W (eBu f ms)) :=
  (pe_callTy hc hg hm hv ha hn hdb he hpl).impN fun _ _ _ h => rd_bu hk h
end
end N4
end
section
set_option Elab.async false
set_option linter.all false
set_option autoImplicit false
set_option maxRecDepth 100000
set_option maxHeartbeats 1000000
/-! Tests, calls, defs, statements, loops. -/
namespace N4
open PySem PySem.Spec PyProof.Rows L2

/-! ### defs -/
def PostF (c : Cf) (fr : Fr) (F : Hp) (Q : VK) (E : XK) : FOut → Prop
  | .ok r p => ∀ v H F', Same F F' → Sat c fr ⟨[], p⟩ [] H F' → EvOk c fr [] ⟨[], p⟩ H F' v r → Q v H
  | .err cl x p => ∀ dx H F' y, Same F F' → Sat c fr ⟨[], p⟩ [] H F' → H dx = some (.xd [(whatS, y)]) → Dt c.K F' y x → E (.ref (c.cls cl)) (some dx) H
  | .bad => False
/-- the promise of a def by its plain meaning -/
def spOf (c : Cf) (sem : Fn) : Sp := fun vs H Q E => ∃ F pa ss pl, Sat c ⟨noT H, F, pa⟩ ⟨[], pl⟩ [] H F ∧ AsOk c ⟨noT H, F, pa⟩ F vs ss ∧ PostF c ⟨noT H, F, pa⟩ F Q E (sem ss pl)
structure FnG (gd : Bool) (P : Program) (w : World) (K : PySem.W.Frag) (mg : PySem.Str → Option Value) (base : Heap) (k : Nat) (f : Addr) (fd : FuncData) (ps : List PySem.Str) (sp : Sp) : Prop where
  len : ∀ vs H Q E, sp vs H Q E → vs.length = ps.length
  run : ∀ (A : Around) (outer : List Env) (s : Shared) (H : Hp) (as : Args) (us : List Value) (vs : List V) (Q : VK) (E : XK), Room k A → (gd = true → A.guards = some []) → Env0 P w K mg base A outer s H → BindsTo s fd as (ps.zip us) → Vals vs us → sp vs H Q E →
    codeAny (model P w) A (.call (.ref f) as) (CR (L2.CX P w) outer P w H s Q E) s
section
variable {c : Cf} {fr : Fr} {τ : N4.St} {σ : L2.St} {H F : Hp}
theorem asOk_length {vs : List V} {ss : List Sl} (h : AsOk c fr F vs ss) : vs.length = ss.length := by
  induction h with
  | nil => rfl
  | cons _ _ ih => exact congrArg (· + 1) ih
theorem Sat.h0T (S : Sat c fr τ σ H F) {b : Addr} (e : noT H b = none) : fr.H0 b = none := by
  cases q : fr.H0 b with
  | none => rfl
  | some o =>
    exfalso
    have lst : ∀ vs, H b = some (.lst vs) → False := fun vs h => by
      rw [noT_of h fun ps z => nomatch z] at e
      cases e
    have stay : (∀ pp pq, fr.pa = some (pp, pq) → b ≠ pp ∧ b ≠ pq) → False := fun n => by
      have nt : ∀ ps, o ≠ .tbl ps := fun ps z => S.ntb.2 b ps (by rw [q, z])
      rw [noT_of (S.keep b o q n nt) nt] at e
      cases e
    have pk := S.pool
    cases hpl : τ.pl with
    | none =>
      rw [hpl] at pk
      have pk : fr.pa = none := pk
      exact stay fun pp pq z => by rw [pk] at z; cases z
    | some pl =>
      obtain ⟨x1, x2, l⟩ := pl
      rw [hpl] at pk
      obtain ⟨p1, p2, q0, _, q2, q3, _⟩ := pk
      by_cases h1 : b = p1
      · rw [← h1] at q2
        exact lst _ q2
      · by_cases h2 : b = p2
        · rw [← h2] at q3
          exact lst _ q3
        · exact stay fun pp pq z => by
            rw [q0] at z
            cases z
            exact ⟨h1, h2⟩
theorem Sat.enter (S : Sat c fr τ σ H F) : Sat c ⟨noT H, F, fr.pa⟩ ⟨[], τ.pl⟩ [] H F := by
  refine ⟨S.sub, S.tabs, fun b o e _ _ => noT_some e, fun b e z => e (noT_none z), fun b o e => .inl e, Same.refl F, fun i s e => by simp at e, fun i j a _ ⟨_, e, _⟩ => by simp at e, ?_, Nat.le_refl _, S.ntb.1, noT_ok H⟩
  have p := S.pool
  show PoolOk _ H F τ.pl
  cases hp : τ.pl with
  | none =>
    rw [hp] at p
    exact p
  | some pl =>
    obtain ⟨x, y, l⟩ := pl
    rw [hp] at p
    obtain ⟨p1, p2, q, q1, q2, q3, q4, q5, q6, q7⟩ := p
    exact ⟨p1, p2, q, q1, q2, q3, q4, q5, by show noT H p1 ≠ none; rw [noT_of q2 fun ps z => nomatch z]; exact fun z => (nomatch z), by show noT H p2 ≠ none; rw [noT_of q3 fun ps z => nomatch z]; exact fun z => (nomatch z)⟩
theorem Sat.leave {H' F' : Hp} {p : Option Pl} (S : Sat c fr τ σ H F) (g : Same F F') (S2 : Sat c ⟨noT H, F, fr.pa⟩ ⟨[], p⟩ [] H' F') : Sat c fr { τ with pl := p } σ H' F' := by
  have own : ∀ (i : Nat) (xs : List PyData), τ.sl[i]? = some (some (.own xs)) → ∃ a vs, σ[i]? = some (some (.ref a)) ∧ H' a = some (.lst vs) ∧ DtAll c.K F' vs xs ∧ F' a = none ∧ fr.H0 a = none := fun i xs e => by
    obtain ⟨a, vs, e1, e2, e3, e4, e5⟩ := S.own e
    refine ⟨a, vs, e1, S2.keep a _ (noT_of e2 fun ps z => nomatch z) (S.apart e5) (fun ps z => nomatch z), Dt.growAll g _ _ e3, ?_, e5⟩
    cases q : F' a with
    | none => rfl
    | some o =>
      rcases S2.nw a o q with z | z
      · have z : F a = some o := z
        rw [e4] at z
        cases z
      · have z : noT H a = none := z
        rw [noT_of e2 fun ps z => nomatch z] at z
        cases z
  have obj : ∀ (i : Nat) (b : Ob), τ.sl[i]? = some (some (.obj b)) → ∃ a o, σ[i]? = some (some (.ref a)) ∧ H' a = some o ∧ ObOk c.K F' b o ∧ F' a = none ∧ fr.H0 a = none := fun i b e => by
    obtain ⟨a, o, e1, e2, e3, e4, e5⟩ := S.ob e
    refine ⟨a, o, e1, S2.keep a _ (noT_of e2 e3.notbl) (S.apart e5) e3.notbl, e3.grow g, ?_, e5⟩
    cases q : F' a with
    | none => rfl
    | some o =>
      rcases S2.nw a o q with z | z
      · have z : F a = some o := z
        rw [e4] at z
        cases z
      · have z : noT H a = none := z
        rw [noT_of e2 e3.notbl] at z
        cases z
  refine ⟨S2.sub, S2.tabs, fun b o e q t => S2.keep b o (noT_of (S.keep b o e q t) t) q t, fun b e => S2.there b fun z => e (S.h0T z), fun b o e => ?_, S.base.trans g, fun i s e => ?_, S.dist, ?_, S.len, S2.ntb.1, S.ntb.2⟩
  · rcases S2.nw b o e with z | z
    · exact S.nw b o z
    · exact .inr (S.h0T z)
  · obtain ⟨v, e1, e2⟩ := S.slot i s e
    refine ⟨v, e1, ?_⟩
    cases s with
    | val d => exact Dt.grow g _ _ e2
    | own xs =>
      obtain ⟨a, vs, q1, q2⟩ := own i xs e
      rw [e1] at q1
      cases q1
      exact ⟨a, vs, rfl, q2⟩
    | obj b =>
      obtain ⟨a, o, q1, q2⟩ := obj i b e
      rw [e1] at q1
      cases q1
      exact ⟨a, o, rfl, q2⟩
    | pool => exact e2
    | raw => exact ⟨e2.1, e2.2.1.trans g, e2.2.2⟩
    | exc x =>
      obtain ⟨dd, y, k1, k2, k3, k4⟩ := e2
      exact ⟨dd, y, k1, k2, k3, Dt.grow g _ _ k4⟩
    | ro kvs =>
      obtain ⟨b, ob, ks, k1, k2, k3, k4⟩ := e2
      exact ⟨b, ob, ks, k1, k2, k3, k4.grow g⟩
  · have pk := S2.pool
    have p0 := S.pool
    show PoolOk fr H' F' p
    cases hp : p with
    | none =>
      rw [hp] at pk
      exact pk
    | some pl =>
      obtain ⟨x, y, l⟩ := pl
      rw [hp] at pk
      obtain ⟨p1, p2, q, q1, q2, q3, q4, q5, q6, q7⟩ := pk
      have q : fr.pa = some (p1, p2) := q
      cases hq : τ.pl with
      | none =>
        rw [hq] at p0
        have p0 : fr.pa = none := p0
        rw [p0] at q
        cases q
      | some pl0 =>
        obtain ⟨x0, y0, l0⟩ := pl0
        rw [hq] at p0
        obtain ⟨r1, r2, s, s1, s2, s3, s4, s5, s6, s7⟩ := p0
        rw [s] at q
        cases q
        exact ⟨_, _, s, q1, q2, q3, q4, q5, s6, s7⟩
theorem Sat.noT_own (S : Sat c fr τ σ H F) {i : Nat} {a : Addr} (ho : IsOwn τ i) (h : noT H a = none) (q : σ[i]? = some (some (.ref a))) : False := by
  obtain ⟨s, e, hs⟩ := ho
  cases s with
  | own xs =>
    obtain ⟨b, ws, e1, e2, _⟩ := S.own e
    rw [e1] at q
    cases q
    rw [noT_of e2 fun ps z => nomatch z] at h
    cases h
  | obj x =>
    obtain ⟨b, o, e1, e2, e3, _⟩ := S.ob e
    rw [e1] at q
    cases q
    rw [noT_of e2 e3.notbl] at h
    cases h
  | _ => cases hs
theorem EvOk.leave {H' F' : Hp} {p : Option Pl} {v : V} {r : Ev} (S : Sat c fr τ σ H F) (e : EvOk c ⟨noT H, F, fr.pa⟩ [] ⟨[], p⟩ H' F' v r) : EvOk c fr σ { τ with pl := p } H' F' v r := by
  cases r with
  | val d => exact e
  | slot i =>
    have e : ([] : L2.St)[i]? = some (some v) := e
    simp at e
  | fresh xs =>
    obtain ⟨a, vs, rfl, h1, h2, h3, h4, _⟩ := e
    have h4 : noT H a = none := h4
    refine ⟨a, vs, rfl, h1, h2, h3, S.h0T h4, fun i ho q => ?_⟩
    have ho : IsOwn τ i := ho
    exact S.noT_own ho h4 q
  | pool => exact e
  | obj b =>
    obtain ⟨a, o, rfl, h1, h2, h3, h4, _⟩ := e
    have h4 : noT H a = none := h4
    refine ⟨a, o, rfl, h1, h2, h3, S.h0T h4, fun i ho q => ?_⟩
    have ho : IsOwn τ i := ho
    exact S.noT_own ho h4 q
  | junk => exact trivial
theorem AsOk.frame {fr' : Fr} {vs : List V} {ss : List Sl} (h : AsOk c fr F vs ss) (e : fr'.pa = fr.pa) : AsOk c fr' F vs ss := by
  induction h with
  | nil => exact .nil
  | @cons v vs s ss h _ ih =>
    refine .cons ?_ ih
    cases s with
    | val d => exact h
    | own _ => exact h
    | pool =>
      obtain ⟨pp, pq, q, z⟩ := h
      exact ⟨pp, pq, e.trans q, z⟩
    | raw => exact h.elim
    | exc x => exact h.elim
    | obj b => exact h.elim
    | ro kvs => exact h.elim
theorem rd_call {W : WX} {sem : Fn} {ms : List (M Ev)} {Q : VK} (h : rdE c W (eCall sem ms) σ H Q) : rdG c W (args ms) σ H fun vs H1 => spOf c sem vs H1 Q (WE W σ) := by
  obtain ⟨fr, τ, F, S, q⟩ := h
  refine (post_bind (R := AsR c) S q).mono fun vs H1 ⟨ss, τ1, F1, g1, S1, r1, q1⟩ => ?_
  refine ⟨F1, fr.pa, ss, τ1.pl, S1.enter, AsOk.frame r1 rfl, ?_⟩
  cases hs : sem ss τ1.pl with
  | ok r p =>
    simp only [hs] at q1
    exact fun v H' F' g S' e => q1 v H' F' g (S1.leave g S') (EvOk.leave S1 e)
  | err cl x p =>
    simp only [hs] at q1
    exact fun dx H' F' y g S' e d => q1 σ dx H' F' y g (S1.leave g S') e d
  | bad =>
    simp only [hs] at q1
    exact q1
end
section
variable {X : Cx} {c : Cf} {W : WX} {e : Expr} {es : List Expr} {x : PySem.Str} {p pos : Pos} {k : Nat} {f : Addr} {fd : FuncData} {ps : List PySem.Str} {sem : Fn} {ms : List (M Ev)}
theorem fng_run {gd : Bool} {pins : List (Addr × Obj)} {σ : L2.St} {H : Hp} {s : Shared} {Q : VK} {us : List Value} {vs : List V} {sp : Sp} (G : FnG gd X.prog X.w X.K X.mg X.base k f fd ps sp) (hr : Room k X.A) (hgd : gd = true → X.A.guards = some []) (hb : Binds X.K fd ps []) (tk : Takes X W)
    (I : Inv X pins σ H s) (r : Vals vs us) (h : sp vs H Q (WE W σ)) : wpAny (model X.prog X.w) X.A (call (.ref f) us) (EP X pins σ Q) X.xe s := by
  have hl : us.length = ps.length := r.length.symm.trans (G.len _ _ _ _ h)
  have b := hb s us I.kIn (by rw [List.append_nil]; exact hl)
  rw [List.append_nil] at b
  refine wpAny_call (codeAny_mono (G.run X.A X.stack s H ⟨us, []⟩ us vs Q (WE W σ) hr hgd I.env0 b r h) fun o s' hq => ?_)
  cases o with
  | error u => exact passAt tk σ pins H s u s' I hq
  | ok fl =>
    cases fl with
    | ret u => exact I.after hq
    | next => exact hq.elim
    | brk => exact hq.elim
    | cont => exact hq.elim
theorem x_call {gd : Bool} (G : FnG gd X.prog X.w X.K X.mg X.base k f fd ps (spOf c sem)) (hm : X.mg x = some (.ref f)) (hk : PySem.W.keepIn X.K (.ref f) = true) (hb : Binds X.K fd ps []) (hr : Room k X.A) (hgd : gd = true → X.A.guards = some []) (tk : Takes X W)
    (ha : PA X (e :: es) (rdG c W (args ms))) (hg : Gl X x := by rfl) (hdb : (x == ("__debug__" : PySem.Str)) = false := by decide) (he : starEach (e :: es) X.env = (false, eval e X.env) :: starEach es X.env := by rfl) (hpl : (backTo pos (starEach es X.env)).any (·.1) = false := by rfl) :
    PE X (.Call (.Name x p) (e :: es) [] pos) (rdE c W (eCall sem ms)) := by
  refine ⟨fun pins s σ H Q I h => wpAny_Call_Name_kw (ld_glob I hg hm ?_ hdb)⟩
  have h1 := rd_call h
  exact PySem.W.callWith_K (h₀ := X.base) I.ok.mod.kin hk (thn (ha.run pos pins s σ H _ I h1) fun us s1 ⟨vs, H1, I1, r, q⟩ => ⟨I1.kIn, fng_run G hr hgd hb tk I1 r q⟩) he hpl
theorem x_call0 {gd : Bool} (G : FnG gd X.prog X.w X.K X.mg X.base k f fd ps (spOf c sem)) (hm : X.mg x = some (.ref f)) (hk : PySem.W.keepIn X.K (.ref f) = true) (hb : Binds X.K fd ps []) (hr : Room k X.A) (hgd : gd = true → X.A.guards = some []) (tk : Takes X W)
    (hg : Gl X x := by rfl) (hdb : (x == ("__debug__" : PySem.Str)) = false := by decide) : PE X (.Call (.Name x p) [] [] pos) (rdE c W (eCall sem [])) := by
  refine ⟨fun pins s σ H Q I h => wpAny_Call_Name_kw (ld_glob I hg hm ?_ hdb)⟩
  obtain ⟨fr, τ, F, S, q⟩ := rd_call h
  exact PySem.W.callWith_K0 I.kIn hk (fng_run (us := []) G hr hgd hb tk I .nil (post_ret S q (v := []) .nil))
end

/-! ### tests -/
section
variable {X : Cx} {c : Cf} {W : WX} {a b e t : Expr} {rest : List Expr} {pos p : Pos} {ma mb mc : M Ev} {ta tb : M Bool}
theorem rd_tV {m : M Ev} {σ : L2.St} {H : Hp} {Q : Bool → Hp → Prop} (h : rdT c W (tV m) σ H Q) : rdE c W m σ H fun x H1 => ∃ k, x = .bl k ∧ Q k H1 := by
  obtain ⟨fr, τ, F, S, q⟩ := h
  refine (post_bind (R := EvOk c) S q).mono fun v H1 ⟨e1, τ1, F1, g1, S1, r1, q1⟩ => ?_
  cases e1 with
  | val d =>
    cases d with
    | bool k =>
      cases r1
      exact ⟨k, rfl, post_ret S1 q1 rfl⟩
    | _ => exact q1.elim
  | _ => exact q1.elim
theorem t_val (h : PE X e (rdE c W ma)) (he : ∀ whole, isTrue e X.env whole = (do let v ← whole; standAt e.pos; holding [v] (truthy v)) := by intro _; rfl) : PT X e (rdT c W (tV ma)) := (pt_val h he).impN fun _ _ _ q => rd_tV q
theorem t_cmp {op : CmpOp} {f : D → D → Option Ev} {r : R2} (ho : OpR X (compareOp op) r) (hk : OpOk c r f) (ha : PE X a (rdE c W ma)) (hb : PE X b (rdE c W mb)) (hm : behindInMarks op b = false := by first | exact nomark _ | rfl | with_unfolding_all rfl) : PT X (.Compare a [op] [b] pos) (rdT c W (tV (eOp f ma mb))) :=
  (pt_cmpR ho ha hb hm).impN fun _ _ _ q => rd_two hk (rd_tV q)
theorem rd_chain {f g : D → D → Option Ev} {r r' : R2} (hk : OpOk c r f) (hk' : OpOk c r' g) {σ : L2.St} {H : Hp} {Q : VK} (h : rdE c W (eChain f g ma mb mc) σ H Q) : tChain r r' (rdE c W ma) (rdE c W mb) (rdE c W mc) σ H Q := by
  obtain ⟨fr, τ, F, S, q⟩ := h
  refine (post_bind (R := EvOk c) S q).mono fun v H1 ⟨e1, τ1, F1, g1, S1, r1, q1⟩ => ?_
  obtain ⟨F2, g2, S2, r2⟩ := S1.settle r1
  refine (post_bind (R := EvOk c) S2 (q1.grow g2)).mono fun w H3 ⟨e3, τ3, F3, g3, S3, r3, q3⟩ => ?_
  have rv : EvOk c fr σ τ3 H3 F3 v (settle e1) := EvOk.later (by exact r2) g3
  obtain ⟨F4, g4, S4, r4⟩ := S3.settle r3
  have q4 := q3.grow g4
  have rv4 : EvOk c fr σ τ3 H3 F4 v (settle e1) := EvOk.later rv g4
  cases hd : look τ3 e1 with
  | none => simp only [hd] at q4; exact q4.elim
  | some d =>
    cases he : look τ3 e3 with
    | none => simp only [hd, he] at q4; exact q4.elim
    | some d' =>
      simp only [hd, he] at q4
      have vw1 := look_vw S4 rv4 (by rw [look_settle]; exact hd)
      have vw2 := look_vw S4 r4 (by rw [look_settle]; exact he)
      cases hf : f d d' with
      | none => simp only [hf] at q4; exact q4.elim
      | some res =>
        simp only [hf] at q4
        cases res with
        | val rd =>
          cases rd with
          | bool k =>
            refine hk fr τ3 σ H3 F4 v w d d' _ _ S4 vw1 vw2 hf fun v' H' F' s S' r' => ?_
            cases r'
            cases k with
            | false => exact ⟨false, rfl, by simp only [Bool.false_eq_true, if_false]; exact q4 _ _ _ s S' (.bl false)⟩
            | true =>
              refine ⟨true, rfl, ?_⟩
              simp only [if_true]
              have r4' : EvOk c fr σ τ3 H' F' w (settle e3) := EvOk.later r4 s
              refine (post_bind (R := EvOk c) S' (PostM.grow s q4)).mono fun u H5 ⟨e5, τ5, F5, g5, S5, r5, q5⟩ => ?_
              have r4'' : EvOk c fr σ τ5 H5 F5 w (settle e3) := EvOk.later r4' g5
              cases hl : look τ5 e3 with
              | none => simp only [hl] at q5; exact q5.elim
              | some d2 =>
                cases hl2 : look τ5 e5 with
                | none => simp only [hl, hl2] at q5; exact q5.elim
                | some d3 =>
                  simp only [hl, hl2] at q5
                  cases hg : g d2 d3 with
                  | none => simp only [hg] at q5; exact q5.elim
                  | some res2 =>
                    simp only [hg] at q5
                    exact hk' fr τ5 σ H5 F5 w u d2 d3 res2 Q S5 (look_vw S5 r4'' (by rw [look_settle]; exact hl)) (look_vw S5 r5 hl2) hg fun v' H' F' s S' r' => q5 v' H' F' s S' r'
          | _ => exact q4.elim
        | _ => exact q4.elim
theorem x_chain {op op' : CmpOp} {f g : D → D → Option Ev} {r r' : R2} (ho : OpR X (compareOp op) r) (hk : OpOk c r f) (ho' : OpR X (compareOp op') r') (hk' : OpOk c r' g) (ha : PE X a (rdE c W ma)) (hb : PE X b (rdE c W mb)) (ht : PE X t (rdE c W mc))
    (hm : lastMarks [op, op'] [b, t] = false := by with_unfolding_all rfl) : PE X (.Compare a [op, op'] [b, t] pos) (rdE c W (eChain f g ma mb mc)) :=
  (pe_chain ho ho' ha hb ht hm).impN fun _ _ _ q => rd_chain hk hk' q
theorem t_chain {op op' : CmpOp} {f g : D → D → Option Ev} {r r' : R2} (ho : OpR X (compareOp op) r) (hk : OpOk c r f) (ho' : OpR X (compareOp op') r') (hk' : OpOk c r' g) (ha : PE X a (rdE c W ma)) (hb : PE X b (rdE c W mb)) (ht : PE X t (rdE c W mc))
    (hm : lastMarks [op, op'] [b, t] = false := by with_unfolding_all rfl) : PT X (.Compare a [op, op'] [b, t] pos) (rdT c W (tV (eChain f g ma mb mc))) :=
  (pt_chain ho ho' ha hb ht hm).impN fun _ _ _ q => rd_chain hk hk' (rd_tV q)
theorem rd_and {σ : L2.St} {H : Hp} {Q : Bool → Hp → Prop} (h : rdT c W (N4.tAnd ta tb) σ H Q) : L2.tAnd (rdT c W ta) (rdT c W tb) σ H Q := by
  obtain ⟨fr, τ, F, S, q⟩ := h
  refine (post_bind (R := EqB) S q).mono fun v H1 ⟨e1, τ1, F1, g1, S1, r1, q1⟩ => ?_
  have r1 : v = e1 := r1
  subst r1
  cases v with
  | true => exact iteT ⟨fr, τ1, F1, S1, q1⟩
  | false => exact iteF (post_ret S1 q1 rfl)
theorem rd_or {σ : L2.St} {H : Hp} {Q : Bool → Hp → Prop} (h : rdT c W (N4.tOr ta tb) σ H Q) : L2.tOr (rdT c W ta) (rdT c W tb) σ H Q := by
  obtain ⟨fr, τ, F, S, q⟩ := h
  refine (post_bind (R := EqB) S q).mono fun v H1 ⟨e1, τ1, F1, g1, S1, r1, q1⟩ => ?_
  have r1 : v = e1 := r1
  subst r1
  cases v with
  | true => exact iteT (post_ret S1 q1 rfl)
  | false => exact iteF ⟨fr, τ1, F1, S1, q1⟩
theorem w_and1 (ha : PT X a (rdT c W ta)) : PW X (.BoolOp .And [a] pos) (rdT c W ta) := pw_and1 ha
theorem w_or1 (ha : PT X a (rdT c W ta)) : PW X (.BoolOp .Or [a] pos) (rdT c W ta) := pw_or1 ha
theorem w_and (ha : PT X a (rdT c W ta)) (hb : PW X (.BoolOp .And (b :: rest) pos) (rdT c W tb)) : PW X (.BoolOp .And (a :: b :: rest) pos) (rdT c W (N4.tAnd ta tb)) := (pw_and ha hb).impN fun _ _ _ h => rd_and h
theorem w_or (ha : PT X a (rdT c W ta)) (hb : PW X (.BoolOp .Or (b :: rest) pos) (rdT c W tb)) : PW X (.BoolOp .Or (a :: b :: rest) pos) (rdT c W (N4.tOr ta tb)) := (pw_or ha hb).impN fun _ _ _ h => rd_or h
theorem t_bo (h : PW X e (rdT c W ta)) : PT X e (rdT c W ta) := h.pt
theorem t_not (ha : PT X a (rdT c W ta)) : PT X (.UnaryOp .Not a pos) (rdT c W (N4.tNot ta)) := (pt_not ha).impN fun σ H Q ⟨fr, τ, F, S, q⟩ => by
  refine (post_bind (R := EqB) S q).mono fun v H1 ⟨e1, τ1, F1, g1, S1, r1, q1⟩ => ?_
  have r1 : v = e1 := r1
  subst r1
  exact post_ret S1 q1 rfl
theorem x_if {t : Expr} (ht : PT X t (rdT c W ta)) (ha : PE X a (rdE c W ma)) (hb : PE X b (rdE c W mb)) : PE X (.IfExp t a b pos) (rdE c W (eIf ta ma mb)) := (pe_ifExp ht ha hb).impN fun σ H Q ⟨fr, τ, F, S, q⟩ => by
  refine (post_bind (R := EqB) S q).mono fun v H1 ⟨e1, τ1, F1, g1, S1, r1, q1⟩ => ?_
  have r1 : v = e1 := r1
  subst r1
  cases v with
  | true => exact iteT ⟨fr, τ1, F1, S1, q1⟩
  | false => exact iteF ⟨fr, τ1, F1, S1, q1⟩
theorem boolOf_ok {fr : Fr} {σ : L2.St} {τ : N4.St} {H F : Hp} {v : V} {x : Ev} {k : Bool} (r : EvOk c fr σ τ H F v x) (h : boolOf x = some k) : v = .bl k := by
  cases x with
  | val d =>
    cases d with
    | bool b =>
      cases h
      cases r
      rfl
    | _ => cases h
  | _ => cases h
theorem x_one {op : BoolOp} (h : PE X a (rdE c W ma)) : PE X (.BoolOp op [a] pos) (rdE c W ma) := pe_one h
theorem x_and (ha : PE X a (rdE c W ma)) (hb : PE X (.BoolOp .And (b :: rest) pos) (rdE c W mb)) : PE X (.BoolOp .And (a :: b :: rest) pos) (rdE c W (eAnd ma mb)) := (pe_and ha hb).impN fun σ H Q ⟨fr, τ, F, S, q⟩ => by
  refine (post_bind (R := EvOk c) S q).mono fun v H1 ⟨e1, τ1, F1, g1, S1, r1, q1⟩ => ?_
  cases hb : boolOf e1 with
  | none => simp only [hb] at q1; exact q1.elim
  | some k =>
    simp only [hb] at q1
    refine ⟨k, boolOf_ok r1 hb, ?_⟩
    cases k with
    | true => exact iteT ⟨fr, τ1, F1, S1, q1⟩
    | false => exact iteF (post_ret S1 q1 (.bl false))
theorem x_or (ha : PE X a (rdE c W ma)) (hb : PE X (.BoolOp .Or (b :: rest) pos) (rdE c W mb)) : PE X (.BoolOp .Or (a :: b :: rest) pos) (rdE c W (eOr ma mb)) := (pe_or ha hb).impN fun σ H Q ⟨fr, τ, F, S, q⟩ => by
  refine (post_bind (R := EvOk c) S q).mono fun v H1 ⟨e1, τ1, F1, g1, S1, r1, q1⟩ => ?_
  cases hb : boolOf e1 with
  | none => simp only [hb] at q1; exact q1.elim
  | some k =>
    simp only [hb] at q1
    refine ⟨k, boolOf_ok r1 hb, ?_⟩
    cases k with
    | true => exact iteT (post_ret S1 q1 (.bl true))
    | false => exact iteF ⟨fr, τ1, F1, S1, q1⟩
theorem x_not (ha : PE X a (rdE c W ma)) : PE X (.UnaryOp .Not a pos) (rdE c W (eNot ma)) := (pe_not ha).impN fun σ H Q ⟨fr, τ, F, S, q⟩ => by
  refine (post_bind (R := EvOk c) S q).mono fun v H1 ⟨e1, τ1, F1, g1, S1, r1, q1⟩ => ?_
  cases hb : boolOf e1 with
  | none => simp only [hb] at q1; exact q1.elim
  | some k =>
    simp only [hb] at q1
    exact ⟨k, boolOf_ok r1 hb, post_ret S1 q1 (.bl !k)⟩
end

/-! ### statements -/
def PostS (c : Cf) (W : WX) (fr : Fr) (F : Hp) (D : Ends) : SOut → Prop
  | .nx τ => ∀ σ H F', Same F F' → Sat c fr τ σ H F' → D.nx σ H
  | .ret e τ => ∀ v σ H F', Same F F' → Sat c fr τ σ H F' → EvOk c fr σ τ H F' v e → D.rt v H
  | .brk τ => ∀ σ H F', Same F F' → Sat c fr τ σ H F' → D.bk σ H
  | .cnt τ => ∀ σ H F', Same F F' → Sat c fr τ σ H F' → D.ct σ H
  | .err cl x τ => ∀ σ, ErrW c W fr F σ cl x τ
  | .bad => False
def rdS (c : Cf) (W : WX) (m : SM) : TS := fun D σ H => ∃ fr τ F, Sat c fr τ σ H F ∧ PostS c W fr F D (m τ)
section
variable {c : Cf} {W : WX} {fr : Fr} {τ : N4.St} {σ : L2.St} {H F F1 : Hp} {D : Ends}
theorem PostS.grow {o : SOut} (g : Same F F1) (h : PostS c W fr F D o) : PostS c W fr F1 D o := by
  cases o with
  | nx t => exact fun σ H F' s S => h σ H F' (g.trans s) S
  | ret e t => exact fun v σ H F' s S r => h v σ H F' (g.trans s) S r
  | brk t => exact fun σ H F' s S => h σ H F' (g.trans s) S
  | cnt t => exact fun σ H F' s S => h σ H F' (g.trans s) S
  | err cl x t => exact fun σ => (h σ).grow g
  | bad => exact h
theorem PostS.ends {D' : Ends} {o : SOut} (h : PostS c W fr F D o) (n : ∀ σ H, D.nx σ H → D'.nx σ H) (r : ∀ v H, D.rt v H → D'.rt v H) (b : ∀ σ H, D.bk σ H → D'.bk σ H) (k : ∀ σ H, D.ct σ H → D'.ct σ H) : PostS c W fr F D' o := by
  cases o with
  | nx t => exact fun σ H F' s S => n _ _ (h σ H F' s S)
  | ret e t => exact fun v σ H F' s S q => r _ _ (h v σ H F' s S q)
  | brk t => exact fun σ H F' s S => b _ _ (h σ H F' s S)
  | cnt t => exact fun σ H F' s S => k _ _ (h σ H F' s S)
  | err cl x t => exact h
  | bad => exact h
/-- an expression of a statement -/
theorem post_e {α β : Type} {R : Fr → L2.St → N4.St → Hp → Hp → β → α → Prop} {m : M α} {k : α → SM} (S : Sat c fr τ σ H F) (h : PostS c W fr F D (sE m k τ)) :
    rdM c W R m σ H (fun (v : β) H1 => ∃ a τ1 F1, Same F F1 ∧ Sat c fr τ1 σ H1 F1 ∧ R fr σ τ1 H1 F1 v a ∧ PostS c W fr F1 D (k a τ1)) := by
  refine ⟨fr, τ, F, S, ?_⟩
  cases e : m τ with
  | ok a t =>
    simp only [sE, e] at h
    exact fun v H F' s S r => ⟨a, t, F', s, S, r, h.grow s⟩
  | err cl x t =>
    simp only [sE, e] at h
    exact h
  | bad =>
    simp only [sE, e] at h
    exact h
theorem post_fz {v : V} {x : Ev} {k : N4.D → SM} (S : Sat c fr τ σ H F) (r : EvOk c fr σ τ H F v x) (q : PostS c W fr F D (sE (freeze x) k τ)) :
    ∃ d τ1 F1, Same F F1 ∧ Sat c fr τ1 σ H F1 ∧ Dt c.K F1 v d ∧ PostS c W fr F1 D (k d τ1) := by
  cases hf : freeze x τ with
  | ok d τ1 =>
    obtain ⟨F1, g1, S1, d1⟩ := freeze_ok S r hf
    simp only [sE, hf] at q
    exact ⟨d, τ1, F1, g1, S1, d1, q.grow g1⟩
  | err cl y t => exact (freeze_no hf).elim
  | bad =>
    simp only [sE, hf] at q
    exact q.elim
/-- a value is stored -/
theorem post_store {i : Nat} {v : V} {x : Ev} (S : Sat c fr τ σ H F) (r : EvOk c fr σ τ H F v x) (q : PostS c W fr F D (store i x τ)) : D.nx (σ.set i (some v)) H := by
  have data : store i x = (sE (freeze x) fun d s => if i < s.sl.length then .nx (setSl s i (some (.val d))) else .bad) → D.nx (σ.set i (some v)) H := fun e => by
    rw [e] at q
    obtain ⟨d, τ1, F1, g1, S1, d1, q1⟩ := post_fz S r q
    by_cases hl : i < τ1.sl.length
    · simp only [if_pos hl] at q1
      exact q1 _ _ F1 (Same.refl F1) (S1.set (s := .val d) hl d1 fun z => nomatch z)
    · simp only [if_neg hl] at q1
      exact q1.elim
  cases x with
  | val d => exact data rfl
  | slot j => exact data rfl
  | fresh xs =>
    by_cases hl : i < τ.sl.length
    · simp only [store, if_pos hl] at q
      obtain ⟨a, vs, rfl, h1, h2, h3, h4, h5⟩ := r
      refine q _ _ F (Same.refl F) (S.set (s := .own xs) hl ⟨a, vs, rfl, h1, h2, h3, h4⟩ fun _ b e j _ ho => ?_)
      cases e
      exact h5 j ho
    · simp only [store, if_neg hl] at q
      exact q.elim
  | pool => exact q.elim
  | junk => exact data rfl
  | obj b =>
    by_cases hl : i < τ.sl.length
    · simp only [store, if_pos hl] at q
      obtain ⟨a, o, rfl, h1, h2, h3, h4, h5⟩ := r
      refine q _ _ F (Same.refl F) (S.set (s := .obj b) hl ⟨a, o, rfl, h1, h2, h3, h4⟩ fun _ b e j _ ho => ?_)
      cases e
      exact h5 j ho
    · simp only [store, if_neg hl] at q
      exact q.elim
end
section
variable {X : Cx} {c : Cf} {W : WX} {e a b : Expr} {st : Stmt} {rest : List Stmt} {pos : Pos} {m ma mb : M Ev} {s1 s2 : SM} {t : M Bool}
theorem ss_nil : PSs X [] (rdS c W sNil) := pss_nil.impN fun D σ H ⟨fr, τ, F, S, q⟩ => q σ H F (Same.refl F) S
theorem ss_cons (h1 : PS X st (rdS c W s1)) (h2 : PSs X rest (rdS c W s2)) : PSs X (st :: rest) (rdS c W (sSeq s1 s2)) := (pss_cons h1 h2).impN fun D σ H ⟨fr, τ, F, S, q⟩ => by
  refine ⟨fr, τ, F, S, ?_⟩
  cases hs : s1 τ with
  | nx t =>
    simp only [sSeq, hs] at q
    exact fun σ1 H1 F1 g1 S1 => ⟨fr, t, F1, S1, q.grow g1⟩
  | ret x t => simp only [sSeq, hs] at q; exact q
  | brk t => simp only [sSeq, hs] at q; exact q
  | cnt t => simp only [sSeq, hs] at q; exact q
  | err cl x t => simp only [sSeq, hs] at q; exact q
  | bad => simp only [sSeq, hs] at q; exact q
theorem ss_one (h1 : PS X st (rdS c W s1)) : PSs X [st] (rdS c W s1) := pss_one h1
theorem s_pass : PS X (.Pass pos) (rdS c W sNil) := ps_pass.impN fun D σ H ⟨fr, τ, F, S, q⟩ => q σ H F (Same.refl F) S
theorem s_brk : PS X (.Break pos) (rdS c W sBrk) := ps_break.impN fun D σ H ⟨fr, τ, F, S, q⟩ => q σ H F (Same.refl F) S
theorem s_cnt : PS X (.Continue pos) (rdS c W sCnt) := ps_continue.impN fun D σ H ⟨fr, τ, F, S, q⟩ => q σ H F (Same.refl F) S
theorem s_ret (h : PE X e (rdE c W m)) : PS X (.Return (some e) pos) (rdS c W (sRet m)) := (ps_ret h).impN fun D σ H ⟨fr, τ, F, S, q⟩ => by
  refine (post_e (R := EvOk c) S q).mono fun v H1 ⟨e1, τ1, F1, g1, S1, r1, q1⟩ => ?_
  exact q1 v σ H1 F1 (Same.refl F1) S1 r1
theorem s_retN : PS X (.Return none pos) (rdS c W sRetN) := ps_retN.impN fun D σ H ⟨fr, τ, F, S, q⟩ => q .non σ H F (Same.refl F) S .non
theorem s_expr (h : PE X e (rdE c W m)) (hs : swapsWith e none pos.line X.env = pure false := by rfl) : PS X (.Expr e pos) (rdS c W (sExpr m)) := (ps_expr h hs).impN fun D σ H ⟨fr, τ, F, S, q⟩ => by
  refine (post_e (R := EvOk c) S q).mono fun v H1 ⟨e1, τ1, F1, g1, S1, r1, q1⟩ => ?_
  exact q1 σ H1 F1 (Same.refl F1) S1
theorem s_if {a b : List Stmt} (hc : PT X e (rdT c W t)) (ha : PSs X a (rdS c W s1)) (hb : PSs X b (rdS c W s2)) : PS X (.If e a b pos) (rdS c W (sIf t s1 s2)) := (ps_if hc ha hb).impN fun D σ H ⟨fr, τ, F, S, q⟩ => by
  refine (post_e (R := EqB) S q).mono fun v H1 ⟨e1, τ1, F1, g1, S1, r1, q1⟩ => ?_
  have r1 : v = e1 := r1
  subst r1
  cases v with
  | true => exact iteT ⟨fr, τ1, F1, S1, q1⟩
  | false => exact iteF ⟨fr, τ1, F1, S1, q1⟩
theorem s_set (i : Nat) {x : PySem.Str} {pos' : Pos} (he : PE X e (rdE c W m)) (hN : X.N.Nodup) (hi : X.N[i]? = some x := by rfl) (hx : Loc X.env.scope x := by first | exact Or.inl rfl | exact Or.inr rfl)
    (hs : swapsWith e (some (.Name x pos')) pos.line X.env = pure false := by rfl) (hf : X.fn x = true ∨ X.env.scope.names.lookup x = some .local := by first | exact .inl rfl | exact .inr rfl) :
    PS X (.Assign [.Name x pos'] e pos) (rdS c W (sSet i m)) := (ps_set hN hi hx he hs hf).impN fun D σ H ⟨fr, τ, F, S, q⟩ => by
  refine (post_e (R := EvOk c) S q).mono fun v H1 ⟨e1, τ1, F1, g1, S1, r1, q1⟩ => ?_
  exact post_store S1 r1 q1
end
end N4
end
section
set_option Elab.async false
set_option linter.all false
set_option autoImplicit false
set_option maxRecDepth 100000
set_option maxHeartbeats 1000000
/-! Bodies of defs, targets, stores, loops. -/
namespace N4
open PySem PySem.Spec PyProof.Rows L2

/-! ### a def by its body -/
section
variable {P : Program} {w : World} {K : PySem.W.Frag} {mg : PySem.Str → Option Value} {base : Heap}
theorem start_get {N : List PySem.Str} {vs : List V} {i : Nat} {v : V} (h : vs[i]? = some v) : (L2.start N vs)[i]? = some (some v) := by
  have hl := (List.getElem?_eq_some_iff.mp h).1
  unfold L2.start
  rw [List.getElem?_append_left (by simpa using hl), List.getElem?_map, h]
  rfl
theorem asOk_get {c : Cf} {fr : Fr} {F : Hp} {vs : List V} {ss : List Sl} (h : AsOk c fr F vs ss) : ∀ {i : Nat} {s : Sl}, ss[i]? = some s → ∃ v, vs[i]? = some v ∧ ArOk c fr F v s := by
  induction h with
  | nil => intro i s e; simp at e
  | cons h _ ih =>
    intro i s e
    cases i with
    | zero =>
      simp at e
      subst e
      exact ⟨_, rfl, h⟩
    | succ j =>
      obtain ⟨v, e1, e2⟩ := ih (i := j) (by simpa using e)
      exact ⟨v, by simpa using e1, e2⟩
theorem start_sat {c : Cf} {F H : Hp} {pa : Option (Addr × Addr)} {pl : Option Pl} {N : List PySem.Str} {vs : List V} {ss : List Sl} {np : Nat} (S : Sat c ⟨noT H, F, pa⟩ ⟨[], pl⟩ [] H F) (A : AsOk c ⟨noT H, F, pa⟩ F vs ss) (hl : vs.length ≤ N.length) (hp : ss.length = np) :
    Sat c ⟨noT H, F, pa⟩ ⟨ss.map some ++ List.replicate (N.length - np) none, pl⟩ (L2.start N vs) H F := by
  have look : ∀ (i : Nat) (s : Sl), (ss.map some ++ List.replicate (N.length - np) none : List (Option Sl))[i]? = some (some s) → ss[i]? = some s := fun i s e => by
    by_cases hi : i < ss.length
    · rw [List.getElem?_append_left (by simpa using hi), List.getElem?_map] at e
      cases q : ss[i]? with
      | none => rw [q] at e; cases e
      | some x => rw [q] at e; cases e; rfl
    · rw [List.getElem?_append_right (by simpa using hi), List.getElem?_replicate] at e
      split at e <;> cases e
  have noOwn : ∀ i, ¬ IsOwn ⟨ss.map some ++ List.replicate (N.length - np) none, pl⟩ i := fun i ⟨s, e, hs⟩ => by
    obtain ⟨v, _, h⟩ := asOk_get A (look i _ e)
    cases s with
    | own _ => exact h
    | obj _ => exact h
    | _ => cases hs
  refine ⟨S.sub, S.tabs, S.keep, S.there, S.nw, S.base, fun i s e => ?_, fun i j a _ o => absurd o (noOwn i), S.pool, ?_, S.ntb⟩
  · obtain ⟨v, e1, h⟩ := asOk_get A (look i s e)
    refine ⟨v, start_get e1, ?_⟩
    cases s with
    | val d => exact h
    | own xs => exact h.elim
    | pool => exact h
    | raw => exact h.elim
    | exc x => exact h.elim
    | obj b => exact h.elim
    | ro kvs => exact h.elim
  · unfold L2.start
    have := asOk_length A
    simp only [List.length_append, List.length_map, List.length_replicate]
    omega
theorem Sat.bare {c : Cf} {fr : Fr} {τ : N4.St} {σ : L2.St} {H F : Hp} (S : Sat c fr τ σ H F) : Sat c fr ⟨[], τ.pl⟩ [] H F :=
  ⟨S.sub, S.tabs, S.keep, S.there, S.nw, S.base, fun i s e => by simp at e, fun i j a _ ⟨_, e, _⟩ => by simp at e, S.pool, Nat.le_refl _, S.ntb⟩
/-- what a body comes to is what its def comes to -/
theorem post_end {c : Cf} {fr : Fr} {F : Hp} {Q : VK} {E : XK} {o : SOut} (h : PostF c fr F Q E (endOf o)) : PostS c (fun cl d _ H => E cl d H) fr F { nx := fun _ H' => Q .non H', rt := Q } o := by
  cases o with
  | nx τ => exact fun σ H F' g S => h .non H F' g S.bare .non
  | ret e τ =>
    intro v σ H F' g S r
    cases e with
    | val d => exact h v H F' g S.bare r
    | fresh xs =>
      obtain ⟨a, vs, rfl, h1, h2, h3, h4, h5⟩ := r
      exact h _ H F' g S.bare ⟨a, vs, rfl, h1, h2, h3, h4, fun i _ q => by simp at q⟩
    | slot i =>
      cases hs : τ.sl[i]? with
      | none => simp only [endOf, hs] at h; exact h.elim
      | some s =>
        cases s with
        | none => simp only [endOf, hs] at h; exact h.elim
        | some s =>
          cases s with
          | val _ => simp only [endOf, hs] at h; exact h.elim
          | pool => simp only [endOf, hs] at h; exact h.elim
          | raw => simp only [endOf, hs] at h; exact h.elim
          | exc x => simp only [endOf, hs] at h; exact h.elim
          | ro kvs => simp only [endOf, hs] at h; exact h.elim
          | obj b =>
            simp only [endOf, hs] at h
            obtain ⟨a, o, e1, e2, e3, e4, e5⟩ := S.ob hs
            have r : σ[i]? = some (some v) := r
            rw [e1] at r
            cases r
            exact h _ H F' g S.bare ⟨a, o, rfl, e2, e3, e4, e5, fun i _ q => by simp at q⟩
          | own xs =>
            simp only [endOf, hs] at h
            obtain ⟨a, vs, e1, e2, e3, e4, e5⟩ := S.own hs
            have r : σ[i]? = some (some v) := r
            rw [e1] at r
            cases r
            exact h _ H F' g S.bare ⟨a, vs, rfl, e2, e3, e4, e5, fun i _ q => by simp at q⟩
    | pool => exact h.elim
    | junk => exact h.elim
    | obj b =>
      obtain ⟨a, o, rfl, h1, h2, h3, h4, h5⟩ := r
      exact h _ H F' g S.bare ⟨a, o, rfl, h1, h2, h3, h4, fun i _ q => by simp at q⟩
  | err cl x τ => exact fun σ dx H F' y g S e d => h dx H F' y g S.bare e d
  | brk τ => exact h.elim
  | cnt τ => exact h.elim
  | bad => exact h.elim
theorem FnG.of {gd : Bool} {c : Cf} {x qual : PySem.Str} {st : Stmt} {f : Addr} {fd : FuncData} {N ps : List PySem.Str} {k : Nat} {b : SM} (F : Fun K x qual st f fd) (S : FnScope N ps (defScope st))
    (hbody : ∀ (cdv : Value) (A : Around) (outer : List Env) (s : Shared) (H : Hp) (E : XK), Room k (A.deeper (envOfC qual (defScope st) s.heap.objs.size f cdv)) → (gd = true → A.guards = some []) →
      PSs (cxOf (L2.CX P w) P w K mg base N qual (defScope st) f cdv A outer s H E) (defBody st) (rdS c (fun cl d _ H => E cl d H) b)) :
    FnG gd P w K mg base (k + 1) f fd ps (spOf c (mkFn ps.length N.length b)) := by
  obtain ⟨oc, od, kV, doc, pm, an, cdv, ct, osl, rfl, lk, hcd⟩ := F.ex
  have hpn : ps.length ≤ N.length := by
    have := congrArg List.length S.pre
    rw [List.length_take] at this
    omega
  have len : ∀ vs H Q E, spOf c (mkFn ps.length N.length b) vs H Q E → vs.length = ps.length := fun vs H Q E ⟨F, pa, ss, pl, _, A, h⟩ => by
    have e := asOk_length A
    by_cases hl : ss.length = ps.length
    · exact e.trans hl
    · rw [mkFn, if_neg hl] at h
      exact h.elim
  refine ⟨len, fun A outer s H as us vs Q E hr hgd e0 hb r hsp => ?_⟩
  have hl := len _ _ _ _ hsp
  refine LamX.run_ofS (N := N) lk hcd S hr e0 hb r hl fun hr' => ⟨_, hbody cdv A outer s H E hr' hgd, ?_⟩
  obtain ⟨F, pa, ss, pl, S0, A0, h⟩ := hsp
  have hss : ss.length = ps.length := (asOk_length A0).symm.trans hl
  rw [mkFn, if_pos hss] at h
  exact ⟨_, _, F, start_sat S0 A0 (by omega) hss, post_end h⟩
end

/-! ### targets -/
def SameOut (is : List Nat) (σ σ' : L2.St) : Prop := σ'.length = σ.length ∧ ∀ j : Nat, j ∉ is → σ'[j]? = σ[j]?
def rdTg (c : Cf) (is : List Nat) (g : Tg) : TG := fun v σ H Q => ∃ fr τ F d τ', Sat c fr τ σ H F ∧ Dt c.K F v d ∧ g d τ = some τ' ∧ ∀ σ', SameOut is σ σ' → Sat c fr τ' σ' H F → Q σ' H
def rdTgs (c : Cf) (is : List Nat) (gs : List Tg) : TGs := fun vs σ H Q => ∃ fr τ F ds τ', Sat c fr τ σ H F ∧ DtAll c.K F vs ds ∧ gAll gs ds τ = some τ' ∧ ∀ σ', SameOut is σ σ' → Sat c fr τ' σ' H F → Q σ' H
section
variable {X : Cx} {c : Cf} {W : WX} {e : Expr} {es : List Expr} {pos : Pos} {m : M Ev} {g : Tg} {gs : List Tg} {is js : List Nat}
theorem _root_.L2.PG.impN {t u : TG} (h : PG X e t) (k : ∀ v σ H Q, u v σ H Q → t v σ H Q) : PG X e u := ⟨fun pins s σ H v a Q I r q => h.run pins s σ H v a Q I r (k v σ H Q q)⟩
theorem _root_.L2.PGs.impN {t u : TGs} (h : PGs X es t) (k : ∀ v σ H Q, u v σ H Q → t v σ H Q) : PGs X es u := ⟨fun pins s σ H v a Q I r q => h.run pins s σ H v a Q I r (k v σ H Q q)⟩
theorem tg_n (i : Nat) {x : PySem.Str} (hN : X.N.Nodup) (hi : X.N[i]? = some x := by rfl) (hx : Loc X.env.scope x := by first | exact Or.inl rfl | exact Or.inr rfl) (hf : X.fn x = true ∨ X.env.scope.names.lookup x = some .local := by first | exact .inl rfl | exact .inr rfl) :
    PG X (.Name x pos) (rdTg c [i] (gN i)) := (pg_name hN hi hx hf).impN fun v σ H Q ⟨fr, τ, F, d, τ', S, hd, hg, q⟩ => by
  by_cases hl : i < τ.sl.length
  · simp only [gN, if_pos hl] at hg
    cases hg
    refine q _ ⟨by simp, fun j hj => ?_⟩ (S.set (s := .val d) hl hd fun z => nomatch z)
    exact List.getElem?_set_ne (fun z => hj (by simp [z]))
  · simp only [gN, if_neg hl] at hg
    cases hg
theorem tgs_nil : PGs X [] (rdTgs c [] []) := pgs_nil.impN fun vs σ H Q ⟨fr, τ, F, ds, τ', S, hd, hg, q⟩ => by
  cases ds with
  | nil =>
    cases hd
    cases hg
    exact ⟨rfl, q _ ⟨rfl, fun _ _ => rfl⟩ S⟩
  | cons d ds => cases hg
theorem tgs_cons (h1 : PG X e (rdTg c is g)) (h2 : PGs X es (rdTgs c js gs)) (hs : (assignEach (e :: es) X.env).map (·.2) = assign e X.env :: (assignEach es X.env).map (·.2) := by rfl) : PGs X (e :: es) (rdTgs c (is ++ js) (g :: gs)) :=
  (pgs_cons h1 h2 hs).impN fun vs σ H Q ⟨fr, τ, F, ds, τ', S, hd, hg, q⟩ => by
    cases hd with
    | nil => cases hg
    | @cons v vs d ds hd1 hd2 =>
      cases h : g d τ with
      | none => simp only [gAll, h] at hg; cases hg
      | some τ1 =>
        simp only [gAll, h] at hg
        refine ⟨v, vs, rfl, fr, τ, F, d, τ1, S, hd1, h, fun σ1 o1 S1 => ⟨fr, τ1, F, ds, τ', S1, hd2, hg, fun σ2 o2 S2 => q σ2 ⟨o2.1.trans o1.1, fun j hj => ?_⟩ S2⟩⟩
        rw [o2.2 j (fun z => hj (List.mem_append_right _ z)), o1.2 j (fun z => hj (List.mem_append_left _ z))]
theorem gAll_len : ∀ {gs : List Tg} {ds : List PyData} {s s' : N4.St}, gAll gs ds s = some s' → ds.length = gs.length
  | [], [], _, _, _ => rfl
  | [], _ :: _, _, _, h => by cases h
  | _ :: _, [], _, _, h => by cases h
  | g :: gs, d :: ds, s, s', h => by
    cases e : g d s with
    | none => simp only [gAll, e] at h; cases h
    | some s1 =>
      simp only [gAll, e] at h
      exact congrArg (· + 1) (gAll_len h)
theorem tg_t {k : Nat} (hc : X.calm = true) (hK : X.K = c.K) (h : PGs X es (rdTgs c is gs)) (hn : (assignEach es X.env).length = gs.length := by rfl) (hst : (assignEach es X.env).findIdx? (·.1) = none := by rfl) : PG X (.Tuple es k pos) (rdTg c is (gT gs)) :=
  (pg_tup hc h hn hst).impN fun v σ H Q ⟨fr, τ, F, d, τ', S, hd, hg, q⟩ => by
    cases d with
    | tuple ds =>
      obtain ⟨a, vs, rfl, h1, h2⟩ := Dt.vw S.sub hd
      refine ⟨a, vs, rfl, ?_, ?_, fr, τ, F, ds, τ', S, h2, hg, q⟩
      · rw [hK]
        exact same_seqT S.sub h1
      · exact (dtAll_length h2).trans (gAll_len hg)
    | _ => cases hg
theorem s_tgt (he : PE X e (rdE c W m)) {t : Expr} (hg : PG X t (rdTg c is g)) (hs : swapsWithSole [t] e pos.line X.env = pure false := by rfl) (hw : swappedStores [t] e X.env = pure none := by rfl)
    (h1 : (assignEach [t] X.env).map (·.2) = [assign t X.env] := by rfl) : PS X (.Assign [t] e pos) (rdS c W (sTgt g m)) := (ps_asg he hg hs hw h1).impN fun D σ H ⟨fr, τ, F, S, q⟩ => by
  refine (post_e (R := EvOk c) S q).mono fun v H1 ⟨e1, τ1, F1, g1, S1, r1, q1⟩ => ?_
  obtain ⟨d, τ2, F2, g2, S2, d2, q2⟩ := post_fz S1 r1 q1
  cases hgd : g d τ2 with
  | none => simp only [hgd] at q2; exact q2.elim
  | some τ3 =>
    simp only [hgd] at q2
    exact ⟨fr, τ2, F2, d, τ3, S2, d2, hgd, fun σ' _ S' => q2 σ' H1 F2 (Same.refl F2) S'⟩
end

/-! ### rows of values, new lists among them -/
section
variable {c : Cf} {W : WX} {fr : Fr} {τ : N4.St} {σ : L2.St} {H F : Hp}
/-- an object that is no table, no error's dict, no code -/
structure Pln (o : HO) : Prop where
  tbl : ∀ ps, o ≠ .tbl ps
  xd : ∀ fs, o ≠ .xd fs
  code : ∀ c q, o ≠ LamX.CodeO c q
  frz : ∀ ob u, o ≠ .frz ob u
theorem pln_lst (vs : List V) : Pln (.lst vs) := ⟨fun ps z => (nomatch z), fun fs z => (nomatch z), fun c q z => (by unfold LamX.CodeO at z; cases z), fun ob u z => (nomatch z)⟩
theorem ObOk.pln {K : PySem.W.Frag} {F : Hp} {b : Ob} {o : HO} (h : ObOk K F b o) : Pln o := by
  cases b with
  | dct kvs => obtain ⟨ks, e, r⟩ := h; subst e; exact ⟨fun ps z => (nomatch z), fun fs z => (nomatch z), fun c q z => (by unfold LamX.CodeO at z; cases z), fun ob u z => (nomatch z)⟩
  | st xs => obtain ⟨n, e, r⟩ := h; subst e; exact ⟨fun ps z => (nomatch z), fun fs z => (nomatch z), fun c q z => (by unfold LamX.CodeO at z; cases z), fun ob u z => (nomatch z)⟩
/-- what a new object at a is kept by -/
def Fr.resO (fr : Fr) (a : Addr) (oo : HO) : Fr := { fr with H0 := upd fr.H0 a oo }
abbrev Fr.res (fr : Fr) (a : Addr) (vs : List V) : Fr := fr.resO a (.lst vs)
theorem Sat.resO (S : Sat c fr τ σ H F) {a : Addr} {oo : HO} (po : Pln oo) (h1 : H a = some oo) (h3 : F a = none) (h4 : fr.H0 a = none) (h5 : ∀ i : Nat, IsOwn τ i → σ[i]? ≠ some (some (.ref a))) : Sat c (fr.resO a oo) τ σ H F := by
  have ap := S.apart h4
  refine ⟨S.sub, S.tabs, fun b o e q t => ?_, fun b e => ?_, fun b o e => ?_, S.base, fun i s e => ?_, S.dist, ?_, S.len, S.ntb.1, S.ntb.2.upd po.tbl⟩
  · by_cases hb : b = a
    · subst hb
      have e : upd fr.H0 b oo b = some o := e
      rw [upd_same] at e
      cases e
      exact h1
    · have e : upd fr.H0 a oo b = some o := e
      rw [upd_ne hb] at e
      exact S.keep b o e q t
  · by_cases hb : b = a
    · subst hb
      rw [h1]
      exact fun z => nomatch z
    · have e : upd fr.H0 a oo b ≠ none := e
      rw [upd_ne hb] at e
      exact S.there b e
  · by_cases hb : b = a
    · subst hb
      rw [h3] at e
      cases e
    · rcases S.nw b o e with z | z
      · exact .inl z
      · exact .inr (by show upd fr.H0 a oo b = none; rw [upd_ne hb]; exact z)
  · obtain ⟨v, e1, e2⟩ := S.slot i s e
    refine ⟨v, e1, ?_⟩
    cases s with
    | val d => exact e2
    | own xs =>
      obtain ⟨b, ws, rfl, q1, q2, q3, q4⟩ := e2
      exact ⟨b, ws, rfl, q1, q2, q3, by show upd fr.H0 a oo b = none; rw [upd_ne (fun z : b = a => h5 i (.lst e) (by rw [← z]; exact e1))]; exact q4⟩
    | obj ob =>
      obtain ⟨b, o, rfl, q1, q2, q3, q4⟩ := e2
      exact ⟨b, o, rfl, q1, q2, q3, by show upd fr.H0 a oo b = none; rw [upd_ne (fun z : b = a => h5 i (.ob e) (by rw [← z]; exact e1))]; exact q4⟩
    | pool => exact e2
    | raw =>
      obtain ⟨k1, k2, k3, k4, k5⟩ := e2
      exact ⟨k1, k2, k3, by show upd fr.H0 a oo c.gc = _; rw [upd_ne (ne_of_none k4 h4)]; exact k4, k5⟩
    | exc x =>
      obtain ⟨dd, y, k1, k2, k3, k4⟩ := e2
      exact ⟨dd, y, k1, k2, ⟨by show upd fr.H0 a oo dd = _; rw [upd_ne (ne_of_none k3.1 h4)]; exact k3.1, k3.2⟩, k4⟩
    | ro kvs =>
      obtain ⟨b, ob, ks, k1, k2, k3⟩ := e2
      exact ⟨b, ob, ks, k1, by show upd fr.H0 a oo b = _; rw [upd_ne (ne_of_none k2 h4)]; exact k2, k3⟩
  · have pk := S.pool
    cases hpl : τ.pl with
    | none => rw [hpl] at pk; exact pk
    | some pl =>
      obtain ⟨x, y, l⟩ := pl
      rw [hpl] at pk
      obtain ⟨p1, p2, q, q1, q2, q3, q4, q5, q6, q7⟩ := pk
      obtain ⟨n1, n2⟩ := ap _ _ q
      exact ⟨p1, p2, q, q1, q2, q3, q4, q5, by show upd fr.H0 a oo p1 ≠ none; rw [upd_ne (Ne.symm n1)]; exact q6, by show upd fr.H0 a oo p2 ≠ none; rw [upd_ne (Ne.symm n2)]; exact q7⟩
theorem Sat.res (S : Sat c fr τ σ H F) {a : Addr} {vs : List V} (h1 : H a = some (.lst vs)) (h3 : F a = none) (h4 : fr.H0 a = none) (h5 : ∀ i : Nat, IsOwn τ i → σ[i]? ≠ some (some (.ref a))) : Sat c (fr.res a vs) τ σ H F := S.resO (pln_lst vs) h1 h3 h4 h5
theorem Sat.poolH0 (S : Sat c fr τ σ H F) : ∀ pp pq, fr.pa = some (pp, pq) → fr.H0 pp ≠ none ∧ fr.H0 pq ≠ none := fun pp pq e => by
  have pk := S.pool
  cases hpl : τ.pl with
  | none =>
    rw [hpl] at pk
    have pk : fr.pa = none := pk
    rw [pk] at e
    cases e
  | some pl =>
    obtain ⟨x, y, l⟩ := pl
    rw [hpl] at pk
    obtain ⟨p1, p2, q, q1, q2, q3, q4, q5, q6, q7⟩ := pk
    rw [q] at e
    cases e
    exact ⟨q6, q7⟩
theorem Sat.unresO {a : Addr} {oo : HO} (po : Pln oo) (S : Sat c (fr.resO a oo) τ σ H F) (h4 : fr.H0 a = none) (hp : ∀ pp pq, fr.pa = some (pp, pq) → fr.H0 pp ≠ none ∧ fr.H0 pq ≠ none) : Sat c fr τ σ H F := by
  have up : ∀ b o, fr.H0 b = some o → upd fr.H0 a oo b = some o := fun b o e => by rw [upd_ne (ne_of_none e h4)]; exact e
  have dn : ∀ b, upd fr.H0 a oo b = none → fr.H0 b = none := fun b e => by
    by_cases hb : b = a
    · rw [hb]; exact h4
    · rw [upd_ne hb] at e; exact e
  have ne : ∀ b, fr.H0 b ≠ none → upd fr.H0 a oo b ≠ none := fun b e z => e (dn b z)
  refine ⟨S.sub, S.tabs, fun b o e q t => S.keep b o (up b o e) q t, fun b e => S.there b (ne b e), fun b o e => ?_, S.base, fun i s e => ?_, S.dist, ?_, S.len, S.ntb.1, fun b ps e => S.ntb.2 b ps (up b _ e)⟩
  · rcases S.nw b o e with z | z
    · exact .inl z
    · exact .inr (dn b z)
  · obtain ⟨v, e1, e2⟩ := S.slot i s e
    refine ⟨v, e1, ?_⟩
    cases s with
    | val d => exact e2
    | own xs =>
      obtain ⟨b, ws, rfl, q1, q2, q3, q4⟩ := e2
      exact ⟨b, ws, rfl, q1, q2, q3, dn b q4⟩
    | obj ob =>
      obtain ⟨b, o, rfl, q1, q2, q3, q4⟩ := e2
      exact ⟨b, o, rfl, q1, q2, q3, dn b q4⟩
    | pool => exact e2
    | raw =>
      obtain ⟨k1, k2, k3, k4, k5⟩ := e2
      have k4 : upd fr.H0 a oo c.gc = some (LamX.CodeO c.gc c.gq) := k4
      refine ⟨k1, k2, k3, ?_, k5⟩
      rw [upd_ne (fun z => by rw [z, upd_same] at k4; exact po.code _ _ (Option.some.inj k4))] at k4
      exact k4
    | exc x =>
      obtain ⟨dd, y, k1, k2, k3, k4⟩ := e2
      have n : dd ≠ a := fun z => by
        have k3 : upd fr.H0 a oo dd = some (.xd [(whatS, y)]) := k3.1
        rw [z, upd_same] at k3
        exact po.xd _ (Option.some.inj k3)
      exact ⟨dd, y, k1, k2, ⟨by have k3 : upd fr.H0 a oo dd = some (.xd [(whatS, y)]) := k3.1; rw [upd_ne n] at k3; exact k3, k3.2⟩, k4⟩
    | ro kvs =>
      obtain ⟨b, ob, ks, k1, k2, k3⟩ := e2
      have k2 : upd fr.H0 a oo b = some (.frz ob (.dK ks)) := k2
      rw [upd_ne (fun z => by rw [z, upd_same] at k2; exact po.frz _ _ (Option.some.inj k2))] at k2
      exact ⟨b, ob, ks, k1, k2, k3⟩
  · have pk := S.pool
    cases hpl : τ.pl with
    | none => rw [hpl] at pk; exact pk
    | some pl =>
      obtain ⟨x, y, l⟩ := pl
      rw [hpl] at pk
      obtain ⟨p1, p2, q, q1, q2, q3, q4, q5, _, _⟩ := pk
      obtain ⟨n1, n2⟩ := hp _ _ q
      exact ⟨p1, p2, q, q1, q2, q3, q4, q5, n1, n2⟩
theorem Sat.unres {a : Addr} {vs : List V} (S : Sat c (fr.res a vs) τ σ H F) (h4 : fr.H0 a = none) (hp : ∀ pp pq, fr.pa = some (pp, pq) → fr.H0 pp ≠ none ∧ fr.H0 pq ≠ none) : Sat c fr τ σ H F := Sat.unresO (pln_lst vs) S h4 hp
/-- what is reserved stands behind a reckoning -/
theorem Sat.heldO {a : Addr} {oo : HO} (po : Pln oo) (S : Sat c (fr.resO a oo) τ σ H F) (f0 : fr.F0 a = none) (hp : ∀ pp pq, fr.pa = some (pp, pq) → a ≠ pp ∧ a ≠ pq) : H a = some oo ∧ F a = none ∧ ∀ i : Nat, IsOwn τ i → σ[i]? ≠ some (some (.ref a)) := by
  refine ⟨S.keep a _ (by show upd fr.H0 a oo a = _; exact upd_same) hp po.tbl, ?_, fun i ho q => ?_⟩
  · cases z : F a with
    | none => rfl
    | some o =>
      rcases S.nw a o z with y | y
      · have y : fr.F0 a = some o := y
        rw [f0] at y
        cases y
      · have y : upd fr.H0 a oo a = none := y
        rw [upd_same] at y
        cases y
  · obtain ⟨b, ws, e1, e2, e4, e5⟩ := S.own1 ho
    rw [q] at e1
    cases e1
    have e5 : upd fr.H0 a oo a = none := e5
    rw [upd_same] at e5
    cases e5
theorem Sat.held {a : Addr} {vs : List V} (S : Sat c (fr.res a vs) τ σ H F) (f0 : fr.F0 a = none) (hp : ∀ pp pq, fr.pa = some (pp, pq) → a ≠ pp ∧ a ≠ pq) : H a = some (.lst vs) ∧ F a = none ∧ ∀ i : Nat, IsOwn τ i → σ[i]? ≠ some (some (.ref a)) := Sat.heldO (pln_lst vs) S f0 hp
inductive RowOk (c : Cf) (fr : Fr) (σ : L2.St) (τ : N4.St) (H F : Hp) : List Addr → List V → List Ev → Prop
  | nil : RowOk c fr σ τ H F [] [] []
  | val {as : List Addr} {v : V} {vs : List V} {d : PyData} {es : List Ev} : Dt c.K F v d → RowOk c fr σ τ H F as vs es → RowOk c fr σ τ H F as (v :: vs) (.val d :: es)
  | fresh {as : List Addr} {a : Addr} {ws : List V} {vs : List V} {xs : List PyData} {es : List Ev} : H a = some (.lst ws) → DtAll c.K F ws xs → F a = none → fr.H0 a = none → (∀ i : Nat, IsOwn τ i → σ[i]? ≠ some (some (.ref a))) → a ∉ as →
      RowOk c fr σ τ H F as vs es → RowOk c fr σ τ H F (a :: as) (.ref a :: vs) (.fresh xs :: es)
  | obj {as : List Addr} {a : Addr} {o : HO} {vs : List V} {b : Ob} {es : List Ev} : H a = some o → ObOk c.K F b o → F a = none → fr.H0 a = none → (∀ i : Nat, IsOwn τ i → σ[i]? ≠ some (some (.ref a))) → a ∉ as →
      RowOk c fr σ τ H F as vs es → RowOk c fr σ τ H F (a :: as) (.ref a :: vs) (.obj b :: es)
def RowR (c : Cf) : Fr → L2.St → N4.St → Hp → Hp → List V → List Ev → Prop := fun fr σ τ H F vs es => ∃ as, RowOk c fr σ τ H F as vs es
abbrev rdR (c : Cf) (W : WX) (m : M (List Ev)) : TA := rdM c W (RowR c) m
theorem row_unres {a : Addr} {oo : HO} {as : List Addr} {vs : List V} {xs : List Ev} (h4 : fr.H0 a = none) (r : RowOk c (fr.resO a oo) σ τ H F as vs xs) : RowOk c fr σ τ H F as vs xs ∧ a ∉ as := by
  have dn : ∀ b, upd fr.H0 a oo b = none → fr.H0 b = none ∧ b ≠ a := fun b e => by
    by_cases hb : b = a
    · rw [hb, upd_same] at e
      cases e
    · rw [upd_ne hb] at e
      exact ⟨e, hb⟩
  induction r with
  | nil => exact ⟨.nil, fun h => nomatch h⟩
  | val h _ ih => exact ⟨.val h ih.1, ih.2⟩
  | fresh h1 h2 h3 h4' h5 h6 _ ih =>
    obtain ⟨e1, e2⟩ := dn _ h4'
    refine ⟨.fresh h1 h2 h3 e1 h5 h6 ih.1, fun hm => ?_⟩
    rcases List.mem_cons.mp hm with z | hm
    · exact e2 z.symm
    · exact ih.2 hm
  | obj h1 h2 h3 h4' h5 h6 _ ih =>
    obtain ⟨e1, e2⟩ := dn _ h4'
    refine ⟨.obj h1 h2 h3 e1 h5 h6 ih.1, fun hm => ?_⟩
    rcases List.mem_cons.mp hm with z | hm
    · exact e2 z.symm
    · exact ih.2 hm
theorem ErrW.unresO {a : Addr} {oo : HO} (po : Pln oo) {cl : String} {x : PyData} (h4 : fr.H0 a = none) (hp : ∀ pp pq, fr.pa = some (pp, pq) → fr.H0 pp ≠ none ∧ fr.H0 pq ≠ none) (h : ErrW c W fr F σ cl x τ) : ErrW c W (fr.resO a oo) F σ cl x τ :=
  fun dx H F' y g S e d => h dx H F' y g (Sat.unresO po S h4 hp) e d
theorem ErrW.unres {a : Addr} {us : List V} {cl : String} {x : PyData} (h4 : fr.H0 a = none) (hp : ∀ pp pq, fr.pa = some (pp, pq) → fr.H0 pp ≠ none ∧ fr.H0 pq ≠ none) (h : ErrW c W fr F σ cl x τ) : ErrW c W (fr.res a us) F σ cl x τ :=
  fun dx H F' y g S e d => h dx H F' y g (S.unres h4 hp) e d
theorem own1_cases (e : Ev) : (∃ xs, e = .fresh xs) ∨ (∃ b, e = .obj b) ∨ own1 e = (mBind (freeze e) fun d => mRet (.val d)) := by
  cases e with
  | fresh xs => exact .inl ⟨xs, rfl⟩
  | obj b => exact .inr (.inl ⟨b, rfl⟩)
  | val d => exact .inr (.inr rfl)
  | slot i => exact .inr (.inr rfl)
  | pool => exact .inr (.inr rfl)
  | junk => exact .inr (.inr rfl)
theorem row_len {as : List Addr} {vs : List V} {es : List Ev} (r : RowOk c fr σ τ H F as vs es) : vs.length = es.length := by
  induction r with
  | nil => rfl
  | val _ _ ih => exact congrArg (· + 1) ih
  | fresh _ _ _ _ _ _ _ ih => exact congrArg (· + 1) ih
  | obj _ _ _ _ _ _ _ ih => exact congrArg (· + 1) ih
section
variable {X : Cx} {e : Expr} {es : List Expr} {ma : M Ev} {ms : List (M Ev)}
theorem r_nil : PA X [] (rdR c W (prs [])) := pa_nil.impN fun σ H Q ⟨fr, τ, F, S, q⟩ => post_ret S q ⟨[], RowOk.nil⟩
/-- a reckoning beside a reserved list -/
theorem post_res {α β γ δ : Type} {R : Fr → L2.St → N4.St → Hp → Hp → β → α → Prop} {R' : Fr → L2.St → N4.St → Hp → Hp → δ → γ → Prop} {m : M α} {k : α → M γ} {Q : δ → Hp → Prop} {a : Addr} {oo : HO} (po : Pln oo) (S0 : Sat c fr τ σ H F) (S : Sat c (fr.resO a oo) τ σ H F) (h4 : fr.H0 a = none) (h : PostM c W R' fr F σ Q (mBind m k τ)) :
    rdM c W R m σ H (fun (v : β) H1 => ∃ x τ1 F1, Same F F1 ∧ Sat c (fr.resO a oo) τ1 σ H1 F1 ∧ R (fr.resO a oo) σ τ1 H1 F1 v x ∧ PostM c W R' fr F1 σ Q (k x τ1)) := by
  refine ⟨fr.resO a oo, τ, F, S, ?_⟩
  cases e : m τ with
  | ok x t =>
    simp only [mBind, e] at h
    exact fun v H F' s S r => ⟨x, t, F', s, S, r, h.grow s⟩
  | err cl x t =>
    simp only [mBind, e] at h
    exact fun σ' => ErrW.unresO po h4 S0.poolH0 (h σ')
  | bad =>
    simp only [mBind, e] at h
    exact h
theorem r_cons (he : PE X e (rdE c W ma)) (hr : PA X es (rdR c W (prs ms))) (hs : starEach (e :: es) X.env = (false, eval e X.env) :: starEach es X.env := by rfl) : PA X (e :: es) (rdR c W (prs (ma :: ms))) :=
  (pa_cons he hr hs).impN fun σ H Q ⟨fr, τ, F, S, q⟩ => by
    refine (post_bind (R := EvOk c) S q).mono fun v H1 ⟨e1, τ1, F1, g1, S1, r1, q1⟩ => ?_
    rcases own1_cases e1 with ⟨xs, rfl⟩ | ⟨b, rfl⟩ | ho
    · obtain ⟨a, ws, rfl, h1, h2, h3, h4, h5⟩ := r1
      have f0 : fr.F0 a = none := by
        cases z : fr.F0 a with
        | none => rfl
        | some o =>
          have := S1.base a o z
          rw [h3] at this
          cases this
      have q2 : PostM c W (RowR c) fr F1 σ Q (mBind (prs ms) (fun xs' => mRet (.fresh xs :: xs')) τ1) := q1
      refine (post_res (R := RowR c) (pln_lst ws) S1 (S1.res h1 h3 h4 h5) h4 q2).mono fun vs H3 ⟨ys, τ3, F3, g3, S3, ⟨as, r3⟩, q3⟩ => ?_
      obtain ⟨k1, k2, k3⟩ := S3.held f0 (S1.apart h4)
      obtain ⟨r4, n4⟩ := row_unres h4 r3
      exact post_ret (S3.unres h4 S1.poolH0) q3 ⟨_, .fresh k1 (Dt.growAll g3 _ _ h2) k2 h4 k3 n4 r4⟩
    · obtain ⟨a, o, rfl, h1, h2, h3, h4, h5⟩ := r1
      have f0 : fr.F0 a = none := by
        cases z : fr.F0 a with
        | none => rfl
        | some o =>
          have := S1.base a o z
          rw [h3] at this
          cases this
      have q2 : PostM c W (RowR c) fr F1 σ Q (mBind (prs ms) (fun xs' => mRet (.obj b :: xs')) τ1) := q1
      refine (post_res (R := RowR c) h2.pln S1 (S1.resO h2.pln h1 h3 h4 h5) h4 q2).mono fun vs H3 ⟨ys, τ3, F3, g3, S3, ⟨as, r3⟩, q3⟩ => ?_
      obtain ⟨k1, k2, k3⟩ := S3.heldO h2.pln f0 (S1.apart h4)
      obtain ⟨r4, n4⟩ := row_unres h4 r3
      exact post_ret (Sat.unresO h2.pln S3 h4 S1.poolH0) q3 ⟨_, .obj k1 (h2.grow g3) k2 h4 k3 n4 r4⟩
    · rw [ho] at q1
      have q2 : PostM c W (RowR c) fr F1 σ Q (mBind (freeze e1) (fun d => mBind (prs ms) fun xs => mRet (.val d :: xs)) τ1) := by
        cases hf : freeze e1 τ1 with
        | ok d t => simpa only [mBind, mRet, hf] using q1
        | err _ _ _ => simpa only [mBind, mRet, hf] using q1
        | bad => simpa only [mBind, mRet, hf] using q1
      obtain ⟨d, τ2, F2, g2, S2, r2, q3⟩ := post_freeze S1 r1 q2
      refine (post_bind (R := RowR c) S2 q3).mono fun vs H3 ⟨ys, τ3, F3, g3, S3, ⟨as, r3⟩, q4⟩ => ?_
      exact post_ret S3 q4 ⟨as, .val (Dt.grow g3 _ _ r2) r3⟩
end
/-- the slots that a row of values goes to -/
def setMany : L2.St → List Nat → List V → L2.St
  | σ, i :: is, v :: vs => setMany (σ.set i (some v)) is vs
  | σ, _, _ => σ
/-- a row of values stays one where another new object is stored -/
theorem row_put {i : Nat} {a : Addr} {s : Sl} {as : List Addr} {vs : List V} {es : List Ev} (S : Sat c fr τ σ H F) (hl : i < τ.sl.length) (h6 : a ∉ as) (r : RowOk c fr σ τ H F as vs es) : RowOk c fr (σ.set i (some (.ref a))) (setSl τ i (some s)) H F as vs es := by
  have hs : i < σ.length := Nat.lt_of_lt_of_le hl S.len
  have key : ∀ a2 : Addr, a ≠ a2 → (∀ j : Nat, IsOwn τ j → σ[j]? ≠ some (some (.ref a2))) → ∀ j : Nat, IsOwn (setSl τ i (some s)) j → (σ.set i (some (.ref a)))[j]? ≠ some (some (.ref a2)) := fun a2 n k5 j ⟨y, ho, hy⟩ z => by
    by_cases hj : i = j
    · subst hj
      rw [List.getElem?_set_self hs] at z
      cases z
      exact n rfl
    · rw [setSl_ne hj] at ho
      rw [List.getElem?_set_ne hj] at z
      exact k5 j ⟨y, ho, hy⟩ z
  induction r with
  | nil => exact .nil
  | val h _ ih => exact .val h (ih h6)
  | fresh k1 k2 k3 k4 k5 k6 _ ih => exact .fresh k1 k2 k3 k4 (key _ (fun z => h6 (by rw [z]; exact List.mem_cons_self)) k5) k6 (ih fun z => h6 (List.mem_cons_of_mem _ z))
  | obj k1 k2 k3 k4 k5 k6 _ ih => exact .obj k1 k2 k3 k4 (key _ (fun z => h6 (by rw [z]; exact List.mem_cons_self)) k5) k6 (ih fun z => h6 (List.mem_cons_of_mem _ z))
theorem post_puts {D : Ends} : ∀ {is : List Nat} {vs : List V} {es : List Ev} {τ : N4.St} {σ : L2.St} {as : List Addr}, Sat c fr τ σ H F → RowOk c fr σ τ H F as vs es → PostS c W fr F D (putEvs is es τ) → D.nx (setMany σ is vs) H := by
  intro is
  induction is with
  | nil =>
    intro vs es τ σ as S r q
    cases es with
    | nil =>
      cases r
      exact q σ H F (Same.refl F) S
    | cons e es => exact q.elim
  | cons i is ih =>
    intro vs es τ σ as S r q
    cases r with
    | nil => exact q.elim
    | @val as v vs d es hd hr =>
      by_cases hl : i < τ.sl.length
      · simp only [putEvs, sSeq, putEv, if_pos hl] at q
        have S' := S.set (s := .val d) hl hd fun z => nomatch z
        refine ih (as := as) S' ?_ q
        clear ih q
        induction hr with
        | nil => exact .nil
        | val h _ ih => exact .val h ih
        | fresh h1 h2 h3 h4 h5 h6 _ ih =>
          refine .fresh h1 h2 h3 h4 (fun j ⟨y, ho, hy⟩ z => ?_) h6 ih
          by_cases hj : i = j
          · subst hj
            rw [setSl_self hl] at ho
            cases ho
            cases hy
          · rw [setSl_ne hj] at ho
            rw [List.getElem?_set_ne hj] at z
            exact h5 j ⟨y, ho, hy⟩ z
        | obj h1 h2 h3 h4 h5 h6 _ ih =>
          refine .obj h1 h2 h3 h4 (fun j ⟨y, ho, hy⟩ z => ?_) h6 ih
          by_cases hj : i = j
          · subst hj
            rw [setSl_self hl] at ho
            cases ho
            cases hy
          · rw [setSl_ne hj] at ho
            rw [List.getElem?_set_ne hj] at z
            exact h5 j ⟨y, ho, hy⟩ z
      · simp only [putEvs, sSeq, putEv, if_neg hl] at q
        exact q.elim
    | @fresh as a ws vs xs es h1 h2 h3 h4 h5 h6 hr =>
      by_cases hl : i < τ.sl.length
      · simp only [putEvs, sSeq, putEv, if_pos hl] at q
        have S' := S.set (v := .ref a) (s := .own xs) hl ⟨a, ws, rfl, h1, h2, h3, h4⟩ fun _ b e j _ ho => by
          cases e
          exact h5 j ho
        exact ih (as := as) S' (row_put S hl h6 hr) q
      · simp only [putEvs, sSeq, putEv, if_neg hl] at q
        exact q.elim
    | @obj as a o vs b es h1 h2 h3 h4 h5 h6 hr =>
      by_cases hl : i < τ.sl.length
      · simp only [putEvs, sSeq, putEv, if_pos hl] at q
        have S' := S.set (v := .ref a) (s := .obj b) hl ⟨a, o, rfl, h1, h2, h3, h4⟩ fun _ b e j _ ho => by
          cases e
          exact h5 j ho
        exact ih (as := as) S' (row_put S hl h6 hr) q
      · simp only [putEvs, sSeq, putEv, if_neg hl] at q
        exact q.elim
section
variable {X : Cx} {a b : Expr} {ma mb : M Ev} {pos : Pos}
theorem s_par (i j : Nat) {x y : PySem.Str} {px py pt pt2 : Pos} {kt k2 : Nat} (ha : PA X [a, b] (rdR c W (prs [ma, mb]))) (hc : X.calm = true) (hN : X.N.Nodup) (hi : X.N[i]? = some x := by rfl) (hj : X.N[j]? = some y := by rfl) (hij : i ≠ j := by decide)
    (hx : X.env.scope.names.lookup x = some .local := by rfl) (hy : X.env.scope.names.lookup y = some .local := by rfl)
    (hw : swappedStores [.Tuple [.Name x px, .Name y py] kt pt] (.Tuple [a, b] k2 pt2) X.env = pure (some [x, y]) := by rfl)
    (hs : swapsWithSole [.Tuple [.Name x px, .Name y py] kt pt] (.Tuple [a, b] k2 pt2) pos.line X.env = pure false := by rfl) :
    PS X (.Assign [.Tuple [.Name x px, .Name y py] kt pt] (.Tuple [a, b] k2 pt2) pos) (rdS c W (sPars [i, j] [ma, mb])) := (ps_par hc hN hi hj hij hx hy ha hw hs).impN fun D σ H ⟨fr, τ, F, S, q⟩ => by
  refine (post_e (R := RowR c) S q).mono fun vs H1 ⟨es, τ1, F1, g1, S1, ⟨as, r1⟩, q1⟩ => ?_
  by_cases hl : es.length = 2
  · have q1 : PostS c W fr F1 D ((if es.length = 2 then putEvs [i, j] es else fun _ => .bad) τ1) := q1
    rw [if_pos hl] at q1
    have z := post_puts (D := D) S1 r1 q1
    have l2 := (row_len r1).trans hl
    match vs, l2, z with
    | [v, w], _, z => exact ⟨v, w, rfl, z⟩
  · have q1 : PostS c W fr F1 D ((if es.length = 2 then putEvs [i, j] es else fun _ => .bad) τ1) := q1
    rw [if_neg hl] at q1
    exact q1.elim
end
end
end N4
end
section
set_option Elab.async false
set_option linter.all false
set_option autoImplicit false
set_option maxRecDepth 100000
set_option maxHeartbeats 1000000
/-! Loops, comprehensions, lists changed. -/
namespace N4
open PySem PySem.Spec PyProof.Rows L2

/-! ### what is walked -/
def ItOk (c : Cf) (F : Hp) (J : It) (ds : List PyData) : Prop := ∀ (fr : Fr) (τ : N4.St) (σ : L2.St) (H' F' : Hp) (i : Nat), Same F F' → Sat c fr τ σ H' F' →
  (∀ d, ds[i]? = some d → J.go i H' ∧ ∀ x H2, J.yld i H' x H2 → ∃ F2, Same F' F2 ∧ Sat c fr τ σ H2 F2 ∧ Dt c.K F2 x d) ∧ (ds.length ≤ i → J.stop i H')
def ItR (c : Cf) : Fr → L2.St → N4.St → Hp → Hp → It → List PyData → Prop := fun _ _ _ _ F J ds => ItOk c F J ds
abbrev rdI (c : Cf) (W : WX) (m : M (List PyData)) : TI := rdM c W (ItR c) m
section
variable {X : Cx} {c : Cf} {W : WX} {e a b tg : Expr} {pos p : Pos} {m ma mb : M Ev}
theorem _root_.L2.PI.impN {t u : TI} (h : PI X tg e t) (k : ∀ σ H Q, u σ H Q → t σ H Q) : PI X tg e u := ⟨fun pins s σ H R I q => h.run pins s σ H R I (k σ H R q)⟩
/-- a list or a tuple is walked -/
theorem pi_seqN {te : TE} (he : PE X e te) : PI X tg e (fun σ H R => te σ H fun x H1 => ∃ a, x = .ref a ∧ (((∃ xs, SqL X.K H1 a xs) ∧ R (Itl X.K a) H1) ∨ ((∃ xs, SqT X.K H1 a xs) ∧ R (Itt X.K a) H1))) := by
  refine ⟨fun pins s σ H R I h => thn (he.run pins s σ H _ I h) fun v s1 ⟨x, H1, I1, r1, a, ex, q1⟩ => ?_⟩
  subst ex
  cases r1
  rcases q1 with ⟨⟨xs, hx⟩, q⟩ | ⟨⟨xs, hx⟩, q⟩
  · obtain ⟨its, rv, pl, _⟩ := I1.list hx
    refine wpAny_pyIter_list pl.isList ⟨s1.heap.objs.size, [s1.heap.objs.size], _, _, H1, rfl, I1.kept (t' := s1.toks) fun b o z => Heap.get?_push_of_some _ z, turn_list a _, ⟨_, Heap.get?_push_size _ rfl, rfl, rfl⟩, fun b hb => ?_, q⟩
    rw [List.mem_singleton.mp hb]
    exact I1.fpOk (Nat.le_refl _) (I1.hok.fresh (Nat.le_refl _))
  · obtain ⟨its, rv, pl, _⟩ := I1.tuple hx
    refine wpAny_pyIter_tuple (show s1.heap.IsTuple a its.toArray from pl) ⟨s1.heap.objs.size, [s1.heap.objs.size], _, _, H1, rfl, I1.kept (t' := s1.toks) fun b o z => Heap.get?_push_of_some _ z, turn_tuple a _, ⟨_, Heap.get?_push_size _ rfl, rfl, rfl⟩, fun b hb => ?_, q⟩
    rw [List.mem_singleton.mp hb]
    exact I1.fpOk (Nat.le_refl _) (I1.hok.fresh (Nat.le_refl _))
theorem itl_ok {F : Hp} {l : Addr} {vs : List V} {ds : List PyData} (h1 : F l = some (.lst vs)) (h2 : DtAll c.K F vs ds) : ItOk c F (Itl c.K l) ds := fun fr τ σ H' F' i g S => by
  have hl := dtAll_length h2
  have hs : SqL c.K H' l vs := SqL.of (S.sub _ _ (g _ _ h1))
  refine ⟨fun d hd => ?_, fun hi => ⟨vs, hs, by omega⟩⟩
  obtain ⟨v, e1, e2⟩ := dtAll_get (Dt.growAll g _ _ h2) hd
  refine ⟨⟨vs, v, hs, e1⟩, fun x H2 ⟨y1, y2⟩ => ?_⟩
  subst y1
  have z := y2 vs hs
  rw [e1] at z
  cases z
  exact ⟨F', Same.refl F', S, e2⟩
theorem itt_ok {F : Hp} {l : Addr} {vs : List V} {ds : List PyData} (h1 : SqT c.K F l vs) (h2 : DtAll c.K F vs ds) : ItOk c F (Itt c.K l) ds := fun fr τ σ H' F' i g S => by
  have hl := dtAll_length h2
  have hs : SqT c.K H' l vs := same_seqT (g.trans S.sub) h1
  refine ⟨fun d hd => ?_, fun hi => ⟨vs, hs, by omega⟩⟩
  obtain ⟨v, e1, e2⟩ := dtAll_get (Dt.growAll g _ _ h2) hd
  refine ⟨⟨vs, v, hs, e1⟩, fun x H2 ⟨y1, y2⟩ => ?_⟩
  subst y1
  have z := y2 vs hs
  rw [e1] at z
  cases z
  exact ⟨F', Same.refl F', S, e2⟩
theorem i_seq (he : PE X e (rdE c W m)) (hK : X.K = c.K) : PI X tg e (rdI c W (iSeq m)) := (pi_seqN he).impN fun σ H Q ⟨fr, τ, F, S, q⟩ => by
  refine (post_bind (R := EvOk c) S q).mono fun v H1 ⟨e1, τ1, F1, g1, S1, r1, q1⟩ => ?_
  obtain ⟨d, τ2, F2, g2, S2, d2, q2⟩ := post_freeze S1 r1 q1
  rw [hK]
  cases d with
  | list ds =>
    cases d2 with
    | @lst a vs _ h1 h2 => exact ⟨a, rfl, .inl ⟨⟨vs, SqL.of (S2.sub _ _ h1)⟩, post_ret S2 q2 (itl_ok h1 h2)⟩⟩
  | tuple ds =>
    cases d2 with
    | @tup a vs _ h1 h2 => exact ⟨a, rfl, .inr ⟨⟨vs, same_seqT S2.sub h1⟩, post_ret S2 q2 (itt_ok h1 h2)⟩⟩
  | _ => exact q2.elim
theorem intsN_get : ∀ (n : Nat) (lo : Int) (i : Nat) (d : PyData), (intsN lo n)[i]? = some d → i < n ∧ d = .int (lo + i)
  | 0, _, _, _, h => by simp [intsN] at h
  | n + 1, lo, 0, d, h => by
    simp [intsN] at h
    exact ⟨Nat.succ_pos n, by rw [← h]; simp⟩
  | n + 1, lo, i + 1, d, h => by
    obtain ⟨h1, h2⟩ := intsN_get n (lo + 1) i d (by simpa [intsN] using h)
    refine ⟨by omega, ?_⟩
    rw [h2]
    congr 1
    omega
theorem intsN_len : ∀ (n : Nat) (lo : Int), (intsN lo n).length = n
  | 0, _ => rfl
  | n + 1, lo => congrArg (· + 1) (intsN_len n (lo + 1))
theorem itr_ok {F : Hp} {lo : Int} {n : Nat} : ItOk c F (Itr lo n) (intsN lo n) := fun fr τ σ H' F' i g S => by
  refine ⟨fun d hd => ?_, fun hi => by rw [intsN_len] at hi; exact hi⟩
  obtain ⟨h1, h2⟩ := intsN_get n lo i d hd
  refine ⟨h1, fun x H2 ⟨y1, y2⟩ => ?_⟩
  subst y1 y2 h2
  exact ⟨F', Same.refl F', S, .int _⟩
theorem bound_eq : boundN = 2 ^ 62 := by decide
theorem i_rng1 {ms : List (M Ev)} (ha : PA X [a] (rdV c W (evs ms))) (hm : X.mg "range" = none) (hg : Gl X "range" := by rfl) (hs : starEach [a] X.env = [(false, eval a X.env)] := by rfl) : PI X tg (.Call (.Name "range" p) [a] [] pos) (rdI c W (iRng1 ms)) :=
  (pi_range1 hg hm ha hs).impN fun σ H Q ⟨fr, τ, F, S, q⟩ => by
    refine (post_bind (R := EsOk c) S q).mono fun vs H1 ⟨es, τ1, F1, g1, S1, r1, q1⟩ => ?_
    have key : ∀ (es : List Ev) (j : Int), es = [.val (.int j)] → EsOk c fr σ τ1 H1 F1 vs es → vs = [.int j] := fun es j e r => by
      cases r with
      | nil => cases e
      | @cons v vs e1 es _ h r =>
        injection e with a1 a2
        subst a2
        rw [a1] at h
        cases h
        cases r
        rfl
    split at q1
    · rename_i j
      have ev := key _ j rfl r1
      by_cases hb : -boundN ≤ j ∧ j < boundN
      · rw [if_pos hb] at q1
        rw [bound_eq] at hb
        exact ⟨j, ev, hb.1, hb.2, post_ret S1 q1 itr_ok⟩
      · rw [if_neg hb] at q1
        exact q1.elim
    · exact q1.elim
theorem i_rng2 {ms : List (M Ev)} (ha : PA X [a, b] (rdV c W (evs ms))) (hm : X.mg "range" = none) (hg : Gl X "range" := by rfl) (hs : starEach [a, b] X.env = [(false, eval a X.env), (false, eval b X.env)] := by rfl) (hs2 : starEach [b] X.env = [(false, eval b X.env)] := by rfl) :
    PI X tg (.Call (.Name "range" p) [a, b] [] pos) (rdI c W (iRng2 ms)) :=
  (pi_range2 hg hm ha hs hs2).impN fun σ H Q ⟨fr, τ, F, S, q⟩ => by
    refine (post_bind (R := EsOk c) S q).mono fun vs H1 ⟨es, τ1, F1, g1, S1, r1, q1⟩ => ?_
    have key : ∀ (es : List Ev) (i j : Int), es = [.val (.int i), .val (.int j)] → EsOk c fr σ τ1 H1 F1 vs es → vs = [.int i, .int j] := fun es i j e r => by
      cases r with
      | nil => cases e
      | @cons v vs e1 es _ h r =>
        injection e with a1 a2
        subst a2
        rw [a1] at h
        cases h
        cases r with
        | @cons w ws e2 es _ h2 r2 =>
          cases h2
          cases r2
          rfl
    split at q1
    · rename_i i j
      have ev := key _ i j rfl r1
      by_cases hb : -boundN ≤ i ∧ i < boundN ∧ -boundN ≤ j ∧ j < boundN
      · rw [if_pos hb] at q1
        rw [bound_eq] at hb
        exact ⟨i, j, ev, hb, post_ret S1 q1 itr_ok⟩
      · rw [if_neg hb] at q1
        exact q1.elim
    · exact q1.elim
end

/-! ### loops -/
section
variable {X : Cx} {c : Cf} {W : WX} {tg it e : Expr} {body : List Stmt} {pos : Pos} {mi : M (List PyData)} {g : Tg} {is : List Nat} {b : SM} {t : M Bool}
theorem s_for (hp : PassesOwn (model X.prog X.w) X.A X.env X.xe) (hc : X.calm = true) (hi : PI X tg it (rdI c W mi)) (hg : PG X tg (rdTg c is g)) (hb : PSs X body (rdS c W b)) (hs : ∀ x, foldedSetIterable it X.env x = pure x := by intro _; rfl) :
    PS X (.For tg it body [] pos) (rdS c W (sFor mi g b)) := (ps_for hp hc hi hg hb hs).impN fun D σ H ⟨fr, τ, F, S, q⟩ => by
  refine (post_e (R := ItR c) S q).mono fun J H1 ⟨ds, τ1, F1, g1, S1, j1, q1⟩ => ?_
  refine ⟨fun i m σ' H' => m = ds.length - i ∧ i ≤ ds.length ∧ ∃ τ' F', Same F1 F' ∧ Sat c fr τ' σ' H' F' ∧ PostS c W fr F' D (loop g b (ds.drop i) τ'), ⟨ds.length, by simp, Nat.zero_le _, τ1, F1, Same.refl F1, S1, q1⟩, ?_⟩
  rintro i m σ' H' ⟨rfl, hi, τ', F', g', S', q'⟩
  obtain ⟨k1, k2⟩ := j1 fr τ' σ' H' F' i g' S'
  by_cases hlt : i < ds.length
  · have hd : ds[i]? = some ds[i] := List.getElem?_eq_getElem hlt
    obtain ⟨go, yl⟩ := k1 _ hd
    refine .inr ⟨go, fun σ2 H2 => ∃ τ2 F2, Same F1 F2 ∧ Sat c fr τ2 σ2 H2 F2 ∧ PostS c W fr F2 D (loop g b (ds.drop (i + 1)) τ2), fun σ2 H2 z => ⟨ds.length - (i + 1), by omega, rfl, hlt, z⟩, fun x H2 y => ?_⟩
    obtain ⟨F2, g2, S2, dx⟩ := yl x H2 y
    rw [List.drop_eq_getElem_cons hlt] at q'
    have q2 := q'.grow g2
    cases hgd : g ds[i] τ' with
    | none => simp only [loop, hgd] at q2; exact q2.elim
    | some τ2 =>
      simp only [loop, hgd] at q2
      refine ⟨fr, τ', F2, _, τ2, S2, dx, hgd, fun σ2 _ S3 => ⟨fr, τ2, F2, S3, ?_⟩⟩
      cases hbd : b τ2 with
      | nx t =>
        simp only [hbd] at q2
        exact fun σ3 H3 F3 g3 S4 => ⟨t, F3, (g'.trans g2).trans g3, S4, q2.grow g3⟩
      | cnt t =>
        simp only [hbd] at q2
        exact fun σ3 H3 F3 g3 S4 => ⟨t, F3, (g'.trans g2).trans g3, S4, q2.grow g3⟩
      | brk t => simp only [hbd] at q2; exact q2
      | ret v t => simp only [hbd] at q2; exact q2
      | err cl x t => simp only [hbd] at q2; exact q2
      | bad => simp only [hbd] at q2; exact q2
  · have e : ds.drop i = [] := List.drop_eq_nil_of_le (by omega)
    rw [e] at q'
    exact .inl ⟨k2 (by omega), q' σ' H' F' (Same.refl F') S'⟩
theorem s_while (hp : PassesOwn (model X.prog X.w) X.A X.env X.xe) (hc : PT X e (rdT c W t)) (hb : PSs X body (rdS c W b)) : PS X (.While e body [] pos) (rdS c W (sWhile t b)) := (ps_while hp hc hb).impN fun D σ H ⟨fr, τ, F, S, q⟩ => by
  refine ⟨fun m σ' H' => ∃ τ' F', Same F F' ∧ Sat c fr τ' σ' H' F' ∧ PostS c W fr F' D (whileN t b m τ'), ⟨fuelN, τ, F, Same.refl F, S, q⟩, ?_⟩
  rintro m σ' H' ⟨τ', F', g', S', q'⟩
  cases m with
  | zero => exact q'.elim
  | succ n =>
    refine ⟨fr, τ', F', S', ?_⟩
    cases ht : t τ' with
    | ok k τ2 =>
      cases k with
      | true =>
        simp only [whileN, ht] at q'
        intro v H2 F2 g2 S2 hv
        have hv : v = true := hv
        subst hv
        rw [if_pos rfl]
        have q2 := q'.grow g2
        refine ⟨fun σ3 H3 => ∃ τ3 F3, Same F F3 ∧ Sat c fr τ3 σ3 H3 F3 ∧ PostS c W fr F3 D (whileN t b n τ3), fun σ3 H3 z => ⟨n, Nat.lt_succ_self n, z⟩, fr, τ2, F2, S2, ?_⟩
        cases hbd : b τ2 with
        | nx t =>
          simp only [hbd] at q2
          exact fun σ3 H3 F3 g3 S4 => ⟨t, F3, (g'.trans g2).trans g3, S4, q2.grow g3⟩
        | cnt t =>
          simp only [hbd] at q2
          exact fun σ3 H3 F3 g3 S4 => ⟨t, F3, (g'.trans g2).trans g3, S4, q2.grow g3⟩
        | brk t => simp only [hbd] at q2; exact q2
        | ret v t => simp only [hbd] at q2; exact q2
        | err cl x t => simp only [hbd] at q2; exact q2
        | bad => simp only [hbd] at q2; exact q2
      | false =>
        simp only [whileN, ht] at q'
        intro v H2 F2 g2 S2 hv
        have hv : v = false := hv
        subst hv
        rw [if_neg Bool.false_ne_true]
        exact q' σ' H2 F2 g2 S2
    | err cl x τ2 =>
      simp only [whileN, ht] at q'
      exact q'
    | bad =>
      simp only [whileN, ht] at q'
      exact q'
end

/-! ### lists of one's own, changed -/
section
variable {X : Cx} {c : Cf} {W : WX} {e a : Expr} {x : PySem.Str} {pos p cpos apos : Pos} {m ma : M Ev}
theorem onOwn_some {D : Ends} {fr : Fr} {F : Hp} {i : Nat} {k : List PyData → SM} {τ : N4.St} (q : PostS c W fr F D (onOwn i k τ)) : ∃ xs, τ.sl[i]? = some (some (.own xs)) ∧ PostS c W fr F D (k xs τ) := by
  cases hs : τ.sl[i]? with
  | none => simp only [onOwn, hs] at q; exact q.elim
  | some o =>
    cases o with
    | none => simp only [onOwn, hs] at q; exact q.elim
    | some s =>
      cases s with
      | own xs => simp only [onOwn, hs] at q; exact ⟨xs, rfl, q⟩
      | val _ => simp only [onOwn, hs] at q; exact q.elim
      | pool => simp only [onOwn, hs] at q; exact q.elim
      | raw => simp only [onOwn, hs] at q; exact q.elim
      | exc x => simp only [onOwn, hs] at q; exact q.elim
      | obj b => simp only [onOwn, hs] at q; exact q.elim
      | ro kvs => simp only [onOwn, hs] at q; exact q.elim
theorem ofOwn_some {α β : Type} {R : Fr → L2.St → N4.St → Hp → Hp → β → α → Prop} {Q : β → Hp → Prop} {fr : Fr} {F : Hp} {σ : L2.St} {i : Nat} {k : List PyData → M α} {τ : N4.St} (q : PostM c W R fr F σ Q (ofOwn i k τ)) : ∃ xs, τ.sl[i]? = some (some (.own xs)) ∧ PostM c W R fr F σ Q (k xs τ) := by
  cases hs : τ.sl[i]? with
  | none => simp only [ofOwn, hs] at q; exact q.elim
  | some o =>
    cases o with
    | none => simp only [ofOwn, hs] at q; exact q.elim
    | some s =>
      cases s with
      | own xs => simp only [ofOwn, hs] at q; exact ⟨xs, rfl, q⟩
      | val _ => simp only [ofOwn, hs] at q; exact q.elim
      | pool => simp only [ofOwn, hs] at q; exact q.elim
      | raw => simp only [ofOwn, hs] at q; exact q.elim
      | exc x => simp only [ofOwn, hs] at q; exact q.elim
      | obj b => simp only [ofOwn, hs] at q; exact q.elim
      | ro kvs => simp only [ofOwn, hs] at q; exact q.elim
theorem s_app (i : Nat) (he : PE X e (rdE c W m)) (hN : X.N[i]? = some x := by rfl) (hv : Vis X.env.scope x := by first | exact Or.inl rfl | exact Or.inr (Or.inl rfl) | exact Or.inr (Or.inr rfl)) (hd : (x == ("__debug__" : PySem.Str)) = false := by decide) (hcd : (x == ("__classdict__" : PySem.Str)) = false := by decide)
    (hbase : attributeBase (.Name x p) "append" X.env (eval (.Name x p) X.env) = eval (.Name x p) X.env := by rfl)
    (hfew : ((backTo cpos (starEach [e] X.env)).all (fun x => !x.1) && (backToKw cpos (keywordEach [] X.env)).all (fun x => x.1.isSome) && decide (([e] : List Expr).length + ([] : List Keyword).length + (if ([] : List Keyword).isEmpty then 0 else 1) < 30)) = true := by rfl)
    (hline : (apos.endLine == cpos.line) = true := by rfl) (hs : starEach [e] X.env = (false, eval e X.env) :: starEach [] X.env := by rfl) (hplain : (backTo cpos (starEach [] X.env)).any (·.1) = false := by rfl)
    (hsw : swapsWith (.Call (.Attribute (.Name x p) "append" apos) [e] [] cpos) none pos.line X.env = pure false := by rfl) :
    PS X (.Expr (.Call (.Attribute (.Name x p) "append" apos) [e] [] cpos) pos) (rdS c W (sApp i m)) :=
  (ps_expr (pe_bm PySem.F.plainAttrs_list PySem.F.slot_list_append PySem.F.type_list_append mt_append (pe_var (pos := p) hN hv hd hcd) (pa_cons he pa_nil hs) hbase hfew hline hs hplain) hsw).impN fun D σ H ⟨fr, τ, F, S, q⟩ => by
    obtain ⟨xs0, h0, q⟩ := onOwn_some q
    obtain ⟨a, vs0, e1, e2, _⟩ := S.own h0
    refine ⟨.ref a, e1, .inl ⟨rfl, _, SqL.of e2⟩, ?_⟩
    refine (post_e (R := EvOk c) S q).mono fun v H1 ⟨ev, τ1, F1, g1, S1, r1, q1⟩ => ?_
    obtain ⟨d, τ2, F2, g2, S2, d2, q2⟩ := post_fz S1 r1 q1
    obtain ⟨xs, hx, q3⟩ := onOwn_some q2
    obtain ⟨a', vs, k1, k2, k3, k4, k5⟩ := S2.own hx
    rw [e1] at k1
    cases k1
    have hl := dtAll_length k3
    by_cases hz : xs.length < lineN
    · rw [if_pos hz] at q3
      refine ⟨a, vs, v, rfl, rfl, k2, by rw [hl, ← line_eq]; exact hz, ?_⟩
      exact q3 σ _ F2 (Same.refl F2) (S2.mut hx e1 (dtAll_append k3 (.cons d2 .nil)))
    · rw [if_neg hz] at q3
      exact q3.elim
theorem s_ext (i : Nat) (he : PE X e (rdE c W m)) (hN : X.N[i]? = some x := by rfl) (hv : Vis X.env.scope x := by first | exact Or.inl rfl | exact Or.inr (Or.inl rfl) | exact Or.inr (Or.inr rfl)) (hd : (x == ("__debug__" : PySem.Str)) = false := by decide) (hcd : (x == ("__classdict__" : PySem.Str)) = false := by decide)
    (hbase : attributeBase (.Name x p) "extend" X.env (eval (.Name x p) X.env) = eval (.Name x p) X.env := by rfl)
    (hfew : ((backTo cpos (starEach [e] X.env)).all (fun x => !x.1) && (backToKw cpos (keywordEach [] X.env)).all (fun x => x.1.isSome) && decide (([e] : List Expr).length + ([] : List Keyword).length + (if ([] : List Keyword).isEmpty then 0 else 1) < 30)) = true := by rfl)
    (hline : (apos.endLine == cpos.line) = true := by rfl) (hs : starEach [e] X.env = (false, eval e X.env) :: starEach [] X.env := by rfl) (hplain : (backTo cpos (starEach [] X.env)).any (·.1) = false := by rfl)
    (hsw : swapsWith (.Call (.Attribute (.Name x p) "extend" apos) [e] [] cpos) none pos.line X.env = pure false := by rfl) :
    PS X (.Expr (.Call (.Attribute (.Name x p) "extend" apos) [e] [] cpos) pos) (rdS c W (sExt i m)) :=
  (ps_expr (pe_bm PySem.F.plainAttrs_list PySem.F.slot_list_extend PySem.F.type_list_extend mt_extend (pe_var (pos := p) hN hv hd hcd) (pa_cons he pa_nil hs) hbase hfew hline hs hplain) hsw).impN fun D σ H ⟨fr, τ, F, S, q⟩ => by
    obtain ⟨xs0, h0, q⟩ := onOwn_some q
    obtain ⟨a, vs0, e1, e2, _⟩ := S.own h0
    refine ⟨.ref a, e1, .inl ⟨rfl, _, SqL.of e2⟩, ?_⟩
    refine (post_e (R := EvOk c) S q).mono fun v H1 ⟨ev, τ1, F1, g1, S1, r1, q1⟩ => ?_
    obtain ⟨d, τ2, F2, g2, S2, d2, q2⟩ := post_fz S1 r1 q1
    obtain ⟨xs, hx, q3⟩ := onOwn_some q2
    obtain ⟨a', vs, k1, k2, k3, k4, k5⟩ := S2.own hx
    rw [e1] at k1
    cases k1
    have hl := dtAll_length k3
    cases d with
    | list ys =>
      cases d2 with
      | @lst b ws _ h1 h2 =>
        have hl2 := dtAll_length h2
        have q3 : PostS c W fr F2 D (if xs.length + ys.length ≤ lineN then .nx (setSl τ2 i (some (.own (xs ++ ys)))) else .bad) := q3
        by_cases hz : xs.length + ys.length ≤ lineN
        · rw [if_pos hz] at q3
          refine ⟨a, b, vs, ws, rfl, rfl, k2, S2.sub _ _ h1, by rw [hl, hl2, ← line_eq]; exact hz, ?_⟩
          exact q3 σ _ F2 (Same.refl F2) (S2.mut hx e1 (dtAll_append k3 h2))
        · rw [if_neg hz] at q3
          exact q3.elim
    | _ => exact q3.elim
theorem dtAll_dropLast {K : PySem.W.Frag} {F : Hp} {vs : List V} {ds : List PyData} (h : DtAll K F vs ds) : DtAll K F vs.dropLast ds.dropLast := by
  rw [List.dropLast_eq_take, List.dropLast_eq_take, dtAll_length h]
  exact dtAll_take _ h
theorem x_pop (i : Nat) (hN : X.N[i]? = some x := by rfl) (hv : Vis X.env.scope x := by first | exact Or.inl rfl | exact Or.inr (Or.inl rfl) | exact Or.inr (Or.inr rfl)) (hd : (x == ("__debug__" : PySem.Str)) = false := by decide) (hcd : (x == ("__classdict__" : PySem.Str)) = false := by decide)
    (hbase : attributeBase (.Name x p) "pop" X.env (eval (.Name x p) X.env) = eval (.Name x p) X.env := by rfl) (hline : (apos.endLine == cpos.line) = true := by rfl) :
    PE X (.Call (.Attribute (.Name x p) "pop" apos) [] [] cpos) (rdE c W (ePop i)) :=
  (pe_bm0 PySem.F.plainAttrs_list PySem.F.slot_list_pop PySem.F.type_list_pop mt_pop (pe_var (pos := p) hN hv hd hcd) hbase hline).impN fun σ H Q ⟨fr, τ, F, S, q⟩ => by
    obtain ⟨xs, h0, q⟩ := ofOwn_some q
    obtain ⟨a, vs, e1, e2, e3, e4, e5⟩ := S.own h0
    have hl := dtAll_length e3
    cases hg : xs[xs.length - 1]? with
    | none => simp only [hg] at q; exact q.elim
    | some d =>
      simp only [hg] at q
      obtain ⟨v, hv1, hv2⟩ := dtAll_get e3 hg
      refine ⟨.ref a, e1, .inl ⟨rfl, _, SqL.of e2⟩, a, vs, v, rfl, rfl, e2, by rw [hl]; exact hv1, ?_⟩
      exact q v _ F (Same.refl F) (S.mut h0 e1 (dtAll_dropLast e3)) hv2
theorem ixN_eq (n : Nat) (k : Int) : N4.ixN n k = L2.ixN n k := rfl
theorem x_popAt (i : Nat) (he : PE X e (rdE c W m)) (hN : X.N[i]? = some x := by rfl) (hv : Vis X.env.scope x := by first | exact Or.inl rfl | exact Or.inr (Or.inl rfl) | exact Or.inr (Or.inr rfl)) (hd : (x == ("__debug__" : PySem.Str)) = false := by decide) (hcd : (x == ("__classdict__" : PySem.Str)) = false := by decide)
    (hbase : attributeBase (.Name x p) "pop" X.env (eval (.Name x p) X.env) = eval (.Name x p) X.env := by rfl)
    (hfew : ((backTo cpos (starEach [e] X.env)).all (fun x => !x.1) && (backToKw cpos (keywordEach [] X.env)).all (fun x => x.1.isSome) && decide (([e] : List Expr).length + ([] : List Keyword).length + (if ([] : List Keyword).isEmpty then 0 else 1) < 30)) = true := by rfl)
    (hline : (apos.endLine == cpos.line) = true := by rfl) (hs : starEach [e] X.env = (false, eval e X.env) :: starEach [] X.env := by rfl) (hplain : (backTo cpos (starEach [] X.env)).any (·.1) = false := by rfl) :
    PE X (.Call (.Attribute (.Name x p) "pop" apos) [e] [] cpos) (rdE c W (ePopAt i m)) :=
  (pe_bm PySem.F.plainAttrs_list PySem.F.slot_list_pop PySem.F.type_list_pop mt_popAt (pe_var (pos := p) hN hv hd hcd) (pa_cons he pa_nil hs) hbase hfew hline hs hplain).impN fun σ H Q ⟨fr, τ, F, S, q⟩ => by
    obtain ⟨xs0, h0, q⟩ := ofOwn_some q
    obtain ⟨a, vs0, e1, e2, _⟩ := S.own h0
    refine ⟨.ref a, e1, .inl ⟨rfl, _, SqL.of e2⟩, ?_⟩
    refine (post_bind (R := EvOk c) S q).mono fun v H1 ⟨ev, τ1, F1, g1, S1, r1, q1⟩ => ?_
    obtain ⟨xs, hx, q3⟩ := ofOwn_some q1
    obtain ⟨a', vs, k1, k2, k3, k4, k5⟩ := S1.own hx
    rw [e1] at k1
    cases k1
    have hl := dtAll_length k3
    cases ev with
    | val d =>
      cases d with
      | int z =>
        cases r1
        by_cases hb : -boundN ≤ z ∧ z < boundN
        · simp only [if_pos hb] at q3
          rw [bound_eq] at hb
          cases hj : N4.ixN xs.length z with
          | none => simp only [hj] at q3; exact q3.elim
          | some j =>
            cases hg : xs[j]? with
            | none => simp only [hj, hg] at q3; exact q3.elim
            | some d =>
              simp only [hj, hg] at q3
              obtain ⟨v, hv1, hv2⟩ := dtAll_get k3 hg
              rw [ixN_eq] at hj
              obtain ⟨b1, _⟩ := ixN_seq hj
              have h62 : (2 : Int) ^ 62 ≤ 2 ^ 63 := by decide
              refine ⟨a, vs, z, j, v, rfl, rfl, k2, by omega, by omega, by rw [hl]; exact b1, hv1, ?_⟩
              exact q3 v _ F1 (Same.refl F1) (S1.mut hx e1 (dtAll_erase j k3)) hv2
        · simp only [if_neg hb] at q3
          exact q3.elim
      | _ => exact q3.elim
    | _ => exact q3.elim
/-- x[i] = e -/
theorem s_put (i : Nat) (he : PE X e (rdE c W m)) (ha : PE X a (rdE c W ma)) (hN : X.N[i]? = some x := by rfl) (hv : Vis X.env.scope x := by first | exact Or.inl rfl | exact Or.inr (Or.inl rfl) | exact Or.inr (Or.inr rfl)) (hd : (x == ("__debug__" : PySem.Str)) = false := by decide) (hcd : (x == ("__classdict__" : PySem.Str)) = false := by decide)
    (hsub : ∀ v, assign (.Subscript (.Name x p) a apos) X.env v = (do
      let ov ← holding [v] (eval (.Name x p) X.env)
      let iv ← holding [v, ov] (eval a X.env)
      standAt apos
      holding [v, ov, iv] (setItem ov iv v)
      release [v, ov, iv] []) := by intro _; rfl)
    (hs : swapsWithSole [.Subscript (.Name x p) a apos] e pos.line X.env = pure false := by rfl) (hw : swappedStores [.Subscript (.Name x p) a apos] e X.env = pure none := by rfl)
    (h1 : (assignEach [.Subscript (.Name x p) a apos] X.env).map (·.2) = [assign (.Subscript (.Name x p) a apos) X.env] := by rfl) :
    PS X (.Assign [.Subscript (.Name x p) a apos] e pos) (rdS c W (sPut i ma m)) :=
  (ps_asg he (pg_sub (pe_var (pos := p) hN hv hd hcd) ha set_list hsub) hs hw h1).impN fun D σ H ⟨fr, τ, F, S, q⟩ => by
    refine (post_e (R := EvOk c) S q).mono fun v H1 ⟨ev, τ1, F1, g1, S1, r1, q1⟩ => ?_
    obtain ⟨d, τ2, F2, g2, S2, d2, q2⟩ := post_fz S1 r1 q1
    obtain ⟨xs0, h0, q3⟩ := onOwn_some q2
    obtain ⟨l, vs0, e1, _⟩ := S2.own h0
    refine ⟨.ref l, e1, (post_e (R := EvOk c) S2 q3).mono fun w H3 ⟨ek, τ3, F3, g3, S3, r3, q4⟩ => ?_⟩
    obtain ⟨xs, hx, q5⟩ := onOwn_some q4
    obtain ⟨a', vs, k1, k2, k3, k4, k5⟩ := S3.own hx
    rw [e1] at k1
    cases k1
    have hl := dtAll_length k3
    cases ek with
    | val dk =>
      cases dk with
      | int z =>
        cases r3
        cases hj : N4.ixN xs.length z with
        | none => simp only [hj] at q5; exact q5.elim
        | some j =>
          simp only [hj] at q5
          rw [ixN_eq] at hj
          refine ⟨l, vs, z, j, rfl, rfl, k2, by rw [hl]; exact hj, ?_⟩
          exact q5 σ _ F3 (Same.refl F3) (S3.mut hx e1 (dtAll_set (Dt.grow g3 _ _ d2) j k3))
      | _ => exact q5.elim
    | _ => exact q5.elim
end
end N4
end
section
set_option Elab.async false
set_option linter.all false
set_option autoImplicit false
set_option maxRecDepth 100000
set_option maxHeartbeats 1000000
/-! List comprehensions. -/
namespace N4
open PySem PySem.Spec PyProof.Rows L2

theorem wipeS_len : ∀ (is : List Nat) (s : N4.St), (wipeS s is).sl.length = s.sl.length
  | [], _ => rfl
  | i :: is, s => (wipeS_len is _).trans (by simp [setSl])
theorem wipeS_pl : ∀ (is : List Nat) (s : N4.St), (wipeS s is).pl = s.pl
  | [], _ => rfl
  | i :: is, s => wipeS_pl is _
theorem wipeS_some : ∀ {is : List Nat} {s : N4.St} {j : Nat} {x : Sl}, (wipeS s is).sl[j]? = some (some x) → s.sl[j]? = some (some x) ∧ j ∉ is
  | [], _, _, _, h => ⟨h, fun z => nomatch z⟩
  | i :: is, s, j, x, h => by
    obtain ⟨h1, h2⟩ := wipeS_some (is := is) h
    by_cases hj : i = j
    · subst hj
      have hl := slot_lt h1
      have hl : i < s.sl.length := by simpa [setSl] using hl
      rw [setSl_self hl] at h1
      cases h1
    · rw [setSl_ne hj] at h1
      exact ⟨h1, fun z => (List.mem_cons.mp z).elim (fun e => hj e.symm) h2⟩
theorem keepS_len (s0 : N4.St) : ∀ (is : List Nat) (s : N4.St), (keepS s0 is s).sl.length = s.sl.length
  | [], _ => rfl
  | i :: is, s => by
    unfold keepS
    split
    · exact (keepS_len s0 is _).trans (by simp [setSl])
    · exact (keepS_len s0 is _).trans (by simp [setSl])
theorem keepS_pl (s0 : N4.St) : ∀ (is : List Nat) (s : N4.St), (keepS s0 is s).pl = s.pl
  | [], _ => rfl
  | i :: is, s => by
    unfold keepS
    split
    · exact keepS_pl s0 is _
    · exact keepS_pl s0 is _
theorem keepS_some (s0 : N4.St) : ∀ {is : List Nat} {s : N4.St} {j : Nat} {x : Sl}, (keepS s0 is s).sl[j]? = some (some x) → (j ∉ is ∧ s.sl[j]? = some (some x)) ∨ ∃ d, x = .val d ∧ s0.sl[j]? = some (some (.val d))
  | [], _, _, _, h => .inl ⟨fun z => (nomatch z), h⟩
  | i :: is, s, j, x, h => by
    unfold keepS at h
    split at h
    · rename_i d hd
      rcases keepS_some s0 (is := is) h with ⟨h1, h2⟩ | q
      · by_cases hj : i = j
        · subst hj
          have hl := slot_lt h2
          have hl : i < s.sl.length := by simpa [setSl] using hl
          rw [setSl_self hl] at h2
          cases h2
          exact .inr ⟨d, rfl, hd⟩
        · rw [setSl_ne hj] at h2
          exact .inl ⟨fun z => (List.mem_cons.mp z).elim (fun e => hj e.symm) h1, h2⟩
      · exact .inr q
    · rcases keepS_some s0 (is := is) h with ⟨h1, h2⟩ | q
      · by_cases hj : i = j
        · subst hj
          have hl := slot_lt h2
          have hl : i < s.sl.length := by simpa [setSl] using hl
          rw [setSl_self hl] at h2
          cases h2
        · rw [setSl_ne hj] at h2
          exact .inl ⟨fun z => (List.mem_cons.mp z).elim (fun e => hj e.symm) h1, h2⟩
      · exact .inr q
theorem wipe_in {σ : L2.St} {j : Nat} : ∀ {vs : List Nat}, j ∈ vs → (wipe σ vs)[j]? = if j < σ.length then some none else none
  | v :: vs, h => by
    unfold wipe
    by_cases hj : v = j
    · subst hj
      by_cases hl : v < σ.length
      · rw [if_pos hl, List.getElem?_set_self (by rw [wipe_length]; exact hl)]
      · rw [if_neg hl]
        exact List.getElem?_eq_none (by rw [List.length_set, wipe_length]; omega)
    · rw [List.getElem?_set_ne hj]
      rcases List.mem_cons.mp h with e | h
      · exact absurd e.symm hj
      · exact wipe_in h
theorem wipe_eq {σ σ' : L2.St} {is vs : List Nat} (o : SameOut is (wipe σ vs) σ') (h : ∀ j ∈ is, j ∈ vs) : wipe σ' vs = wipe σ vs := by
  refine List.ext_getElem? fun j => ?_
  have hl : σ'.length = σ.length := o.1.trans (wipe_length σ vs)
  by_cases hj : j ∈ vs
  · rw [wipe_in hj, wipe_in hj, hl]
  · rw [wipe_out hj, o.2 j (fun z => hj (h j z))]
section
variable {c : Cf} {fr : Fr} {τ : N4.St} {σ : L2.St} {H F : Hp}
/-- less is known, of slots that agree -/
theorem Sat.change {τ' : N4.St} {σ' : L2.St} (S : Sat c fr τ σ H F) (hl : τ'.sl.length ≤ σ'.length) (hp : τ'.pl = τ.pl) (h : ∀ (i : Nat) (s : Sl), τ'.sl[i]? = some (some s) → τ.sl[i]? = some (some s) ∧ σ'[i]? = σ[i]?) : Sat c fr τ' σ' H F := by
  refine ⟨S.sub, S.tabs, S.keep, S.there, S.nw, S.base, fun i s e => ?_, fun i j a n ⟨xs, o1, hx⟩ ⟨ys, o2, hy⟩ e1 e2 => ?_, by rw [hp]; exact S.pool, hl, S.ntb⟩
  · obtain ⟨h1, h2⟩ := h i s e
    obtain ⟨v, e1, e2⟩ := S.slot i s h1
    exact ⟨v, by rw [h2]; exact e1, e2⟩
  · obtain ⟨h1, h2⟩ := h i _ o1
    obtain ⟨h3, h4⟩ := h j _ o2
    rw [h2] at e1
    rw [h4] at e2
    exact S.dist i j a n ⟨xs, h1, hx⟩ ⟨ys, h3, hy⟩ e1 e2
theorem Sat.wiped (S : Sat c fr τ σ H F) (vs : List Nat) : Sat c fr (wipeS τ vs) (wipe σ vs) H F :=
  S.change (by rw [wipeS_len, wipe_length]; exact S.len) (wipeS_pl vs τ) fun i s e => by
    obtain ⟨h1, h2⟩ := wipeS_some e
    exact ⟨h1, wipe_out h2⟩
/-- a list that stands alone is changed -/
theorem Sat.tmp (S : Sat c fr τ σ H F) {a : Addr} {vs ws : List V} (h1 : H a = some (.lst vs)) (h3 : F a = none) (h4 : fr.H0 a = none) (h5 : ∀ i : Nat, IsOwn τ i → σ[i]? ≠ some (some (.ref a))) : Sat c fr τ σ (upd H a (.lst ws)) F := by
  have ap := S.apart h4
  refine ⟨fun b o e => by rw [upd_ne (ne_of_none e h3)]; exact S.sub b o e, fun p hp => ?_, fun b o e q t => ?_, fun b e => ?_, S.nw, S.base, fun i s e => ?_, S.dist, ?_, S.len, S.ntb⟩
  · obtain ⟨ps, k1, k2, k3⟩ := S.tabs p hp
    have np : p.1 ≠ a := fun z => by rw [z, h1] at k1; cases k1
    refine ⟨ps, by rw [upd_ne np]; exact k1, k2, fun pos cv hc => ?_⟩
    obtain ⟨cc, g1, g2⟩ := k3 pos cv hc
    have nc : cc ≠ a := fun z => by
      rw [z, h1] at g2
      unfold LamX.CodeO at g2
      cases g2
    exact ⟨cc, g1, by rw [upd_ne nc]; exact g2⟩
  · rw [upd_ne (fun z => by rw [z, h4] at e; cases e)]
    exact S.keep b o e q t
  · by_cases hb : b = a
    · rw [hb, upd_same]
      exact fun z => nomatch z
    · rw [upd_ne hb]
      exact S.there b e
  · obtain ⟨v, e1, e2⟩ := S.slot i s e
    refine ⟨v, e1, ?_⟩
    cases s with
    | val d => exact e2
    | own xs =>
      obtain ⟨b, us, rfl, q1, q⟩ := e2
      exact ⟨b, us, rfl, by rw [upd_ne (fun z : b = a => h5 i (.lst e) (by rw [← z]; exact e1))]; exact q1, q⟩
    | obj ob =>
      obtain ⟨b, o, rfl, q1, q⟩ := e2
      exact ⟨b, o, rfl, by rw [upd_ne (fun z : b = a => h5 i (.ob e) (by rw [← z]; exact e1))]; exact q1, q⟩
    | pool => exact e2
    | raw => exact e2
    | exc x => exact e2
    | ro kvs => exact e2
  · have pk := S.pool
    cases hpl : τ.pl with
    | none => rw [hpl] at pk; exact pk
    | some pl =>
      obtain ⟨x, y, l⟩ := pl
      rw [hpl] at pk
      obtain ⟨p1, p2, q, q1, q2, q3, q4⟩ := pk
      obtain ⟨n1, n2⟩ := ap _ _ q
      exact ⟨p1, p2, q, q1, by rw [upd_ne (Ne.symm n1)]; exact q2, by rw [upd_ne (Ne.symm n2)]; exact q3, q4⟩
/-- behind a block -/
theorem Sat.kept {τ1 : N4.St} {H1 F1 : Hp} {vs : List Nat} (S1 : Sat c fr τ1 σ H1 F1) (g : Same F1 F) (S : Sat c fr (wipeS τ vs) (wipe σ vs) H F) : Sat c fr (keepS τ1 vs τ) σ H F := by
  have own : ∀ i, IsOwn (keepS τ1 vs τ) i → IsOwn (wipeS τ vs) i ∧ (wipe σ vs)[i]? = σ[i]? := fun i ⟨x, e, hx⟩ => by
    rcases keepS_some τ1 e with ⟨h1, h2⟩ | ⟨d, h1, _⟩
    · refine ⟨⟨x, ?_, hx⟩, wipe_out h1⟩
      exact wipeS_at h1 h2
    · subst h1
      cases hx
  refine ⟨S.sub, S.tabs, S.keep, S.there, S.nw, S.base, fun i s e => ?_, fun i j a n o1 o2 e1 e2 => ?_, ?_, ?_, S.ntb⟩
  · rcases keepS_some τ1 e with ⟨h1, h2⟩ | ⟨d, rfl, h2⟩
    · obtain ⟨v, e1, e2⟩ := S.slot i s (wipeS_at h1 h2)
      exact ⟨v, by rw [← wipe_out h1]; exact e1, e2⟩
    · obtain ⟨v, e1, e2⟩ := S1.slot i _ h2
      exact ⟨v, e1, Dt.grow g _ _ e2⟩
  · obtain ⟨k1, k2⟩ := own i o1
    obtain ⟨k3, k4⟩ := own j o2
    exact S.dist i j a n k1 k3 (by rw [k2]; exact e1) (by rw [k4]; exact e2)
  · rw [keepS_pl, ← wipeS_pl vs τ]
    exact S.pool
  · have := S.len
    rw [wipeS_len, wipe_length] at this
    rw [keepS_len]
    exact this
where
  wipeS_at {is : List Nat} {s : N4.St} {j : Nat} {x : Sl} (h1 : j ∉ is) (h2 : s.sl[j]? = some (some x)) : (wipeS s is).sl[j]? = some (some x) := by
    induction is generalizing s with
    | nil => exact h2
    | cons i is ih =>
      refine ih (fun z => h1 (List.mem_cons_of_mem _ z)) ?_
      rw [setSl_ne (fun z => h1 (by rw [z]; exact List.mem_cons_self))]
      exact h2
end
abbrev W0 : WX := fun _ _ _ _ => False
section
variable {X : Cx} {c : Cf} {W : WX} {tg it elt : Expr} {ifs : List Expr} {scope : Scope} {own : List (PySem.Str × Nat)} {pos : Pos} {mi : M (List PyData)} {g : Tg} {is : List Nat} {mc : M Bool} {m : M Ev}
theorem ts_nil {W : WX} : PTs X [] (rdT c W (mRet true)) := ⟨fun pins s σ H Q I h => pts_nil.run pins s σ H Q I (by
  obtain ⟨fr, τ, F, S, q⟩ := h
  exact q true H F (Same.refl F) S rfl)⟩
theorem ts_one {W : WX} {e : Expr} (h : PT X e (rdT c W mc)) : PTs X [e] (rdT c W mc) := pts_one h
theorem rd_lc {σ : L2.St} {H : Hp} {Q : VK} (hsub : ∀ j ∈ is, j ∈ own.map (·.2)) (h : rdE c W (eLC (own.map (·.2)) mi g mc m) σ H Q) : tLc (rdI c W mi) (rdTg c is g) (rdT c W0 mc) (rdE c W0 m) (own.map (·.2)) σ H Q := by
  obtain ⟨fr, τ, F, S, q⟩ := h
  refine (post_bind (R := ItR c) S q).mono fun J H1 ⟨ds, τ1, F1, g1, S1, j1, q1⟩ => ?_
  generalize hvs : own.map (·.2) = vs at *
  intro D hD
  have h4 : fr.H0 D = none := S1.h0 hD
  have ap := S1.apart h4
  have f0 : fr.F0 D = none := by
    cases z : fr.F0 D with
    | none => rfl
    | some o =>
      have := S1.sub _ _ (S1.base D o z)
      rw [hD] at this
      cases this
  refine ⟨fun i mm H' => mm = ds.length - i ∧ i ≤ ds.length ∧ ∃ τ' F' acc vacc, Same F1 F' ∧ Sat c (fr.res D vacc) (wipeS τ' vs) (wipe σ vs) H' F' ∧ DtAll c.K F' vacc acc ∧
    PostM c W (EvOk c) fr F' σ Q (match lcGo vs g mc m (ds.drop i) acc τ' with | .ok xs s1 => .ok (.fresh xs) (keepS τ1 vs s1) | .err _ _ _ => .bad | .bad => .bad), ⟨ds.length, by simp, Nat.zero_le _, τ1, F1, [], [], Same.refl F1, ?_, .nil, ?_⟩, ?_⟩
  · obtain ⟨S2, a, ws, e, k1, k2, k3, k4, k5⟩ := S1.newL (vs := []) (xs := []) hD .nil
    cases e
    exact (S2.wiped vs).res upd_same k3 k4 (fun i ⟨x, e, hx⟩ z => k5 i ⟨x, (wipeS_some e).1, hx⟩ (by rw [← wipe_out (wipeS_some e).2]; exact z))
  · have e : (lcGo vs g mc m (ds.drop 0) [] τ1) = lcGo vs g mc m ds [] τ1 := rfl
    rw [e]
    cases hl : lcGo vs g mc m ds [] τ1 <;> simp only [hl] at q1 ⊢ <;> exact q1
  rintro i mm H' ⟨rfl, hi, τ', F', acc, vacc, g', S', hacc, q'⟩
  obtain ⟨k1, k2⟩ := j1 _ _ _ H' F' i g' S'
  obtain ⟨d1, d2, d3⟩ := S'.held f0 ap
  have hal := dtAll_length hacc
  have U : Sat c fr (wipeS τ' vs) (wipe σ vs) H' F' := S'.unres h4 S1.poolH0
  by_cases hlt : i < ds.length
  · have hd : ds[i]? = some ds[i] := List.getElem?_eq_getElem hlt
    obtain ⟨go, yl⟩ := k1 _ hd
    refine .inr ⟨go, fun H' => ∃ τ' F' acc vacc, Same F1 F' ∧ Sat c (fr.res D vacc) (wipeS τ' vs) (wipe σ vs) H' F' ∧ DtAll c.K F' vacc acc ∧
      PostM c W (EvOk c) fr F' σ Q (match lcGo vs g mc m (ds.drop (i + 1)) acc τ' with | .ok xs s1 => .ok (.fresh xs) (keepS τ1 vs s1) | .err _ _ _ => .bad | .bad => .bad), fun H' z => ⟨ds.length - (i + 1), by omega, rfl, hlt, z⟩, fun x H2 y => ?_⟩
    obtain ⟨F2, g2, S2, dx⟩ := yl x H2 y
    rw [List.drop_eq_getElem_cons hlt] at q'
    have q2 := q'.grow g2
    cases hgd : g ds[i] (wipeS τ' vs) with
    | none => simp only [lcGo, hgd] at q2; exact q2.elim
    | some s1 =>
      simp only [lcGo, hgd] at q2
      refine ⟨_, _, F2, _, s1, S2, dx, hgd, fun σ2 o2 S3 => ?_⟩
      have hw := wipe_eq o2 hsub
      refine ⟨hw, fr.res D vacc, s1, F2, S3, ?_⟩
      cases hmc : mc s1 with
      | err cl x t => simp only [hmc] at q2; exact q2.elim
      | bad => simp only [hmc] at q2; exact q2.elim
      | ok b s2 =>
        intro v H4 F4 g4 S4 hv
        have hv : v = b := hv
        subst hv
        cases v with
        | false =>
          simp only [hmc] at q2
          simp only [Bool.false_eq_true, if_false]
          refine ⟨s2, F4, acc, vacc, (g'.trans g2).trans g4, ?_, Dt.growAll (g2.trans g4) _ _ hacc, q2.grow g4⟩
          have := S4.wiped vs
          rw [hw] at this
          exact this
        | true =>
          simp only [hmc] at q2
          simp only [if_true]
          refine ⟨fr.res D vacc, s2, F4, S4, ?_⟩
          have q3 := q2.grow g4
          cases hm : m s2 with
          | err cl x t => simp only [mBind, hm] at q3; exact q3.elim
          | bad => simp only [mBind, hm] at q3; exact q3.elim
          | ok e3 s3 =>
            intro y H5 F5 g5 S5 r5
            simp only [mBind, hm] at q3
            cases hf : freeze e3 s3 with
            | err cl x t => exact (freeze_no hf).elim
            | bad => simp only [hf] at q3; exact q3.elim
            | ok x s4 =>
              simp only [hf] at q3
              obtain ⟨F6, g6, S6, d6⟩ := freeze_ok S5 r5 hf
              obtain ⟨t1, t2, t3⟩ := S6.held f0 ap
              by_cases hz : acc.length < lineN
              · simp only [if_pos hz] at q3
                refine ⟨vacc, t1, by rw [hal, ← line_eq]; exact hz, s4, F6, acc ++ [x], vacc ++ [y], (((g'.trans g2).trans g4).trans g5).trans g6, ?_, dtAll_append (Dt.growAll (((g2.trans g4).trans g5).trans g6) _ _ hacc) (.cons d6 .nil), (q3.grow g5).grow g6⟩
                have S7 := (S6.unres h4 S1.poolH0).wiped vs
                rw [hw] at S7
                have n7 : ∀ i : Nat, IsOwn (wipeS s4 vs) i → (wipe σ vs)[i]? ≠ some (some (.ref D)) := fun i ⟨x, e, hx⟩ z => by
                  rw [← hw] at z
                  exact t3 i ⟨x, (wipeS_some e).1, hx⟩ (by rw [← wipe_out (wipeS_some e).2]; exact z)
                exact (S7.tmp t1 t2 h4 n7).res upd_same t2 h4 n7
              · simp only [if_neg hz] at q3
                exact q3.elim
  · have e : ds.drop i = [] := List.drop_eq_nil_of_le (by omega)
    rw [e] at q'
    refine .inl ⟨k2 (by omega), ?_⟩
    have S8 := Sat.kept S1 g' U
    refine q' (.ref D) H' F' (Same.refl F') S8 ⟨D, vacc, rfl, d1, hacc, d2, h4, fun j ⟨x, ho, hx⟩ z => ?_⟩
    rcases keepS_some τ1 ho with ⟨n1, n2⟩ | ⟨d, n1, _⟩
    · exact d3 j ⟨x, Sat.kept.wipeS_at n1 n2, hx⟩ (by rw [wipe_out n1]; exact z)
    · subst n1
      cases hx
theorem x_lc (hi : PI X tg it (rdI c W mi)) (ok : BlkOk X.N X.env.scope scope own) (hsub : ∀ j ∈ is, j ∈ own.map (·.2)) (hc : X.calm = true) (hN : X.N.Nodup)
    (hg : ∀ (s : Shared) (H : Hp) (C : Addr) (cl : List (PySem.Str × Addr)) (fp : List Addr), PG (X.blk s H scope (compEnvC scope cl C X.env) fp) tg (rdTg c is g)) (ht : ∀ (s : Shared) (H : Hp) (C : Addr) (cl : List (PySem.Str × Addr)) (fp : List Addr), PTs (X.blk s H scope (compEnvC scope cl C X.env) fp) ifs (rdT c W0 mc))
    (he : ∀ (s : Shared) (H : Hp) (C : Addr) (cl : List (PySem.Str × Addr)) (fp : List Addr), PE (X.blk s H scope (compEnvC scope cl C X.env) fp) elt (rdE c W0 m)) (hs : ∀ x, foldedSetIterable it X.env x = pure x := by intro _; rfl) :
    PE X (.ListComp elt [⟨tg, it, ifs, 0⟩] scope pos) (rdE c W (eLC (own.map (·.2)) mi g mc m)) := (pe_lc hc hN hi ok hg ht he hs).impN fun _ _ _ q => rd_lc hsub q
theorem s_setLc (i : Nat) {y : PySem.Str} {py spos : Pos} (hi : PI X tg it (rdI c W mi)) (ok : BlkOk X.N X.env.scope scope own) (hsub : ∀ j ∈ is, j ∈ own.map (·.2)) (hc : X.calm = true) (hN : X.N.Nodup)
    (hg : ∀ (s : Shared) (H : Hp) (C : Addr) (cl : List (PySem.Str × Addr)) (fp : List Addr), PG (X.blk s H scope (compEnvC scope cl C X.env) fp) tg (rdTg c is g)) (ht : ∀ (s : Shared) (H : Hp) (C : Addr) (cl : List (PySem.Str × Addr)) (fp : List Addr), PTs (X.blk s H scope (compEnvC scope cl C X.env) fp) ifs (rdT c W0 mc))
    (he : ∀ (s : Shared) (H : Hp) (C : Addr) (cl : List (PySem.Str × Addr)) (fp : List Addr), PE (X.blk s H scope (compEnvC scope cl C X.env) fp) elt (rdE c W0 m)) (hs : ∀ x, foldedSetIterable it X.env x = pure x := by intro _; rfl)
    (hsw : swapsWith (.ListComp elt [⟨tg, it, ifs, 0⟩] scope pos) (some (.Name y py)) spos.line X.env = pure true) (hy : X.N[i]? = some y := by rfl) (hyl : X.env.scope.names.lookup y = some .local := by rfl) :
    PS X (.Assign [.Name y py] (.ListComp elt [⟨tg, it, ifs, 0⟩] scope pos) spos) (rdS c W (sSet i (eLC (own.map (·.2)) mi g mc m))) := (ps_setLc hc hN hy hyl hsw hi ok hg ht he hs).impN fun D σ H ⟨fr, τ, F, S, q⟩ => by
  have z : rdE c W (eLC (own.map (·.2)) mi g mc m) σ H (fun x H1 => D.nx (σ.set i (some x)) H1) := (post_e (R := EvOk c) S q).mono fun v H1 ⟨e1, τ1, F1, g1, S1, r1, q1⟩ => post_store S1 r1 q1
  exact rd_lc hsub z
end
end N4
end
section
set_option Elab.async false
set_option linter.all false
set_option autoImplicit false
set_option maxRecDepth 100000
set_option maxHeartbeats 1000000
/-! Operators and builtins: the plain meaning and the model. -/
namespace N4
open PySem PySem.Spec PyProof.Rows L2

section
variable {c : Cf}
/-- a value without an address -/
theorem vw_int {K : PySem.W.Frag} {F H : Hp} {v : V} {i : Int} (h : Vw K F H v (.int i)) : v = .int i := h
theorem ok_ii {g : Int → Int → V} {h : Int → Int → PyData} (hd : ∀ i j F, Dt c.K F (g i j) (h i j)) {f : PyData → PyData → Option Ev} (hf : ∀ d e r, f d e = some r → ∃ i j, d = .int i ∧ e = .int j ∧ r = .val (h i j)) : OpOk c (rI0 g) f := by
  intro fr τ σ H F x y d e res Q S vx vy hr k
  obtain ⟨i, j, rfl, rfl, rfl⟩ := hf d e res hr
  cases vx
  cases vy
  exact ⟨i, j, rfl, rfl, k _ H F (Same.refl F) S (hd i j F)⟩
theorem ok_lt : OpOk c (rI0 fun i j => .bl (decide (i < j))) oLt := ok_ii (fun i j F => .bl _) fun d e r h => by
  cases d <;> cases e <;> simp only [oLt, reduceCtorEq, Option.some.injEq] at h
  exact ⟨_, _, rfl, rfl, h.symm⟩
theorem ok_le : OpOk c (rI0 fun i j => .bl (decide (i ≤ j))) oLe := ok_ii (fun i j F => .bl _) fun d e r h => by
  cases d <;> cases e <;> simp only [oLe, reduceCtorEq, Option.some.injEq] at h
  exact ⟨_, _, rfl, rfl, h.symm⟩
theorem ok_gt : OpOk c (rI0 fun i j => .bl (decide (j < i))) oGt := ok_ii (fun i j F => .bl _) fun d e r h => by
  cases d <;> cases e <;> simp only [oGt, reduceCtorEq, Option.some.injEq] at h
  exact ⟨_, _, rfl, rfl, h.symm⟩
theorem ok_ge : OpOk c (rI0 fun i j => .bl (decide (j ≤ i))) oGe := ok_ii (fun i j F => .bl _) fun d e r h => by
  cases d <;> cases e <;> simp only [oGe, reduceCtorEq, Option.some.injEq] at h
  exact ⟨_, _, rfl, rfl, h.symm⟩
theorem ok_sub : OpOk c (rI0 fun i j => .int (i - j)) oSub := ok_ii (fun i j F => .int _) fun d e r h => by
  cases d <;> cases e <;> simp only [oSub, reduceCtorEq, Option.some.injEq] at h
  exact ⟨_, _, rfl, rfl, h.symm⟩
theorem ok_ci {C : Int → Int → Prop} {g : Int → Int → V} {h : Int → Int → PyData} (hd : ∀ i j F, Dt c.K F (g i j) (h i j)) {f : PyData → PyData → Option Ev} (hf : ∀ d e r, f d e = some r → ∃ i j, d = .int i ∧ e = .int j ∧ C i j ∧ r = .val (h i j)) : OpOk c (rI C g) f := by
  intro fr τ σ H F x y d e res Q S vx vy hr k
  obtain ⟨i, j, rfl, rfl, hc, rfl⟩ := hf d e res hr
  cases vx
  cases vy
  exact ⟨i, j, rfl, rfl, hc, k _ H F (Same.refl F) S (hd i j F)⟩
theorem ok_mod : OpOk c (rI (fun _ j => 0 < j) fun i j => .int (i % j)) oMod := ok_ci (fun i j F => .int _) fun d e r h => by
  cases d <;> cases e <;> simp only [oMod, reduceCtorEq] at h
  split at h
  · cases h
    exact ⟨_, _, rfl, rfl, by assumption, rfl⟩
  · cases h
theorem ok_div : OpOk c (rI CDiv fun i j => .int (i / j)) oDiv := ok_ci (fun i j F => .int _) fun d e r h => by
  cases d <;> cases e <;> simp only [oDiv, reduceCtorEq] at h
  split at h
  · cases h
    exact ⟨_, _, rfl, rfl, by assumption, rfl⟩
  · cases h
theorem ok_pow : OpOk c (rI CPow fun i j => .int (i ^ j.toNat)) oPow := ok_ci (fun i j F => .int _) fun d e r h => by
  cases d <;> cases e <;> simp only [oPow, reduceCtorEq] at h
  split at h
  · cases h
    rename_i hh
    exact ⟨_, _, rfl, rfl, ⟨hh.1, hh.2.1, hh.2.2⟩, rfl⟩
  · cases h
theorem ok_mul : OpOk c (rI CMul fun i j => .int (i * j)) oMul := ok_ci (fun i j F => .int _) fun d e r h => by
  cases d <;> cases e <;> simp only [oMul, reduceCtorEq] at h
  split at h
  · cases h
    rename_i hh
    refine ⟨_, _, rfl, rfl, ?_, rfl⟩
    have e64 : big64 = 2 ^ 64 := by decide
    rw [e64] at hh
    exact hh
  · cases h
theorem ok_neg : UnOk c (rU fun i => .int (-i)) oNeg := by
  intro fr τ σ H F x d res Q S vx hr k
  cases d <;> simp only [oNeg, reduceCtorEq, Option.some.injEq] at hr
  cases vx
  subst hr
  exact ⟨_, rfl, k _ H F (Same.refl F) S (.int _)⟩
/-- + : numbers, lists, tuples, texts -/
def rAddN (K : PySem.W.Frag) : R2 := fun x y H Q => rI0 (fun i j => .int (i + j)) x y H Q ∨ rCat x y H Q ∨ rCatA K x y H Q ∨ (∃ i j, x = .str i ∧ y = .str j ∧ i.length + j.length ≤ sizeLine ∧ Q (.str (i ++ j)) H)
theorem op_addN {X : Cx} : OpR X (binaryOp .Add) (rAddN X.K) := op_add.or (op_cat.or (op_catA.or op_add_str))
theorem ok_add : OpOk c (rAddN c.K) oAdd := by
  intro fr τ σ H F x y d e res Q S vx vy hr k
  cases d with
  | int i =>
    cases e <;> simp only [oAdd, reduceCtorEq, Option.some.injEq] at hr
    cases vx
    cases vy
    subst hr
    exact .inl ⟨_, _, rfl, rfl, k _ H F (Same.refl F) S (.int _)⟩
  | str i =>
    cases e <;> simp only [oAdd, reduceCtorEq] at hr
    cases vx
    cases vy
    split at hr
    · cases hr
      exact .inr (.inr (.inr ⟨_, _, rfl, rfl, by rw [← line_eq]; assumption, k _ H F (Same.refl F) S (.str _)⟩))
    · cases hr
  | list xs =>
    cases e <;> simp only [oAdd, reduceCtorEq] at hr
    rename_i ys
    obtain ⟨a, vs, rfl, ha, da⟩ := vx
    obtain ⟨b, ws, rfl, hb, db⟩ := vy
    split at hr
    · cases hr
      refine .inr (.inl ⟨a, b, vs, ws, rfl, rfl, ha, hb, by rw [dtAll_length da, dtAll_length db, ← line_eq]; assumption, fun p hp => ?_⟩)
      obtain ⟨S', r⟩ := S.newL hp (dtAll_append da db)
      exact k _ _ F (Same.refl F) S' r
    · cases hr
  | tuple xs =>
    cases e <;> simp only [oAdd, reduceCtorEq] at hr
    rename_i ys
    obtain ⟨a, vs, rfl, ha, da⟩ := vx
    obtain ⟨b, ws, rfl, hb, db⟩ := vy
    split at hr
    · cases hr
      refine .inr (.inr (.inl ⟨a, b, vs, ws, rfl, rfl, same_seqT S.sub ha, same_seqT S.sub hb, by rw [dtAll_length da, dtAll_length db, ← line_eq]; assumption, fun hz => ?_, fun _ hz => ?_, fun _ _ p hp => ?_⟩))
      · subst hz
        cases da
        exact k _ H F (Same.refl F) S (.tup hb db)
      · subst hz
        cases db
        rw [List.append_nil] at k
        exact k _ H F (Same.refl F) S (.tup ha da)
      · obtain ⟨g, S', r⟩ := S.newT hp (dtAll_append da db)
        exact k _ _ _ g S' r
    · cases hr
  | _ => cases e <;> simp only [oAdd, reduceCtorEq] at hr
/-! ### == and its like -/
theorem shal_ok {d : PyData} (h : shal d = true) : SeqAt.shaped d = true := h
theorem ok_eq : OpOk c (rEqD c.K) oEq := by
  intro fr τ σ H F x y d e res Q S vx vy hr k
  unfold oEq at hr
  split at hr
  · rename_i h
    cases hr
    rw [Bool.and_eq_true] at h
    exact ⟨d, e, vx.dp S.sub, vy.dp S.sub, h.1, h.2, k _ H F (Same.refl F) S (.bl _)⟩
  · cases hr
theorem ok_ne : OpOk c (rNeD c.K) oNe := by
  intro fr τ σ H F x y d e res Q S vx vy hr k
  unfold oNe at hr
  split at hr
  · rename_i h
    cases hr
    rw [Bool.and_eq_true] at h
    exact ⟨d, e, vx.dp S.sub, vy.dp S.sub, h.1, h.2, k _ H F (Same.refl F) S (.bl _)⟩
  · cases hr
theorem isNone_iff {K : PySem.W.Frag} {F H : Hp} {x : V} {d : PyData} (h : Vw K F H x d) : decide (x = V.non) = isNone d := by
  cases d with
  | none => cases h; rfl
  | bool b => cases h; rfl
  | int i => cases h; rfl
  | str z => cases h; rfl
  | list ds => obtain ⟨a, vs, rfl, _⟩ := h; rfl
  | tuple ds => obtain ⟨a, vs, rfl, _⟩ := h; rfl
  | dict _ => exact h.elim
theorem ok_is : OpOk c (fun x y H Q => y = .non ∧ Q (.bl (decide (x = .non))) H) oIs := by
  intro fr τ σ H F x y d e res Q S vx vy hr k
  cases e <;> simp only [oIs, reduceCtorEq, Option.some.injEq] at hr
  cases vy
  subst hr
  rw [isNone_iff vx]
  exact ⟨rfl, k _ H F (Same.refl F) S (.bl _)⟩
theorem ok_isnot : OpOk c (fun x y H Q => y = .non ∧ Q (.bl (!decide (x = .non))) H) oIsNot := by
  intro fr τ σ H F x y d e res Q S vx vy hr k
  cases e <;> simp only [oIsNot, reduceCtorEq, Option.some.injEq] at hr
  cases vy
  subst hr
  rw [isNone_iff vx]
  exact ⟨rfl, k _ H F (Same.refl F) S (.bl _)⟩
/-- in a tuple -/
def rInT (K : PySem.W.Frag) : R2 := fun x y H Q => ∃ d ds, Dp K H x d ∧ Dp K H y (.tuple ds) ∧ SeqAt.shaped d = true ∧ SeqAt.shaped (.tuple ds) = true ∧ Q (.bl (ds.any fun z => PyData.eqv z d)) H
def rNotInT (K : PySem.W.Frag) : R2 := fun x y H Q => ∃ d ds, Dp K H x d ∧ Dp K H y (.tuple ds) ∧ SeqAt.shaped d = true ∧ SeqAt.shaped (.tuple ds) = true ∧ Q (.bl (!ds.any fun z => PyData.eqv z d)) H
theorem op_inT {X : Cx} (hu : X.A.units + 65 < cLine) : OpR X (compareOp .In) (rInT X.K) := by
  intro pins s σ H x y v u Q I rx ry ⟨d, ds, hd, he, sd, se, q⟩
  obtain ⟨as, r1⟩ := Dp.reads I d x v hd rx
  obtain ⟨bs, r2⟩ := Dp.reads I (.tuple ds) y u he ry
  exact SeqAt.in_tuple_reads r2 r1 (SeqAt.canLay_of_shaped se) (SeqAt.canLay_of_shaped sd) (room_in_shaped sd hu) ⟨.bl _, H, I, rfl, q⟩
theorem op_notInT {X : Cx} (hu : X.A.units + 65 < cLine) : OpR X (compareOp .NotIn) (rNotInT X.K) := by
  intro pins s σ H x y v u Q I rx ry ⟨d, ds, hd, he, sd, se, q⟩
  obtain ⟨as, r1⟩ := Dp.reads I d x v hd rx
  obtain ⟨bs, r2⟩ := Dp.reads I (.tuple ds) y u he ry
  exact SeqAt.notIn_tuple_reads r2 r1 (SeqAt.canLay_of_shaped se) (SeqAt.canLay_of_shaped sd) (room_in_shaped sd hu) ⟨.bl _, H, I, rfl, q⟩
def rInN (K : PySem.W.Frag) : R2 := fun x y H Q => rInD K x y H Q ∨ rInT K x y H Q
def rNotInN (K : PySem.W.Frag) : R2 := fun x y H Q => rNotInD K x y H Q ∨ rNotInT K x y H Q
theorem op_inN {X : Cx} (hu : X.A.units + 65 < cLine) : OpR X (compareOp .In) (rInN X.K) := (op_inD hu).or (op_inT hu)
theorem op_notInN {X : Cx} (hu : X.A.units + 65 < cLine) : OpR X (compareOp .NotIn) (rNotInN X.K) := (op_notInD hu).or (op_notInT hu)
theorem ok_in : OpOk c (rInN c.K) oIn := by
  intro fr τ σ H F x y d e res Q S vx vy hr k
  cases e <;> simp only [oIn, reduceCtorEq] at hr
  · split at hr
    · rename_i h
      cases hr
      rw [Bool.and_eq_true] at h
      exact .inl ⟨d, _, vx.dp S.sub, vy.dp S.sub, h.1, h.2, k _ H F (Same.refl F) S (.bl _)⟩
    · cases hr
  · split at hr
    · rename_i h
      cases hr
      rw [Bool.and_eq_true] at h
      exact .inr ⟨d, _, vx.dp S.sub, vy.dp S.sub, h.1, h.2, k _ H F (Same.refl F) S (.bl _)⟩
    · cases hr
theorem ok_notin : OpOk c (rNotInN c.K) oNotIn := by
  intro fr τ σ H F x y d e res Q S vx vy hr k
  cases e <;> simp only [oNotIn, reduceCtorEq] at hr
  · split at hr
    · rename_i h
      cases hr
      rw [Bool.and_eq_true] at h
      exact .inl ⟨d, _, vx.dp S.sub, vy.dp S.sub, h.1, h.2, k _ H F (Same.refl F) S (.bl _)⟩
    · cases hr
  · split at hr
    · rename_i h
      cases hr
      rw [Bool.and_eq_true] at h
      exact .inr ⟨d, _, vx.dp S.sub, vy.dp S.sub, h.1, h.2, k _ H F (Same.refl F) S (.bl _)⟩
    · cases hr
/-! ### subscripts -/
def rIxN (K : PySem.W.Frag) : R2 := fun x y H Q => rIxL K x y H Q ∨ rIxT K x y H Q
theorem ix_N {X : Cx} : IxR X (rIxN X.K) := ix_list.or ix_tup
theorem ok_ix : OpOk c (rIxN c.K) oIx := by
  intro fr τ σ H F x y d e res Q S vx vy hr k
  have at_ : ∀ {xs : List PyData} {vs : List V} {z : Int}, DtAll c.K F vs xs → (match N4.ixN xs.length z with | some j => (xs[j]?).map Ev.val | none => none) = some res → ∃ v d, atI vs z = some v ∧ res = .val d ∧ Dt c.K F v d := fun {xs vs z} da h => by
    cases hj : N4.ixN xs.length z with
    | none => simp only [hj] at h; cases h
    | some j =>
      simp only [hj] at h
      cases hg : xs[j]? with
      | none => rw [hg] at h; cases h
      | some d =>
        rw [hg] at h
        cases h
        obtain ⟨v, h1, h2⟩ := dtAll_get da hg
        refine ⟨v, d, ?_, rfl, h2⟩
        rw [ixN_eq, ← dtAll_length da] at hj
        unfold atI
        rw [hj]
        exact h1
  cases d <;> cases e <;> simp only [oIx, reduceCtorEq] at hr
  · obtain ⟨a, vs, rfl, ha, da⟩ := vx
    cases vy
    obtain ⟨v, d, h1, rfl, h2⟩ := at_ da hr
    exact .inl ⟨a, vs, _, v, rfl, rfl, SqL.of ha, h1, k _ H F (Same.refl F) S h2⟩
  · obtain ⟨a, vs, rfl, ha, da⟩ := vx
    cases vy
    obtain ⟨v, d, h1, rfl, h2⟩ := at_ da hr
    exact .inr ⟨a, vs, _, v, rfl, rfl, same_seqT S.sub ha, h1, k _ H F (Same.refl F) S h2⟩
/-! ### builtins -/
theorem vws1 {K : PySem.W.Frag} {F H : Hp} {xs : List V} {d : PyData} (h : Vws K F H xs [d]) : ∃ v, xs = [v] ∧ Vw K F H v d := by
  cases h with
  | cons h1 h2 =>
    cases h2
    exact ⟨_, rfl, h1⟩
theorem vws2 {K : PySem.W.Frag} {F H : Hp} {xs : List V} {d e : PyData} (h : Vws K F H xs [d, e]) : ∃ v w, xs = [v, w] ∧ Vw K F H v d ∧ Vw K F H w e := by
  cases h with
  | cons h1 h2 =>
    obtain ⟨w, rfl, h3⟩ := vws1 h2
    exact ⟨_, w, rfl, h1, h3⟩
theorem ok_len : BuOk c (fun xs H Q => ∃ p ys, xs = [.ref p] ∧ (SqL c.K H p ys ∨ SqT c.K H p ys) ∧ Q (.int ys.length) H) bLen := by
  intro fr τ σ H F xs ds res Q S vx hr k
  unfold bLen at hr
  split at hr
  · obtain ⟨v, rfl, h⟩ := vws1 vx
    obtain ⟨a, vs, rfl, ha, da⟩ := h
    cases hr
    rw [← dtAll_length da] at k
    exact ⟨a, vs, rfl, .inl (SqL.of ha), k _ H F (Same.refl F) S (.int _)⟩
  · obtain ⟨v, rfl, h⟩ := vws1 vx
    obtain ⟨a, vs, rfl, ha, da⟩ := h
    cases hr
    rw [← dtAll_length da] at k
    exact ⟨a, vs, rfl, .inr (same_seqT S.sub ha), k _ H F (Same.refl F) S (.int _)⟩
  · cases hr
theorem ok_list : BuOk c (fun xs H Q => ∃ p ys, xs = [.ref p] ∧ (SqL c.K H p ys ∨ SqT c.K H p ys) ∧ ∀ l, H l = none → Q (.ref l) (upd H l (.lst ys))) bList := by
  intro fr τ σ H F xs ds res Q S vx hr k
  unfold bList at hr
  split at hr
  · obtain ⟨v, rfl, h⟩ := vws1 vx
    obtain ⟨a, vs, rfl, ha, da⟩ := h
    cases hr
    refine ⟨a, vs, rfl, .inl (SqL.of ha), fun l hl => ?_⟩
    obtain ⟨S', r⟩ := S.newL hl da
    exact k _ _ F (Same.refl F) S' r
  · obtain ⟨v, rfl, h⟩ := vws1 vx
    obtain ⟨a, vs, rfl, ha, da⟩ := h
    cases hr
    refine ⟨a, vs, rfl, .inr (same_seqT S.sub ha), fun l hl => ?_⟩
    obtain ⟨S', r⟩ := S.newL hl da
    exact k _ _ F (Same.refl F) S' r
  · cases hr
theorem ok_tuple : BuOk c (fun xs H Q => ∃ p ys, xs = [.ref p] ∧ ((SqL c.K H p ys ∧ ∀ l, H l = none → Q (.ref l) (upd H l (.tup ys))) ∨ (SqT c.K H p ys ∧ Q (.ref p) H))) bTuple := by
  intro fr τ σ H F xs ds res Q S vx hr k
  unfold bTuple at hr
  split at hr
  · obtain ⟨v, rfl, h⟩ := vws1 vx
    obtain ⟨a, vs, rfl, ha, da⟩ := h
    cases hr
    refine ⟨a, vs, rfl, .inl ⟨SqL.of ha, fun l hl => ?_⟩⟩
    obtain ⟨g, S', r⟩ := S.newT hl da
    exact k _ _ _ g S' r
  · obtain ⟨v, rfl, h⟩ := vws1 vx
    obtain ⟨a, vs, rfl, ha, da⟩ := h
    cases hr
    exact ⟨a, vs, rfl, .inr ⟨same_seqT S.sub ha, k _ H F (Same.refl F) S (.tup ha da)⟩⟩
  · cases hr
theorem ok_min2 : BuOk c (fun xs H Q => ∃ i j, xs = [.int i, .int j] ∧ Q (.int (if j < i then j else i)) H) bMin2 := by
  intro fr τ σ H F xs ds res Q S vx hr k
  unfold bMin2 at hr
  split at hr
  · obtain ⟨v, w, rfl, h1, h2⟩ := vws2 vx
    cases h1
    cases h2
    cases hr
    exact ⟨_, _, rfl, k _ H F (Same.refl F) S (.int _)⟩
  · cases hr
theorem ok_max2 : BuOk c (fun xs H Q => ∃ i j, xs = [.int i, .int j] ∧ Q (.int (if j > i then j else i)) H) bMax2 := by
  intro fr τ σ H F xs ds res Q S vx hr k
  unfold bMax2 at hr
  split at hr
  · obtain ⟨v, w, rfl, h1, h2⟩ := vws2 vx
    cases h1
    cases h2
    cases hr
    exact ⟨_, _, rfl, k _ H F (Same.refl F) S (.int _)⟩
  · cases hr
theorem ok_int : BuOk c (fun xs H Q => (∃ i, xs = [.int i] ∧ Q (.int i) H) ∨ ∃ k, xs = [.bl k] ∧ Q (.int (if k then 1 else 0)) H) bInt := by
  intro fr τ σ H F xs ds res Q S vx hr k
  unfold bInt at hr
  split at hr
  · obtain ⟨v, rfl, h⟩ := vws1 vx
    cases h
    cases hr
    exact .inl ⟨_, rfl, k _ H F (Same.refl F) S (.int _)⟩
  · obtain ⟨v, rfl, h⟩ := vws1 vx
    cases h
    cases hr
    exact .inr ⟨_, rfl, k _ H F (Same.refl F) S (.int _)⟩
  · cases hr
/-! ### isinstance -/
def tyName : PyData → String
  | .none => "NoneType"
  | .bool _ => "bool"
  | .int _ => "int"
  | .str _ => "str"
  | .list _ => "list"
  | .tuple _ => "tuple"
  | .dict _ => "dict"
theorem vw_ty {F H : Hp} (s : Same F H) {x : V} {d : PyData} (h : Vw c.K F H x d) : TyX c.K H x (.type (tyName d)) := by
  cases d with
  | none => cases h; exact .base .non
  | bool b => cases h; exact .base (.bl b)
  | int i => cases h; exact .base (.int i)
  | str z => cases h; exact .base (.str z)
  | list ds =>
    obtain ⟨a, vs, rfl, ha, _⟩ := h
    exact .base (.lst ha)
  | tuple ds =>
    obtain ⟨a, vs, rfl, ha, _⟩ := h
    rcases same_seqT s ha with (z | ⟨o, z⟩) | ⟨o, its, n, z, hc, _⟩
    · exact .base (.tup z)
    · exact .fTuple z
    · exact .kTuple z hc
  | dict _ => exact h.elim
end
end N4
end
section
set_option Elab.async false
set_option linter.all false
set_option autoImplicit false
set_option maxRecDepth 100000
set_option maxHeartbeats 1000000
/-! isinstance, repr, index, slices, sorted, list(range), times. -/
namespace N4
open PySem PySem.Spec PyProof.Rows L2

/-! ### isinstance -/
inductive IsT | int | bool | tuple | list | str
def IsT.name : IsT → String
  | .int => "int"
  | .bool => "bool"
  | .tuple => "tuple"
  | .list => "list"
  | .str => "str"
def isaB : IsT → PyData → Bool
  | .int => isaInt
  | .bool => isaBool
  | .tuple => isaTuple
  | .list => isaList
  | .str => isaStr
def oIsa (t : IsT) : PyData → Option Ev
  | .dict _ => none
  | d => some (.val (.bool (isaB t d)))
theorem kit_isa (t : IsT) (d : PyData) (h : ∀ kv, d ≠ .dict kv) : kitB (tyName d) t.name = some (isaB t d) := by
  cases d with
  | dict kv => exact absurd rfl (h kv)
  | none => cases t <;> decide +kernel
  | bool b => cases t <;> (simp only [tyName, IsT.name, isaB, isaInt, isaBool, isaTuple, isaList, isaStr]; decide +kernel)
  | int i => cases t <;> (simp only [tyName, IsT.name, isaB, isaInt, isaBool, isaTuple, isaList, isaStr]; decide +kernel)
  | str x => cases t <;> (simp only [tyName, IsT.name, isaB, isaInt, isaBool, isaTuple, isaList, isaStr]; decide +kernel)
  | list ds => cases t <;> (simp only [tyName, IsT.name, isaB, isaInt, isaBool, isaTuple, isaList, isaStr]; decide +kernel)
  | tuple ds => cases t <;> (simp only [tyName, IsT.name, isaB, isaInt, isaBool, isaTuple, isaList, isaStr]; decide +kernel)
section
variable {X : Cx} {c : Cf} {W : WX} {a b e : Expr} {es : List Expr} {pos p pt : Pos} {ma mb mc : M Ev} {ms : List (M Ev)}
theorem x_isi (t : IsT) {x : PySem.Str} (ha : PE X e (rdE c W ma)) (hK : X.K = c.K) (hm : X.mg "isinstance" = none) (hmt : X.mg x = none) (hv : bootBuiltins x = some (.type t.name) := by rfl) (hg : Gl X "isinstance" := by rfl) (hgt : Gl X x := by rfl)
    (hnt : x ≠ "__name__" := by decide) (hdt : (x == ("__debug__" : PySem.Str)) = false := by decide)
    (hs : starEach [e, .Name x pt] X.env = (false, eval e X.env) :: starEach [.Name x pt] X.env := by rfl) (hs2 : starEach [.Name x pt] X.env = (false, eval (.Name x pt) X.env) :: starEach [] X.env := by rfl) (hpl : (backTo pos (starEach [.Name x pt] X.env)).any (·.1) = false := by rfl) :
    PE X (.Call (.Name "isinstance" p) [e, .Name x pt] [] pos) (rdE c W (eUn (oIsa t) ma)) :=
  (pe_callB call_isi hg hm PyProof.Rows.boot_isinstance (pa_cons ha (pa_cons (pe_bltn (v := .ty t.name) hgt hmt hv rfl hnt hdt) pa_nil hs2) hs) (by decide) (by decide) hs hpl).impN fun σ H Q h => by
    obtain ⟨fr, τ, F, S, q⟩ := h
    refine (post_bind (R := EvOk c) S q).mono fun v H1 ⟨e1, τ1, F1, g1, S1, r1, q1⟩ => ?_
    cases hd : look τ1 e1 with
    | none => simp only [hd] at q1; exact q1.elim
    | some d =>
      simp only [hd] at q1
      have vw := look_vw S1 r1 hd
      have nd : ∀ kv, d ≠ .dict kv := fun kv z => by subst z; exact vw.elim
      have ed : oIsa t d = some (.val (.bool (isaB t d))) := by
        cases d with
        | dict kv => exact absurd rfl (nd kv)
        | _ => rfl
      rw [ed] at q1
      simp only at q1
      refine ⟨v, .ty t.name, .type (tyName d), .type t.name, isaB t d, rfl, .ty _, ?_, kit_ty (kit_isa t d nd), q1 _ H1 F1 (Same.refl F1) S1 (.bl _)⟩
      rw [hK]
      exact vw_ty S1.sub vw

/-! ### repr -/
def rRepr (K : PySem.W.Frag) : List V → Hp → VK → Prop := fun xs H Q => ∃ (x : V) (d : PyData), xs = [x] ∧ Dp K H x d ∧ d.showable = true ∧ SeqAt.shaped d = true ∧ d.shown.length ≤ sizeLine ∧ Q (.str d.shown) H
theorem cr_repr (hgd : X.A.guards = some []) (hu : X.A.units + 65 < cLine) : CallR X (.builtin "repr") (rRepr X.K) := by
  intro pins s σ H xs us Q I r h
  obtain ⟨x, d, rfl, hd, hs, hsh, hz, q⟩ := h
  obtain ⟨u, rfl, ru⟩ := r.one
  obtain ⟨as, rd⟩ := Dp.reads I d x u hd ru
  have hl := SeqAt.canLay_of_shaped hsh
  have hdp := SeqAt.depth_of_shaped hsh
  have hnd := PyData.hasDict_of_canLay d hl
  have go : ∀ a, u = .ref a → wpAny (model X.prog X.w) X.A (call (.builtin "repr") [u]) (EP X pins σ Q) X.xe s := fun a e => by
    subst e
    exact PySem.repr_of_reads' rd hs (PyData.noDict_hsm hnd) hgd (by omega) (fun b o e => e) (fun h' t tk hk => ⟨.str d.shown, H, I.kept hk, ⟨t, rfl⟩, q⟩) hz
  cases hd with
  | non => cases ru; exact PySem.P.repr_of_none ⟨.str _, H, I.tok _, ⟨_, rfl⟩, q⟩
  | bl b =>
    cases ru
    cases b
    · exact PySem.P.repr_of_bool ⟨.str _, H, I.tok _, ⟨_, rfl⟩, q⟩
    · exact PySem.P.repr_of_bool ⟨.str _, H, I.tok _, ⟨_, rfl⟩, q⟩
  | int i =>
    obtain ⟨t, rfl⟩ := ru
    exact PySem.P.repr_of_int (of_decide_eq_true hs) ⟨.str _, H, I.tok _, ⟨_, rfl⟩, q⟩
  | str z =>
    obtain ⟨t, rfl⟩ := ru
    exact PySem.P.repr_of_str ⟨.str _, H, I.tok _, ⟨_, rfl⟩, q⟩ hz
  | lst h1 h2 => exact go _ ru
  | tup h1 h2 => exact go _ ru
theorem ok_repr : BuOk c (rRepr c.K) bRepr := by
  intro fr τ σ H F xs ds res Q S vx hr k
  unfold bRepr at hr
  split at hr
  · obtain ⟨v, rfl, h⟩ := vws1 vx
    split at hr
    · rename_i hh
      cases hr
      simp only [Bool.and_eq_true, decide_eq_true_eq] at hh
      exact ⟨v, _, rfl, h.dp S.sub, hh.1.1, hh.2, by rw [← line_eq]; exact hh.1.2, k _ H F (Same.refl F) S (.str _)⟩
    · cases hr
  · cases hr
/-! ### list.index -/
theorem idxOf_some {d : PyData} : ∀ {ds : List PyData} {j : Nat}, idxOf d ds = some j → ∃ z, ds[j]? = some z ∧ PyData.eqv z d = true ∧ ∀ (m : Nat) (z' : PyData), m < j → ds[m]? = some z' → PyData.eqv z' d = false
  | [], _, h => by cases h
  | x :: xs, j, h => by
    unfold idxOf at h
    split at h
    · rename_i he
      cases h
      exact ⟨x, rfl, he, fun m z' hm => absurd hm (Nat.not_lt_zero m)⟩
    · rename_i he
      cases hj : idxOf d xs with
      | none => rw [hj] at h; cases h
      | some k =>
        rw [hj] at h
        cases h
        obtain ⟨z, h1, h2, h3⟩ := idxOf_some hj
        refine ⟨z, h1, h2, fun m z' hm hz => ?_⟩
        cases m with
        | zero => cases hz; exact Bool.eq_false_iff.mpr he
        | succ m => exact h3 m z' (Nat.lt_of_succ_lt_succ hm) hz
theorem ok_index : MtOk c (rIndexD c.K) bIndex := by
  intro fr τ σ H F x xs d ds res Q S vx vxs hr k
  unfold bIndex at hr
  split at hr
  · rename_i ys d'
    obtain ⟨v, rfl, h⟩ := vws1 vxs
    split at hr
    · rename_i hh
      rw [Bool.and_eq_true] at hh
      cases hj : idxOf d' ys with
      | none => rw [hj] at hr; cases hr
      | some j =>
        rw [hj] at hr
        cases hr
        obtain ⟨z, h1, h2, h3⟩ := idxOf_some hj
        have e := vx.dp S.sub
        obtain ⟨a, vs, rfl, ha, da⟩ := vx
        exact ⟨a, v, d', ys, j, z, rfl, rfl, e, h.dp S.sub, hh.2, hh.1, h1, h2, h3, k _ H F (Same.refl F) S (.int _)⟩
    · cases hr
  · cases hr
/-- a method of lists, one argument: the receiver's look, then the argument -/
def eLm (f : PyData → List PyData → Option Ev) (a : M Ev) (as : List (M Ev)) : M Ev := mBind a fun x => fun s => match look s x with
  | some (.list _) => mBind (evs as) (fun ys => fun s2 => match look s2 x, looks s2 ys with
    | some d, some ds => match f d ds with
      | some r => .ok r s2
      | none => .bad
    | _, _ => .bad) s
  | _ => .bad
theorem x_lm {o : Expr} {name : PySem.Str} {id : String} {f : PyData → List PyData → Option Ev} {r : V → List V → Hp → VK → Prop} {apos cpos : Pos} (slot : PySem.Slot "list" name id) (hty : typeOf (.builtin id) = pure (.type "method_descriptor")) (hmt : MtR X id r) (hk : MtOk c r f)
    (hK : X.K = c.K) (ho : PE X o (rdE c W ma)) (ha : PA X (e :: es) (rdV c W (evs ms)))
    (hbase : attributeBase o name X.env (eval o X.env) = eval o X.env := by rfl)
    (hfew : ((backTo cpos (starEach (e :: es) X.env)).all (fun x => !x.1) && (backToKw cpos (keywordEach [] X.env)).all (fun x => x.1.isSome) && decide ((e :: es : List Expr).length + ([] : List Keyword).length + (if ([] : List Keyword).isEmpty then 0 else 1) < 30)) = true := by rfl)
    (hline : (apos.endLine == cpos.line) = true := by rfl) (hs : starEach (e :: es) X.env = (false, eval e X.env) :: starEach es X.env := by rfl) (hplain : (backTo cpos (starEach es X.env)).any (·.1) = false := by rfl) :
    PE X (.Call (.Attribute o name apos) (e :: es) [] cpos) (rdE c W (eLm f ma ms)) :=
  (pe_bm PySem.F.plainAttrs_list slot hty hmt ho ha hbase hfew hline hs hplain).impN fun σ H Q ⟨fr, τ, F, S, q⟩ => by
    refine (post_bind (R := EvOk c) S q).mono fun v H1 ⟨e1, τ1, F1, g1, S1, r1, q1⟩ => ?_
    obtain ⟨F2, g2, S2, r2⟩ := S1.settle r1
    cases hd : look τ1 e1 with
    | none => simp only [hd] at q1; exact q1.elim
    | some d =>
      cases d with
      | list ds0 =>
        simp only [hd] at q1
        obtain ⟨a, vs, rfl, hl, da⟩ := look_vw S2 r2 (by rw [look_settle]; exact hd)
        refine ⟨.inl ⟨rfl, vs, by rw [hK]; exact SqL.of hl⟩, ?_⟩
        refine (post_bind (R := EsOk c) S2 (PostM.grow g2 q1)).mono fun vs H3 ⟨xs, τ3, F3, g3, S3, r3, q3⟩ => ?_
        have rv : EvOk c fr σ τ3 H3 F3 (.ref a) (settle e1) := EvOk.later (by exact r2) g3
        cases hx : look τ3 e1 with
        | none => simp only [hx] at q3; exact q3.elim
        | some d =>
          cases hy : looks τ3 xs with
          | none => simp only [hx, hy] at q3; exact q3.elim
          | some ds =>
            simp only [hx, hy] at q3
            cases hf : f d ds with
            | none => simp only [hf] at q3; exact q3.elim
            | some res =>
              simp only [hf] at q3
              exact hk fr τ3 σ H3 F3 _ vs d ds res Q S3 (look_vw S3 rv (by rw [look_settle]; exact hx)) (looks_vws S3 r3 hy) hf fun v' H' F' s S' r' => q3 v' H' F' s S' r'
      | _ => simp only [hd] at q1; exact q1.elim
theorem x_index (hu : X.A.units + 65 < cLine) (hK : X.K = c.K) {o : Expr} {apos cpos : Pos} (ho : PE X o (rdE c W ma)) (ha : PA X [e] (rdV c W (evs ms)))
    (hbase : attributeBase o "index" X.env (eval o X.env) = eval o X.env := by rfl)
    (hfew : ((backTo cpos (starEach [e] X.env)).all (fun x => !x.1) && (backToKw cpos (keywordEach [] X.env)).all (fun x => x.1.isSome) && decide (([e] : List Expr).length + ([] : List Keyword).length + (if ([] : List Keyword).isEmpty then 0 else 1) < 30)) = true := by rfl)
    (hline : (apos.endLine == cpos.line) = true := by rfl) (hs : starEach [e] X.env = (false, eval e X.env) :: starEach [] X.env := by rfl) (hplain : (backTo cpos (starEach [] X.env)).any (·.1) = false := by rfl) :
    PE X (.Call (.Attribute o "index" apos) [e] [] cpos) (rdE c W (eLm bIndex ma ms)) :=
  x_lm PySem.F.slot_list_index PySem.F.type_list_index (mt_indexD hu) (by rw [hK]; exact ok_index) hK ho ha hbase hfew hline hs hplain

/-! ### slices -/
def sixN (len : Nat) (dflt : Nat) : Option Int → Nat := HT.sIx len dflt
def cutN (xs : List PyData) (lo hi : Option Int) : List PyData := (xs.drop (HT.sIx xs.length 0 lo)).take (HT.sIx xs.length xs.length hi - HT.sIx xs.length 0 lo)
def oSl (lo hi : Option Int) : PyData → Option Ev
  | .list xs => some (.fresh (cutN xs lo hi))
  | .tuple xs => some (.val (.tuple (cutN xs lo hi)))
  | _ => none
def pOf : Option (M Ev) → M (Option Int)
  | none => mRet none
  | some a => mBind a fun x => match x with
    | .val (.int i) => mRet (some i)
    | _ => mBad
def eSl (a : M Ev) (lo hi : Option (M Ev)) : M Ev := mBind a fun x => mBind (pOf lo) fun l => mBind (pOf hi) fun h => fun s => match look s x with
  | some d => match oSl l h d with
    | some r => .ok r s
    | none => .bad
  | none => .bad
def EqO : Fr → L2.St → N4.St → Hp → Hp → Option Int → Option Int → Prop := fun _ _ _ _ _ x y => x = y
abbrev rdO (c : Cf) (W : WX) (m : M (Option Int)) : TO := rdM c W EqO m
theorem _root_.L2.PO.impN {X : Cx} {e : Option Expr} {t u : TO} (h : PO X e t) (k : ∀ σ H Q, u σ H Q → t σ H Q) : PO X e u := ⟨fun pins s σ H Q I q => h.run pins s σ H Q I (k σ H Q q)⟩
theorem o_none : PO X none (rdO c W (pOf none)) := po_none.impN fun σ H Q ⟨fr, τ, F, S, q⟩ => post_ret S q rfl
theorem o_some (h : PE X e (rdE c W ma)) : PO X (some e) (rdO c W (pOf (some ma))) := (po_some h).impN fun σ H Q ⟨fr, τ, F, S, q⟩ => by
  refine (post_bind (R := EvOk c) S q).mono fun v H1 ⟨e1, τ1, F1, g1, S1, r1, q1⟩ => ?_
  cases e1 with
  | val d =>
    cases d with
    | int i =>
      cases r1
      exact ⟨i, rfl, post_ret S1 q1 rfl⟩
    | _ => exact q1.elim
  | _ => exact q1.elim
theorem cut_all {K : PySem.W.Frag} {F : Hp} {vs : List V} {ds : List PyData} (h : DtAll K F vs ds) (lo hi : Option Int) : DtAll K F (cutV vs lo hi) (cutN ds lo hi) := by
  unfold cutV cutN
  rw [dtAll_length h]
  exact dtAll_take _ (dtAll_drop _ h)
def rSlN (K : PySem.W.Frag) : V → Option Int → Option Int → Hp → VK → Prop := fun x lo hi H Q => rSlL K x lo hi H Q ∨ rSlA K x lo hi H Q
theorem x_sl {lo hi : Option Expr} {ml mh : Option (M Ev)} {p2 : Pos} (hK : X.K = c.K) (ha : PE X a (rdE c W ma)) (hl : PO X lo (rdO c W (pOf ml))) (hh : PO X hi (rdO c W (pOf mh))) : PE X (.Subscript a (.Slice lo hi none p2) pos) (rdE c W (eSl ma ml mh)) :=
  (pe_slice (sl_list.or sl_tupA) ha hl hh).impN fun σ H Q ⟨fr, τ, F, S, q⟩ => by
    refine (post_bind (R := EvOk c) S q).mono fun v H1 ⟨e1, τ1, F1, g1, S1, r1, q1⟩ => ?_
    obtain ⟨F2, g2, S2, r2⟩ := S1.settle r1
    refine (post_bind (R := EqO) S2 (q1.grow g2)).mono fun l H3 ⟨l', τ3, F3, g3, S3, r3, q3⟩ => ?_
    have r3 : l = l' := r3
    subst r3
    have rv : EvOk c fr σ τ3 H3 F3 v (settle e1) := EvOk.later (by exact r2) g3
    refine (post_bind (R := EqO) S3 q3).mono fun h H4 ⟨h', τ4, F4, g4, S4, r4, q4⟩ => ?_
    have r4 : h = h' := r4
    subst r4
    have rv4 : EvOk c fr σ τ4 H4 F4 v (settle e1) := EvOk.later rv g4
    cases hd : look τ4 e1 with
    | none => simp only [hd] at q4; exact q4.elim
    | some d =>
      simp only [hd] at q4
      have vw := look_vw S4 rv4 (by rw [look_settle]; exact hd)
      rw [hK]
      cases d with
      | list xs =>
        obtain ⟨a, vs, rfl, h1, h2⟩ := vw
        simp only [oSl] at q4
        refine .inl ⟨a, vs, rfl, SqL.of h1, fun p hp => ?_⟩
        obtain ⟨S5, r5⟩ := S4.newL hp (cut_all h2 l h)
        exact q4 _ _ F4 (Same.refl F4) S5 r5
      | tuple xs =>
        obtain ⟨a, vs, rfl, h1, h2⟩ := vw
        simp only [oSl] at q4
        refine .inr ⟨a, vs, rfl, same_seqT S4.sub h1, fun hw => ?_, fun _ p hp => ?_⟩
        · have e : cutN xs l h = xs := by
            unfold cutN
            rw [dtAll_length h2] at hw
            rw [hw.1, hw.2, List.drop_zero, Nat.sub_zero, List.take_length]
          rw [e] at q4
          exact q4 _ H4 F4 (Same.refl F4) S4 (.tup h1 h2)
        · obtain ⟨g5, S5, r5⟩ := S4.newT hp (cut_all h2 l h)
          exact q4 _ _ _ g5 S5 r5
      | _ => simp only [oSl] at q4; exact q4.elim

/-! ### sorted, list(range), times -/
def toI : PyData → Option Int
  | .int i => some i
  | _ => none
def toIs : List PyData → Option (List Int)
  | [] => some []
  | d :: ds => match toI d, toIs ds with
    | some i, some is => some (i :: is)
    | _, _ => none
theorem toIs_eq : ∀ {ds : List PyData} {ns : List Int}, toIs ds = some ns → ds = ns.map PyData.int
  | [], _, h => by cases h; rfl
  | d :: ds, ns, h => by
    unfold toIs at h
    cases d with
    | int i =>
      simp only [toI] at h
      cases hs : toIs ds with
      | none => rw [hs] at h; cases h
      | some js =>
        rw [hs] at h
        cases h
        rw [toIs_eq hs]
        rfl
    | _ => simp only [toI] at h; cases h
def insN (x : Int) : List Int → List Int
  | [] => [x]
  | y :: r => if y < x then y :: insN x r else x :: y :: r
def sortN (ns : List Int) : List Int := ns.foldr insN []
theorem insN_perm (x : Int) : ∀ l : List Int, (insN x l).Perm (x :: l)
  | [] => .refl _
  | y :: r => by
    unfold insN
    split
    · exact ((insN_perm x r).cons y).trans (.swap x y r)
    · exact .refl _
theorem sortN_perm : ∀ ns : List Int, (sortN ns).Perm ns
  | [] => .refl _
  | x :: r => (insN_perm x _).trans ((sortN_perm r).cons x)
theorem insN_rises (x : Int) : ∀ l : List Int, l.Pairwise (· ≤ ·) → (insN x l).Pairwise (· ≤ ·)
  | [], _ => by simp [insN]
  | y :: r, h => by
    obtain ⟨h1, h2⟩ := List.pairwise_cons.mp h
    unfold insN
    split
    · rename_i hlt
      refine List.pairwise_cons.mpr ⟨fun z hz => ?_, insN_rises x r h2⟩
      rcases List.mem_cons.mp ((insN_perm x r).mem_iff.mp hz) with e | hz
      · omega
      · exact h1 z hz
    · rename_i hge
      refine List.pairwise_cons.mpr ⟨fun z hz => ?_, h⟩
      rcases List.mem_cons.mp hz with e | hz
      · omega
      · have := h1 z hz
        omega
theorem sortN_rises : ∀ ns : List Int, (sortN ns).Pairwise (· ≤ ·)
  | [] => .nil
  | x :: r => insN_rises x _ (sortN_rises r)
theorem eq_sortN {ns ms : List Int} (hp : ms.Perm ns) (hs : ms.Pairwise (· ≤ ·)) : ms = sortN ns :=
  List.Perm.eq_of_pairwise (fun _ _ _ _ a b => Int.le_antisymm a b) hs (sortN_rises ns) (hp.trans (sortN_perm ns).symm)
def bSorted : List PyData → Option Ev
  | [.list ds] => (toIs ds).map fun ns => .fresh ((sortN ns).map .int)
  | _ => none
theorem dtAll_vals {K : PySem.W.Frag} {F : Hp} : ∀ {vs : List V} {ns : List Int}, DtAll K F vs (ns.map PyData.int) → vs = ns.map V.int
  | _, [], h => by cases h; rfl
  | _, n :: ns, h => by
    cases h with
    | cons h1 h2 =>
      cases h1
      rw [dtAll_vals h2]
      rfl
theorem ok_sorted : BuOk c (rSortedI c.K) bSorted := by
  intro fr τ σ H F xs ds res Q S vx hr k
  unfold bSorted at hr
  split at hr
  · rename_i ds
    obtain ⟨v, rfl, h⟩ := vws1 vx
    obtain ⟨a, vs, rfl, ha, da⟩ := h
    cases hn : toIs ds with
    | none => rw [hn] at hr; cases hr
    | some ns =>
      rw [hn] at hr
      cases hr
      have e := toIs_eq hn
      subst e
      have e2 := dtAll_vals da
      subst e2
      refine ⟨a, ns, rfl, SqL.of ha, fun ns' p hp hw hpn => ?_⟩
      have e3 := eq_sortN hp hw
      subst e3
      obtain ⟨S', r⟩ := S.newL hpn (dtAll_ints (K := c.K) (F := F) (sortN ns))
      exact k _ _ F (Same.refl F) S' r
  · cases hr
def eLrng (a : M Ev) : M Ev := mBind a fun x => match x with
  | .val (.int j) => if -boundN ≤ j ∧ j < boundN ∧ j ≤ 16777216 then mRet (.fresh (intsN 0 j.toNat)) else mBad
  | _ => mBad
theorem intsN_map : ∀ (n : Nat) (lo : Int), intsN lo n = ((List.range n).map fun i => PyData.int (lo + (i : Nat)))
  | 0, _ => rfl
  | n + 1, lo => by
    rw [List.range_succ_eq_map, List.map_cons, List.map_map, intsN, intsN_map n (lo + 1)]
    congr 1
    · simp
    · apply List.map_congr_left
      intro i _
      show PyData.int _ = PyData.int _
      congr 1
      simp
      omega
theorem rgV_dt {K : PySem.W.Frag} {F : Hp} (j : Int) : DtAll K F (rgV 0 j) (intsN 0 j.toNat) := by
  rw [intsN_map]
  unfold rgV
  rw [Int.sub_zero]
  have h := dtAll_ints (K := K) (F := F) ((List.range j.toNat).map fun i => ((0 : Int) + (i : Nat)))
  rw [List.map_map, List.map_map] at h
  exact h
theorem x_lrng {p2 pos2 : Pos} (hc : X.calm = true) (hm : X.mg "list" = none) (hm2 : X.mg "range" = none) (ha : PE X a (rdE c W ma)) (hg : Gl X "list" := by rfl) (hg2 : Gl X "range" := by rfl) (na : starEach [a] X.env = (false, eval a X.env) :: starEach [] X.env := by rfl)
    (na2 : starEach [.Call (.Name "range" p2) [a] [] pos2] X.env = (false, eval (.Call (.Name "range" p2) [a] [] pos2) X.env) :: starEach [] X.env := by rfl) : PE X (.Call (.Name "list" p) [.Call (.Name "range" p2) [a] [] pos2] [] pos) (rdE c W (eLrng ma)) :=
  (pe_listRg hc hg hm (prg_1 hg2 hm2 ha na) na2).impN fun σ H Q ⟨fr, τ, F, S, q⟩ => by
    refine (post_bind (R := EvOk c) S q).mono fun v H1 ⟨e1, τ1, F1, g1, S1, r1, q1⟩ => ?_
    cases e1 with
    | val d =>
      cases d with
      | int j =>
        cases r1
        by_cases hb : -boundN ≤ j ∧ j < boundN ∧ j ≤ 16777216
        · simp only [if_pos hb] at q1
          rw [bound_eq] at hb
          refine ⟨j, rfl, ⟨by decide, by decide, hb.1, hb.2.1, by omega⟩, fun r hr => ?_⟩
          obtain ⟨S2, r2⟩ := S1.newL hr (rgV_dt (K := c.K) (F := F1) j)
          exact q1 _ _ F1 (Same.refl F1) S2 r2
        · simp only [if_neg hb] at q1
          exact q1.elim
      | _ => exact q1.elim
    | _ => exact q1.elim
end
end N4
end
section
set_option Elab.async false
set_option linter.all false
set_option autoImplicit false
set_option maxRecDepth 100000
set_option maxHeartbeats 1000000
/-! enumerate of lists and tuples, zip, times. -/
namespace N4
open PySem PySem.Spec PyProof.Rows L2

/-! ### enumerate(tuple) -/
theorem new_enumT (T : Addr) (items : Array Value) :
    Meets (Builtin.«enumerate.__new__» ⟨[.type "enumerate", .ref T], []⟩) (fun _ R s => s.heap.IsTuple T items ∧
      R (.ok (.ret (.ref (s.heap.push { cls := .type "tuple_iterator", data := .fields #[.ref T, .int 0 0] }).objs.size)))
        { s with heap := (s.heap.push { cls := .type "tuple_iterator", data := .fields #[.ref T, .int 0 0] }).push { cls := .type "enumerate", data := .fields #[.none, .bool false, .ref s.heap.objs.size, rawInt 0, .none, .none] } }) :=
  .of_wp fun prog w A R s hyp => by
    obtain ⟨hp, gs, dr, tk, os⟩ := s
    obtain ⟨ht, hyp⟩ := hyp
    have hsub := sub_enumerate
    have step : ∀ {A' : Around} {E : Value → Shared → Prop} {Q : Value → Shared → Prop}, Q (.ref hp.objs.size) ⟨hp.push { cls := .type "tuple_iterator", data := .fields #[.ref T, .int 0 0] }, gs, dr, tk, os⟩ → wpAny (model prog w) A' (pyIter (.ref T)) Q E ⟨hp, gs, dr, tk, os⟩ :=
      fun q => wpAny_pyIter_tuple ht q
    wp_walk using step
    refine wpAny_stack_any fun stk => wpAny_pure ?_
    split
    · rename_i cl _ _ _ _ _
      cases (cl == Value.type "enumerate") <;> (wp_walk using step; exact ⟨_, rfl, hyp⟩)
    · wp_walk using step
      exact ⟨_, rfl, hyp⟩
section
variable {prog : Program} {w : World} {A : Around} {E : Value → Shared → Prop} {s : Shared}
theorem call_enumT {T : Addr} {items : Array Value} {Q : Value → Shared → Prop} (ht : s.heap.IsTuple T items)
    (k : ∀ h', IsEnum h' (s.heap.objs.size + 1) s.heap.objs.size 0 .none → h'.IsTupleIter s.heap.objs.size T 0 → (∀ b o, s.heap.get? b = some o → h'.get? b = some o) → Q (.ref (s.heap.objs.size + 1)) { s with heap := h' }) :
    wpAny (model prog w) A (call (.type "enumerate") [.ref T]) Q E s := by
  refine callType_new F.called_enumerate (by decide) (F.typeCall_enumerate_1 _) (F.newCall_enumerate_1 _) (fun ob => F.args_object_init_2 ob _) F.entry_enumerate_new (new_enumT T items) ⟨ht, ?_⟩
  have z1 : (s.heap.push { cls := .type "tuple_iterator", data := .fields #[.ref T, .int 0 0] }).objs.size = s.heap.objs.size + 1 := Heap.size_push ..
  have en := Heap.get?_push_size (s.heap.push { cls := .type "tuple_iterator", data := .fields #[.ref T, .int 0 0] }) (o := { cls := .type "enumerate", data := .fields #[.none, .bool false, .ref s.heap.objs.size, rawInt 0, .none, .none] }) rfl
  show _ ∧ _
  rw [z1] at en ⊢
  exact ⟨⟨_, en, rfl⟩, k _ en ⟨_, Heap.get?_push_of_some _ (Heap.get?_push_size _ rfl), rfl, rfl⟩ fun b o x => Heap.get?_push_of_some _ (Heap.get?_push_of_some _ x)⟩
end
/-- the tuple at a, each item in a new pair -/
def ItEnT (K : PySem.W.Frag) (a : Addr) : It :=
  ⟨fun i H => ∃ (xs : List V) (x : V), SqT K H a xs ∧ xs[i]? = some x, fun i H v H' => ∃ T x, v = .ref T ∧ H T = none ∧ H' = upd H T (.tup [.int (i : Nat), x]) ∧ ∀ xs, SqT K H a xs → xs[i]? = some x, fun i H => ∃ xs : List V, SqT K H a xs ∧ xs.length ≤ i⟩
theorem turn_enumT {P : Program} {w : World} {K : PySem.W.Frag} {elts : List Expr} {kk : Nat} {tpos : Pos} (a e it : Addr) (hne2 : a ≠ it) (hea : e ≠ a) :
    Turn P w K (.Tuple elts kk tpos) (ItEnT K a) [e, it] e (fun i h => (∃ old, IsEnum h e it ((i : Nat) : Int) old) ∧ h.IsTupleIter it a i ∧ e ≠ it) where
  mem := by simp
  obj := fun i h st b hb => by
    obtain ⟨⟨old, he⟩, ⟨o, ho, hc, hd⟩, _⟩ := st
    rcases (by simpa using hb : b = e ∨ b = it) with rfl | rfl
    · exact ⟨_, he, fun v q => nomatch q⟩
    · exact ⟨o, ho, fun v q => by rw [hd] at q; cases q⟩
  keep := fun i h h' st k => by
    obtain ⟨⟨old, he⟩, hi, hne⟩ := st
    exact ⟨⟨old, k e (by simp) _ he⟩, hi.at fun o q => k it (by simp) o q, hne⟩
  item := by
    intro X hP hw hK hc i pins s σ H E I hf st hg
    subst hP hw hK
    obtain ⟨⟨old, he⟩, hit, hne⟩ := st
    obtain ⟨xs, x, hq, hx⟩ := hg
    obtain ⟨its, rv, p, hz⟩ := I.tuple hq
    obtain ⟨u, hu, ru⟩ := rv.get hx
    have p : s.heap.IsTuple a its.toArray := p
    have hel : e < s.heap.objs.size := Heap.lt_size he
    have hil : it < s.heap.objs.size := by obtain ⟨_, q, _⟩ := hit; exact Heap.lt_size q
    have hlt : i < its.toArray.size := by
      rw [List.size_toArray]
      exact (List.getElem?_eq_some_iff.mp hu).1
    refine wpAny_pyNext_enum_itemD (Draws.tuple (A := X.A.in1) (I.ok.hd hc) it a hne2 its.toArray) he ⟨hit, p⟩ hlt hne (by simp [hne, hea]) fun x' h' tk hP ho st' hT hsz hk => ?_
    have ex : x' = u := by
      rw [List.getElem?_toArray, hu] at hP
      exact (Option.some.inj hP).symm
    subst ex
    refine ⟨_, rfl, wpAny_letOwnedTupleGo_enum (s := { s with heap := h', toks := tk + 1 }) ho fun h'' he' sb => ?_⟩
    have hT2 : h''.get? s.heap.objs.size = some { cls := .type "tuple", data := .seq #[.int i tk, x'] } := (sb.2 _ (Nat.ne_of_gt hel)).trans hT
    have nw : ObjOk X.prog X.w (upd H s.heap.objs.size (.tup [.int (i : Nat), x])) h'' s.heap.objs.size (.tup [.int (i : Nat), x]) :=
      ⟨by show 2 ≤ sizeLine; decide, [.int i tk, x'], .cons ⟨_, rfl⟩ (.cons ru .nil), ⟨_, hT2, rfl, _, rfl⟩⟩
    have I1 : Inv X pins σ (upd H s.heap.objs.size (.tup [.int (i : Nat), x])) { s with heap := h'', toks := tk + 1 } :=
      I.turnedNew (ch := [e, it]) (fun b ob hb q => (sb.2 b (fun z => hb (by simp [z]))).trans (hk b ob (fun z => hb (by simp [z])) (fun z => hb (by simp [z])) q)) hf (Nat.le_refl _) nw
    refine ⟨.ref s.heap.objs.size, _, I1, rfl, ⟨_, x, rfl, I.hok.fresh (Nat.le_refl _), rfl, fun ys hy => by rw [I.tuple_inj hy hq]; exact hx⟩, ⟨⟨x', ?_⟩, st'.1.at fun o q => (sb.2 it (Ne.symm hne)).trans q, hne⟩, fun b hb => ?_⟩
    · have e1 : ((i + 1 : Nat) : Int) = (i : Int) + 1 := by omega
      rw [e1]; exact he'
    · have hb' : b < s.heap.objs.size := by
        rcases (by simpa using hb : b = e ∨ b = it) with rfl | rfl
        · exact hel
        · exact hil
      rw [upd_ne (Nat.ne_of_lt hb')]
      exact (hf b hb).1
  done := by
    intro X hP hw hK hc i pins s σ H E I hf st hg
    subst hP hw hK
    obtain ⟨⟨old, he⟩, hit, hne⟩ := st
    obtain ⟨xs, hq, hx⟩ := hg
    obtain ⟨its, rv, p, hz⟩ := I.tuple hq
    obtain ⟨f0, f1, f2, f3, f4, f5⟩ := hf it (by simp)
    have hl := rv.length
    have p : s.heap.IsTuple a its.toArray := p
    have hge : its.toArray.size ≤ i := by rw [List.size_toArray]; omega
    exact wpAny_pyNext_enum_endD (n := i) (P := fun _ _ => True) (St := fun j h => j = i ∧ h.IsTupleIter it a i ∧ h.IsTuple a its.toArray) (fp := [it, a])
      { live := fun _ _ st => let ⟨o, ho, _⟩ := st.2.1; ⟨o, ho⟩
        frame := fun _ _ _ st hk => ⟨st.1, st.2.1.at fun o e => hk it (by simp) o e, st.2.2.at fun o e => hk a (by simp) o e⟩
        item := fun j s' Q' E' hj st' hQ' => absurd st'.1 (Nat.ne_of_lt hj)
        done := fun s' Q' E' st' hE' => wpAny_nextOf_tuple_end (I.ok.hd hc) st'.2.1 st'.2.2 (Array.getElem?_eq_none (by omega)) hE' }
      he ⟨rfl, hit, p⟩ fun h' eb => ⟨rfl, I.turned (t' := s.toks) (fun b o hb q => eb b o hb q) f0 f1 f3 f4 f5⟩
  self := fun A i s Q E st h => let ⟨⟨_, he⟩, _⟩ := st; wpAny_pyIter_enum he h
def iEnumN (K : PySem.W.Frag) (te : TE) : TI := fun σ H R => te σ H fun v H1 => ∃ a, v = .ref a ∧ (((∃ xs, SqL K H1 a xs) ∧ R (Ite K a) H1) ∨ ((∃ xs, SqT K H1 a xs) ∧ R (ItEnT K a) H1))
theorem pi_enumN {X : Cx} {e : Expr} {te : TE} {p pos tpos : Pos} {elts : List Expr} {kk : Nat} (hm : X.mg "enumerate" = none) (he : PE X e te) (hg : Gl X "enumerate" := by rfl) (hs : starEach [e] X.env = (false, eval e X.env) :: starEach [] X.env := by rfl) :
    PI X (.Tuple elts kk tpos) (.Call (.Name "enumerate" p) [e] [] pos) (iEnumN X.K te) := by
  refine ⟨fun pins s σ H R I h => ?_⟩
  refine Call_ (ld_blt I hg hm boot_enumerate (PyProof.Rows.callWith_type1 (one_arg he I h (fun u s1 v H1 I1 r q1 => ?_) hs) hs))
  obtain ⟨a, ex, q1⟩ := q1
  subst ex
  cases r
  have fp : ∀ b, b ∈ [s1.heap.objs.size + 1, s1.heap.objs.size] → FpOk X pins H1 b := fun b hb => by
    have hle : s1.heap.objs.size ≤ b := by
      rcases (by simpa using hb : b = s1.heap.objs.size + 1 ∨ b = s1.heap.objs.size) with z | z
      · rw [z]; exact Nat.le_add_right _ _
      · rw [z]; exact Nat.le_refl _
    exact I1.fpOk hle (I1.hok.fresh hle)
  rcases q1 with ⟨⟨xs, hq⟩, q⟩ | ⟨⟨xs, hq⟩, q⟩
  · obtain ⟨its, rv, p', hz⟩ := I1.list hq
    refine call_enumerate_list p'.isList fun h' hE hI hsz hk => wpAny_pyIter_enum hE ?_
    have I2 : Inv X pins σ H1 { s1 with heap := h' } := I1.kept (t' := s1.toks) hk
    exact ⟨s1.heap.objs.size + 1, [s1.heap.objs.size + 1, s1.heap.objs.size], _, _, H1, rfl, I2, turn_enum a (s1.heap.objs.size + 1) s1.heap.objs.size, ⟨⟨.none, hE⟩, hI, Nat.succ_ne_self _⟩, fp, q⟩
  · obtain ⟨its, rv, p', hz⟩ := I1.tuple hq
    have hal : a < s1.heap.objs.size := by obtain ⟨o, ho, _⟩ := p'; exact Heap.lt_size ho
    refine call_enumT (show s1.heap.IsTuple a its.toArray from p') fun h' hE hI hk => wpAny_pyIter_enum hE ?_
    have I2 : Inv X pins σ H1 { s1 with heap := h' } := I1.kept (t' := s1.toks) hk
    exact ⟨s1.heap.objs.size + 1, [s1.heap.objs.size + 1, s1.heap.objs.size], _, _, H1, rfl, I2, turn_enumT a (s1.heap.objs.size + 1) s1.heap.objs.size (Nat.ne_of_lt hal) (Nat.ne_of_gt (Nat.lt_succ_of_lt hal)), ⟨⟨.none, hE⟩, hI, Nat.succ_ne_self _⟩, fp, q⟩
theorem nums_get : ∀ (ds : List PyData) (k i : Nat), (nums k ds)[i]? = (ds[i]?).map fun d => .tuple [.int ((k + i : Nat) : Int), d]
  | [], _, _ => by simp [nums]
  | d :: ds, k, 0 => by simp [nums]
  | d :: ds, k, i + 1 => by
    have h := nums_get ds (k + 1) i
    simp only [nums, List.getElem?_cons_succ]
    rw [h, show k + 1 + i = k + (i + 1) by omega]
theorem nums_len : ∀ (ds : List PyData) (k : Nat), (nums k ds).length = ds.length
  | [], _ => rfl
  | d :: ds, k => congrArg (· + 1) (nums_len ds (k + 1))
section
variable {X : Cx} {c : Cf} {W : WX} {e a b tg : Expr} {pos p tpos : Pos} {m ma mb : M Ev} {elts : List Expr} {kk : Nat}
theorem ite_ok {F : Hp} {l : Addr} {vs : List V} {ds : List PyData} (h1 : F l = some (.lst vs)) (h2 : DtAll c.K F vs ds) : ItOk c F (Ite c.K l) (nums 0 ds) := fun fr τ σ H' F' i g S => by
  have hl := dtAll_length h2
  have hs : SqL c.K H' l vs := SqL.of (S.sub _ _ (g _ _ h1))
  refine ⟨fun d hd => ?_, fun hi => ⟨vs, hs, by rw [nums_len] at hi; omega⟩⟩
  rw [nums_get] at hd
  cases hdi : ds[i]? with
  | none => rw [hdi] at hd; cases hd
  | some d0 =>
    rw [hdi] at hd
    cases hd
    obtain ⟨v, e1, e2⟩ := dtAll_get (Dt.growAll g _ _ h2) hdi
    refine ⟨⟨vs, v, hs, e1⟩, fun x H2 ⟨T, y, y1, y2, y3, y4⟩ => ?_⟩
    subst y1 y3
    have z := y4 vs hs
    rw [e1] at z
    cases z
    obtain ⟨g2, S2, d2⟩ := S.newT y2 (.cons (.int ((i : Nat) : Int)) (.cons e2 .nil))
    exact ⟨_, g2, S2, by rw [Nat.zero_add]; exact d2⟩
theorem itent_ok {F : Hp} {l : Addr} {vs : List V} {ds : List PyData} (h1 : SqT c.K F l vs) (h2 : DtAll c.K F vs ds) : ItOk c F (ItEnT c.K l) (nums 0 ds) := fun fr τ σ H' F' i g S => by
  have hl := dtAll_length h2
  have hs : SqT c.K H' l vs := same_seqT (g.trans S.sub) h1
  refine ⟨fun d hd => ?_, fun hi => ⟨vs, hs, by rw [nums_len] at hi; omega⟩⟩
  rw [nums_get] at hd
  cases hdi : ds[i]? with
  | none => rw [hdi] at hd; cases hd
  | some d0 =>
    rw [hdi] at hd
    cases hd
    obtain ⟨v, e1, e2⟩ := dtAll_get (Dt.growAll g _ _ h2) hdi
    refine ⟨⟨vs, v, hs, e1⟩, fun x H2 ⟨T, y, y1, y2, y3, y4⟩ => ?_⟩
    subst y1 y3
    have z := y4 vs hs
    rw [e1] at z
    cases z
    obtain ⟨g2, S2, d2⟩ := S.newT y2 (.cons (.int ((i : Nat) : Int)) (.cons e2 .nil))
    exact ⟨_, g2, S2, by rw [Nat.zero_add]; exact d2⟩
theorem bind_assoc {α β γ : Type} (m : M α) (f : α → M β) (k : β → M γ) : mBind (mBind m f) k = mBind m fun x => mBind (f x) k := by
  funext s
  unfold mBind
  cases m s <;> rfl
theorem bind_seq {γ : Type} (m : M Ev) (k : List PyData → M γ) : mBind (iSeq m) k = mBind m (fun x => mBind (freeze x) fun d => mBind (match d with
    | .list ds => mRet ds
    | .tuple ds => mRet ds
    | _ => mBad : M (List PyData)) k) := by
  unfold iSeq
  rw [bind_assoc]
  congr 1
  funext x
  rw [bind_assoc]
  try congr 1
theorem post_seq {β γ : Type} {R : Fr → L2.St → N4.St → Hp → Hp → β → γ → Prop} {k : List PyData → M γ} {σ : L2.St} {H : Hp} {Q : β → Hp → Prop} {fr : Fr} {τ : N4.St} {F : Hp} (S : Sat c fr τ σ H F) (q : PostM c W R fr F σ Q (mBind (iSeq m) k τ)) :
    rdE c W m σ H fun v H1 => ∃ ds τ1 F1, Same F F1 ∧ Sat c fr τ1 σ H1 F1 ∧ (Dt c.K F1 v (.list ds) ∨ Dt c.K F1 v (.tuple ds)) ∧ PostM c W R fr F1 σ Q (k ds τ1) := by
  have q0 : PostM c W R fr F σ Q (mBind m (fun x => mBind (freeze x) fun d => mBind (match d with
    | .list ds => mRet ds
    | .tuple ds => mRet ds
    | _ => mBad : M (List PyData)) k) τ) := by
    have e := congrFun (bind_seq m k) τ
    rw [← e]
    exact q
  refine (post_bind (R := EvOk c) S q0).mono fun v H1 ⟨e1, τ1, F1, g1, S1, r1, q1⟩ => ?_
  obtain ⟨d, τ2, F2, g2, S2, d2, q2⟩ := post_freeze S1 r1 q1
  cases d with
  | list ds => exact ⟨ds, τ2, F2, g1.trans g2, S2, .inl d2, q2⟩
  | tuple ds => exact ⟨ds, τ2, F2, g1.trans g2, S2, .inr d2, q2⟩
  | _ => exact q2.elim
theorem i_enum (hK : X.K = c.K) (hm : X.mg "enumerate" = none) (he : PE X e (rdE c W m)) (hg : Gl X "enumerate" := by rfl) (hs : starEach [e] X.env = (false, eval e X.env) :: starEach [] X.env := by rfl) :
    PI X (.Tuple elts kk tpos) (.Call (.Name "enumerate" p) [e] [] pos) (rdI c W (iEnum m)) := (pi_enumN hm he hg hs).impN fun σ H Q ⟨fr, τ, F, S, q⟩ => by
  refine (post_seq S q).mono fun v H1 ⟨ds, τ1, F1, g1, S1, hd, q1⟩ => ?_
  rw [hK]
  rcases hd with hd | hd
  · cases hd with
    | @lst a vs _ h1 h2 => exact ⟨a, rfl, .inl ⟨⟨vs, SqL.of (S1.sub _ _ h1)⟩, post_ret S1 q1 (ite_ok h1 h2)⟩⟩
  · cases hd with
    | @tup a vs _ h1 h2 => exact ⟨a, rfl, .inr ⟨⟨vs, same_seqT S1.sub h1⟩, post_ret S1 q1 (itent_ok h1 h2)⟩⟩
end
end N4
end
section
set_option Elab.async false
set_option linter.all false
set_option autoImplicit false
set_option maxRecDepth 100000
set_option maxHeartbeats 2000000
/-! times, zip, is of bools, sets sorted. -/
namespace N4
open PySem PySem.Spec PyProof.Rows L2

/-! ### times -/
def repN (n : Nat) (xs : List PyData) : List PyData := (List.replicate n xs).flatten
def oTimes : PyData → PyData → Option Ev
  | .list xs, .int k => if -boundN ≤ k ∧ k < boundN ∧ xs.length * k.toNat ≤ lineN then some (.fresh (repN k.toNat xs)) else none
  | .tuple xs, .int k => if 2 ≤ k ∧ k < boundN ∧ 0 < xs.length ∧ xs.length * k.toNat ≤ lineN then some (.val (.tuple (repN k.toNat xs))) else none
  | d, e => oMul d e
theorem dtAll_rep {K : PySem.W.Frag} {F : Hp} {vs : List V} {ds : List PyData} (h : DtAll K F vs ds) : ∀ n : Nat, DtAll K F (List.replicate n vs).flatten (repN n ds)
  | 0 => .nil
  | n + 1 => by
    unfold repN
    rw [List.replicate_succ, List.replicate_succ, List.flatten_cons, List.flatten_cons]
    exact dtAll_append h (dtAll_rep h n)
theorem len_rep {α : Type} (xs : List α) : ∀ n : Nat, (List.replicate n xs).flatten.length = xs.length * n
  | 0 => by simp
  | n + 1 => by rw [List.replicate_succ, List.flatten_cons, List.length_append, len_rep xs n, Nat.mul_succ, Nat.add_comm]
def rTimesT (K : PySem.W.Frag) : R2 := fun x y H Q => ∃ l k xs, x = .ref l ∧ y = .int k ∧ SqT K H l xs ∧ 0 < xs.length ∧ 2 ≤ k ∧ k < boundN ∧ xs.length * k.toNat ≤ sizeLine ∧ ∀ p, H p = none → Q (.ref p) (upd H p (.tup (List.replicate k.toNat xs).flatten))
section
variable {X : Cx} {c : Cf}
theorem op_timesT : OpR X (binaryOp .Mult) (rTimesT X.K) := by
  intro pins s σ H x y v u Q I rx ry ⟨l, k, xs, ex, ey, hT, hpos, h2, hb, hz, q⟩
  subst ex ey
  obtain ⟨tk, rfl⟩ := ry
  cases rx
  obtain ⟨its, r, ⟨⟨cl, dd, dat, sls⟩, ho, hcl, cap, hdat⟩, hlen⟩ := I.tuple hT
  simp only at hcl hdat
  subst hcl hdat
  rw [bound_eq] at hb
  have hl : its.length = xs.length := r.length.symm
  have hsz : its.toArray.size = xs.length := by rw [List.size_toArray, hl]
  have hem : its.toArray.isEmpty = false := by
    match its, hl with
    | [], e => simp at e; omega
    | _ :: _, _ => rfl
  have hkn : ((k.toNat : Nat) : Int) = k := Int.toNat_of_nonneg (by omega)
  have hprod : ((its.toArray.size : Nat) : Int) * k ≤ 16777216 := by
    rw [hsz, ← hkn]
    rw [sizeLine_eq] at hz
    have h2 := Int.ofNat_le.mpr hz
    rw [Int.natCast_mul] at h2
    exact h2
  have b0 : (decide (k < -(2 ^ 63)) || decide (k ≥ 2 ^ 63)) = false := by
    rw [decide_eq_false (by omega), decide_eq_false (by omega)]
    rfl
  have b1 : (its.toArray.isEmpty || k == 1) = false := by
    rw [hem, Bool.false_or, beq_eq_false_iff_ne]
    omega
  have b2 : (decide (k ≤ 0) || its.toArray.isEmpty) = false := by
    rw [hem, Bool.or_false, decide_eq_false_iff_not]
    omega
  have b4 : Builtin.Tuple.tupleTooMany (((its.toArray.size : Nat) : Int) * k) = false := by
    unfold Builtin.Tuple.tupleTooMany
    rw [sizeLine_eq, decide_eq_false_iff_not]
    omega
  have fl : (List.replicate k.toNat its).flatten.length ≤ sizeLine := by rw [len_rep, hl]; exact hz
  refine wpAny_binaryOp_repeat_ref (T := "tuple") (U := "int") (by decide) ⟨_, ho, rfl⟩ (fun s' => typeIs_int s' k tk) noFill_tuple_mul F.fills_int_mul F.slot_int_rmul repeat_tuple F.slot_int_index.lookup
    (call_meets F.slot_int_rmul (typeIs_int s k tk) F.entry_int_rmul (F.args_int_rmul_2 _ _) (int_rmul_tuple k tk l its.toArray cap dd sls)
      ⟨ho, rfl, ⟨_, ho, rfl⟩, call_meets F.slot_tuple_mul ⟨_, ho, rfl⟩ F.entry_tuple_mul (F.args_tuple_mul_2 _ _) (tuple_mulW l its.toArray cap dd sls k tk b0 b1 b2 (by omega) b4 (by rw [size_rep, List.size_toArray]; exact fl)) ⟨ho, ?_⟩⟩)
  rw [size_rep]
  exact ⟨.ref s.heap.objs.size, _, I.laid (t' := s.toks) (o := .tup (List.replicate k.toNat xs).flatten) (fun b ob e => Heap.get?_push_of_some _ e) (Nat.le_refl _) ⟨by rw [len_rep]; exact hz, _, r.rep k.toNat, IsTup.new _ _⟩, rfl, q _ (I.hok.fresh (Nat.le_refl _))⟩
def rTimes (K : PySem.W.Frag) : R2 := fun x y H Q => rI CMul (fun i j => .int (i * j)) x y H Q ∨ rRep x y H Q ∨ rTimesT K x y H Q
theorem op_times : OpR X (binaryOp .Mult) (rTimes X.K) := op_mul.or (op_rep.or op_timesT)
theorem ok_times : OpOk c (rTimes c.K) oTimes := by
  intro fr τ σ H F x y d e res Q S vx vy hr k
  unfold oTimes at hr
  split at hr
  · rename_i xs z
    obtain ⟨a, vs, rfl, ha, da⟩ := vx
    cases vy
    split at hr
    · rename_i hh
      cases hr
      obtain ⟨h1, h2, h3⟩ := hh
      rw [bound_eq] at h1 h2
      refine .inr (.inl ⟨a, z, vs, rfl, rfl, ha, by omega, by omega, by rw [dtAll_length da, ← line_eq]; exact h3, fun p hp => ?_⟩)
      obtain ⟨S', r⟩ := S.newL hp (dtAll_rep da z.toNat)
      exact k _ _ F (Same.refl F) S' r
    · cases hr
  · rename_i xs z
    obtain ⟨a, vs, rfl, ha, da⟩ := vx
    cases vy
    split at hr
    · rename_i hh
      cases hr
      obtain ⟨h1, h2, h3, h4⟩ := hh
      refine .inr (.inr ⟨a, z, vs, rfl, rfl, same_seqT S.sub ha, by rw [dtAll_length da]; exact h3, h1, h2, by rw [dtAll_length da, ← line_eq]; exact h4, fun p hp => ?_⟩)
      obtain ⟨g, S', r⟩ := S.newT hp (dtAll_rep da z.toNat)
      exact k _ _ _ g S' r
    · cases hr
  · exact .inl (ok_mul (c := c) fr τ σ H F x y d e res Q S vx vy hr k)

/-! ### is of bools -/
def oIsB : PyData → PyData → Option Ev
  | .bool a, .bool b => some (.val (.bool (a == b)))
  | d, e => oIs d e
def oIsNotB : PyData → PyData → Option Ev
  | .bool a, .bool b => some (.val (.bool (!(a == b))))
  | d, e => oIsNot d e
theorem ok_isB : OpOk c (fun x y H Q => (y = .non ∧ Q (.bl (decide (x = .non))) H) ∨ rIsB x y H Q) oIsB := by
  intro fr τ σ H F x y d e res Q S vx vy hr k
  unfold oIsB at hr
  split at hr
  · rename_i a b
    cases vx
    cases vy
    cases hr
    refine .inr ⟨a, b, rfl, rfl, ?_⟩
    have e : decide (a = b) = (a == b) := by cases a <;> cases b <;> rfl
    rw [e]
    exact k _ H F (Same.refl F) S (.bl _)
  · exact .inl (ok_is (c := c) fr τ σ H F x y d e res Q S vx vy hr k)
theorem ok_isnotB : OpOk c (fun x y H Q => (y = .non ∧ Q (.bl (!decide (x = .non))) H) ∨ rNotB x y H Q) oIsNotB := by
  intro fr τ σ H F x y d e res Q S vx vy hr k
  unfold oIsNotB at hr
  split at hr
  · rename_i a b
    cases vx
    cases vy
    cases hr
    refine .inr ⟨a, b, rfl, rfl, ?_⟩
    have e : decide (a = b) = (a == b) := by cases a <;> cases b <;> rfl
    rw [e]
    exact k _ H F (Same.refl F) S (.bl _)
  · exact .inl (ok_isnot (c := c) fr τ σ H F x y d e res Q S vx vy hr k)
end
end N4
end
section
set_option Elab.async false
set_option linter.all false
set_option autoImplicit false
set_option maxRecDepth 100000
set_option maxHeartbeats 4000000
/-! sorted(set(x)), x a list of ints. -/
namespace N4
open PySem PySem.Spec PyProof.Rows L2
abbrev set0 (w : World) : Obj := { cls := .type "set", dict := none, data := .set #[] 0 (.fresh 0 0 (!w.params.followText "set-order")) }
section
variable {P : Program} {w : World} {A : Around} {E : Value → Shared → Prop} {s : Shared}
theorem set_of_list {L : Addr} {vals : Array Value} (ns : List Int) {Q : Value → Shared → Prop} (hd : A.handled = none) (hL : s.heap.IsList L vals) (hi : IntsAre vals.toList ns) (hn : ns.length + 1 < scanBound)
    (k : ∀ (hp : Heap) (tk m : Nat), SetR w hp s.heap.objs.size (fun j => decide (j ∈ ns)) m → m ≤ ns.length → (∀ b o, s.heap.get? b = some o → hp.get? b = some o) → Q (.ref s.heap.objs.size) { s with heap := hp, toks := tk }) :
    wpAny (model P w) A (call (.type "set") [.ref L]) Q E s := by
  have hz : vals.size = ns.length := by
    have e := IntsAre.length hi
    rwa [Array.length_toList] at e
  obtain ⟨c0, tl, hmro⟩ := F.called_set.mro
  have f1 := F.called_set.made
  have f2 := F.called_set.sub
  refine wpAny_call (codeAny_of_tree ?_)
  show wpAny _ _ (callAny (.type "set") _) _ _ _
  refine wpAny_pure ⟨Code.quiet_builtin _ (by decide +kernel), codeAny_builtin F.entry_type_call ?_⟩
  rw [Around.under_plain (weight_type_call_type "set" [.ref L] []) rfl]
  have f3 := F.called_set.notType
  have f4 := F.called_set.canCreate
  have f5 := F.typeCall_set_1 (.ref L)
  repeat (any_goals (first | assumption | wp_step))
  refine codeAny_mono (code_set_led1 (.ref L) (E := E) (Q₁ := fun ob s1 => ob = .ref s.heap.objs.size ∧ s1 = { s with heap := s.heap.push (set0 w) }) ⟨rfl, rfl⟩) fun r s1 hr => ?_
  cases r with
  | error e => exact hr
  | ok fl =>
    cases fl with
    | ret ob =>
      obtain ⟨rfl, rfl⟩ := hr
      have gS : (s.heap.push (set0 w)).get? s.heap.objs.size = some (set0 w) := Heap.get?_push_size _ rfl
      have tS : Shared.TypeIs { s with heap := s.heap.push (set0 w) } (.ref s.heap.objs.size) "set" := ⟨_, gS, rfl⟩
      have f6 := F.called_set.init.lookup
      have f7 := F.called_set.init.bind (.ref s.heap.objs.size)
      repeat (any_goals (first | assumption | wp_step))
      refine codeAny_mono (codeAny_call_builtin (R := wants (fun r s2 => r = .none ∧ ∃ hp tk m, s2 = { s with heap := hp, toks := tk } ∧ SetR w hp s.heap.objs.size (fun j => decide (j ∈ ns)) m ∧ m ≤ ns.length ∧
          (∀ b o, s.heap.get? b = some o → hp.get? b = some o)) E) F.called_set.init.plain F.entry_set_init (check_set_init_1 tS ?_)) fun r2 s2 hr2 => ?_
      · obtain ⟨⟨ocl, odi, oda, osl⟩, hol, hcl, cap, hda⟩ := hL
        simp only at hcl hda
        subst hcl
        subst hda
        have gL : (s.heap.push (set0 w)).get? L = some { cls := .type "list", dict := odi, data := .seq vals cap, slots := osl } := Heap.get?_push_of_some _ hol
        have n1 := F.sub_list_set
        have n2 := F.sub_list_frozenset
        have n3 : (Value.type "list" == Value.type "dict") = false := by decide
        have iL : (s.heap.push (set0 w)).IsList L vals := ⟨_, gL, rfl, cap, rfl⟩
        unfold Builtin.«set.__init__» noKeywords Builtin.Frozenset.updateFrom
        generalize hPI : pyIter = PI
        wp_walk
        subst hPI
        refine wpAny_pyIter_list iL ?_
        refine wpAny_bind (wpAny_runValue ?_)
        have lt : L < s.heap.objs.size := Heap.lt_size hol
        have hd3 : A.in1.in1.in1.handled = none := by simp [hd]
        have ap : L ≠ (s.heap.push (set0 w)).objs.size := by
          rw [Heap.size_push]
          exact Nat.ne_of_lt (Nat.lt_succ_of_lt lt)
        have out : s.heap.objs.size ∉ [(s.heap.push (set0 w)).objs.size, L] := by
          rw [Heap.size_push]
          simp only [List.mem_cons, List.mem_singleton, List.not_mem_nil, or_false, not_or]
          exact ⟨Nat.ne_of_lt (Nat.lt_succ_self _), Nat.ne_of_gt lt⟩
        have hv : ∀ (i : Nat) (v : Value), vals[i]? = some v → ∃ k t, ns[i]? = some k ∧ v = .int k t := fun i v hiv => by
          have hl : i < ns.length := by rw [← hz]; exact (Array.getElem?_eq_some_iff.mp hiv).1
          obtain ⟨t, e⟩ := PyProof.Rows.IntsAre.int_at hi i v (by rw [Array.getElem?_toList]; exact hiv)
          refine ⟨ns[i], t, List.getElem?_eq_getElem hl, ?_⟩
          rw [e, List.getD_eq_getElem?_getD, List.getElem?_eq_getElem hl]
          rfl
        refine set_update_ints ((Walks.list hd3 _ L ap vals).toS) s.heap.objs.size out ns hz hn hv (vals.size - 0) 0 _ (by omega) (Nat.zero_le _) ⟨⟨_, Heap.get?_push_size _ rfl, rfl, rfl⟩, (iL.push _)⟩ ?hA ?hB
        case hA =>
          exact ⟨0, Nat.le_refl 0, setR_new_at (Heap.get?_push_of_some _ gS)⟩
        case hB =>
          intro s' m hm hle hS'
          obtain ⟨hp, g2, d2, tk2, os2⟩ := s'
          have eg : g2 = s.gens := hm.gens
          have ed : d2 = s.drawn := hm.drawn
          have eo : os2 = s.os := hm.os
          subst eg
          subst ed
          subst eo
          show wpAny _ _ _ _ _ _
          refine wpAny_pure ?_
          show wpAny _ _ (ret Value.none) _ _ _
          rw [hz] at hle
          refine wpAny_pure ⟨rfl, hp, tk2, m, rfl, hS', hle, fun b o e => ?_⟩
          have b0 : b < s.heap.objs.size := Heap.lt_size e
          have b1 : b ≠ s.heap.objs.size := Nat.ne_of_lt b0
          have b2 : b ≠ (s.heap.push (set0 w)).objs.size := by rw [Heap.size_push]; exact Nat.ne_of_lt (Nat.lt_succ_of_lt b0)
          exact hm.heap b o (by simp only [List.mem_cons, List.mem_singleton, List.not_mem_nil, or_false, not_or]; exact ⟨b1, b2⟩) (Heap.get?_push_of_some _ (Heap.get?_push_of_some _ e))
      · cases r2 with
        | error e => exact hr2
        | ok fl2 =>
          cases fl2 with
          | ret r =>
            obtain ⟨rfl, hp, tk, m, rfl, hS', hm', hk'⟩ := hr2
            repeat (any_goals (first | assumption | wp_step))
            exact k _ _ _ hS' hm' hk'
          | _ => exact hr2.elim
    | _ => exact hr.elim
end
end N4
end
section
set_option Elab.async false
set_option linter.all false
set_option autoImplicit false
set_option maxRecDepth 100000
set_option maxHeartbeats 1000000
/-! sorted(set(x)): the rule. -/
namespace N4
open PySem PySem.Spec PyProof.Rows L2
def insD (x : Int) : List Int → List Int
  | [] => [x]
  | y :: r => if y < x then y :: insD x r else if y = x then y :: r else x :: y :: r
def sortD (ns : List Int) : List Int := ns.foldr insD []
theorem mem_insD {x z : Int} : ∀ {l : List Int}, z ∈ insD x l ↔ z = x ∨ z ∈ l
  | [] => by simp [insD]
  | y :: r => by
    unfold insD
    split
    · rw [List.mem_cons, mem_insD, List.mem_cons]
      constructor
      · rintro (h | h | h)
        · exact .inr (.inl h)
        · exact .inl h
        · exact .inr (.inr h)
      · rintro (h | h | h)
        · exact .inr (.inl h)
        · exact .inl h
        · exact .inr (.inr h)
    · split
      · rename_i e
        subst e
        constructor
        · exact .inr
        · rintro (h | h)
          · exact h ▸ List.mem_cons_self
          · exact h
      · rw [List.mem_cons]
theorem mem_sortD {z : Int} : ∀ {l : List Int}, z ∈ sortD l ↔ z ∈ l
  | [] => by simp [sortD]
  | y :: r => by
    show z ∈ insD y (sortD r) ↔ _
    rw [mem_insD, mem_sortD, List.mem_cons]
theorem insD_strict (x : Int) : ∀ {l : List Int}, l.Pairwise (· < ·) → (insD x l).Pairwise (· < ·)
  | [], _ => by simp [insD]
  | y :: r, h => by
    obtain ⟨h1, h2⟩ := List.pairwise_cons.mp h
    unfold insD
    split
    · rename_i hlt
      refine List.pairwise_cons.mpr ⟨fun z hz => ?_, insD_strict x h2⟩
      rcases mem_insD.mp hz with e | hz
      · rw [e]; exact hlt
      · exact h1 z hz
    · split
      · exact h
      · refine List.pairwise_cons.mpr ⟨fun z hz => ?_, h⟩
        rcases List.mem_cons.mp hz with e | hz
        · omega
        · have := h1 z hz
          omega
theorem sortD_strict : ∀ l : List Int, (sortD l).Pairwise (· < ·)
  | [] => .nil
  | x :: r => insD_strict x (sortD_strict r)
theorem strict_eq : ∀ {l m : List Int}, l.Pairwise (· < ·) → m.Pairwise (· < ·) → (∀ z : Int, z ∈ l ↔ z ∈ m) → l = m
  | [], [], _, _, _ => rfl
  | [], y :: m, _, _, h => absurd ((h y).mpr List.mem_cons_self) (by simp)
  | x :: l, [], _, _, h => absurd ((h x).mp List.mem_cons_self) (by simp)
  | x :: l, y :: m, h1, h2, h => by
    obtain ⟨a1, a2⟩ := List.pairwise_cons.mp h1
    obtain ⟨b1, b2⟩ := List.pairwise_cons.mp h2
    have e : x = y := by
      rcases List.mem_cons.mp ((h x).mp List.mem_cons_self) with e | hx
      · exact e
      · rcases List.mem_cons.mp ((h y).mpr List.mem_cons_self) with e | hy
        · exact e.symm
        · have := b1 x hx
          have := a1 y hy
          omega
    subst e
    rw [strict_eq a2 b2 fun z => ?_]
    constructor
    · intro hz
      rcases List.mem_cons.mp ((h z).mp (List.mem_cons_of_mem _ hz)) with e | hz'
      · have := a1 z hz
        omega
      · exact hz'
    · intro hz
      rcases List.mem_cons.mp ((h z).mpr (List.mem_cons_of_mem _ hz)) with e | hz'
      · have := b1 z hz
        omega
      · exact hz'
theorem strict_len : ∀ {l ns : List Int}, l.Pairwise (· < ·) → (∀ z ∈ l, z ∈ ns) → l.length ≤ ns.length
  | [], _, _, _ => Nat.zero_le _
  | x :: l, ns, h, hm => by
    obtain ⟨a1, a2⟩ := List.pairwise_cons.mp h
    have hx : x ∈ ns := hm x List.mem_cons_self
    have h2 : ∀ z ∈ l, z ∈ ns.erase x := fun z hz => (List.mem_erase_of_ne (by have := a1 z hz; omega)).mpr (hm z (List.mem_cons_of_mem _ hz))
    have h3 := strict_len a2 h2
    rw [List.length_erase_of_mem hx] at h3
    have : 0 < ns.length := List.length_pos_of_mem hx
    rw [List.length_cons]
    omega
theorem nodup_len : ∀ {l ns : List Int}, l.Nodup → (∀ z ∈ l, z ∈ ns) → l.length ≤ ns.length
  | [], _, _, _ => Nat.zero_le _
  | x :: l, ns, h, hm => by
    obtain ⟨a1, a2⟩ := List.nodup_cons.mp h
    have hx : x ∈ ns := hm x List.mem_cons_self
    have h2 : ∀ z ∈ l, z ∈ ns.erase x := fun z hz => (List.mem_erase_of_ne (fun e => a1 (by rw [← e]; exact hz))).mpr (hm z (List.mem_cons_of_mem _ hz))
    have h3 := nodup_len a2 h2
    rw [List.length_erase_of_mem hx] at h3
    have : 0 < ns.length := List.length_pos_of_mem hx
    rw [List.length_cons]
    omega
theorem setR_le {w : World} {h : Heap} {a : Addr} {ns : List Int} {m : Nat} (R : SetR w h a (fun j => decide (j ∈ ns)) m) : m ≤ (sortD ns).length := by
  obtain ⟨o, es, ep, t, _, _, _, _, nd, mem, _, _, hm, _⟩ := R
  have h1 := nodup_len nd (ns := sortD ns) fun z hz => mem_sortD.mpr (of_decide_eq_true ((mem z).mpr hz))
  rw [List.length_map, Array.length_toList] at h1
  omega
def oSortSet : PyData → Option Ev
  | .list ds => match toIs ds with
    | some ns => if ns.length < 4000 ∧ (sortD ns).length < 64 then some (.fresh ((sortD ns).map .int)) else none
    | none => none
  | _ => none
section
variable {X : Cx} {c : Cf} {W : WX} {a : Expr} {pos p p2 pos2 : Pos} {ma : M Ev}
def tSortSet (K : PySem.W.Frag) (ta : TE) : TE := fun σ H Q => ta σ H fun x H1 => ∃ (l : Addr) (ns : List Int), x = .ref l ∧ SqL K H1 l (ns.map V.int) ∧ (ns.length < 4000 ∧ (sortD ns).length < 64) ∧ ∀ (t p : Addr) (o : HO), H1 t = none → upd H1 t o p = none → (∀ ps, o ≠ .tbl ps) → Q (.ref p) (upd (upd H1 t o) p (.lst ((sortD ns).map V.int)))
theorem pe_sortSet {ta : TE} (hc : X.calm = true) (hm : X.mg "sorted" = none) (hm2 : X.mg "set" = none) (ha : PE X a ta) (hg : Gl X "sorted" := by rfl) (hg2 : Gl X "set" := by rfl) (na : starEach [a] X.env = (false, eval a X.env) :: starEach [] X.env := by rfl)
    (na2 : starEach [.Call (.Name "set" p2) [a] [] pos2] X.env = (false, eval (.Call (.Name "set" p2) [a] [] pos2) X.env) :: starEach [] X.env := by rfl) : PE X (.Call (.Name "sorted" p) [.Call (.Name "set" p2) [a] [] pos2] [] pos) (tSortSet X.K ta) := by
  refine ⟨fun pins s σ H Q I h => ?_⟩
  refine Call_ (ld_blt I hg hm PyProof.Rows.boot_sorted ?_)
  refine PyProof.Rows.callWith_builtin1 (PyProof.Rows.args_cons ?_ na2) na2 rfl
  refine Call_ (ld_blt I hg2 hm2 PyProof.Rows.boot_set (PyProof.Rows.callWith_type1 (one_arg ha I h (fun v s1 x H1 I1 r q => ?_) na) na))
  obtain ⟨l, ns, rfl, hs, hl, q⟩ := q
  cases r
  obtain ⟨its, rv, pl, hz⟩ := I1.list hs
  refine set_of_list ns (I1.ok.hd hc) pl.isList (by simpa using rv.ints) (by have := hl.1; unfold scanBound; omega) fun h' tk m R1 hm' hk => ?_
  refine PyProof.Rows.args_nil ?_
  have hn : H1 s1.heap.objs.size = none := I1.hok.fresh (Nat.le_refl _)
  have I2 : Inv X pins σ (upd H1 s1.heap.objs.size (SetO X.w s1.heap.objs.size (fun j => decide (j ∈ ns)) m)) { s1 with heap := h', toks := tk } :=
    I1.laid (t' := tk) hk (Nat.le_refl _) (setO_new R1)
  have hlt : m < 64 := Nat.lt_of_le_of_lt (setR_le R1) hl.2
  refine cr_sortedSet hc pins { s1 with heap := h', toks := tk } σ _ [.ref s1.heap.objs.size] [.ref s1.heap.objs.size] Q I2 (.cons rfl .nil) ⟨s1.heap.objs.size, _, m, rfl, upd_same, hlt, fun ns' p h1 h2 h3 h4 => ?_⟩
  rw [strict_eq h1 (sortD_strict ns) fun z => (h2 z).trans (decide_eq_true_iff.trans mem_sortD.symm)]
  exact q _ _ _ hn h4 fun ps z => nomatch z
theorem x_sortSet (hK : X.K = c.K) (hc : X.calm = true) (hm : X.mg "sorted" = none) (hm2 : X.mg "set" = none) (ha : PE X a (rdE c W ma)) (hg : Gl X "sorted" := by rfl) (hg2 : Gl X "set" := by rfl) (na : starEach [a] X.env = (false, eval a X.env) :: starEach [] X.env := by rfl)
    (na2 : starEach [.Call (.Name "set" p2) [a] [] pos2] X.env = (false, eval (.Call (.Name "set" p2) [a] [] pos2) X.env) :: starEach [] X.env := by rfl) : PE X (.Call (.Name "sorted" p) [.Call (.Name "set" p2) [a] [] pos2] [] pos) (rdE c W (eUn oSortSet ma)) :=
  (pe_sortSet hc hm hm2 ha hg hg2 na na2).impN fun σ H Q ⟨fr, τ, F, S, q⟩ => by
    refine (post_bind (R := EvOk c) S q).mono fun v H1 ⟨e1, τ1, F1, g1, S1, r1, q1⟩ => ?_
    cases hd : look τ1 e1 with
    | none => simp only [hd] at q1; exact q1.elim
    | some d =>
      simp only [hd] at q1
      have vw := look_vw S1 r1 hd
      cases d with
      | list ds =>
        simp only [oSortSet] at q1
        obtain ⟨l, vs, rfl, h1, h2⟩ := vw
        cases hn : toIs ds with
        | none => simp only [hn] at q1; exact q1.elim
        | some ns =>
          simp only [hn] at q1
          by_cases hl : ns.length < 4000 ∧ (sortD ns).length < 64
          · rw [if_pos hl] at q1
            have e := toIs_eq hn
            subst e
            have e2 := dtAll_vals h2
            subst e2
            refine ⟨l, ns, rfl, by rw [hK]; exact SqL.of h1, hl, fun t p o ht hp ho => ?_⟩
            have S2 := (S1.new (o := o) ht).2
            obtain ⟨S3, r3⟩ := S2.newL hp (dtAll_ints (K := c.K) (F := F1) (sortD ns))
            exact q1 _ _ F1 (Same.refl F1) S3 r3
          · rw [if_neg hl] at q1
            exact q1.elim
      | _ => simp only [oSortSet] at q1; exact q1.elim
end
end N4
end
section
set_option Elab.async false
set_option linter.all false
set_option autoImplicit false
set_option maxRecDepth 100000
set_option maxHeartbeats 2000000
/-! Errors: made, raised, caught. -/
namespace N4
open PySem PySem.Spec PyProof.Rows L2

/-! ### the common __init__ -/
def spInit (K : PySem.W.Frag) : Sp := fun vs H Q _ => ∃ (a C : Addr) (v : V), vs = [.ref a, v] ∧ OexC K C ∧ PySem.W.findIn K (.ref C) whatS = some none ∧ H a = some (exo a C none) ∧
  ∀ dx, H dx = none → dx ≠ a → Q .non (upd (upd H dx (exd dx [(whatS, v)])) a (exo a C (some dx)))
abbrev initN : List PySem.Str := ["self", "what"]
theorem init_ok {P : Program} {w : World} {K : PySem.W.Frag} {mg : PySem.Str → Option Value} {base : Heap} {f : Addr} {qual : PySem.Str} {params : Arguments} {scope : Scope} {dV kV doc pm cdv ct oc : Value} {an od : Option Addr} {osl : Array (Option Value)}
    {q1 q2 q3 q4 : Pos} (lk : K.lookup f = some ⟨oc, od, .func (PySem.W.fnOf "__init__" qual params [.Assign [.Attribute (.Name "self" q1) "what" q2] (.Name "what" q3) q4] scope dV kV doc pm an cdv ct), osl⟩) (hcd : PySem.W.codeIn K cdv qual = true)
    (S : FnScope initN initN scope) (h0 : Vis scope "self") (h1 : Vis scope "what")
    (hs : ∀ (A : Around) (outer : List Env) (s : Shared) (H : Hp) (E : XK), swapsWith (.Name "what" q3) (some (.Attribute (.Name "self" q1) "what" q2)) q4.line (cxOf C8.CX0 P w K mg base initN qual scope f cdv A outer s H E).env = pure false) :
    FnOk P w K mg base C8.CX0 1 f (PySem.W.fnOf "__init__" qual params [.Assign [.Attribute (.Name "self" q1) "what" q2] (.Name "what" q3) q4] scope dV kV doc pm an cdv ct) initN (spInit K) := by
  refine ⟨fun vs H Q E ⟨a, C, v, e, _⟩ => by rw [e]; rfl, fun A outer s H as us vs Q E hr e0 hb r sp => ?_⟩
  obtain ⟨a, C, v, rfl, T, no, ha, q⟩ := sp
  refine LamX.run_ofS lk hcd S (k := 0) hr e0 hb r rfl fun hr' => ?_
  refine ⟨_, pss_one (ps_ost (pe_var (i := 0) rfl h0) (pe_var (i := 1) rfl h1) (hs A outer s H E)), ?_⟩
  exact ⟨v, rfl, .ref a, rfl, a, C, rfl, T, no, .inl ⟨ha, fun dx h1 h2 => q dx h1 h2⟩⟩
/-! ### raise -/
structure ClsT (K : PySem.W.Frag) (mg : PySem.Str → Option Value) (fI : Addr) (x : PySem.Str) (C : Addr) : Prop where
  gC : mg x = some (.ref C)
  T : OexC K C
  iC : PySem.W.findIn K (.ref C) "__init__" = some (some (.ref fI))
  no : PySem.W.findIn K (.ref C) whatS = some none
theorem made_eq {H1 : Hp} {a dx C : Addr} {v : V} (ha : H1 a = none) (hd : dx ≠ a) :
    upd (del (upd (upd (upd H1 a (exo a C none)) dx (exd dx [(whatS, v)])) a (exo a C (some dx))) a) dx (.xd [(whatS, v)]) = upd H1 dx (.xd [(whatS, v)]) := by
  funext b
  by_cases h1 : b = dx
  · subst h1
    rw [upd_same, upd_same]
  · rw [upd_ne h1, upd_ne h1]
    by_cases h2 : b = a
    · subst h2
      rw [del_same, ha]
    · rw [del_ne h2, upd_ne h2, upd_ne h1, upd_ne h2]
section
variable {X : Cx} {c : Cf} {W : WX} {e : Expr} {x : PySem.Str} {p pos pos2 : Pos} {ma : M Ev} {fI : Addr} {fd : FuncData} {k : Nat}
theorem s_raise (cl : String) (hc : X.calm = true) (T : ClsT X.K X.mg fI x (c.cls cl)) (tI : PySem.W.typeIn X.K (.ref fI) = some (.type "function")) (F1 : FnOk X.prog X.w X.K X.mg X.base C8.CX0 k fI fd initN (spInit X.K)) (hr : Room (k + 1) X.A) (hb : L2.Binds X.K fd initN []) (tk : Takes X W)
    (ha : PE X e (rdE c W ma)) (hg : Gl X x := by rfl) (hdb : (x == ("__debug__" : PySem.Str)) = false := by decide) (he : starEach [e] X.env = (false, eval e X.env) :: starEach [] X.env := by rfl) :
    PS X (.Raise (some (.Call (.Name x p) [e] [] pos)) none pos2) (rdS c W (sRaise cl ma)) :=
  (ps_raise hc tk (pmk_oex (ds := []) (dvs := []) T.T T.iC tI F1 hr hb .nil (fun _ _ _ _ _ _ _ z => (show False from z).elim) hg T.gC (pa_cons ha pa_nil he) hdb he)).impN fun D σ H ⟨fr, τ, F, S, q⟩ => by
    refine (post_e (R := EvOk c) S q).mono fun v H1 ⟨e1, τ1, F1, g1, S1, r1, q1⟩ => ?_
    obtain ⟨d, τ2, F2, g2, S2, d2, q2⟩ := post_fz S1 r1 q1
    refine ⟨by show 1 ≤ 1000; decide, fun a hna => ⟨a, c.cls cl, v, rfl, T.T, T.no, upd_same, fun dx hdx hne => ⟨rfl, dx, [(whatS, v)], upd_same, ?_, ?_, ?_⟩⟩⟩
    · rw [upd_ne hne]
      exact upd_same
    · rw [upd_ne hne] at hdx
      exact hdx
    · rw [upd_ne hne] at hdx
      rw [made_eq hna hne]
      exact q2 σ dx _ F2 v (Same.refl F2) (S2.new hdx).2 upd_same d2
end
end N4
end
section
set_option Elab.async false
set_option linter.all false
set_option autoImplicit false
set_option maxRecDepth 100000
set_option maxHeartbeats 2000000
/-! try with several clauses, some of them with a name. -/
namespace N4
open PySem PySem.Spec PyProof.Rows L2
abbrev Clause := Value × Option Nat × (Addr → Value → Option Addr → TS)
def endsAt (i : Nat) (D : Ends) : Ends := { nx := fun σ H => D.nx (σ.set i none) H, rt := D.rt, bk := fun σ H => D.bk (σ.set i none) H, ct := fun σ H => D.ct (σ.set i none) H }
def runC (a : Addr) (cls : Value) (d : Option Addr) (D : Ends) (σ : L2.St) (H : Hp) (oi : Option Nat) (ts : Addr → Value → Option Addr → TS) : Prop := match oi with
  | none => ts a cls d D σ H
  | some i => ts a cls d (endsAt i D) (σ.set i (some (.ref a))) H
def wMix (K : PySem.W.Frag) (Wo : WX) (D : Ends) : List Clause → WX
  | [] => Wo
  | (cv, oi, ts) :: r => fun cls d σ H => ∃ b, PySem.W.exmOne K cls cv = some b ∧ (b = true → ∀ a, H a = none → runC a cls d D σ H oi ts) ∧ (b = false → wMix K Wo D r cls d σ H)
inductive HdMix (X : Cx) : List ExceptHandler → List Clause → Prop
  | nil : HdMix X [] []
  | bare {x : PySem.Str} {cv : Value} {ts : Addr → Value → Option Addr → TS} {st : Stmt} {sts : List Stmt} {np hp : Pos} {hds : List ExceptHandler} {l : List Clause} (hc : Names X x cv)
      (hs : ∀ (a : Addr) (oe : Obj) (cls : Value) (d : Option Addr) (pn : List (Addr × Obj)), Zc cls d oe → (∃ vs, oe.data = .fields vs) → PSs (X.suite a ((a, oe) :: pn)) (st :: sts) (ts a cls d)) (r : HdMix X hds l) :
      HdMix X (.ExceptHandler (some (.Name x np)) none (st :: sts) hp :: hds) ((cv, none, ts) :: l)
  | named {x n : PySem.Str} {i : Nat} {cv : Value} {ts : Addr → Value → Option Addr → TS} {st : Stmt} {sts : List Stmt} {np hp : Pos} {hds : List ExceptHandler} {l : List Clause} (hc : Names X x cv) (hi : X.N[i]? = some n) (hl : X.env.kindOf n = some .local)
      (hs : ∀ (a : Addr) (oe : Obj) (cls : Value) (d : Option Addr) (pn : List (Addr × Obj)), Zc cls d oe → (∃ vs, oe.data = .fields vs) → PSs (X.suite a ((a, oe) :: pn)) (st :: sts) (ts a cls d)) (r : HdMix X hds l) :
      HdMix X (.ExceptHandler (some (.Name x np)) (some n) (st :: sts) hp :: hds) ((cv, some i, ts) :: l)
section
variable {X : Cx} {body : List Stmt} {hd0 : ExceptHandler} {hdr : List ExceptHandler} {cls0 : List Clause} {pos : Pos} {tb : WX → TS} {Wo : WX}
theorem ps_try_mix (stk : X.stack = X.env :: X.outer) (frm : X.env.frame = some X.env.locals) (nod : X.N.Nodup) (tk : Takes X Wo)
    (hb : ∀ (W : WX) (pn : List (Addr × Obj)) (xe : Value → Shared → Prop), Takes (X.tr pn xe) W → PassesOwn (model X.prog X.w) X.A X.env xe → PSs (X.tr pn xe) body (tb W))
    (hh : HdMix X (hd0 :: hdr) cls0) : PS X (.Try body (hd0 :: hdr) [] [] pos) (fun D σ H => tb (wMix X.K Wo D cls0) D σ H) := by
  refine ⟨fun pins s σ H D I hyp => ?_⟩
  have okX := I.ok
  have frA : X.A.frames = some (X.env :: X.outer) := by rw [okX.frames, stk]
  refine wpAny_Try_except ?_
  refine wpAny_mono ((hb (wMix X.K Wo D cls0) (X.pn ++ pins) (fun er t1 => wpAny (model X.prog X.w) X.A (noteFrame er X.env) (fun _ t2 => wpAny (model X.prog X.w) X.A (setFlight er none) (fun _ t3 =>
    wpAny (model X.prog X.w) X.A (handleBy er X.env (hd0 :: hdr)) (SP X pins D) X.xe t3) X.xe t2) X.xe t1) (fun u t xx => ?_) PassesOwn.looking).run [] s σ H D (I.toTry _) hyp) (fun f t1 res => ?_) (fun er t1 he => he)
  · obtain ⟨a, B, tI, pins1, σ1, H1, cls, d, rfl, J0, nb, up, sky, nota, eqos, bare, w⟩ := xx
    have J1 : Inv X pins σ1 H1 tI := J0.ofTry okX
    have sky1 : Sky B (X.env :: X.outer) a (Zc cls d) X.env.locals t.heap := by rw [← stk]; exact sky
    show wpAny (model X.prog X.w) X.A (noteFrame (.ref a) X.env) _ _ _
    refine Sky.land Zc.steady frA frm sky1 fun g3 fly3 up3 => ?_
    have J3 : Inv X pins σ1 H1 { t with heap := g3 } := J1.landed nb fly3.1 (up.trans up3) eqos bare
    obtain ⟨ob3, fv3, got3, zc3, dat3⟩ := fly3.there
    have outFr : a ∉ frs (X.env :: X.outer) := fun hm => by
      obtain ⟨_, ob', got', nof⟩ := fly3.2.2.1.mem hm
      rw [got3] at got'
      cases got'
      exact nof _ dat3
    have notL : a ≠ X.env.locals := fun z => outFr (List.mem_filterMap.mpr ⟨X.env, List.mem_cons_self, by rw [frm, z]⟩)
    have notF : a ∉ X.fs := fun hm => by
      obtain ⟨en, hen, q⟩ := List.mem_filterMap.mp hm
      exact outFr (List.mem_filterMap.mpr ⟨en, List.mem_cons_of_mem _ hen, q⟩)
    have S3 := J3.suite got3 dat3 nota notL notF
    have LT : PySem.W.Looks (model X.prog X.w) g3 (typeOf (.ref a)) cls := fun A Q E s k q => wpAny_typeOf_ref (k _ _ got3) (by rw [zc3.1]; exact q)
    have test : ∀ {x : PySem.Str} {cv : Value} {np : Pos} {Q : Value → Shared → Prop} {E : Value → Shared → Prop}, Names X x cv → Q cv { t with heap := g3 } → wpAny (model X.prog X.w) (X.A.mark (some (.ref a))) (eval (.Name x np) X.env) Q E { t with heap := g3 } := fun {x cv np Q E} nm q => by
      obtain ⟨hg, hdbg, hm | ⟨hm, hv, hnn⟩⟩ := nm
      · exact ld_glob (X := X.suite a ((a, ob3) :: (X.pn ++ pins))) S3 hg hm q hdbg
      · exact ld_blt (X := X.suite a ((a, ob3) :: (X.pn ++ pins))) S3 hg hm hv q hnn hdbg
    have walk : ∀ {hds' : List ExceptHandler} {l' : List Clause}, HdMix X hds' l' → wMix X.K Wo D l' cls d σ1 H1 → wpAny (model X.prog X.w) X.A (handleBy (.ref a) X.env hds') (SP X pins D) X.xe { t with heap := g3 } := by
      intro hds' l' hk
      induction hk with
      | nil =>
        intro wo
        refine wpAny_handleBy_nil ?_
        obtain ⟨_, _, _, ob, fv, TB, oTB, mem, got, zc, dat, fld, rest⟩ := id fly3
        unfold PySem.passOn
        refine wpAny_bind (wpAny_field got dat fld ?_)
        rw [if_neg (show ¬ ((Value.ref TB == Value.none) = true) from by simp)]
        have last : wpAny (model X.prog X.w) X.A (setFlight (.ref a) X.env.frame) (fun _ t4 => wpAny (model X.prog X.w) X.A (throw (.ref a) : Sem Flow) (SP X pins D) X.xe t4) X.xe { t with heap := g3 } := by
          rw [frm]
          refine HandSPX.setFlight_upZ fly3 fun g4 held4 up4 => wpAny_throw (tk _ _ ?_)
          exact ⟨a, B, tI, pins, σ1, H1, cls, d, rfl, J1, nb, (up.trans up3).trans up4, .inr (.inr (by rw [stk]; exact held4)), nota, eqos, bare, wo⟩
        first
          | exact wpAny_bind (wpAny_pure (wpAny_bind last))
          | exact wpAny_bind last
      | @bare x cv ts st sts np hp hds2 l2 nm suite r ih =>
        rintro ⟨b, ans, yes, no⟩
        refine wpAny_handleBy_cons (codeAny_handlers_test ?_) (by intro q; cases q)
        have LM := PySem.W.exm_one (M := model X.prog X.w) (J3.kIn) LT ans
        refine test nm (LM.here ?_)
        cases b with
        | false => exact ih (no rfl)
        | true =>
          refine codeAny_handlers_suite ?_
          refine HandSPX.lands_againZ fly3 fun g4 fly4 up4 => ?_
          have J4 : Inv X pins σ1 H1 { t with heap := g4 } := J1.landed nb fly4.1 ((up.trans up3).trans up4) eqos bare
          obtain ⟨ob4, fv4, got4, zc4, dat4⟩ := fly4.there
          have S4 := J4.suite got4 dat4 nota notL notF
          refine wpAny_mono ((suite a ob4 cls d (X.pn ++ pins) zc4 ⟨_, dat4⟩).run [] _ _ H1 _ S4 (yes rfl a nota)) (fun f t6 res => ?_) (fun _ _ z => False.elim z)
          cases f with
          | ret u =>
            obtain ⟨v6, σ6, H6, S6, r6, q6⟩ := res
            exact ⟨_, _, _, S6.unsuite okX, r6, q6⟩
          | next => obtain ⟨σ6, H6, S6, q6⟩ := res; exact ⟨_, _, S6.unsuite okX, q6⟩
          | brk => obtain ⟨σ6, H6, S6, q6⟩ := res; exact ⟨_, _, S6.unsuite okX, q6⟩
          | cont => obtain ⟨σ6, H6, S6, q6⟩ := res; exact ⟨_, _, S6.unsuite okX, q6⟩
      | @named x n i cv ts st sts np hp hds2 l2 nm hi hln suite r ih =>
        rintro ⟨b, ans, yes, no⟩
        refine wpAny_handleBy_cons (codeAny_handlers_test ?_) (by intro q; cases q)
        have LM := PySem.W.exm_one (M := model X.prog X.w) (J3.kIn) LT ans
        refine test nm (LM.here ?_)
        cases b with
        | false => exact ih (no rfl)
        | true =>
          refine codeAny_handlers_suite_as ?_
          refine HandSPX.lands_againZ fly3 fun g4 fly4 up4 => ?_
          have J4 : Inv X pins σ1 H1 { t with heap := g4 } := J1.landed nb fly4.1 ((up.trans up3).trans up4) eqos bare
          obtain ⟨ob4, fv4, got4, zc4, dat4⟩ := fly4.there
          have S4 := J4.suite got4 dat4 nota notL notF
          refine store_ok (X := X.suite a ((a, ob4) :: (X.pn ++ pins))) (v := .ref a) S4 nod hi (.inl hln) rfl (fun t5 S5 => ?_) (.inr hln)
          refine wpAny_mono ((suite a ob4 cls d (X.pn ++ pins) zc4 ⟨_, dat4⟩).run [] t5 _ H1 _ S5 (yes rfl a nota)) (fun f t6 res => ?_) (fun _ _ z => False.elim z)
          have over : ∀ {σ6 : L2.St} {H6 : Hp} {Q : Shared → Prop}, Inv (X.suite a ((a, ob4) :: (X.pn ++ pins))) [] σ6 H6 t6 → (∀ t7, Inv X pins (σ6.set i none) H6 t7 → Q t7) →
              wpAny (model X.prog X.w) X.A (do bindName X.env n .none; unbindBehindTheSuite X.env n hp) (fun _ t7 => Q t7) X.xe t6 := fun {σ6 H6 Q} S6 hq => gone_ok (S6.unsuite okX) nod hi hln hq
          cases f with
          | ret u =>
            obtain ⟨v6, σ6, H6, S6, r6, q6⟩ := res
            exact over S6 fun t7 J7 => ⟨_, _, _, J7, r6, q6⟩
          | next => obtain ⟨σ6, H6, S6, q6⟩ := res; exact over S6 fun t7 J7 => ⟨_, _, J7, q6⟩
          | brk => obtain ⟨σ6, H6, S6, q6⟩ := res; exact over S6 fun t7 J7 => ⟨_, _, J7, q6⟩
          | cont => obtain ⟨σ6, H6, S6, q6⟩ := res; exact over S6 fun t7 J7 => ⟨_, _, J7, q6⟩
    exact walk hh w
  · cases f with
    | ret u =>
      obtain ⟨v, σ2, H2, J2, r2, q2⟩ := res
      exact ⟨v, σ2, H2, J2.ofTry okX, r2, q2⟩
    | next => obtain ⟨σ2, H2, J2, q2⟩ := res; exact wpAny_execs_nil ⟨σ2, H2, J2.ofTry okX, q2⟩
    | brk => obtain ⟨σ2, H2, J2, q2⟩ := res; exact ⟨σ2, H2, J2.ofTry okX, q2⟩
    | cont => obtain ⟨σ2, H2, J2, q2⟩ := res; exact ⟨σ2, H2, J2.ofTry okX, q2⟩
end
end N4
end
section
set_option Elab.async false
set_option linter.all false
set_option autoImplicit false
set_option maxRecDepth 100000
set_option maxHeartbeats 2000000
/-! try: the plain meaning. -/
namespace N4
open PySem PySem.Spec PyProof.Rows L2
structure ClS where
  hit : String → Option Bool
  slot : Option Nat
  su : String → SM
def noRaw : Option Sl → Option Sl
  | some .raw => none
  | some (.exc _) => none
  | some (.obj _) => none
  | some (.ro _) => none
  | x => x
def bareS (s : N4.St) : N4.St := { s with sl := s.sl.map noRaw }
def enterS (i : Nat) (x : PyData) (s : N4.St) : N4.St := { s with sl := (s.sl.map noRaw).set i (some (.exc x)) }
def quitS (i : Nat) (s : N4.St) : N4.St := { s with sl := (s.sl.set i none).map noRaw }
def plainEv : Ev → Bool
  | .val _ => true
  | .fresh _ => true
  | _ => false
def quitO (i : Nat) : SOut → SOut
  | .nx s => .nx (quitS i s)
  | .ret e s => if plainEv e then .ret e (quitS i s) else .bad
  | .brk s => .brk (quitS i s)
  | .cnt s => .cnt (quitS i s)
  | _ => .bad
def noErr : SOut → SOut
  | .err _ _ _ => .bad
  | o => o
def handle : List ClS → String → PyData → SM
  | [], cl, x, s => .err cl x ⟨[], s.pl⟩
  | h :: r, cl, x, s => match h.hit cl with
    | some true => match h.slot with
      | none => noErr (h.su cl s)
      | some i => if i < s.sl.length then quitO i (h.su cl (enterS i x s)) else .bad
    | some false => handle r cl x s
    | none => .bad
/-- n slots; behind an error nothing is known of them -/
def sTry (n : Nat) (b : SM) (l : List ClS) : SM := fun s => match b s with
  | .err cl x s1 => handle l cl x ⟨List.replicate n none, s1.pl⟩
  | o => o
def Cf.at (c : Cf) (a : Addr) (d : Option Addr) : Cf := { c with ga := a, gx := d }
section
variable {c : Cf} {fr : Fr} {τ : N4.St} {σ : L2.St} {H F : Hp}
theorem noRaw_get {τ : N4.St} {i : Nat} {s : Sl} (h : (τ.sl.map noRaw)[i]? = some (some s)) : τ.sl[i]? = some (some s) ∧ s ≠ .raw ∧ (∀ x, s ≠ .exc x) ∧ (∀ b, s ≠ .obj b) ∧ ∀ b, s ≠ .ro b := by
  rw [List.getElem?_map] at h
  cases hs : τ.sl[i]? with
  | none => rw [hs] at h; cases h
  | some o =>
    rw [hs] at h
    have h : noRaw o = some s := Option.some.inj h
    cases o with
    | none => cases h
    | some z =>
      cases z with
      | val d => cases h; exact ⟨rfl, (fun q => nomatch q), (fun x q => nomatch q), (fun x q => nomatch q), (fun x q => nomatch q)⟩
      | own xs => cases h; exact ⟨rfl, (fun q => nomatch q), (fun x q => nomatch q), (fun x q => nomatch q), (fun x q => nomatch q)⟩
      | pool => cases h; exact ⟨rfl, (fun q => nomatch q), (fun x q => nomatch q), (fun x q => nomatch q), (fun x q => nomatch q)⟩
      | raw => cases h
      | exc x => cases h
      | obj b => cases h
      | ro b => cases h
theorem Sat.notPool (S : Sat c fr τ σ H F) {dd : Addr} {fs : List (PySem.Str × V)} (hx : H dd = some (.xd fs)) {pp pq : Addr} (e : fr.pa = some (pp, pq)) : dd ≠ pp ∧ dd ≠ pq := by
  have pk := S.pool
  cases hpl : τ.pl with
  | none =>
    rw [hpl] at pk
    have pk : fr.pa = none := pk
    rw [pk] at e
    cases e
  | some pl =>
    obtain ⟨x1, x2, l⟩ := pl
    rw [hpl] at pk
    obtain ⟨p1, p2, q0, _, q2, q3, _⟩ := pk
    rw [q0] at e
    cases e
    constructor
    · intro z
      rw [z, q2] at hx
      cases hx
    · intro z
      rw [z, q3] at hx
      cases hx
/-- the frame of a suite: the error's dict is known to stay -/
def Fr.exn (fr : Fr) (F : Hp) (dd : Addr) (y : V) : Fr := { fr with H0 := upd fr.H0 dd (.xd [(whatS, y)]), F0 := F }
theorem Sat.enterX (S : Sat c fr τ σ H F) {i : Nat} {a dd : Addr} {y : V} {x : PyData} (hx : H dd = some (.xd [(whatS, y)])) (hy : Dt c.K F y x) (hl : i < τ.sl.length) : Sat (c.at a (some dd)) (fr.exn F dd y) (enterS i x τ) (σ.set i (some (.ref a))) H F := by
  have nown : ∀ b, fr.H0 b = none → (∃ vs, H b = some (.lst vs)) → upd fr.H0 dd (.xd [(whatS, y)]) b = none := fun b e ⟨vs, q⟩ => by
    rw [upd_ne (fun z => by rw [z, hx] at q; cases q)]
    exact e
  have hs : i < σ.length := Nat.lt_of_lt_of_le hl S.len
  have slot : ∀ (j : Nat) (s : Sl), (enterS i x τ).sl[j]? = some (some s) → (j = i ∧ s = .exc x) ∨ (j ≠ i ∧ τ.sl[j]? = some (some s) ∧ s ≠ .raw ∧ (∀ x, s ≠ .exc x) ∧ (∀ b, s ≠ .obj b) ∧ ∀ b, s ≠ .ro b) := fun j s e => by
    by_cases hj : i = j
    · subst hj
      have e : ((τ.sl.map noRaw).set i (some (.exc x)))[i]? = some (some s) := e
      rw [List.getElem?_set_self (by rw [List.length_map]; exact hl)] at e
      cases e
      exact .inl ⟨rfl, rfl⟩
    · have e : ((τ.sl.map noRaw).set i (some (.exc x)))[j]? = some (some s) := e
      rw [List.getElem?_set_ne hj] at e
      exact .inr ⟨Ne.symm hj, noRaw_get e⟩
  have own : ∀ j, IsOwn (enterS i x τ) j → j ≠ i ∧ IsOwn τ j := fun j ⟨x, e, hx⟩ => by
    rcases slot j _ e with ⟨_, z⟩ | ⟨hj, e1, _⟩
    · subst z
      cases hx
    · exact ⟨hj, x, e1, hx⟩
  refine ⟨S.sub, S.tabs, fun b o e q t => ?_, fun b e => ?_, fun b o e => .inl e, Same.refl F, fun j s e => ?_, fun j k b n o1 o2 e1 e2 => ?_, ?_, by rw [List.length_set]; simpa [enterS] using S.len, S.ntb.1, S.ntb.2.upd fun ps z => nomatch z⟩
  · by_cases hb : b = dd
    · subst hb
      have e : upd fr.H0 b (.xd [(whatS, y)]) b = some o := e
      rw [upd_same] at e
      cases e
      exact hx
    · have e : upd fr.H0 dd (.xd [(whatS, y)]) b = some o := e
      rw [upd_ne hb] at e
      exact S.keep b o e q t
  · by_cases hb : b = dd
    · rw [hb, hx]
      exact fun z => nomatch z
    · have e : upd fr.H0 dd (.xd [(whatS, y)]) b ≠ none := e
      rw [upd_ne hb] at e
      exact S.there b e
  · rcases slot j s e with ⟨hj, rfl⟩ | ⟨hj, e1, n1, n2⟩
    · subst hj
      refine ⟨.ref a, List.getElem?_set_self hs, dd, y, rfl, rfl, ⟨upd_same, fun pp pq e => ?_⟩, hy⟩
      exact S.notPool hx e
    · obtain ⟨v, k1, k2⟩ := S.slot j s e1
      refine ⟨v, by rw [List.getElem?_set_ne (Ne.symm hj)]; exact k1, ?_⟩
      cases s with
      | val d => exact k2
      | own xs =>
        obtain ⟨b, vs, e3, h1, h2, h3, h4⟩ := k2
        exact ⟨b, vs, e3, h1, h2, h3, nown b h4 ⟨vs, h1⟩⟩
      | pool => exact k2
      | raw => exact absurd rfl n1
      | exc z => exact absurd rfl (n2.1 z)
      | obj z => exact absurd rfl (n2.2.1 z)
      | ro z => exact absurd rfl (n2.2.2 z)
  · obtain ⟨hj, p1⟩ := own j o1
    obtain ⟨hk, p2⟩ := own k o2
    rw [List.getElem?_set_ne (Ne.symm hj)] at e1
    rw [List.getElem?_set_ne (Ne.symm hk)] at e2
    exact S.dist j k b n p1 p2 e1 e2
  · have pk := S.pool
    show PoolOk _ H F τ.pl
    cases hp : τ.pl with
    | none => rw [hp] at pk; exact pk
    | some pl =>
      obtain ⟨x1, x2, l⟩ := pl
      rw [hp] at pk
      obtain ⟨p1, p2, q, q1, q2, q3, q4, q5, q6, q7⟩ := pk
      have ne : ∀ b, fr.H0 b ≠ none → upd fr.H0 dd (.xd [(whatS, y)]) b ≠ none := fun b hb => by
        by_cases z : b = dd
        · rw [z, upd_same]; exact fun q => nomatch q
        · rw [upd_ne z]; exact hb
      exact ⟨p1, p2, q, q1, q2, q3, q4, q5, ne _ q6, ne _ q7⟩
theorem Sat.quitX {τ2 : N4.St} {σ2 : L2.St} {H2 F2 : Hp} {i : Nat} {a dd : Addr} {y : V} (S : Sat c fr τ σ H F) (hx : H dd = some (.xd [(whatS, y)])) (S2 : Sat (c.at a (some dd)) (fr.exn F dd y) τ2 σ2 H2 F2) : Sat c fr (quitS i τ2) (σ2.set i none) H2 F2 := by
  have dn : ∀ b, upd fr.H0 dd (.xd [(whatS, y)]) b = none → fr.H0 b = none := fun b e => by
    by_cases z : b = dd
    · rw [z, upd_same] at e; cases e
    · rw [upd_ne z] at e; exact e
  have slot : ∀ (j : Nat) (s : Sl), (quitS i τ2).sl[j]? = some (some s) → j ≠ i ∧ τ2.sl[j]? = some (some s) ∧ s ≠ .raw ∧ (∀ x, s ≠ .exc x) ∧ (∀ b, s ≠ .obj b) ∧ ∀ b, s ≠ .ro b := fun j s e => by
    have e : ((({ τ2 with sl := τ2.sl.set i none } : N4.St).sl).map noRaw)[j]? = some (some s) := e
    obtain ⟨e1, n1, n2⟩ := noRaw_get e
    have e1 : (τ2.sl.set i none)[j]? = some (some s) := e1
    by_cases hj : i = j
    · subst hj
      by_cases hl : i < τ2.sl.length
      · rw [List.getElem?_set_self hl] at e1
        cases e1
      · rw [List.getElem?_eq_none (by rw [List.length_set]; omega)] at e1
        cases e1
    · rw [List.getElem?_set_ne hj] at e1
      exact ⟨Ne.symm hj, e1, n1, n2⟩
  have own : ∀ j, IsOwn (quitS i τ2) j → j ≠ i ∧ IsOwn τ2 j := fun j ⟨x, e, hx⟩ => by
    obtain ⟨hj, e1, _⟩ := slot j _ e
    exact ⟨hj, x, e1, hx⟩
  refine ⟨S2.sub, S2.tabs, fun b o e q t => ?_, fun b e => ?_, fun b o e => ?_, S.base.trans S2.base, fun j s e => ?_, fun j k b n o1 o2 e1 e2 => ?_, ?_, by rw [List.length_set]; simpa [quitS] using S2.len, S2.ntb.1, S.ntb.2⟩
  · by_cases hb : b = dd
    · subst hb
      have h1 := S.keep b o e q t
      rw [hx] at h1
      cases h1
      exact S2.keep b _ upd_same q fun ps z => nomatch z
    · exact S2.keep b o (by show upd fr.H0 dd (.xd [(whatS, y)]) b = some o; rw [upd_ne hb]; exact e) q t
  · refine S2.there b fun z => e (dn b z)
  · rcases S2.nw b o e with z | z
    · exact S.nw b o z
    · exact .inr (dn b z)
  · obtain ⟨hj, e1, n1, n2⟩ := slot j s e
    obtain ⟨v, k1, k2⟩ := S2.slot j s e1
    refine ⟨v, by rw [List.getElem?_set_ne (Ne.symm hj)]; exact k1, ?_⟩
    cases s with
    | val d => exact k2
    | own xs =>
      obtain ⟨b, vs, e3, h1, h2, h3, h4⟩ := k2
      exact ⟨b, vs, e3, h1, h2, h3, dn b h4⟩
    | pool => exact k2
    | raw => exact absurd rfl n1
    | exc z => exact absurd rfl (n2.1 z)
    | obj z => exact absurd rfl (n2.2.1 z)
    | ro z => exact absurd rfl (n2.2.2 z)
  · obtain ⟨hj, p1⟩ := own j o1
    obtain ⟨hk, p2⟩ := own k o2
    rw [List.getElem?_set_ne (Ne.symm hj)] at e1
    rw [List.getElem?_set_ne (Ne.symm hk)] at e2
    exact S2.dist j k b n p1 p2 e1 e2
  · have pk := S2.pool
    show PoolOk fr H2 F2 τ2.pl
    cases hp : τ2.pl with
    | none => rw [hp] at pk; exact pk
    | some pl =>
      obtain ⟨x1, x2, l⟩ := pl
      rw [hp] at pk
      obtain ⟨p1, p2, q, q1, q2, q3, q4, q5, q6, q7⟩ := pk
      obtain ⟨m1, m2⟩ := S.poolH0 p1 p2 q
      exact ⟨p1, p2, q, q1, q2, q3, q4, q5, m1, m2⟩
theorem post_quit {W : WX} {D : Ends} {i : Nat} {a dd : Addr} {y : V} (S : Sat c fr τ σ H F) (hx : H dd = some (.xd [(whatS, y)])) {o : SOut} (h : PostS c W fr F D (quitO i o)) : PostS (c.at a (some dd)) W0 (fr.exn F dd y) F (endsAt i D) o := by
  cases o with
  | nx t => exact fun σ2 H2 F2 g S2 => h _ H2 F2 g (S.quitX hx S2)
  | brk t => exact fun σ2 H2 F2 g S2 => h _ H2 F2 g (S.quitX hx S2)
  | cnt t => exact fun σ2 H2 F2 g S2 => h _ H2 F2 g (S.quitX hx S2)
  | ret e t =>
    cases e with
    | val d => exact fun v σ2 H2 F2 g S2 r => h v _ H2 F2 g (S.quitX (i := i) hx S2) r
    | fresh xs =>
      refine fun v σ2 H2 F2 g S2 r => h v _ H2 F2 g (S.quitX (i := i) hx S2) ?_
      obtain ⟨b, vs, rfl, h1, h2, h3, h4, h5⟩ := r
      have S3 := S.quitX (i := i) hx S2
      refine ⟨b, vs, rfl, h1, h2, h3, ?_, fun j ⟨ys, e, hy⟩ q => ?_⟩
      · have h4 : upd fr.H0 dd (.xd [(whatS, y)]) b = none := h4
        by_cases z : b = dd
        · rw [z, upd_same] at h4; cases h4
        · rw [upd_ne z] at h4; exact h4
      · have e1 := noRaw_get (τ := { t with sl := t.sl.set i none }) e
        by_cases hj : i = j
        · subst hj
          by_cases hl : i < σ2.length
          · rw [List.getElem?_set_self hl] at q
            cases q
          · rw [List.getElem?_eq_none (by rw [List.length_set]; omega)] at q
            cases q
        · rw [List.getElem?_set_ne hj] at q
          have e2 : (t.sl.set i none)[j]? = some (some ys) := e1.1
          rw [List.getElem?_set_ne hj] at e2
          exact h5 j ⟨ys, e2, hy⟩ q
    | slot j => exact h.elim
    | pool => exact h.elim
    | obj b => exact h.elim
    | junk => exact h.elim
  | err _ _ _ => exact h.elim
  | bad => exact h.elim
theorem post_noErr {W : WX} {D : Ends} {o : SOut} (h : PostS c W fr F D (noErr o)) : PostS c W0 fr F D o := by
  cases o with
  | err _ _ _ => exact h.elim
  | _ => exact h
end
/-- the clauses and their meaning -/
inductive HdN (X : Cx) (c : Cf) : List ExceptHandler → List ClS → Prop
  | nil : HdN X c [] []
  | bare {x : PySem.Str} {cv : Value} {hit : String → Option Bool} {su : String → SM} {st : Stmt} {sts : List Stmt} {np hp : Pos} {hds : List ExceptHandler} {l : List ClS} (hc : Names X x cv) (hx : ∀ cl b, hit cl = some b → PySem.W.exmOne X.K (.ref (c.cls cl)) cv = some b)
      (hs : ∀ (a : Addr) (oe : Obj) (cl : String) (pn : List (Addr × Obj)), hit cl = some true → PSs (X.suite a ((a, oe) :: pn)) (st :: sts) (rdS c W0 (su cl))) (r : HdN X c hds l) :
      HdN X c (.ExceptHandler (some (.Name x np)) none (st :: sts) hp :: hds) (⟨hit, none, su⟩ :: l)
  | named {x n : PySem.Str} {i : Nat} {cv : Value} {hit : String → Option Bool} {su : String → SM} {st : Stmt} {sts : List Stmt} {np hp : Pos} {hds : List ExceptHandler} {l : List ClS} (hc : Names X x cv) (hi : X.N[i]? = some n) (hl : X.env.kindOf n = some .local) (hx : ∀ cl b, hit cl = some b → PySem.W.exmOne X.K (.ref (c.cls cl)) cv = some b)
      (hs : ∀ (a dd : Addr) (oe : Obj) (cl : String) (pn : List (Addr × Obj)), hit cl = some true → Zc (.ref (c.cls cl)) (some dd) oe → (∃ vs, oe.data = .fields vs) → PSs (X.suite a ((a, oe) :: pn)) (st :: sts) (rdS (c.at a (some dd)) W0 (su cl))) (r : HdN X c hds l) :
      HdN X c (.ExceptHandler (some (.Name x np)) (some n) (st :: sts) hp :: hds) (⟨hit, some i, su⟩ :: l)
theorem Sat.forget {c : Cf} {fr : Fr} {τ : N4.St} {σ : L2.St} {H F : Hp} (S : Sat c fr τ σ H F) {n : Nat} (h : n ≤ σ.length) : Sat c fr ⟨List.replicate n none, τ.pl⟩ σ H F := by
  have no : ∀ (i : Nat) (s : Sl), (List.replicate n (none : Option Sl))[i]? ≠ some (some s) := fun i s e => by
    rw [List.getElem?_replicate] at e
    split at e <;> cases e
  exact ⟨S.sub, S.tabs, S.keep, S.there, S.nw, S.base, fun i s e => absurd e (no i s), fun i j a _ ⟨_, e, _⟩ => absurd e (no i _), S.pool, by simpa using h, S.ntb⟩
theorem Sat.off {c : Cf} {fr : Fr} {τ : N4.St} {σ σ' : L2.St} {H F : Hp} (S : Sat c fr τ σ H F) : Sat c fr ⟨[], τ.pl⟩ σ' H F :=
  ⟨S.sub, S.tabs, S.keep, S.there, S.nw, S.base, fun i s e => by simp at e, fun i j a _ ⟨_, e, _⟩ => by simp at e, S.pool, Nat.zero_le _, S.ntb⟩
theorem hd_mix {X : Cx} {c : Cf} {W : WX} {hds : List ExceptHandler} {l : List ClS} (h : HdN X c hds l) : ∃ l', HdMix X hds l' ∧ ∀ (D : Ends) (fr : Fr) (F : Hp) (cl : String) (x : PyData) (pl : Option Pl), PostS c W fr F D (handle l cl x ⟨List.replicate X.N.length none, pl⟩) → ∀ σ, ErrW c (wMix X.K W D l') fr F σ cl x ⟨[], pl⟩ := by
  induction h with
  | nil => exact ⟨[], .nil, fun D fr F cl x pl q => q⟩
  | @bare x cv hit su st sts np hp hds l hc hx hs r ih =>
    obtain ⟨l', m, k⟩ := ih
    refine ⟨(cv, none, fun a cls d D σ H => ∃ cl, cls = .ref (c.cls cl) ∧ hit cl = some true ∧ (σ.length = X.N.length → rdS c W0 (su cl) D σ H)) :: l', .bare hc (fun a oe cls d pn hz hf => ⟨fun pins s σ H D I ⟨cl, e1, e2, q⟩ => ?_⟩) m, fun D fr F cl x pl q σ dx H F' y g S hd dy => ?_⟩
    · exact (hs a oe cl pn e2).run pins s σ H D I (q I.len)
    · cases hh : hit cl with
      | none => simp only [handle, hh] at q; exact q.elim
      | some b =>
        refine ⟨b, hx cl b hh, fun hb a ha => ?_, fun hb => ?_⟩
        · subst hb
          simp only [handle, hh] at q
          exact ⟨cl, rfl, hh, fun hl => ⟨fr, _, F', S.forget (Nat.le_of_eq hl.symm), (post_noErr q).grow g⟩⟩
        · subst hb
          simp only [handle, hh] at q
          exact k D fr F cl x pl q σ dx H F' y g S hd dy
  | @named x n i cv hit su st sts np hp hds l hc hi hl hx hs r ih =>
    obtain ⟨l', m, k⟩ := ih
    refine ⟨(cv, some i, fun a cls d D σ H => ∃ cl dd, cls = .ref (c.cls cl) ∧ d = some dd ∧ hit cl = some true ∧ (σ.length = X.N.length → rdS (c.at a (some dd)) W0 (su cl) D σ H)) :: l', .named hc hi hl (fun a oe cls d pn hz hf => ⟨fun pins s σ H D I ⟨cl, dd, e1, e2, e3, q⟩ => ?_⟩) m, fun D fr F cl x pl q σ dx H F' y g S hd dy => ?_⟩
    · subst e1 e2
      exact (hs a dd oe cl pn e3 hz hf).run pins s σ H D I (q I.len)
    · cases hh : hit cl with
      | none => simp only [handle, hh] at q; exact q.elim
      | some b =>
        refine ⟨b, hx cl b hh, fun hb a ha => ?_, fun hb => ?_⟩
        · subst hb
          simp only [handle, hh] at q
          by_cases hl : i < (List.replicate X.N.length (none : Option Sl)).length
          · rw [if_pos hl] at q
            refine ⟨cl, dx, rfl, rfl, hh, fun hl2 => ?_⟩
            rw [List.length_set] at hl2
            have S0 := S.forget (n := X.N.length) (Nat.le_of_eq hl2.symm)
            exact ⟨fr.exn F' dx y, enterS i x _, F', S0.enterX hd dy hl, post_quit S0 hd (q.grow g)⟩
          · rw [if_neg hl] at q
            exact q.elim
        · subst hb
          simp only [handle, hh] at q
          exact k D fr F cl x pl q σ dx H F' y g S hd dy
section
variable {X : Cx} {c : Cf} {W : WX} {body : List Stmt} {hd0 : ExceptHandler} {hdr : List ExceptHandler} {l : List ClS} {pos : Pos} {b : SM}
theorem s_try (stk : X.stack = X.env :: X.outer) (frm : X.env.frame = some X.env.locals) (nod : X.N.Nodup) (tk : Takes X W)
    (hb : ∀ (W' : WX) (pn : List (Addr × Obj)) (xe : Value → Shared → Prop), Takes (X.tr pn xe) W' → PassesOwn (model X.prog X.w) X.A X.env xe → PSs (X.tr pn xe) body (rdS c W' b))
    (hh : HdN X c (hd0 :: hdr) l) : PS X (.Try body (hd0 :: hdr) [] [] pos) (rdS c W (sTry X.N.length b l)) := by
  obtain ⟨l', m, k⟩ := hd_mix (W := W) hh
  refine (ps_try_mix stk frm nod tk hb m).impN fun D σ H ⟨fr, τ, F, S, q⟩ => ⟨fr, τ, F, S, ?_⟩
  cases hb : b τ with
  | err cl x t =>
    simp only [sTry, hb] at q
    exact fun σ dx H F' y g S' => k D fr F cl x t.pl q σ dx H F' y g S'.off
  | nx t => simp only [sTry, hb] at q; exact q
  | ret e t => simp only [sTry, hb] at q; exact q
  | brk t => simp only [sTry, hb] at q; exact q
  | cnt t => simp only [sTry, hb] at q; exact q
  | bad => simp only [sTry, hb] at q; exact q
/-- n.what, n the error that the suite holds -/
def eWhat (i : Nat) : M Ev := fun s => match s.sl[i]? with
  | some (some (.exc x)) => .ok (.val x) s
  | _ => .bad
theorem x_what (i : Nat) {a dd : Addr} {oe : Obj} {cl : String} {pn : List (Addr × Obj)} {n : PySem.Str} {p : Pos} (T : XfC X.K (c.cls cl)) (no : PySem.W.findIn X.K (.ref (c.cls cl)) whatS = some none) (hz : Zc (.ref (c.cls cl)) (some dd) oe) (hf : ∃ vs, oe.data = .fields vs)
    (hN : X.N[i]? = some n := by rfl) (hv : Vis X.env.scope n := by first | exact Or.inl rfl | exact Or.inr (Or.inl rfl) | exact Or.inr (Or.inr rfl)) (hd : (n == ("__debug__" : PySem.Str)) = false := by decide) (hcd : (n == ("__classdict__" : PySem.Str)) = false := by decide)
    (hb : attributeBase (.Name n p) "what" (X.suite a ((a, oe) :: pn)).env (eval (.Name n p) (X.suite a ((a, oe) :: pn)).env) = eval (.Name n p) (X.suite a ((a, oe) :: pn)).env := by rfl) :
    PE (X.suite a ((a, oe) :: pn)) (.Attribute (.Name n p) "what" pos) (rdE (c.at a (some dd)) W (eWhat i)) :=
  (pe_xf (n := "what") T no hz hf (pe_var (X := X.suite a ((a, oe) :: pn)) (i := i) hN hv hd hcd) hb).impN fun σ H Q ⟨fr, τ, F, S, q⟩ => by
    cases hs : τ.sl[i]? with
    | none => simp only [eWhat, hs] at q; exact q.elim
    | some o =>
      cases o with
      | none => simp only [eWhat, hs] at q; exact q.elim
      | some s =>
        cases s with
        | exc x =>
          simp only [eWhat, hs] at q
          obtain ⟨v, e1, dd', y, k1, k2, k3, k4⟩ := S.slot i _ hs
          cases k1
          have k2 : v = .ref a := k2
          subst k2
          have hx := S.keep dd _ k3.1 k3.2 fun ps z => nomatch z
          exact ⟨.ref a, e1, rfl, rfl, dd, [(whatS, y)], y, rfl, hx, by simp [List.lookup], q y H F (Same.refl F) S k4⟩
        | val _ => simp only [eWhat, hs] at q; exact q.elim
        | own _ => simp only [eWhat, hs] at q; exact q.elim
        | pool => simp only [eWhat, hs] at q; exact q.elim
        | raw => simp only [eWhat, hs] at q; exact q.elim
        | obj _ => simp only [eWhat, hs] at q; exact q.elim
        | ro _ => simp only [eWhat, hs] at q; exact q.elim
end
end N4
end
section
set_option Elab.async false
set_option linter.all false
set_option autoImplicit false
set_option maxRecDepth 100000
set_option maxHeartbeats 2000000
/-! isinstance of a caught error that has a dict; calls of a function that was handed in. -/
namespace N4
open PySem PySem.Spec PyProof.Rows L2
/-- what isinstance asks of the class -/
structure IsC (K : PySem.W.Frag) (C : Addr) : Prop where
  cl : (PySem.W.clsIn K C).isSome = true
  ga : PySem.W.findIn K (.ref C) "__getattribute__" = some (some (.builtin "BaseException.__getattribute__"))
  gg : PySem.W.findIn K (.ref C) "__getattr__" = some none
  ex : PySem.W.subIn K (.ref C) (.type "BaseException") = some true
  ha : PySem.W.findIn K (.ref C) "__class__" = some (some (.builtin "object.__class__"))
  hn : PySem.W.specialIn K (.builtin "object.__class__") "__get__" = some (some (.builtin "getset_descriptor.__get__"))
  tk : PySem.W.takesIn K (.builtin "object.__class__") = some true
  mo : PySem.W.mroIn K C (.type "object") = some true
def rIsX (K : PySem.W.Frag) (C a dd : Addr) : List V → Hp → VK → Prop := fun xs H Q => ∃ (cv : V) (u : Value) (b : Bool) (fs : List (PySem.Str × V)), xs = [.ref a, cv] ∧ (∀ w, RelV cv w → w = u) ∧ PySem.W.kitOne K (.ref C) u = some b ∧ H dd = some (.xd fs) ∧ Q (.bl b) H
theorem call_isX {X : Cx} {C a dd : Addr} {oe : Obj} {pn : List (Addr × Obj)} (T : IsC X.K C) (hz : Zc (.ref C) (some dd) oe) (hf : ∃ vs, oe.data = .fields vs) : CallR (X.suite a ((a, oe) :: pn)) (.builtin "isinstance") (rIsX X.K C a dd) := by
  intro pins s σ H xs us Q I r h
  obtain ⟨cv, u, b, fs, rfl, hcv, e, hx, q⟩ := h
  cases r with
  | cons rx rr =>
    cases rr with
    | cons rt rr =>
      cases rr
      cases rx
      have ec := hcv _ rt
      subst ec
      obtain ⟨hget, _⟩ := I.pin (a, oe) (List.mem_append.mpr (.inl List.mem_cons_self))
      obtain ⟨mA, hns, _⟩ := (show ObjOk X.prog X.w H s.heap dd (.xd fs) from I.hok dd _ hx)
      obtain ⟨od, ho, _⟩ := lookIn_ns hns
      obtain ⟨vs, hd⟩ := hf
      have J : PySem.W.InstAt s.heap a oe C (some od) := ⟨hget, hz.1, by unfold PySem.W.notCls; rw [hd] <;> rfl, by rw [hz.2]; exact ho⟩
      exact PySem.W.kia_one (PySem.W.kitx_exc T.cl T.ga T.gg T.ex T.ha T.hn T.tk T.mo) I.kIn J e (fun z => nomatch z) fun tk => ⟨.bl b, H, I.kept (t' := tk) fun _ _ z => z, rfl, q⟩
def eIsE (i : Nat) (r : Bool) : M Ev := fun s => match s.sl[i]? with
  | some (some (.exc x)) => .ok (.val (.bool r)) s
  | _ => .bad
section
variable {X : Cx} {c : Cf} {W : WX} {pos : Pos}
/-- isinstance(n, x): n the error that the suite holds, x a class -/
theorem x_isE (i : Nat) (r : Bool) {a dd : Addr} {oe : Obj} {cl : String} {pn : List (Addr × Obj)} {n x : PySem.Str} {p pn' px : Pos} {cv : V} {u : Value} (T : IsC X.K (c.cls cl)) (hz : Zc (.ref (c.cls cl)) (some dd) oe) (hf : ∃ vs, oe.data = .fields vs) (hr : PySem.W.kitOne X.K (.ref (c.cls cl)) u = some r)
    (hx : PE (X.suite a ((a, oe) :: pn)) (.Name x px) (tC cv)) (hu : ∀ w, RelV cv w → w = u) (hm : X.mg "isinstance" = none) (hg : Gl X "isinstance" := by rfl)
    (hN : X.N[i]? = some n := by rfl) (hv : Vis X.env.scope n := by first | exact Or.inl rfl | exact Or.inr (Or.inl rfl) | exact Or.inr (Or.inr rfl)) (hd : (n == ("__debug__" : PySem.Str)) = false := by decide) (hcd : (n == ("__classdict__" : PySem.Str)) = false := by decide)
    (hs : starEach [.Name n pn', .Name x px] X.env = (false, eval (.Name n pn') X.env) :: starEach [.Name x px] X.env := by rfl) (hs2 : starEach [.Name x px] X.env = (false, eval (.Name x px) X.env) :: starEach [] X.env := by rfl) (hpl : (backTo pos (starEach [.Name x px] X.env)).any (·.1) = false := by rfl) :
    PE (X.suite a ((a, oe) :: pn)) (.Call (.Name "isinstance" p) [.Name n pn', .Name x px] [] pos) (rdE (c.at a (some dd)) W (eIsE i r)) :=
  (pe_callB (X := X.suite a ((a, oe) :: pn)) (call_isX T hz hf) hg hm PyProof.Rows.boot_isinstance (pa_cons (pe_var (X := X.suite a ((a, oe) :: pn)) (i := i) hN hv hd hcd) (pa_cons hx pa_nil hs2) hs) (by decide) (by decide) hs hpl).impN fun σ H Q ⟨fr, τ, F, S, q⟩ => by
    cases hs : τ.sl[i]? with
    | none => simp only [eIsE, hs] at q; exact q.elim
    | some o =>
      cases o with
      | none => simp only [eIsE, hs] at q; exact q.elim
      | some s =>
        cases s with
        | exc x =>
          simp only [eIsE, hs] at q
          obtain ⟨v, e1, dd', y, k1, k2, k3, k4⟩ := S.slot i _ hs
          cases k1
          have k2 : v = .ref a := k2
          subst k2
          have hx := S.keep dd _ k3.1 k3.2 fun ps z => nomatch z
          exact ⟨.ref a, e1, cv, u, r, _, rfl, hu, hr, hx, q _ H F (Same.refl F) S (.bl _)⟩
        | val _ => simp only [eIsE, hs] at q; exact q.elim
        | own _ => simp only [eIsE, hs] at q; exact q.elim
        | pool => simp only [eIsE, hs] at q; exact q.elim
        | raw => simp only [eIsE, hs] at q; exact q.elim
        | obj _ => simp only [eIsE, hs] at q; exact q.elim
        | ro _ => simp only [eIsE, hs] at q; exact q.elim
end
end N4
end
section
set_option Elab.async false
set_option linter.all false
set_option autoImplicit false
set_option maxRecDepth 100000
set_option maxHeartbeats 2000000
/-! A lambda handed to a def that calls it. -/
namespace N4
open PySem PySem.Spec PyProof.Rows L2
abbrev Act := Option Pl → FOut
def shutSl : Option Sl → Option Sl
  | some (.val d) => some (.val d)
  | some .pool => some .pool
  | _ => none
def frzSl : List Nat → N4.St → N4.St
  | [], s => s
  | i :: is, s => match s.sl[i]? with
    | some (some (.own xs)) => frzSl is (setSl s i (some (.val (.list xs))))
    | _ => frzSl is s
def actOf (lam : M Ev) (sl : List (Option Sl)) : Act := fun p => match lam ⟨sl.map shutSl, p⟩ with
  | .ok (.val d) s => .ok (.val d) s.pl
  | .ok (.fresh xs) s => .ok (.fresh xs) s.pl
  | .ok _ _ => .bad
  | .err cl x s => .err cl x s.pl
  | .bad => .bad
/-- x(lambda: body), sem: what x makes of it -/
def eHeard (caps : List Nat) (sem : Act → Act) (lam : M Ev) : M Ev := fun s => match sem (actOf lam (frzSl caps s).sl) (frzSl caps s).pl with
  | .ok r p => .ok r { frzSl caps s with pl := p }
  | _ => .bad
def eAct (act : Act) : M Ev := fun s => match s.sl[0]? with
  | some (some Sl.raw) => match act s.pl with
    | .ok r p => .ok r { s with pl := p }
    | .err cl x p => .err cl x ⟨[], p⟩
    | .bad => .bad
  | _ => .bad
def semH (n : Nat) (b : Act → SM) : Act → Act := fun act p => endOf (b act ⟨some Sl.raw :: List.replicate (n - 1) none, p⟩)
def Cf.lam (c : Cf) (f c' : Addr) (q : PySem.Str) (F : Hp) (pa : Option (Addr × Addr)) : Cf := { c with ga := f, gx := none, g1 := F, gp := pa, gc := c', gq := q }
section
variable {c c2 : Cf} {fr : Fr} {τ : N4.St} {σ : L2.St} {H F : Hp}
theorem Sat.cfg {p : Option Pl} (hK : c2.K = c.K) (hT : c2.T = c.T) (S : Sat c fr ⟨[], p⟩ σ H F) : Sat c2 fr ⟨[], p⟩ σ H F :=
  ⟨S.sub, by rw [hT]; exact S.tabs, S.keep, S.there, S.nw, S.base, fun i s e => by simp at e, fun i j a _ ⟨_, e⟩ => by simp at e, S.pool, S.len, S.ntb⟩
theorem Sat.ofLam {p : Option Pl} {f c' : Addr} {q : PySem.Str} {F1 : Hp} {pa : Option (Addr × Addr)} (S : Sat (c.lam f c' q F1 pa) fr ⟨[], p⟩ σ H F) : Sat c fr ⟨[], p⟩ σ H F := Sat.cfg (c := c.lam f c' q F1 pa) (c2 := c) rfl rfl S
theorem Sat.toLam {p : Option Pl} {f c' : Addr} {q : PySem.Str} {F1 : Hp} {pa : Option (Addr × Addr)} (S : Sat c fr ⟨[], p⟩ σ H F) : Sat (c.lam f c' q F1 pa) fr ⟨[], p⟩ σ H F := Sat.cfg (c := c) (c2 := c.lam f c' q F1 pa) rfl rfl S
theorem postF_cfg {Q : VK} {E : XK} {o : FOut} (h : PostF c fr F Q E o) (f c' : Addr) (q : PySem.Str) (F1 : Hp) (pa : Option (Addr × Addr)) : PostF (c.lam f c' q F1 pa) fr F Q E o := by
  cases o with
  | ok r p => exact fun v H F' g S e => h v H F' g S.ofLam (by cases r <;> exact e)
  | err cl x p => exact fun dx H F' y g S e d => h dx H F' y g S.ofLam e d
  | bad => exact h
theorem Sat.ext {H1 : Hp} (S : Sat c fr τ σ H F) (e : LamX.ExtN H H1) (t : LamX.Tabs c.T H1) : Sat c fr τ σ H1 F := by
  refine ⟨fun b o q => e b o (S.sub b o q) fun ps z => S.ntb.1 b ps (by rw [q, z]), t, fun b o q np nt => e b o (S.keep b o q np nt) nt, fun b q => ?_, S.nw, S.base, fun i s q => ?_, S.dist, ?_, S.len, S.ntb⟩
  · cases hb : noT H b with
    | none => exact absurd (S.h0T hb) q
    | some o =>
      rw [e b o (noT_some hb) fun ps z => noT_ok H b ps (by rw [hb, z])]
      exact fun z => nomatch z
  · obtain ⟨v, e1, e2⟩ := S.slot i s q
    refine ⟨v, e1, ?_⟩
    cases s with
    | own xs =>
      obtain ⟨a, vs, h0, h1, h2⟩ := e2
      exact ⟨a, vs, h0, e a _ h1 (fun ps z => nomatch z), h2⟩
    | obj b =>
      obtain ⟨a, o, h0, h1, h2, h3⟩ := e2
      exact ⟨a, o, h0, e a _ h1 h2.notbl, h2, h3⟩
    | val d => exact e2
    | pool => exact e2
    | raw => exact e2
    | exc x => exact e2
    | ro kvs => exact e2
  · have pk := S.pool
    cases hp : τ.pl with
    | none => rw [hp] at pk; exact pk
    | some pl =>
      obtain ⟨x1, x2, l⟩ := pl
      rw [hp] at pk
      obtain ⟨p1, p2, q, q1, q2, q3, q4⟩ := pk
      exact ⟨p1, p2, q, q1, e _ _ q2 (fun ps z => nomatch z), e _ _ q3 (fun ps z => nomatch z), q4⟩
theorem Sat.frzSl (S : Sat c fr τ σ H F) : ∀ is : List Nat, ∃ F', Same F F' ∧ Sat c fr (frzSl is τ) σ H F' := by
  intro is
  induction is generalizing τ F with
  | nil => exact ⟨F, Same.refl F, S⟩
  | cons i is ih =>
    have skip : N4.frzSl (i :: is) τ = N4.frzSl is τ → ∃ F', Same F F' ∧ Sat c fr (N4.frzSl (i :: is) τ) σ H F' := fun e => by rw [e]; exact ih S
    cases hs : τ.sl[i]? with
    | none => exact skip (by simp only [N4.frzSl, hs])
    | some o =>
      cases o with
      | none => exact skip (by simp only [N4.frzSl, hs])
      | some s =>
        cases s with
        | own xs =>
          obtain ⟨a, vs, e1, _⟩ := S.own hs
          obtain ⟨F1, g1, S1, _⟩ := freeze_ok S (e := .slot i) (v := .ref a) (d := .list xs) (τ' := setSl τ i (some (.val (.list xs)))) e1 (by simp only [freeze, hs])
          obtain ⟨F2, g2, S2⟩ := ih S1
          have e : N4.frzSl (i :: is) τ = N4.frzSl is (setSl τ i (some (.val (.list xs)))) := by simp only [N4.frzSl, hs]
          rw [e]
          exact ⟨F2, g1.trans g2, S2⟩
        | val d => exact skip (by simp only [N4.frzSl, hs])
        | pool => exact skip (by simp only [N4.frzSl, hs])
        | raw => exact skip (by simp only [N4.frzSl, hs])
        | exc x => exact skip (by simp only [N4.frzSl, hs])
        | obj b => exact skip (by simp only [N4.frzSl, hs])
        | ro b => exact skip (by simp only [N4.frzSl, hs])
/-- what a lambda sees, looked at from another frame -/
theorem Sat.seen {HZ FZ : Hp} {p : Option Pl} (S : Sat c fr τ σ H F) (g : Same F FZ) (Z : Sat c ⟨noT HZ, FZ, fr.pa⟩ ⟨[], p⟩ [] HZ FZ) : Sat c ⟨noT HZ, FZ, fr.pa⟩ ⟨τ.sl.map shutSl, p⟩ σ HZ FZ := by
  have look : ∀ (i : Nat) (s : Sl), (τ.sl.map shutSl)[i]? = some (some s) → τ.sl[i]? = some (some s) ∧ ((∃ d, s = .val d) ∨ s = .pool) := fun i s e => by
    rw [List.getElem?_map] at e
    cases hs : τ.sl[i]? with
    | none => rw [hs] at e; cases e
    | some o =>
      rw [hs] at e
      have e : shutSl o = some s := Option.some.inj e
      cases o with
      | none => cases e
      | some z =>
        cases z with
        | val d => cases e; exact ⟨rfl, .inl ⟨d, rfl⟩⟩
        | pool => cases e; exact ⟨rfl, .inr rfl⟩
        | own xs => cases e
        | raw => cases e
        | exc x => cases e
        | obj b => cases e
        | ro b => cases e
  refine ⟨Z.sub, Z.tabs, Z.keep, Z.there, Z.nw, Z.base, fun i s e => ?_, fun i j a _ ⟨x, e, hx⟩ => ?_, Z.pool, by rw [List.length_map]; exact S.len, Z.ntb⟩
  · obtain ⟨e1, h⟩ := look i s e
    obtain ⟨v, k1, k2⟩ := S.slot i s e1
    rcases h with ⟨d, rfl⟩ | rfl
    · exact ⟨v, k1, Dt.grow g _ _ k2⟩
    · exact ⟨v, k1, k2⟩
  · rcases (look i _ e).2 with ⟨d, z⟩ | z <;> subst z <;> cases hx
end
/-- tl: a lambda's reading, by the heap; act: its plain meaning -/
def Real (c : Cf) (F1 : Hp) (pa : Option (Addr × Addr)) (tl : XK → Hp → VK → Prop) (act : Act) : Prop := ∀ (HZ FZ : Hp) (pl : Option Pl) (E : XK) (Q : VK), Same F1 FZ → Sat c ⟨noT HZ, FZ, pa⟩ ⟨[], pl⟩ [] HZ FZ → PostF c ⟨noT HZ, FZ, pa⟩ FZ Q E (act pl) → tl E HZ Q
def TTof (c : Cf) (sem : Act → Act) : (XK → Hp → VK → Prop) → Hp → VK → Prop := fun tl H Q => ∃ F pa pl act, Sat c ⟨noT H, F, pa⟩ ⟨[], pl⟩ [] H F ∧ Real c F pa tl act ∧ PostF c ⟨noT H, F, pa⟩ F Q C8.E0 (sem act pl)
section
variable {X : Cx} {c : Cf}
theorem gives {Ng : List PySem.Str} {x : PySem.Str} {sg : Scope} {g : Addr} {cdg : Value} {bg : List Stmt} {a q : PySem.Str} {b : Act → SM} (hn : 0 < Ng.length)
    (hB : ∀ (s : Shared) (H : Hp) (f c' : Addr) (F : Hp) (pa : Option (Addr × Addr)) (act : Act),
      (∀ (W : WX) (pn : List (Addr × Obj)) (xe : Value → Shared → Prop) (p1 p2 : Pos), Takes ((cxOf C8.CX0 X.prog X.w X.K X.mg X.base Ng x sg g cdg X.A X.stack s H C8.E0).tr pn xe) W → PE ((cxOf C8.CX0 X.prog X.w X.K X.mg X.base Ng x sg g cdg X.A X.stack s H C8.E0).tr pn xe) (.Call (.Name a p1) [] [] p2) (rdE (c.lam f c' q F pa) W (eAct act))) →
      PSs (cxOf C8.CX0 X.prog X.w X.K X.mg X.base Ng x sg g cdg X.A X.stack s H C8.E0).nox bg (rdS (c.lam f c' q F pa) W0 (b act))) :
    LamX.GivesTo X Ng x sg g cdg bg a q (TTof c (semH Ng.length b)) := by
  intro f c' s H Q tl hact hc' ⟨F, pa, pl, act, S, R, h⟩
  refine ⟨_, hB s H f c' F pa act (fun W pn xe p1 p2 tk => ?_), ?_⟩
  · refine (hact W pn xe (fun cl d H' => ∀ σ', W cl d σ' H') p1 p2 tk fun cl d σ' H' k => k σ').impN fun σZ HZ QZ ⟨frZ, τZ, FZ, SZ, qZ⟩ => ?_
    cases hs : τZ.sl[0]? with
    | none => simp only [eAct, hs] at qZ; exact qZ.elim
    | some o =>
      cases o with
      | none => simp only [eAct, hs] at qZ; exact qZ.elim
      | some z =>
        cases z with
        | val _ => simp only [eAct, hs] at qZ; exact qZ.elim
        | own _ => simp only [eAct, hs] at qZ; exact qZ.elim
        | pool => simp only [eAct, hs] at qZ; exact qZ.elim
        | exc _ => simp only [eAct, hs] at qZ; exact qZ.elim
        | obj _ => simp only [eAct, hs] at qZ; exact qZ.elim
        | ro _ => simp only [eAct, hs] at qZ; exact qZ.elim
        | raw =>
          simp only [eAct, hs] at qZ
          obtain ⟨v, e1, k1, k2, k3, k4, k5⟩ := SZ.slot 0 _ hs
          subst k1
          refine ⟨e1, SZ.keep _ _ k4 k5 (fun ps z => LamX.codeO_ne ps z), ?_⟩
          have en := SZ.enter
          have k3 : frZ.pa = pa := k3
          rw [k3] at en
          refine R HZ FZ τZ.pl _ _ k2 en.ofLam ?_
          cases ha : act τZ.pl with
          | ok r p =>
            simp only [ha] at qZ
            exact fun v H' F' g S' e => qZ v H' F' g (SZ.leave g (by rw [k3]; exact S'.toLam)) (EvOk.leave SZ (by rw [k3]; cases r <;> exact e))
          | err cl x p =>
            simp only [ha] at qZ
            exact fun dx H' F' y g S' e d σ' => qZ σ' dx H' F' y g (SZ.leave g (by rw [k3]; exact S'.toLam)).off e d
          | bad => simp only [ha] at qZ; exact qZ.elim
  · refine ⟨⟨noT H, F, pa⟩, ⟨some Sl.raw :: List.replicate (Ng.length - 1) none, pl⟩, F, ?_, post_end (postF_cfg h f c' q F pa)⟩
    have look : ∀ (i : Nat) (z : Sl), (some Sl.raw :: List.replicate (Ng.length - 1) none : List (Option Sl))[i]? = some (some z) → i = 0 ∧ z = .raw := fun i z e => by
      cases i with
      | zero => cases e; exact ⟨rfl, rfl⟩
      | succ j =>
        rw [List.getElem?_cons_succ, List.getElem?_replicate] at e
        split at e <;> cases e
    refine ⟨S.sub, S.tabs, S.keep, S.there, S.nw, S.base, fun i z e => ?_, fun i j b _ ⟨x, e, hx⟩ => ?_, S.pool, ?_, S.ntb⟩
    · obtain ⟨rfl, rfl⟩ := look i z e
      refine ⟨.ref f, start_get rfl, rfl, Same.refl F, rfl, noT_of hc' (fun ps z => LamX.codeO_ne ps z), fun pp pq e => ?_⟩
      have pk := S.pool
      cases hp : pl with
      | none =>
        rw [hp] at pk
        have pk : pa = none := pk
        have e : pa = some (pp, pq) := e
        rw [pk] at e
        cases e
      | some y =>
        obtain ⟨x1, x2, l⟩ := y
        rw [hp] at pk
        obtain ⟨p1, p2, q0, _, q2, q3, _⟩ := pk
        have q0 : pa = some (p1, p2) := q0
        have e : pa = some (pp, pq) := e
        rw [q0] at e
        injection e with e
        injection e with ea eb
        subst ea eb
        constructor
        · intro z
          have z : c' = p1 := z
          rw [z, q2] at hc'
          cases hc'
        · intro z
          have z : c' = p2 := z
          rw [z, q3] at hc'
          cases hc'
    · have z := (look i _ e).2
      subst z
      cases hx
    · unfold L2.start
      simp only [List.length_cons, List.length_append, List.length_map, List.length_replicate, List.length_nil]
      omega
/-- the reading of x(lambda: body) -/
theorem rd_heard {W : WX} {caps : List Nat} {sem : Act → Act} {lam : M Ev} {σ : L2.St} {H : Hp} {Q : VK} (h : rdE c W (eHeard caps sem lam) σ H Q) :
    LamX.tLam c.T (TTof c sem) (fun E => rdE c (fun cl d _ H => E cl d H) lam) σ H Q := by
  obtain ⟨fr, τ, F, S, q⟩ := h
  refine ⟨S.tabs, fun H1 e1 t1 => ?_⟩
  obtain ⟨F2, g2, S2⟩ := (S.ext e1 t1).frzSl caps
  have q := PostM.grow g2 q
  refine ⟨F2, fr.pa, (frzSl caps τ).pl, actOf lam (frzSl caps τ).sl, S2.enter, fun HZ FZ pl E Q' g Z h => ?_, ?_⟩
  · refine ⟨_, _, FZ, S2.seen g Z, ?_⟩
    cases hl : lam ⟨(frzSl caps τ).sl.map shutSl, pl⟩ with
    | ok r t =>
      simp only [actOf, hl] at h
      cases r with
      | val d => exact fun v H' F' g' S' e => h v H' F' g' S'.bare e
      | fresh xs =>
        refine fun v H' F' g' S' e => h v H' F' g' S'.bare ?_
        obtain ⟨b, vs, rfl, h1, h2, h3, h4, h5⟩ := e
        exact ⟨b, vs, rfl, h1, h2, h3, h4, fun i _ q => by simp at q⟩
      | slot i => exact h.elim
      | pool => exact h.elim
      | obj b => exact h.elim
      | junk => exact h.elim
    | err cl x t =>
      simp only [actOf, hl] at h
      exact fun σ' dx H' F' y g' S' e d => h dx H' F' y g' S'.bare e d
    | bad =>
      simp only [actOf, hl] at h
      exact h.elim
  · simp only [eHeard] at q
    cases hs : sem (actOf lam (frzSl caps τ).sl) (frzSl caps τ).pl with
    | ok r p =>
      simp only [hs] at q
      exact fun v H' F' g S' e => q v H' F' g (S2.leave g S') (EvOk.leave S2 e)
    | err _ _ _ => simp only [hs] at q; exact q.elim
    | bad => simp only [hs] at q; exact q.elim
end
end N4
end
section
set_option Elab.async false
set_option linter.all false
set_option autoImplicit false
set_option maxRecDepth 100000
set_option maxHeartbeats 2000000
/-! The end of a law: the call from the caller's room. -/
namespace N4
open PySem PySem.Spec PyProof.Rows L2
theorem cx_no {P : Program} {w : World} {outer : List Env} {H : Hp} {s s' : Shared} {e : Value} (h : L2.CX P w outer H s (fun _ _ _ => False) e s') : False := by
  obtain ⟨_, _, _, _, _, _, _, _, _, _, _, _, z⟩ := h
  exact z
/-- what is tracked at the beginning: the tables, and the script where it is not written -/
def hp0 (K : PySem.W.Frag) (tabs : List Addr) (a : Addr) (vs : List Value) (ns : List Int) : Hp := fun b =>
  if b ∈ tabs then some (.tbl #[]) else if b = a ∧ K.lookup a = none then some (.frz { cls := .type "list", data := .seq vs.toArray } (.lst (ns.map V.int))) else none
abbrev tabO : Obj := { cls := .none, data := .fields #[] }
abbrev lstO (vs : List Value) : Obj := { cls := .type "list", data := .seq vs.toArray }
section
variable {P : Program} {w : World} {K : PySem.W.Frag} {mg mb : PySem.Str → Option Value} {fa a : Addr} {cs : List (Addr × Addr)} {s1 : Shared} {vs : List Value} {ns : List Int}
theorem hp0_cases {tabs : List Addr} {b : Addr} {o : HO} (e : hp0 K tabs a vs ns b = some o) : (b ∈ tabs ∧ o = .tbl #[]) ∨ (b ∉ tabs ∧ b = a ∧ K.lookup a = none ∧ o = .frz (lstO vs) (.lst (ns.map V.int))) := by
  unfold hp0 at e
  split at e
  · cases e
    exact .inl ⟨by assumption, rfl⟩
  · split at e
    · rename_i h1 h2
      cases e
      exact .inr ⟨h1, h2.1, h2.2, rfl⟩
    · cases e
theorem law_callG (inK : K.In s1.heap) (glo : s1.heap.Ns mainGlobals mg) (blt : s1.heap.Ns builtinsNs mb) (bltB : ∀ x : PySem.Str, x ≠ "__name__" → mb x = bootBuiltins x) (lim : s1.heap.NoLimit) (gens : s1.gens = #[])
    (tabs : ∀ p ∈ cs, s1.heap.get? p.2 = some tabO) (noK : ∀ p ∈ cs, K.lookup p.2 = none) (codes : ∀ p ∈ cs, PySem.W.CodeHd s1.heap p.1 p.2)
    (bmain : ∃ (bm : Addr) (ob : Obj), mg "__builtins__" = some (.ref bm) ∧ bm ≠ builtinsNs ∧ s1.heap.get? bm = some ob ∧ ob.cls = .type "module" ∧ ob.dict = some builtinsNs ∧ ob.data = .plain)
    (scr : s1.heap.get? a = some (lstO vs)) (int : IntsAre vs ns) (size : ns.length ≤ sizeLine)
    (run : ∀ (base : Heap) (H : Hp), K.In base → base.Ns mainGlobals mg → (∀ p ∈ cs, LamX.TabB base mg p.1 p.2) → (∀ p ∈ cs, H p.2 = some (.tbl #[])) → SqL K H a (ns.map V.int) → (∀ b o, H b = some o → o = .tbl #[] ∨ o = .frz (lstO vs) (.lst (ns.map V.int))) → Env0 P w K mg base callerA [] s1 H →
      codeAny (model P w) callerA (.call (.ref fa) ⟨[.ref a], []⟩) (CR (L2.CX P w) [] P w H s1 (fun v _ => v = .bl true) fun _ _ _ => False) s1) :
    codeAny (model P w) callerA (.call (.ref fa) ⟨[.ref a], []⟩) (fun r s' => r = .ok (.ret (.bool true)) ∧ OldK s1.heap s'.heap ∧ s'.os = s1.os ∧ AllBare s'.gens) s1 := by
  generalize ht : cs.map (·.2) = T
  have inT : ∀ p ∈ cs, p.2 ∈ T := fun p hp => by rw [← ht]; exact List.mem_map.mpr ⟨p, hp, rfl⟩
  have ofT : ∀ b ∈ T, s1.heap.get? b = some tabO := fun b hb => by
    rw [← ht] at hb
    obtain ⟨p, hp, e⟩ := List.mem_map.mp hb
    rw [← e]
    exact tabs p hp
  have notT : a ∉ T := fun z => by
    have e := ofT a z
    rw [scr] at e
    have e := congrArg Obj.data (Option.some.inj e)
    cases e
  let H : Hp := hp0 K T a vs ns
  have seen : ∀ b o, H b = some o → s1.heap.get? b = some tabO ∨ s1.heap.get? b = some (lstO vs) := fun b o e => by
    rcases hp0_cases e with ⟨h1, _⟩ | ⟨_, h2, _⟩
    · exact .inl (ofT b h1)
    · rw [h2]
      exact .inr scr
  have free : ∀ {b : Addr} {ob : Obj}, s1.heap.get? b = some ob → ob.data ≠ .fields #[] → (∀ xs n, ob.data ≠ .seq xs n) → H b = none := fun {b ob} e n1 n2 => by
    cases q : H b with
    | none => rfl
    | some o =>
      rcases seen b o q with z | z
      · rw [e] at z
        cases z
        exact absurd rfl n1
      · rw [e] at z
        cases z
        exact absurd rfl (n2 _ _)
  have dicts : ∀ {b : Addr} {m : PySem.Str → Option Value}, s1.heap.Ns b m → (hidT s1.heap H).Ns b m := fun {b m} ⟨ob, es, ep, e, d, r⟩ =>
    ⟨ob, es, ep, hidT_get e (free e (by rw [d]; exact fun z => nomatch z) (by intro xs n; rw [d]; exact fun z => nomatch z)), d, r⟩
  have kin : K.In (hidT s1.heap H) := fun b ob e => hidT_get (inK b ob e) (by
    cases q : H b with
    | none => rfl
    | some o =>
      rcases hp0_cases q with ⟨h1, _⟩ | ⟨_, h2, h3, _⟩
      · rw [← ht] at h1
        obtain ⟨p, hp, ep⟩ := List.mem_map.mp h1
        rw [← ep, noK p hp] at e
        cases e
      · rw [h2, h3] at e
        cases e)
  have mod : L2.Mod K mg (hidT s1.heap H) := ⟨kin, dicts glo, ⟨mb, dicts blt, bltB⟩, let ⟨mc, h1, h2⟩ := lim; ⟨mc, dicts h1, h2⟩⟩
  have HT : ∀ p ∈ cs, H p.2 = some (.tbl #[]) := fun p hp => if_pos (inT p hp)
  have tb : ∀ p ∈ cs, LamX.TabB (hidT s1.heap H) mg p.1 p.2 := fun p hp => by
    have e2 := tabs p hp
    refine ⟨?_, ?_, fun z => ?_⟩
    · obtain ⟨ob, us, fi, tf, fl, tg, inF, tx, tt, g1, gc, g2, g3, more⟩ := codes p hp
      refine ⟨ob, us, fi, tf, fl, tg, inF, tx, tt, hidT_get g1 (free g1 ?_ ?_), gc, g2, g3, more⟩
      · intro z
        rw [g2] at z
        cases z
        simp at g3
      · intro xs n z
        rw [g2] at z
        cases z
    · obtain ⟨bm, ob, b1, b2, b3, b4, b5, b6⟩ := bmain
      have n1 : bm ≠ mainGlobals := fun q => by
        obtain ⟨oG, es, ep, eG, dG, _⟩ := glo
        rw [q, eG] at b3
        cases b3
        rw [dG] at b6
        cases b6
      have n2 : bm ≠ p.2 := fun q => by
        rw [q, e2] at b3
        cases b3
        cases b6
      exact ⟨bm, ob, b1, b2, n1, n2, hidT_get b3 (free b3 (by rw [b6]; exact fun z => nomatch z) (by intro xs n; rw [b6]; exact fun z => nomatch z)), b4, b5, b6⟩
    · obtain ⟨oG, es, ep, eG, dG, _⟩ := glo
      rw [z, e2] at eG
      cases eG
      cases dG
  have rv := vals_ints int
  have lenV := int.length
  have hok : HOk P w H s1.heap := fun b o e => by
    rcases hp0_cases e with ⟨h1, rfl⟩ | ⟨_, h2, _, rfl⟩
    · exact ofT b h1
    · rw [h2]
      exact ⟨scr, by rw [List.length_map]; exact size, vs, _, rv, scr⟩
  have sq : SqL K H a (ns.map V.int) := by
    cases hk : K.lookup a with
    | none => exact .inl (.inr ⟨lstO vs, by show hp0 K T a vs ns a = _; unfold hp0; rw [if_neg notT, if_pos ⟨rfl, hk⟩]⟩)
    | some ob =>
      have e := inK a ob hk
      rw [scr] at e
      cases e
      exact .inr ⟨_, vs.toArray, _, hk, rfl, rfl, rfl, by rw [List.size_toArray, lenV]; exact size, by simpa using rv⟩
  have env : Env0 P w K mg (hidT s1.heap H) callerA [] s1 H := ⟨rfl, mod, fun b o e => of_hidT e, Nat.le_of_eq (hidT_size _ _), trivial, fun b hb => absurd (show b ∈ ([] : List Addr) from hb) (by simp), hok, .of_eq gens⟩
  refine codeAny_mono (run _ H kin (dicts glo) tb HT sq (fun b o e => (hp0_cases e).elim (fun z => .inl z.2) fun z => .inr z.2.2.2) env) fun r s' hr => ?_
  cases r with
  | error er => exact (cx_no hr).elim
  | ok fl =>
    cases fl with
    | next => exact False.elim hr
    | brk => exact False.elim hr
    | cont => exact False.elim hr
    | ret u =>
      obtain ⟨v, H', eos, bare, un, hok', rvu, ev⟩ := hr
      subst ev
      obtain rfl : u = Value.bool true := rvu
      have stay : ∀ b ob, b ∉ T → s1.heap.get? b = some ob → s'.heap.get? b = some ob := fun b ob nb e => by
        cases q : H b with
        | none => exact un.keep b ob e q (fun z => absurd (show b ∈ ([] : List Addr) from z) (by simp)) (by simp)
        | some o =>
          rcases hp0_cases q with ⟨h1, _⟩ | ⟨_, h2, _, rfl⟩
          · exact absurd h1 nb
          · have e1 := (hok b _ q).1
            have e2 := (hok' b _ (un.frzs b _ _ q)).1
            rw [e] at e1
            cases e1
            exact e2
      have more : ∀ p ∈ cs, ∃ xs : Array Value, s'.heap.get? p.2 = some { cls := .none, data := .fields xs } := fun p hp => by
        obtain ⟨xs, z⟩ := un.tbls p.2 #[] (HT p hp)
        exact ⟨_, hok' p.2 _ z⟩
      have tabOf : ∀ b ∈ T, ∃ p ∈ cs, p.2 = b := fun b hb => by
        rw [← ht] at hb
        obtain ⟨p, hp, e⟩ := List.mem_map.mp hb
        exact ⟨p, hp, e⟩
      refine ⟨rfl, ⟨fun b ob e => ?_, fun b ob e => ?_⟩, eos, bare⟩
      · by_cases hb : b ∈ T
        · obtain ⟨p, hp, ep⟩ := tabOf b hb
          obtain ⟨xs, hx⟩ := more p hp
          have e0 := tabs p hp
          rw [← ep] at e ⊢
          rw [e0] at e
          cases e
          exact .inr (.inl ⟨((codes p hp).tab e0).isCodeTable, rfl, #[], xs, rfl, by rw [Array.empty_append]; exact hx⟩)
        · exact .inl (stay b ob hb e)
      · by_cases hb : b ∈ T
        · obtain ⟨p, hp, ep⟩ := tabOf b hb
          obtain ⟨xs, hx⟩ := more p hp
          rw [← ep]
          exact ⟨_, hx⟩
        · exact ⟨ob, stay b ob hb e⟩
end
end N4
end
section
set_option Elab.async false
set_option linter.all false
set_option autoImplicit false
set_option maxRecDepth 100000
set_option maxHeartbeats 2000000
/-! The pool of draws: its three cells. -/
namespace N4
open PySem PySem.Spec PyProof.Rows L2
section
variable {c : Cf} {fr : Fr} {τ : N4.St} {σ : L2.St} {H F : Hp}
theorem Sat.poolSet (S : Sat c fr τ σ H F) {pp pq b : Addr} {vs ws : List V} {pl' : Pl} (hb : H b = some (.lst vs)) (fb : F b = none) (hb0 : fr.H0 b ≠ none) (he : fr.pa = some (pp, pq)) (hpq : b = pp ∨ b = pq) (h : PoolOk fr (upd H b (.lst ws)) F (some pl')) :
    Sat c fr { τ with pl := some pl' } σ (upd H b (.lst ws)) F := by
  refine ⟨fun x o e => by rw [upd_ne (ne_of_none e fb)]; exact S.sub x o e, fun p hp => ?_, fun x o e q t => ?_, fun x e => ?_, S.nw, S.base, fun j s e => ?_, S.dist, h, S.len, S.ntb⟩
  · obtain ⟨ps, h1, h2, h3⟩ := S.tabs p hp
    have np : p.1 ≠ b := fun z => by rw [z, hb] at h1; cases h1
    refine ⟨ps, by rw [upd_ne np]; exact h1, h2, fun pos cv hc => ?_⟩
    obtain ⟨cc, g1, g2⟩ := h3 pos cv hc
    have nc : cc ≠ b := fun z => by
      rw [z, hb] at g2
      unfold LamX.CodeO at g2
      cases g2
    exact ⟨cc, g1, by rw [upd_ne nc]; exact g2⟩
  · obtain ⟨n1, n2⟩ := q _ _ he
    rw [upd_ne (fun z => hpq.elim (fun w => n1 (z.trans w)) fun w => n2 (z.trans w))]
    exact S.keep x o e q t
  · by_cases hx : x = b
    · rw [hx, upd_same]
      exact fun z => nomatch z
    · rw [upd_ne hx]
      exact S.there x e
  · obtain ⟨v, e1, e2⟩ := S.slot j s e
    refine ⟨v, e1, ?_⟩
    cases s with
    | own xs =>
      obtain ⟨a, us, h0, h1, h2, h3, h4⟩ := e2
      exact ⟨a, us, h0, by rw [upd_ne (fun z => hb0 (by rw [← z]; exact h4))]; exact h1, h2, h3, h4⟩
    | val d => exact e2
    | pool => exact e2
    | raw => exact e2
    | exc x => exact e2
    | ro kvs => exact e2
    | obj b =>
      obtain ⟨a, o, h0, h1, h2, h3, h4⟩ := e2
      exact ⟨a, o, h0, by rw [upd_ne (fun z => hb0 (by rw [← z]; exact h4))]; exact h1, h2, h3, h4⟩
theorem Sat.poolAt (S : Sat c fr τ σ H F) {i : Nat} {x y : Int} {l : List Int} (hs : τ.sl[i]? = some (some .pool)) (hp : τ.pl = some (x, y, l)) : ∃ pp pq, σ[i]? = some (some (.ref pp)) ∧ fr.pa = some (pp, pq) ∧ pp ≠ pq ∧ H pp = some (.lst [.int x, .int y, .ref pq]) ∧ H pq = some (.lst (l.map V.int)) ∧ F pp = none ∧ F pq = none ∧ fr.H0 pp ≠ none ∧ fr.H0 pq ≠ none := by
  obtain ⟨v, e1, p0, q0, e2, rfl⟩ := S.slot i _ hs
  have pk := S.pool
  rw [hp] at pk
  obtain ⟨p1, p2, q, h⟩ := pk
  rw [e2] at q
  cases q
  exact ⟨_, _, e1, e2, h⟩
end
def poolAt {α : Type} (i : Nat) (k : Int → Int → List Int → M α) : M α := fun s => match s.sl[i]?, s.pl with
  | some (some Sl.pool), some (x, y, l) => k x y l s
  | _, _ => .bad
def eP0 (i : Nat) : M Ev := poolAt i fun x _ _ => mRet (.val (.int x))
def eP1 (i : Nat) : M Ev := poolAt i fun _ y _ => mRet (.val (.int y))
def ePne (i : Nat) : M Ev := poolAt i fun _ _ l => if shal (.list (l.map .int)) then mRet (.val (.bool (!PyData.eqv (.list (l.map .int)) (.list [])))) else mBad
def ePpop (i : Nat) : M Ev := poolAt i fun x y l => match l with
  | [] => mBad
  | z :: r => fun s => .ok (.val (.int z)) { s with pl := some (x, y, r) }
def sPool (i : Nat) (k : Int → Int → List Int → Pl) : SM := fun s => match s.sl[i]?, s.pl with
  | some (some Sl.pool), some (x, y, l) => .nx { s with pl := some (k x y l) }
  | _, _ => .bad
def intOf (e : Ev) (k : Int → SM) : SM := match e with
  | .val (.int z) => k z
  | _ => fun _ => .bad
def sP0 (i : Nat) (e : M Ev) : SM := sE e fun v => intOf v fun z => sPool i fun _ y l => (z, y, l)
def sP1 (i : Nat) (e : M Ev) : SM := sE e fun v => intOf v fun z => sPool i fun x _ l => (x, z, l)
theorem poolAt_some {α : Type} {i : Nat} {k : Int → Int → List Int → M α} {τ : N4.St} {P : Out α → Prop} (hb : ¬ P .bad) (h : P (poolAt i k τ)) : ∃ x y l, τ.sl[i]? = some (some .pool) ∧ τ.pl = some (x, y, l) ∧ P (k x y l τ) := by
  unfold poolAt at h
  split at h
  · rename_i x y l e1 e2
    exact ⟨x, y, l, e1, e2, h⟩
  · exact absurd h hb
section
variable {X : Cx} {c : Cf} {W : WX} {pos p p2 p3 p4 cpos apos : Pos} {n : PySem.Str} {e : Expr} {m : M Ev}
theorem post_bad {α β : Type} {R : Fr → L2.St → N4.St → Hp → Hp → β → α → Prop} {fr : Fr} {F : Hp} {σ : L2.St} {Q : β → Hp → Prop} : ¬ PostM c W R fr F σ Q .bad := fun h => h
/-- pool[0] -/
theorem x_p0 (i : Nat) {j : Nat} (hK : X.K = c.K) (hN : X.N[i]? = some n := by rfl) (hv : Vis X.env.scope n := by first | exact Or.inl rfl | exact Or.inr (Or.inl rfl) | exact Or.inr (Or.inr rfl)) (hd : (n == ("__debug__" : PySem.Str)) = false := by decide) (hcd : (n == ("__classdict__" : PySem.Str)) = false := by decide) :
    PE X (.Subscript (.Name n p) (.Constant (.int 0) j p2) pos) (rdE c W (eP0 i)) :=
  (pe_ix ix_list (pe_var (i := i) hN hv hd hcd) pe_int (by exact fun _ _ => rfl)).impN fun σ H Q ⟨fr, τ, F, S, q⟩ => by
    obtain ⟨x, y, l, h1, h2, q⟩ := poolAt_some post_bad q
    obtain ⟨pp, pq, k1, k2, k3, k4, k5, k6⟩ := S.poolAt h1 h2
    exact ⟨.ref pp, k1, pp, _, 0, .int x, rfl, rfl, SqL.of k4, rfl, post_ret S q (.int x)⟩
theorem x_p1 (i : Nat) {j : Nat} (hK : X.K = c.K) (hN : X.N[i]? = some n := by rfl) (hv : Vis X.env.scope n := by first | exact Or.inl rfl | exact Or.inr (Or.inl rfl) | exact Or.inr (Or.inr rfl)) (hd : (n == ("__debug__" : PySem.Str)) = false := by decide) (hcd : (n == ("__classdict__" : PySem.Str)) = false := by decide) :
    PE X (.Subscript (.Name n p) (.Constant (.int 1) j p2) pos) (rdE c W (eP1 i)) :=
  (pe_ix ix_list (pe_var (i := i) hN hv hd hcd) pe_int (by exact fun _ _ => rfl)).impN fun σ H Q ⟨fr, τ, F, S, q⟩ => by
    obtain ⟨x, y, l, h1, h2, q⟩ := poolAt_some post_bad q
    obtain ⟨pp, pq, k1, k2, k3, k4, k5, k6⟩ := S.poolAt h1 h2
    exact ⟨.ref pp, k1, pp, _, 1, .int y, rfl, rfl, SqL.of k4, rfl, post_ret S q (.int y)⟩
theorem eqv_hp {K : PySem.W.Frag} {H : Hp} {q : Addr} {l : List Int} (h : H q = some (.lst (l.map V.int))) : Dp K H (.ref q) (.list (l.map .int)) := .lst (SqL.of h) (DtAll.dp (F := H) (Same.refl H) _ _ (dtAll_ints l))
/-- pool[2] != [] -/
theorem x_pne (i : Nat) {j : Nat} (hu : X.A.units + 64 < cLine) (hN : X.N[i]? = some n := by rfl) (hv : Vis X.env.scope n := by first | exact Or.inl rfl | exact Or.inr (Or.inl rfl) | exact Or.inr (Or.inr rfl)) (hd : (n == ("__debug__" : PySem.Str)) = false := by decide) (hcd : (n == ("__classdict__" : PySem.Str)) = false := by decide)
    (hm : behindInMarks .NotEq (.List [] p3) = false := by first | exact nomark _ | rfl | with_unfolding_all rfl) :
    PE X (.Compare (.Subscript (.Name n p) (.Constant (.int 2) j p2) p4) [.NotEq] [.List [] p3] pos) (rdE c W (ePne i)) :=
  (pe_cmpR (op_neD hu) (pe_ix ix_list (pe_var (i := i) hN hv hd hcd) pe_int (by exact fun _ _ => rfl)) (pe_lst pa_nil) hm).impN fun σ H Q ⟨fr, τ, F, S, q⟩ => by
    obtain ⟨x, y, l, h1, h2, q⟩ := poolAt_some post_bad q
    obtain ⟨pp, pq, k1, k2, k3, k4, k5, k6⟩ := S.poolAt h1 h2
    refine ⟨.ref pp, k1, pp, _, 2, .ref pq, rfl, rfl, SqL.of k4, rfl, by show 0 ≤ sizeLine; exact Nat.zero_le _, fun a ha => ?_⟩
    by_cases hs : shal (.list (l.map .int)) = true
    · rw [if_pos hs] at q
      obtain ⟨g, S'⟩ := S.new (o := .lst []) ha
      exact ⟨.list (l.map .int), .list [], eqv_hp (g _ _ k5), .lst (SqL.of upd_same) .nil, hs, by decide +kernel, post_ret S' q (.bl _)⟩
    · rw [if_neg hs] at q
      exact q.elim
/-- pool[2].pop(0) -/
theorem x_ppop (i : Nat) {j j0 : Nat} (hN : X.N[i]? = some n := by rfl) (hv : Vis X.env.scope n := by first | exact Or.inl rfl | exact Or.inr (Or.inl rfl) | exact Or.inr (Or.inr rfl)) (hd : (n == ("__debug__" : PySem.Str)) = false := by decide) (hcd : (n == ("__classdict__" : PySem.Str)) = false := by decide)
    (hbase : attributeBase (.Subscript (.Name n p) (.Constant (.int 2) j p2) p4) "pop" X.env (eval (.Subscript (.Name n p) (.Constant (.int 2) j p2) p4) X.env) = eval (.Subscript (.Name n p) (.Constant (.int 2) j p2) p4) X.env := by rfl)
    (hfew : ((backTo cpos (starEach [.Constant (.int 0) j0 p3] X.env)).all (fun x => !x.1) && (backToKw cpos (keywordEach [] X.env)).all (fun x => x.1.isSome) && decide (([.Constant (.int 0) j0 p3] : List Expr).length + ([] : List Keyword).length + (if ([] : List Keyword).isEmpty then 0 else 1) < 30)) = true := by rfl)
    (hline : (apos.endLine == cpos.line) = true := by rfl) (hs : starEach [.Constant (.int 0) j0 p3] X.env = (false, eval (.Constant (.int 0) j0 p3) X.env) :: starEach [] X.env := by rfl) (hplain : (backTo cpos (starEach [] X.env)).any (·.1) = false := by rfl) :
    PE X (.Call (.Attribute (.Subscript (.Name n p) (.Constant (.int 2) j p2) p4) "pop" apos) [.Constant (.int 0) j0 p3] [] cpos) (rdE c W (ePpop i)) :=
  (pe_bm PySem.F.plainAttrs_list PySem.F.slot_list_pop PySem.F.type_list_pop mt_popAt (pe_ix ix_list (pe_var (pos := p) (i := i) hN hv hd hcd) pe_int (by exact fun _ _ => rfl)) (pa_cons pe_int pa_nil hs) hbase hfew hline hs hplain).impN fun σ H Q ⟨fr, τ, F, S, q⟩ => by
    obtain ⟨x, y, l, h1, h2, q⟩ := poolAt_some post_bad q
    obtain ⟨pp, pq, k1, k2, k3, k4, k5, k6, k7, k8, k9⟩ := S.poolAt h1 h2
    refine ⟨.ref pp, k1, pp, _, 2, .ref pq, rfl, rfl, SqL.of k4, rfl, .inl ⟨rfl, _, SqL.of k5⟩, ?_⟩
    cases l with
    | nil => exact q.elim
    | cons z r =>
      refine ⟨pq, _, 0, 0, .int z, rfl, rfl, k5, by decide, by decide, ?_, rfl, ?_⟩
      · show seqIndex? 0 _ = some 0
        rw [List.length_map, List.length_cons]
        unfold seqIndex?
        simp
      · refine q _ _ F (Same.refl F) (S.poolSet k5 k7 k9 k2 (.inr rfl) ⟨pp, pq, k2, k3, ?_, upd_same, k6, k7, k8, k9⟩) (.int z)
        rw [upd_ne k3]
        exact k4
theorem sPool_some {D : Ends} {fr : Fr} {F : Hp} {i : Nat} {k : Int → Int → List Int → Pl} {τ : N4.St} (q : PostS c W fr F D (sPool i k τ)) : ∃ x y l, τ.sl[i]? = some (some .pool) ∧ τ.pl = some (x, y, l) ∧ PostS c W fr F D (.nx { τ with pl := some (k x y l) }) := by
  unfold sPool at q
  split at q
  · rename_i x y l e1 e2
    exact ⟨x, y, l, e1, e2, q⟩
  · exact q.elim
/-- pool[0] = e -/
theorem s_p0 (i : Nat) {j : Nat} (he : PE X e (rdE c W m)) (hN : X.N[i]? = some n := by rfl) (hv : Vis X.env.scope n := by first | exact Or.inl rfl | exact Or.inr (Or.inl rfl) | exact Or.inr (Or.inr rfl)) (hd : (n == ("__debug__" : PySem.Str)) = false := by decide) (hcd : (n == ("__classdict__" : PySem.Str)) = false := by decide)
    (hsub : ∀ v, assign (.Subscript (.Name n p) (.Constant (.int 0) j p2) apos) X.env v = (do
      let ov ← holding [v] (eval (.Name n p) X.env)
      let iv ← holding [v, ov] (eval (.Constant (.int 0) j p2) X.env)
      standAt apos
      holding [v, ov, iv] (setItem ov iv v)
      release [v, ov, iv] []) := by intro _; rfl)
    (hs : swapsWithSole [.Subscript (.Name n p) (.Constant (.int 0) j p2) apos] e pos.line X.env = pure false := by rfl) (hw : swappedStores [.Subscript (.Name n p) (.Constant (.int 0) j p2) apos] e X.env = pure none := by rfl)
    (h1 : (assignEach [.Subscript (.Name n p) (.Constant (.int 0) j p2) apos] X.env).map (·.2) = [assign (.Subscript (.Name n p) (.Constant (.int 0) j p2) apos) X.env] := by rfl) :
    PS X (.Assign [.Subscript (.Name n p) (.Constant (.int 0) j p2) apos] e pos) (rdS c W (sP0 i m)) :=
  (ps_asg he (pg_sub (pe_var (pos := p) (i := i) hN hv hd hcd) pe_int set_list hsub) hs hw h1).impN fun D σ H ⟨fr, τ, F, S, q⟩ => by
    refine (post_e (R := EvOk c) S q).mono fun v H1 ⟨ev, τ1, F1, g1, S1, r1, q1⟩ => ?_
    cases ev with
    | val d =>
      cases d with
      | int z =>
        cases r1
        obtain ⟨x, y, l, h1, h2, q2⟩ := sPool_some (c := c) (W := W) q1
        obtain ⟨pp, pq, k1, k2, k3, k4, k5, k6, k7, k8, k9⟩ := S1.poolAt h1 h2
        refine ⟨.ref pp, k1, pp, _, 0, 0, rfl, rfl, k4, rfl, ?_⟩
        refine q2 σ _ F1 (Same.refl F1) (S1.poolSet k4 k6 k8 k2 (.inl rfl) ⟨pp, pq, k2, k3, upd_same, ?_, k6, k7, k8, k9⟩)
        rw [upd_ne (Ne.symm k3)]
        exact k5
      | _ => exact q1.elim
    | _ => exact q1.elim
theorem s_p1 (i : Nat) {j : Nat} (he : PE X e (rdE c W m)) (hN : X.N[i]? = some n := by rfl) (hv : Vis X.env.scope n := by first | exact Or.inl rfl | exact Or.inr (Or.inl rfl) | exact Or.inr (Or.inr rfl)) (hd : (n == ("__debug__" : PySem.Str)) = false := by decide) (hcd : (n == ("__classdict__" : PySem.Str)) = false := by decide)
    (hsub : ∀ v, assign (.Subscript (.Name n p) (.Constant (.int 1) j p2) apos) X.env v = (do
      let ov ← holding [v] (eval (.Name n p) X.env)
      let iv ← holding [v, ov] (eval (.Constant (.int 1) j p2) X.env)
      standAt apos
      holding [v, ov, iv] (setItem ov iv v)
      release [v, ov, iv] []) := by intro _; rfl)
    (hs : swapsWithSole [.Subscript (.Name n p) (.Constant (.int 1) j p2) apos] e pos.line X.env = pure false := by rfl) (hw : swappedStores [.Subscript (.Name n p) (.Constant (.int 1) j p2) apos] e X.env = pure none := by rfl)
    (h1 : (assignEach [.Subscript (.Name n p) (.Constant (.int 1) j p2) apos] X.env).map (·.2) = [assign (.Subscript (.Name n p) (.Constant (.int 1) j p2) apos) X.env] := by rfl) :
    PS X (.Assign [.Subscript (.Name n p) (.Constant (.int 1) j p2) apos] e pos) (rdS c W (sP1 i m)) :=
  (ps_asg he (pg_sub (pe_var (pos := p) (i := i) hN hv hd hcd) pe_int set_list hsub) hs hw h1).impN fun D σ H ⟨fr, τ, F, S, q⟩ => by
    refine (post_e (R := EvOk c) S q).mono fun v H1 ⟨ev, τ1, F1, g1, S1, r1, q1⟩ => ?_
    cases ev with
    | val d =>
      cases d with
      | int z =>
        cases r1
        obtain ⟨x, y, l, h1, h2, q2⟩ := sPool_some (c := c) (W := W) q1
        obtain ⟨pp, pq, k1, k2, k3, k4, k5, k6, k7, k8, k9⟩ := S1.poolAt h1 h2
        refine ⟨.ref pp, k1, pp, _, 1, 1, rfl, rfl, k4, rfl, ?_⟩
        refine q2 σ _ F1 (Same.refl F1) (S1.poolSet k4 k6 k8 k2 (.inl rfl) ⟨pp, pq, k2, k3, upd_same, ?_, k6, k7, k8, k9⟩)
        rw [upd_ne (Ne.symm k3)]
        exact k5
      | _ => exact q1.elim
    | _ => exact q1.elim
end
end N4
end
section
set_option Elab.async false
set_option linter.all false
set_option autoImplicit false
set_option maxRecDepth 100000
set_option maxHeartbeats 2000000
/-! What a printed walk leans on: defs by name, calls by name. -/
namespace N4
open PySem PySem.Spec PyProof.Rows L2
abbrev cfg (K : PySem.W.Frag) (T : List (Addr × PySem.Str)) (cls : String → Addr) : Cf := { K := K, T := T, cls := cls, ga := 0, gx := none, g1 := fun _ => none, gp := none, gc := 0, gq := "" }
theorem hu64 {u n : Nat} (h : u + 65 < n) : u + 64 < n := Nat.lt_of_succ_lt h
theorem hu0 {k : Nat} {A : Around} (hr : Room k A) : A.units + 100 < cLine := by have := hr.un; omega
/-- a def of the program -/
def DefT (K : PySem.W.Frag) (mg : PySem.Str → Option Value) (x : PySem.Str) (st : Stmt) : Prop := ∃ f fd, Fun K x x st f fd ∧ mg x = some (.ref f)
/-- a def that makes lambdas: its code object, the table -/
def DefL (K : PySem.W.Frag) (mg : PySem.Str → Option Value) (base : Heap) (T : List (Addr × PySem.Str)) (x : PySem.Str) (st : Stmt) : Prop := ∃ (f : Addr) (oc : Value) (od : Option Addr) (kV doc pm : Value) (an : Option Addr) (cR : Addr) (ct : Value) (osl : Array (Option Value)) (PT : Addr),
  K.lookup f = some ⟨oc, od, .func (PySem.W.fnOf x x (defArgs st) (defBody st) (defScope st) .none kV doc pm an (.ref cR) ct), osl⟩ ∧ PySem.W.codeIn K (.ref cR) x = true ∧ PySem.W.keepIn K (.ref f) = true ∧ mg x = some (.ref f) ∧
  LamX.TabB base mg cR PT ∧ (PT, (envOfC x (defScope st) 0 f (.ref cR)).qual ++ ("<lambda>" : PySem.Str)) ∈ T ∧ ∀ p ∈ T, p.1 = PT → p.2 = (envOfC x (defScope st) 0 f (.ref cR)).qual ++ ("<lambda>" : PySem.Str)
structure CallOk (gd : Bool) (P : Program) (w : World) (K : PySem.W.Frag) (mg : PySem.Str → Option Value) (base : Heap) (c : Cf) (k : Nat) (x : PySem.Str) (ps : List PySem.Str) (sem : Fn) : Prop where
  ex : ∃ f fd, FnG gd P w K mg base k f fd ps (spOf c sem) ∧ mg x = some (.ref f) ∧ PySem.W.keepIn K (.ref f) = true ∧ Binds K fd ps []
section
variable {P : Program} {w : World} {K : PySem.W.Frag} {mg : PySem.Str → Option Value} {base : Heap} {gd : Bool}
theorem CallOk.of {c : Cf} {x : PySem.Str} {st : Stmt} {N ps : List PySem.Str} {k : Nat} {b : SM} (D : DefT K mg x st) (S : FnScope N ps (defScope st))
    (hbind : ∀ (kV doc pm : Value) (an : Option Addr) (cdv ct : Value) (us : List Value), us.length = ps.length → bindArgs (PySem.W.fnOf x x (defArgs st) (defBody st) (defScope st) .none kV doc pm an cdv ct) ⟨us, []⟩ = pure (ps.zip us))
    (hbody : ∀ (f : Addr) (cdv : Value) (A : Around) (outer : List Env) (s : Shared) (H : Hp) (E : XK), Room k (A.deeper (envOfC x (defScope st) s.heap.objs.size f cdv)) → (gd = true → A.guards = some []) → (A.deeper (envOfC x (defScope st) s.heap.objs.size f cdv)).units + 65 < cLine →
      Takes (cxOf (L2.CX P w) P w K mg base N x (defScope st) f cdv A outer s H E) (fun cl d _ H => E cl d H) → PassesOwn (model P w) (A.deeper (envOfC x (defScope st) s.heap.objs.size f cdv)) (envOfC x (defScope st) s.heap.objs.size f cdv) (cxOf (L2.CX P w) P w K mg base N x (defScope st) f cdv A outer s H E).xe →
      PSs (cxOf (L2.CX P w) P w K mg base N x (defScope st) f cdv A outer s H E) (defBody st) (rdS c (fun cl d _ H => E cl d H) b)) :
    CallOk gd P w K mg base c (k + 1) x ps (mkFn ps.length N.length b) := by
  obtain ⟨f, fd, F, hm⟩ := D
  exact ⟨f, fd, FnG.of F S fun cdv A outer s H E hr hg => hbody f cdv A outer s H E hr hg (by have := hr.un; omega) (takes_of rfl rfl rfl rfl) (passes_of rfl), hm, F.kp, F.binds hbind⟩
end
section
variable {X : Cx} {c : Cf} {W : WX} {e : Expr} {es : List Expr} {x : PySem.Str} {p pos : Pos} {k : Nat} {ps : List PySem.Str} {sem : Fn} {ms : List (M Ev)} {gd : Bool}
theorem x_ck (h : CallOk gd X.prog X.w X.K X.mg X.base c k x ps sem) (hr : Room k X.A) (hgd : gd = true → X.A.guards = some []) (tk : Takes X W)
    (ha : PA X (e :: es) (rdG c W (args ms))) (hg : Gl X x := by rfl) (hdb : (x == ("__debug__" : PySem.Str)) = false := by decide) (he : starEach (e :: es) X.env = (false, eval e X.env) :: starEach es X.env := by rfl) (hpl : (backTo pos (starEach es X.env)).any (·.1) = false := by rfl) :
    PE X (.Call (.Name x p) (e :: es) [] pos) (rdE c W (eCall sem ms)) := by
  obtain ⟨f, fd, G, hm, hk, hb⟩ := h.ex
  exact x_call G hm hk hb hr hgd tk ha hg hdb he hpl
theorem x_gc {i : Int} (hm : ∃ t, X.mg x = some (.int i t)) (hg : Gl X x := by rfl) (hd : (x == ("__debug__" : PySem.Str)) = false := by decide) : PE X (.Name x pos) (rdE c W (eC (.int i))) := by
  obtain ⟨t, hm⟩ := hm
  exact x_gi hm hg hd
end
section
variable {X : Cx} {c : Cf} {W : WX} {a b d : Expr} {ma mb md : M Ev} {pos : Pos}
theorem s_par3 (i j l : Nat) {x y z : PySem.Str} {px py pz pt pt2 : Pos} {kt k2 : Nat} (ha : PA X [a, b, d] (rdR c W (prs [ma, mb, md]))) (hc : X.calm = true) (hN : X.N.Nodup) (hi : X.N[i]? = some x := by rfl) (hj : X.N[j]? = some y := by rfl) (hl : X.N[l]? = some z := by rfl) (hij : i ≠ j := by decide) (hil : i ≠ l := by decide) (hjl : j ≠ l := by decide)
    (hx : X.env.scope.names.lookup x = some .local := by rfl) (hy : X.env.scope.names.lookup y = some .local := by rfl) (hz : X.env.scope.names.lookup z = some .local := by rfl)
    (hw : swappedStores [.Tuple [.Name x px, .Name y py, .Name z pz] kt pt] (.Tuple [a, b, d] k2 pt2) X.env = pure (some [x, y, z]) := by rfl)
    (hs : swapsWithSole [.Tuple [.Name x px, .Name y py, .Name z pz] kt pt] (.Tuple [a, b, d] k2 pt2) pos.line X.env = pure false := by rfl) :
    PS X (.Assign [.Tuple [.Name x px, .Name y py, .Name z pz] kt pt] (.Tuple [a, b, d] k2 pt2) pos) (rdS c W (sPars [i, j, l] [ma, mb, md])) := (ps_par3 hc hN hi hj hl hij hil hjl hx hy hz ha hw hs).impN fun D σ H ⟨fr, τ, F, S, q⟩ => by
  refine (post_e (R := RowR c) S q).mono fun vs H1 ⟨es, τ1, F1, g1, S1, ⟨as, r1⟩, q1⟩ => ?_
  have q1 : PostS c W fr F1 D ((if es.length = 3 then putEvs [i, j, l] es else fun _ => .bad) τ1) := q1
  by_cases hl : es.length = 3
  · rw [if_pos hl] at q1
    have z := post_puts (D := D) S1 r1 q1
    have l2 := (row_len r1).trans hl
    match vs, l2, z with
    | [u, v, w], _, z => exact ⟨u, v, w, rfl, z⟩
  · rw [if_neg hl] at q1
    exact q1.elim
theorem t_pne (i : Nat) {j : Nat} {n : PySem.Str} {p p2 p3 p4 : Pos} (hu : X.A.units + 64 < cLine) (hN : X.N[i]? = some n := by rfl) (hv : Vis X.env.scope n := by first | exact Or.inl rfl | exact Or.inr (Or.inl rfl) | exact Or.inr (Or.inr rfl)) (hd : (n == ("__debug__" : PySem.Str)) = false := by decide) (hcd : (n == ("__classdict__" : PySem.Str)) = false := by decide)
    (hm : behindInMarks .NotEq (.List [] p3) = false := by first | exact nomark _ | rfl | with_unfolding_all rfl) :
    PT X (.Compare (.Subscript (.Name n p) (.Constant (.int 2) j p2) p4) [.NotEq] [.List [] p3] pos) (rdT c W (tV (ePne i))) :=
  (pt_cmpR (op_neD hu) (pe_ix ix_list (pe_var (i := i) hN hv hd hcd) pe_int (by exact fun _ _ => rfl)) (pe_lst pa_nil) hm).impN fun σ H Q h => by
    obtain ⟨fr, τ, F, S, q⟩ := rd_tV h
    obtain ⟨x, y, l, h1, h2, q⟩ := poolAt_some post_bad q
    obtain ⟨pp, pq, k1, k2, k3, k4, k5, k6⟩ := S.poolAt h1 h2
    refine ⟨.ref pp, k1, pp, _, 2, .ref pq, rfl, rfl, SqL.of k4, rfl, by show 0 ≤ sizeLine; exact Nat.zero_le _, fun a ha => ?_⟩
    by_cases hs : shal (.list (l.map .int)) = true
    · rw [if_pos hs] at q
      obtain ⟨g, S'⟩ := S.new (o := .lst []) ha
      exact ⟨.list (l.map .int), .list [], eqv_hp (g _ _ k5), .lst (SqL.of upd_same) .nil, hs, by decide +kernel, post_ret S' q (.bl _)⟩
    · rw [if_neg hs] at q
      exact q.elim
end
section
variable {P : Program} {w : World} {K : PySem.W.Frag} {mg : PySem.Str → Option Value} {base : Heap} {gd : Bool}
/-- what a maker of lambdas knows of its code object -/
def LamAt (T : List (Addr × PySem.Str)) (mg : PySem.Str → Option Value) (base : Heap) (x : PySem.Str) (st : Stmt) (f cR : Addr) : Prop := ∃ PT, LamX.TabB base mg cR PT ∧ (PT, (envOfC x (defScope st) 0 f (.ref cR)).qual ++ ("<lambda>" : PySem.Str)) ∈ T ∧ ∀ p ∈ T, p.1 = PT → p.2 = (envOfC x (defScope st) 0 f (.ref cR)).qual ++ ("<lambda>" : PySem.Str)
theorem CallOk.ofL {c : Cf} {T : List (Addr × PySem.Str)} {x : PySem.Str} {st : Stmt} {N ps : List PySem.Str} {k : Nat} {b : SM} (D : DefL K mg base T x st) (S : FnScope N ps (defScope st))
    (hbind : ∀ (kV doc pm : Value) (an : Option Addr) (cdv ct : Value) (us : List Value), us.length = ps.length → bindArgs (PySem.W.fnOf x x (defArgs st) (defBody st) (defScope st) .none kV doc pm an cdv ct) ⟨us, []⟩ = pure (ps.zip us))
    (hbody : ∀ (f cR : Addr) (hL : LamAt T mg base x st f cR) (A : Around) (outer : List Env) (s : Shared) (H : Hp) (E : XK), Room k (A.deeper (envOfC x (defScope st) s.heap.objs.size f (.ref cR))) → (gd = true → A.guards = some []) → (A.deeper (envOfC x (defScope st) s.heap.objs.size f (.ref cR))).units + 65 < cLine →
      Takes (cxOf (L2.CX P w) P w K mg base N x (defScope st) f (.ref cR) A outer s H E) (fun cl d _ H => E cl d H) → PassesOwn (model P w) (A.deeper (envOfC x (defScope st) s.heap.objs.size f (.ref cR))) (envOfC x (defScope st) s.heap.objs.size f (.ref cR)) (cxOf (L2.CX P w) P w K mg base N x (defScope st) f (.ref cR) A outer s H E).xe →
      PSs (cxOf (L2.CX P w) P w K mg base N x (defScope st) f (.ref cR) A outer s H E) (defBody st) (rdS c (fun cl d _ H => E cl d H) b)) :
    CallOk gd P w K mg base c (k + 1) x ps (mkFn ps.length N.length b) := by
  obtain ⟨f, oc, od, kV, doc, pm, an, cR, ct, osl, PT, lk, hcd, kp, hm, tb, m1, m2⟩ := D
  have hpn : ps.length ≤ N.length := by
    have := congrArg List.length S.pre
    rw [List.length_take] at this
    omega
  have len : ∀ vs H Q E, spOf c (mkFn ps.length N.length b) vs H Q E → vs.length = ps.length := fun vs H Q E ⟨F, pa, ss, pl, _, A, h⟩ => by
    have e := asOk_length A
    by_cases hl : ss.length = ps.length
    · exact e.trans hl
    · rw [mkFn, if_neg hl] at h
      exact h.elim
  refine ⟨f, _, ⟨len, fun A outer s H as us vs Q E hr hgd e0 hb r hsp => ?_⟩, hm, kp, .all (hbind kV doc pm an (.ref cR) ct)⟩
  have hl := len _ _ _ _ hsp
  refine LamX.run_ofS (N := N) lk hcd S hr e0 hb r hl fun hr' => ⟨_, hbody f cR ⟨PT, tb, m1, m2⟩ A outer s H E hr' hgd (by have := hr'.un; omega) (takes_of rfl rfl rfl rfl) (passes_of rfl), ?_⟩
  obtain ⟨F, pa, ss, pl, S0, A0, h⟩ := hsp
  have hss : ss.length = ps.length := (asOk_length A0).symm.trans hl
  rw [mkFn, if_pos hss] at h
  exact ⟨_, _, F, start_sat S0 A0 (by omega) hss, post_end h⟩
end
section
variable {X : Cx} {c : Cf} {W : WX}
/-- x(lambda: body) -/
theorem x_heard {x a : PySem.Str} {st : Stmt} {Ng : List PySem.Str} {b : Act → SM} {cR : Addr} {k : Nat} {caps : List Nat} {params : Arguments} {body : Expr} {scope : Scope} {lam : M Ev} {p lpos pos : Pos} {xm : PySem.Str} {stm : Stmt} {fm : Addr}
    (D : DefT X.K X.mg x st) (Sg : FnScope Ng [a] (defScope st)) (hn : 0 < Ng.length) (hNg : Ng[0]? = some a) (hva : Vis (defScope st) a)
    (hbd : ∀ (kV doc pm : Value) (an : Option Addr) (cdv ct : Value) (us : List Value), us.length = [a].length → bindArgs (PySem.W.fnOf x x (defArgs st) (defBody st) (defScope st) .none kV doc pm an cdv ct) ⟨us, []⟩ = pure ([a].zip us))
    (hB : ∀ (g : Addr) (cdg : Value) (s : Shared) (H : Hp) (f c' : Addr) (F : Hp) (pa : Option (Addr × Addr)) (act : Act),
      (∀ (W : WX) (pn : List (Addr × Obj)) (xe : Value → Shared → Prop) (p1 p2 : Pos), Takes ((cxOf C8.CX0 X.prog X.w X.K X.mg X.base Ng x (defScope st) g cdg X.A X.stack s H C8.E0).tr pn xe) W → PE ((cxOf C8.CX0 X.prog X.w X.K X.mg X.base Ng x (defScope st) g cdg X.A X.stack s H C8.E0).tr pn xe) (.Call (.Name a p1) [] [] p2) (rdE (c.lam f c' (X.env.qual ++ "<lambda>") F pa) W (eAct act))) →
      PSs (cxOf C8.CX0 X.prog X.w X.K X.mg X.base Ng x (defScope st) g cdg X.A X.stack s H C8.E0).nox (defBody st) (rdS (c.lam f c' (X.env.qual ++ "<lambda>") F pa) W0 (b act)))
    (hL : LamAt c.T X.mg X.base xm stm fm cR) (hq : (envOfC xm (defScope stm) 0 fm (.ref cR)).qual = X.env.qual) (hcode : X.env.code = .ref cR) (hr : Room (k + 2) X.A) (L : LamX.LamS X.env.scope scope) (hdef : defaultsOf params X.env = ([], []))
    (hbind : ∀ (q : PySem.Str) (cl : List (PySem.Str × Addr)) (pm cv ctv : Value), bindArgs (PySem.W.kla_fn "<lambda>" q params body scope cl pm cv ctv) ⟨[], []⟩ = pure [])
    (hbody : ∀ (A : Around) (outer : List Env) (s : Shared) (H : Hp) (E : XK) (f c' : Addr), Room k (A.deeper (LamX.lamEnv X scope s.heap.objs.size f c')) → Takes (LamX.lamCx X A outer s H E scope f c') (fun cl d _ H => E cl d H) → PE (LamX.lamCx X A outer s H E scope f c') body (rdE c (fun cl d _ H => E cl d H) lam))
    (hg : Gl X x := by rfl) (hdb : (x == ("__debug__" : PySem.Str)) = false := by decide) (hd : (a == ("__debug__" : PySem.Str)) = false := by decide) (hcd : (a == ("__classdict__" : PySem.Str)) = false := by decide) :
    PE X (.Call (.Name x p) [.Lambda params body scope lpos] [] pos) (rdE c W (eHeard caps (semH Ng.length b) lam)) := by
  obtain ⟨g, fd, F, hm⟩ := D
  have bn := F.binds hbd
  have kp := F.kp
  obtain ⟨oc, od, kV, doc, pm, an, cdv, ct, osl, rfl, lk, hcg⟩ := F.ex
  obtain ⟨PT, tb, m1, m2⟩ := hL
  rw [hq] at m1 m2
  exact (LamX.pe_lamcall (t := fun E => rdE c (fun cl d _ H => E cl d H) lam) hg hm kp lk hcg bn Sg hNg hva (gives hn (hB g cdv)) tb hcode m1 m2 hr L hdef hbind (fun A outer s H E f c' h => hbody A outer s H E f c' h (takes_of rfl rfl rfl rfl)) hdb hd hcd).impN fun σ H Q h => rd_heard h
theorem look_all {α : Type} {P : String → α → Prop} : ∀ {l : List (String × α)} {x : String} {b : α}, (∀ p ∈ l, P p.1 p.2) → l.lookup x = some b → P x b
  | [], _, _, _, h => by cases h
  | (y, d) :: r, x, b, hp, h => by
    rw [List.lookup_cons] at h
    split at h
    · rename_i e
      have e := eq_of_beq e
      subst e
      cases h
      exact hp _ List.mem_cons_self
    · exact look_all (fun p hm => hp p (List.mem_cons_of_mem _ hm)) h
end
theorem look_mem {α : Type} : ∀ {l : List (String × α)} {x : String} {b : α}, l.lookup x = some b → x ∈ l.map (·.1)
  | [], _, _, h => by cases h
  | (y, d) :: r, x, b, h => by
    rw [List.lookup_cons] at h
    split at h
    · rename_i e
      rw [eq_of_beq e]
      exact List.mem_cons_self
    · exact List.mem_cons_of_mem _ (look_mem h)
/-- what is known of the classes of errors -/
structure ErrC (K : PySem.W.Frag) (cls : String → Addr) (e : String) : Prop where
  xf : XfC K (cls e)
  no : PySem.W.findIn K (.ref (cls e)) whatS = some none
  ic : IsC K (cls e)
  ve : PySem.W.kitOne K (.ref (cls e)) (.type "ValueError") = some true
/-- what raising needs: the common __init__, the classes -/
def ErrT (P : Program) (w : World) (K : PySem.W.Frag) (mg : PySem.Str → Option Value) (base : Heap) (cls : String → Addr) (xs : List (String × PySem.Str)) : Prop := ∃ fI fd, PySem.W.typeIn K (.ref fI) = some (.type "function") ∧ FnOk P w K mg base C8.CX0 1 fI fd initN (spInit K) ∧ Binds K fd initN [] ∧ ∀ x ∈ xs, ClsT K mg fI x.2 (cls x.1)
section
variable {X : Cx} {c : Cf} {W : WX} {e : Expr} {x : PySem.Str} {p pos pos2 : Pos} {ma : M Ev}
theorem s_rs {xs : List (String × PySem.Str)} (cl : String) (h : ErrT X.prog X.w X.K X.mg X.base c.cls xs) (hx : (cl, x) ∈ xs) (hc : X.calm = true) (hr : Room 2 X.A) (tk : Takes X W)
    (ha : PE X e (rdE c W ma)) (hg : Gl X x := by rfl) (hdb : (x == ("__debug__" : PySem.Str)) = false := by decide) (he : starEach [e] X.env = (false, eval e X.env) :: starEach [] X.env := by rfl) :
    PS X (.Raise (some (.Call (.Name x p) [e] [] pos)) none pos2) (rdS c W (sRaise cl ma)) := by
  obtain ⟨fI, fd, h1, h2, h3, h4⟩ := h
  exact s_raise cl hc (h4 _ hx) h1 h2 hr h3 tk ha hg hdb he
end
end N4
end
section
set_option Elab.async false
set_option linter.all false
set_option autoImplicit false
set_option maxRecDepth 100000
set_option maxHeartbeats 2000000
/-! a, b = x, y where a or b is a cell: a tuple is made and taken apart; new lists stay one's own. -/
namespace N4
open PySem PySem.Spec PyProof.Rows L2
section
variable {c : Cf} {fr : Fr} {τ : N4.St} {σ : L2.St} {H F : Hp}
theorem row_upd {p : Addr} {o : HO} (hp : H p = none) {as : List Addr} {vs : List V} {es : List Ev} (r : RowOk c fr σ τ H F as vs es) : RowOk c fr σ τ (upd H p o) F as vs es := by
  induction r with
  | nil => exact .nil
  | val h _ ih => exact .val h ih
  | fresh h1 h2 h3 h4 h5 h6 _ ih => exact .fresh (by rw [upd_ne (ne_of_none h1 hp)]; exact h1) h2 h3 h4 h5 h6 ih
  | obj h1 h2 h3 h4 h5 h6 _ ih => exact .obj (by rw [upd_ne (ne_of_none h1 hp)]; exact h1) h2 h3 h4 h5 h6 ih
end
section
variable {X : Cx} {c : Cf} {W : WX} {a b : Expr} {ma mb : M Ev} {pos : Pos}
theorem s_parT (i j : Nat) {x y : PySem.Str} {px py pt pt2 : Pos} {kt k2 : Nat} (ha : PA X [a, b] (rdR c W (prs [ma, mb]))) (hc : X.calm = true) (hK : X.K = c.K) (hN : X.N.Nodup) (hi : X.N[i]? = some x := by rfl) (hj : X.N[j]? = some y := by rfl)
    (hx : Loc X.env.scope x := by first | exact Or.inl rfl | exact Or.inr rfl) (hfx : X.fn x = true ∨ X.env.scope.names.lookup x = some .local := by first | exact Or.inl rfl | exact Or.inr rfl)
    (hy : Loc X.env.scope y := by first | exact Or.inl rfl | exact Or.inr rfl) (hfy : X.fn y = true ∨ X.env.scope.names.lookup y = some .local := by first | exact Or.inl rfl | exact Or.inr rfl)
    (hs : swapsWithSole [.Tuple [.Name x px, .Name y py] kt pt] (.Tuple [a, b] k2 pt2) pos.line X.env = pure false := by rfl) (hw : swappedStores [.Tuple [.Name x px, .Name y py] kt pt] (.Tuple [a, b] k2 pt2) X.env = pure none := by rfl)
    (h1 : (assignEach [.Tuple [.Name x px, .Name y py] kt pt] X.env).map (·.2) = [assign (.Tuple [.Name x px, .Name y py] kt pt) X.env] := by rfl)
    (hn : (assignEach [.Name x px, .Name y py] X.env).length = 2 := by rfl) (hst : (assignEach [.Name x px, .Name y py] X.env).findIdx? (·.1) = none := by rfl)
    (hs1 : (assignEach [.Name x px, .Name y py] X.env).map (·.2) = assign (.Name x px) X.env :: (assignEach [.Name y py] X.env).map (·.2) := by rfl)
    (hs2 : (assignEach [.Name y py] X.env).map (·.2) = assign (.Name y py) X.env :: (assignEach [] X.env).map (·.2) := by rfl) :
    PS X (.Assign [.Tuple [.Name x px, .Name y py] kt pt] (.Tuple [a, b] k2 pt2) pos) (rdS c W (sPars [i, j] [ma, mb])) :=
  (ps_asg (pe_tup ha) (pg_tup hc (pgs_cons (pg_name hN hi hx hfx) (pgs_cons (pg_name hN hj hy hfy) pgs_nil hs2) hs1) hn hst) hs hw h1).impN fun D σ H ⟨fr, τ, F, S, q⟩ => by
    refine (post_e (R := RowR c) S q).mono fun vs H1 ⟨es, τ1, F1, g1, S1, ⟨as, r1⟩, q1⟩ => ?_
    by_cases hl : es.length = 2
    · have q1 : PostS c W fr F1 D ((if es.length = 2 then putEvs [i, j] es else fun _ => .bad) τ1) := q1
      rw [if_pos hl] at q1
      have l2 := (row_len r1).trans hl
      match vs, l2, r1 with
      | [v, w], _, r1 =>
        refine ⟨by show 2 ≤ sizeLine; decide, fun p hp => ⟨p, [v, w], rfl, ?_, rfl, ?_⟩⟩
        · exact .of upd_same
        · obtain ⟨g2, S2⟩ := S1.new (o := .tup [v, w]) hp
          exact ⟨v, [w], rfl, w, [], rfl, rfl, post_puts (D := D) S2 (row_upd hp r1) q1⟩
    · have q1 : PostS c W fr F1 D ((if es.length = 2 then putEvs [i, j] es else fun _ => .bad) τ1) := q1
      rw [if_neg hl] at q1
      exact q1.elim
end
end N4
end
section
set_option Elab.async false
set_option linter.all false
set_option autoImplicit false
set_option maxRecDepth 100000
set_option maxHeartbeats 2000000
/-! any(a in b for x in e): a generator expression over a list. -/
namespace N4
open PySem PySem.Spec PyProof.Rows L2
section
variable {X : Cx} {pins : List (Addr × Obj)} {σ : L2.St} {H : Hp} {s : Shared}
/-- the element at place i is the truth pb i, whatever has come to the heap since s1 -/
def EltL (X : Cx) (P : Addr) (elt : Expr) (x : PySem.Str) (scope : Scope) (s1 : Shared) (vs : List V) (pb : Nat → Bool) : Prop :=
  ∀ (cenv : Env) (A' : Around) (E' : Value → Shared → Prop) (i : Nat) (vi : V) (v : Value) (s2 : Shared) (m2 : PySem.Str → Option Value), A'.units ≤ X.A.units + 8 → cenv.scope = scope → cenv.cells = cloFrom X.env.cells scope.names [] → vs[i]? = some vi → RelV vi v → s2.heap.Ns cenv.locals m2 → m2 x = some v →
    (∀ b o, b ≠ P → s1.heap.get? b = some o → s2.heap.get? b = some o) → wpAny (model X.prog X.w) A' (eval elt cenv) (fun y s3 => y = .bool (pb i) ∧ Keeps s2 s3) E' s2
def Ready (X : Cx) (pins : List (Addr × Obj)) (σ : L2.St) (H1 : Hp) (T : List (Addr × PySem.Str)) (n : Nat) (pb : Nat → Bool) (g : Addr) (s5 : Shared) : Prop :=
  ∃ (fp wr : List Addr) (G : Array GenState → Array GenState → Prop) (F : Nat → Value → Prop) (St : Nat → Shared → Prop),
    WalksS X.prog X.w X.A.in1 g fp wr G n F St ∧ St 0 s5 ∧ TruthOf X.prog X.w X.A.in1 F pb ∧
    ∀ s', Moved wr G s5 s' → ∃ H2, LamX.ExtN H1 H2 ∧ LamX.Tabs T H2 ∧ Inv X pins σ H2 s'
theorem vals_back : ∀ {vs : List V} {us : List Value}, Vals vs us → ∀ {i : Nat} {v : Value}, us[i]? = some v → ∃ vi, vs[i]? = some vi ∧ RelV vi v
  | _, _, .nil, i, v, e => by simp at e
  | _, _, .cons h r, 0, v, e => by
    have e := Option.some.inj e
    subst e
    exact ⟨_, rfl, h⟩
  | _, _, .cons h r, i + 1, v, e => vals_back r (i := i) e
theorem upd_id {H : Hp} {p : Addr} {o : HO} (h : H p = some o) : upd H p o = H := by
  funext b
  by_cases e : b = p
  · rw [e, upd_same, h]
  · rw [upd_ne e]
theorem gen_lst {T : List (Addr × PySem.Str)} {c P : Addr} {elt iter : Expr} {x : PySem.Str} {px gpos : Pos} {scope : Scope} {te : TE} {k : Nat} {Q' : Value → Shared → Prop} {R : List V → (Nat → Bool) → Hp → Prop}
    (hr : Room k X.A) (TB : LamX.TabB X.base X.mg c P) (hcode : X.env.code = .ref c) (S : GxR.GenS X.env scope x) (hi : PE X iter te) (hm : (P, X.env.qual ++ "<genexpr>") ∈ T) (hu : ∀ p ∈ T, p.1 = P → p.2 = X.env.qual ++ "<genexpr>")
    (hs : ∀ v, genFold iter X.env v = pure v) (I : Inv X pins σ H s)
    (h : te σ H fun v H1 => ∃ (a : Addr) (vs : List V) (pb : Nat → Bool), v = .ref a ∧ SqL X.K H1 a vs ∧ LamX.Tabs T H1 ∧ (∀ pins s1, Inv X pins σ H1 s1 → EltL X P elt x scope s1 vs pb) ∧ R vs pb H1)
    (hQ : ∀ vs pb H1 g s5, R vs pb H1 → Ready X pins σ H1 T vs.length pb g s5 → Q' (.ref g) s5) :
    wpAny (model X.prog X.w) X.A (eval (.GeneratorExp elt [⟨.Name x px, iter, [], 0⟩] scope gpos) X.env) Q' X.xe s := by
  refine wpAny_GeneratorExp_walksQD hr.hd S.co (closure_ok S.free) S.cell S.dot S.loc S.kind (by have := hr.dp; omega) ?_ hs
  refine thn (hi.run pins s σ H _ I h) fun xv s1 ⟨v, H1, I1, r1, q1⟩ => ?_
  obtain ⟨a, vs, pb, rfl, hsq, hT, hel, hR⟩ := q1
  cases r1
  obtain ⟨its, rv, pl, hz⟩ := I1.list hsq
  have hlen : its.toArray.size = vs.length := by rw [List.size_toArray, rv.length]
  refine wpAny_pyIter_list pl.isList ?_
  obtain ⟨ps, hP, ht, ha⟩ := hT _ hm
  have hPs : s1.heap.get? P = some { cls := .none, data := .fields ps } := I1.hok P _ hP
  have hPlt : P < s1.heap.objs.size := Heap.lt_size hPs
  have keep0 : ∀ (b : Addr) (o : Obj), s1.heap.get? b = some o → (s1.heap.push { cls := .type "list_iterator", data := .fields #[.ref a, .int 0 0] }).get? b = some o := fun b o e => Heap.get?_push_of_some _ e
  have I2 : Inv X pins σ H1 { s1 with heap := s1.heap.push { cls := .type "list_iterator", data := .fields #[.ref a, .int 0 0] } } := I1.kept (t' := s1.toks) keep0
  have alt : a < s1.heap.objs.size := by
    obtain ⟨o, ho, _⟩ := pl.isList
    exact Heap.lt_size ho
  have iter0 : (s1.heap.push { cls := .type "list_iterator", data := .fields #[.ref a, .int 0 0] }).IsListIter s1.heap.objs.size a 0 := ⟨_, Heap.get?_push_size _ rfl, rfl, rfl⟩
  have cont : ∀ (code : Value) (h3 : Heap) (tk : Nat) (Hc : Hp) (psc : Array Value), (∀ (h' : Heap) (t' : Nat), (∀ b o, b ≠ P → s1.heap.get? b = some o → h'.get? b = some o) → (∀ b o, b ≠ s1.heap.objs.size → h3.get? b = some o → h'.get? b = some o) → Inv X pins σ Hc { s1 with heap := h', toks := t' }) → Hc P = some (.tbl psc) → LamX.Tabs T Hc → LamX.ExtN H1 Hc →
      (∀ b o, b ≠ P → (s1.heap.push { cls := .type "list_iterator", data := .fields #[.ref a, .int 0 0] }).get? b = some o → h3.get? b = some o) → s1.heap.objs.size + 1 ≤ h3.objs.size →
      wpAny (model X.prog X.w) X.A (builtinsFor X.env.globals X.env.builtins) (fun bi s₄ =>
        ∃ Ia fp wr n₀ Pf St₀ pz F, Value.ref s1.heap.objs.size = .ref Ia ∧ (∀ A' : Around, A'.handled = none → Walks X.prog X.w A' Ia fp wr n₀ Pf St₀) ∧ St₀ 0 s₄.heap ∧ (∀ b ∈ fp, b < s₄.heap.objs.size) ∧ s₄.heap.NoLimit ∧ cStatics ∉ wr ∧
          (∀ href : Heap, (∀ b o, s₄.heap.get? b = some o → href.get? b = some o) →
            QuietGenD X.prog X.w (genEnv scope (cloFrom X.env.cells scope.names []) s₄.heap.objs.size code bi X.env) x [] elt (List.range s₄.heap.objs.size) wr Pf pz F href (X.A.depth + 1) (X.A.units + 8)) ∧
          (∀ a h₅ tk gs, gs.bare = true → s₄.heap.objs.size < a → h₅.objs.size = a + 1 → (∀ b o, s₄.heap.get? b = some o → h₅.get? b = some o) →
            WalksS X.prog X.w X.A.in4 a (a :: s₄.heap.objs.size :: List.range s₄.heap.objs.size) (s₄.heap.objs.size :: wr) (GenOnlyQ s₄.gens.size) (passing pz n₀ 0).length
              (fun j y => ∃ i, (passing pz n₀ 0)[j]? = some i ∧ F i y) (GenAt X.prog X.w X.A.in4 a s₄.gens.size s₄.heap.objs.size (List.range s₄.heap.objs.size) wr pz n₀ F) →
            GenAt X.prog X.w X.A.in4 a s₄.gens.size s₄.heap.objs.size (List.range s₄.heap.objs.size) wr pz n₀ F 0 { s₄ with gens := s₄.gens.push gs, toks := tk, heap := h₅ } →
            Q' (.ref a) { s₄ with gens := s₄.gens.push gs, toks := tk, heap := h₅ })) X.xe { s1 with heap := h3, toks := tk } := by
    intro code h3 tk Hc psc J hPc Tc Ec hk hsz
    have Ic : Inv X pins σ Hc { s1 with heap := h3, toks := tk } := J h3 tk (fun b o hb e => hk b o hb (keep0 b o e)) fun b o _ e => e
    obtain ⟨bm, ob, e1, e2, e3, e4, e5, e6, e7, e8⟩ := TB.bm
    have sz2 : (s1.heap.push { cls := .type "list_iterator", data := .fields #[.ref a, .int 0 0] }).objs.size = s1.heap.objs.size + 1 := Heap.size_push ..
    have aP : a ≠ P := fun z => by
      obtain ⟨o, ho, hc, cap, hd⟩ := pl.isList
      rw [z, hPs] at ho
      cases ho
      cases hd
    have iP : s1.heap.objs.size ≠ P := Nat.ne_of_gt hPlt
    refine wpAny_builtinsFor (m := X.mg) (by rw [Ic.ok.glob]; exact Ic.mod.glob.keeps Ic.bk) e1 e2 (Ic.bk _ _ e5) e6 e7 e8 ?_
    refine ⟨s1.heap.objs.size, [s1.heap.objs.size, a], [s1.heap.objs.size], its.toArray.size, (fun i v => its.toArray[i]? = some v), (fun i h => h.IsListIter s1.heap.objs.size a i ∧ h.IsList a its.toArray), (fun _ => true), (fun i y => y = .bool (pb i)), rfl, fun A' hA => Walks.list hA _ _ (Nat.ne_of_lt alt) _, ?_, ?_, Ic.nolimit, ?_, ?_, ?_⟩
    · exact ⟨iter0.at fun o e => hk _ _ iP e, (pl.isList.at fun o e => keep0 _ _ e).at fun o e => hk _ _ aP e⟩
    · intro b hb
      simp only [List.mem_cons, List.not_mem_nil, or_false] at hb
      rcases hb with rfl | rfl
      · exact Nat.lt_of_lt_of_le (Nat.lt_succ_self _) hsz
      · exact Nat.lt_of_lt_of_le (Nat.lt_succ_of_lt alt) hsz
    · intro z
      simp only [List.mem_cons, List.not_mem_nil, or_false] at z
      obtain ⟨_, hns, _⟩ := I1.nolimit
      have hl := hns.lt
      rw [z] at hl
      exact Nat.lt_irrefl _ hl
    · intro href hhref
      refine ⟨fun A' E' i v s2 m2 hA hD hU hPv hn hm hk2 => ?_, fun A' E' i v s2 m2 hA hD hU hPv hp hn hm hk2 => ?_⟩
      · simp only [List.forIn_nil]
        exact wpAny_pure ⟨rfl, GxR.keeps_refl _⟩
      · have hvi : ∃ vi, vs[i]? = some vi ∧ RelV vi v := by
          have hPv : its.toArray[i]? = some v := hPv
          rw [List.getElem?_toArray] at hPv
          exact vals_back rv hPv
        obtain ⟨vi, hvi, rvi⟩ := hvi
        refine hel pins s1 I1 _ A' E' i vi v s2 m2 hU rfl rfl hvi rvi hn hm fun b o hb e => ?_
        have lt : b < s1.heap.objs.size := Heap.lt_size e
        refine hk2 b (List.mem_range.mpr (Nat.lt_of_lt_of_le (Nat.lt_succ_of_lt lt) hsz)) ?_ o (hhref b o (hk b o hb (keep0 b o e)))
        simp only [List.mem_cons, List.not_mem_nil, or_false]
        exact Nat.ne_of_lt lt
    · intro g h5 tk5 gs hgb hag hsz5 hk5 W5 hat
      simp only [GxR.passing_true, List.length_range] at W5
      rw [hlen] at W5
      refine hQ vs pb H1 g _ hR ⟨_, _, _, _, _, W5.in4_1, by rw [hlen] at hat; exact hat, ?_, fun s' hmv => ?_⟩
      · intro j y sj Qj Ej hy hQj
        obtain ⟨i, hij, hy⟩ := hy
        obtain ⟨hj, ej⟩ := List.getElem?_eq_some_iff.mp hij
        rw [List.getElem_range] at ej
        subst ej
        subst hy
        exact wpAny_truthy_bool hQj
      · have nwr : ∀ b u, s1.heap.get? b = some u → b ∉ h3.objs.size :: [s1.heap.objs.size] := fun b u e hb => by
          have hl : (b : Nat) < s1.heap.objs.size := Heap.lt_size e
          simp only [List.mem_cons, List.not_mem_nil, or_false] at hb
          rcases hb with z | z
          · exact Nat.lt_irrefl _ (Nat.lt_of_lt_of_le (by rw [← z]; exact Nat.lt_succ_of_lt hl) hsz)
          · exact Nat.ne_of_lt hl z
        have nw2 : ∀ b u, h3.get? b = some u → b ≠ s1.heap.objs.size → b ∉ h3.objs.size :: [s1.heap.objs.size] := fun b u e hb hc => by
          have hl : (b : Nat) < h3.objs.size := Heap.lt_size e
          simp only [List.mem_cons, List.not_mem_nil, or_false] at hc
          rcases hc with z | z
          · exact Nat.ne_of_lt hl z
          · exact hb z
        have J2 := J s'.heap s'.toks (fun b o hb e => hmv.heap b o (nwr b o e) (hk5 b o (hk b o hb (keep0 b o e)))) fun b o hb e => hmv.heap b o (nw2 b o e hb) (hk5 b o e)
        have hP3 : s'.heap.get? P = some { cls := .none, data := .fields psc } := J2.hok P _ hPc
        have J3 := GxR.inv_tab (more := #[]) (h' := s'.heap) (g' := s'.gens) (d' := s'.drawn) (t' := s'.toks) J2 hPc (fun b u hb e => e) (by rw [Array.append_empty]; exact hP3) (AllBare.movedS (I1.bare.push hgb) hmv)
        have e9 : upd Hc P (.tbl (psc ++ #[])) = Hc := by
          rw [Array.append_empty]
          exact upd_id hPc
        rw [e9] at J3
        have J4 : Inv X pins σ Hc s' := by
          have := GxR.sh_eta s1 s' hmv.os
          rw [← this]
          exact J3
        exact ⟨Hc, Ec, Tc, J4⟩
  refine ⟨I2.nolimit, ?_⟩
  have hP2 : (s1.heap.push { cls := .type "list_iterator", data := .fields #[.ref a, .int 0 0] }).get? P = some { cls := .none, data := .fields ps } := keep0 P _ hPs
  have cd : PySem.W.CodeHd (s1.heap.push { cls := .type "list_iterator", data := .fields #[.ref a, .int 0 0] }) c P := TB.code.keeps fun b u e => keep0 b u (I1.bk b u e)
  have sz2 : (s1.heap.push { cls := .type "list_iterator", data := .fields #[.ref a, .int 0 0] }).objs.size = s1.heap.objs.size + 1 := Heap.size_push ..
  cases hf : codeAmong gpos ps.toList with
  | none =>
    refine wpAny_genexprCodeX hcode (cd.code hP2 ht) (cd.tab hP2) hf fun c' h' tk hx hge hlt hco' hrec htab' _ => ?_
    obtain ⟨c2, oc, vs', t, e2, hoc, hd, hv⟩ := hrec
    cases e2
    have hge : s1.heap.objs.size + 1 ≤ c' := by
      have hge : (s1.heap.push { cls := .type "list_iterator", data := .fields #[.ref a, .int 0 0] }).objs.size ≤ c' := hge
      omega
    have nC : H1 c' = none := I1.hok.fresh (Nat.le_of_succ_le hge)
    have nPc : P ≠ c' := Nat.ne_of_lt (Nat.lt_of_lt_of_le (Nat.lt_succ_of_lt hPlt) hge)
    have hE : LamX.ExtN H1 (upd (upd H1 P (.tbl (ps ++ #[rawInt gpos.line, rawInt gpos.col, .ref c']))) c' (LamX.CodeO c' (X.env.qual ++ "<genexpr>"))) := fun b o e n => by
      rw [upd_ne (ne_of_none e nC), upd_ne (fun z => n ps (Option.some.inj (e.symm.trans (by rw [z]; exact hP))))]
      exact e
    have eL : (ps ++ #[rawInt gpos.line, rawInt gpos.col, .ref c']).toList = ps.toList ++ [rawInt gpos.line, rawInt gpos.col, .ref c'] := by simp
    refine cont (.ref c') h' tk _ (ps ++ #[rawInt gpos.line, rawInt gpos.col, .ref c']) (fun h9 t9 k1 k2 => ?_) (by rw [upd_ne nPc, upd_same]) (fun p hp => ?_) hE (fun b o hb e => hx b o hb e) (Nat.le_of_lt (Nat.lt_of_le_of_lt hge hlt))
    · exact LamX.inv_table (t' := t9) (more := #[rawInt gpos.line, rawInt gpos.col, .ref c']) (h' := h9) I1 hP k1 (k2 P _ (Nat.ne_of_lt hPlt) htab'.2) (Nat.le_of_succ_le hge) ⟨oc, vs', t, k2 c' _ (Nat.ne_of_gt hge) hoc, hd, hv⟩
    · by_cases hb : p.1 = P
      · rw [hu p hp hb, hb]
        refine ⟨_, by rw [upd_ne nPc, upd_same], by rw [eL]; exact PySem.TriplesOk_snoc _ _ _ _ ht, fun p' cv hcv => ?_⟩
        rw [eL] at hcv
        rcases LamX.among_app _ ht hcv with z | z
        · obtain ⟨c0, e1, e2⟩ := ha p' cv z
          exact ⟨c0, e1, hE _ _ e2 LamX.codeO_ne⟩
        · exact ⟨c', z, upd_same⟩
      · obtain ⟨ps', a1, a2, a3⟩ := hT p hp
        refine ⟨ps', by rw [upd_ne (ne_of_none a1 nC), upd_ne hb]; exact a1, a2, fun p' cv hcv => ?_⟩
        obtain ⟨c0, e1, e2⟩ := a3 p' cv hcv
        exact ⟨c0, e1, hE _ _ e2 LamX.codeO_ne⟩
  | some cv =>
    refine wpAny_genexprCode_hit hcode (cd.code hP2 ht) hf ?_
    refine cont cv _ s1.toks H1 ps (fun h9 t9 k1 k2 => ?_) hP hT (LamX.ExtN.refl H1) (fun b o _ e => e) (Nat.le_of_eq sz2.symm)
    exact I1.kept fun b o e => k2 b o (Nat.ne_of_lt (Heap.lt_size e)) (keep0 b o e)
end
end N4
end
section
set_option Elab.async false
set_option linter.all false
set_option autoImplicit false
set_option maxRecDepth 100000
set_option maxHeartbeats 2000000
/-! any(a in b for x in e): the rule, its meaning. -/
namespace N4
open PySem PySem.Spec PyProof.Rows L2
mutual
theorem reads_but {h h' : Heap} {P : Addr} {ps : Array Value} (hk : ∀ b o, b ≠ P → h.get? b = some o → h'.get? b = some o) (hP : h.get? P = some { cls := .none, data := .fields ps }) : ∀ {v : Value} {d : PyData} {as : List Addr}, Reads h v d as → Reads h' v d as
  | _, _, _, .none => .none
  | _, _, _, .bool b => .bool b
  | _, _, _, .int i t => .int i t
  | _, _, _, .str x t => .str x t
  | _, _, _, .list h1 h2 h3 h4 => .list (hk _ _ (fun z => by rw [z, hP] at h1; cases h1; cases h3) h1) h2 h3 (readsAll_but hk hP h4)
  | _, _, _, .tuple h1 h2 h3 h4 => .tuple (hk _ _ (fun z => by rw [z, hP] at h1; cases h1; cases h3) h1) h2 h3 (readsAll_but hk hP h4)
  | _, _, _, .dict h1 h2 h3 h4 h5 => .dict (hk _ _ (fun z => by rw [z, hP] at h1; cases h1; cases h3) h1) h2 h3 (readsAll_but hk hP h4) (readsAll_but hk hP h5)
theorem readsAll_but {h h' : Heap} {P : Addr} {ps : Array Value} (hk : ∀ b o, b ≠ P → h.get? b = some o → h'.get? b = some o) (hP : h.get? P = some { cls := .none, data := .fields ps }) : ∀ {vs : List Value} {ds : List PyData} {as : List Addr}, ReadsAll h vs ds as → ReadsAll h' vs ds as
  | _, _, _, .nil => .nil
  | _, _, _, .cons h1 h2 => .cons (reads_but hk hP h1) (readsAll_but hk hP h2)
end
/-- z in xs -/
def inI : D → D → Option Bool
  | .int z, .list xs => if shal (.list xs) then some (xs.any fun y => PyData.eqv y (.int z)) else none
  | _, _ => none
def bools (f : D → Option Bool) : List D → Option (List Bool)
  | [] => some []
  | d :: ds => match f d, bools f ds with
    | some b, some bs => some (b :: bs)
    | _, _ => none
def slotD (s : N4.St) (j : Nat) : Option D := match s.sl[j]? with
  | some (some (.val d)) => some d
  | _ => none
/-- any(f(x) for x in m) -/
def eAny (f : N4.St → D → Option Bool) (m : M Ev) : M Ev := mBind m fun x => mBind (freeze x) fun d s => match d with
  | .list ds => match bools (f s) ds with
    | some bs => .ok (.val (.bool (bs.any id))) s
    | none => .bad
  | _ => .bad
/-- slot j in x; x in slot j -/
def anIn (j : Nat) : N4.St → D → Option Bool := fun s d => match slotD s j with
  | some v => inI v d
  | none => none
def anOf (j : Nat) : N4.St → D → Option Bool := fun s d => match slotD s j with
  | some v => inI d v
  | none => none
theorem bools_at {f : D → Option Bool} : ∀ {ds : List D} {bs : List Bool}, bools f ds = some bs → bs.length = ds.length ∧ ∀ {i : Nat} {d : D}, ds[i]? = some d → ∃ b, bs[i]? = some b ∧ f d = some b
  | [], bs, h => by
    cases h
    exact ⟨rfl, fun e => by simp at e⟩
  | d :: ds, bs, h => by
    unfold bools at h
    cases h1 : f d with
    | none => simp [h1] at h
    | some b =>
      cases h2 : bools f ds with
      | none => simp [h1, h2] at h
      | some bs' =>
        simp only [h1, h2] at h
        cases h
        obtain ⟨a, c⟩ := bools_at h2
        refine ⟨by simp [a], fun {i} {x} e => ?_⟩
        cases i with
        | zero =>
          cases e
          exact ⟨b, rfl, h1⟩
        | succ i => exact c (i := i) e
theorem any_range (bs : List Bool) : (List.range bs.length).any (fun i => bs.getD i false) = bs.any id := by
  rw [Bool.eq_iff_iff, List.any_eq_true, List.any_eq_true]
  constructor
  · rintro ⟨i, hi, h⟩
    have hi := List.mem_range.mp hi
    rw [List.getD_eq_getElem?_getD, List.getElem?_eq_getElem hi] at h
    exact ⟨bs[i], List.getElem_mem hi, h⟩
  · rintro ⟨b, hb, h⟩
    obtain ⟨i, hi, e⟩ := List.getElem_of_mem hb
    refine ⟨i, List.mem_range.mpr hi, ?_⟩
    rw [List.getD_eq_getElem?_getD, List.getElem?_eq_getElem hi, e]
    exact h
section
variable {X : Cx}
abbrev GB (X : Cx) (scope : Scope) (x : PySem.Str) : Prop := X.Ok → GxR.GenS X.env scope x
def tAnyL (X : Cx) (T : List (Addr × PySem.Str)) (P : Addr) (elt : Expr) (x : PySem.Str) (scope : Scope) (te : TE) : TE := fun σ H Q => te σ H fun v H1 => ∃ (a : Addr) (vs : List V) (pb : Nat → Bool), v = .ref a ∧ SqL X.K H1 a vs ∧ LamX.Tabs T H1 ∧ (∀ pins s1, Inv X pins σ H1 s1 → EltL X P elt x scope s1 vs pb) ∧
  ∀ H2, LamX.ExtN H1 H2 → LamX.Tabs T H2 → Q (.bl ((List.range vs.length).any pb)) H2
theorem pe_anyL {T : List (Addr × PySem.Str)} {c P : Addr} {elt iter : Expr} {x : PySem.Str} {px p pos gpos : Pos} {scope : Scope} {te : TE} {k : Nat}
    (hr : Room k X.A) (hg : Gl X "any") (hm : X.mg "any" = none) (TB : LamX.TabB X.base X.mg c P) (hcode : X.env.code = .ref c) (L : GB X scope x) (hi : PE X iter te) (m1 : (P, X.env.qual ++ "<genexpr>") ∈ T) (m2 : ∀ p ∈ T, p.1 = P → p.2 = X.env.qual ++ "<genexpr>")
    (hs : ∀ v, genFold iter X.env v = pure v)
    (he : starEach [.GeneratorExp elt [⟨.Name x px, iter, [], 0⟩] scope gpos] X.env = (false, eval (.GeneratorExp elt [⟨.Name x px, iter, [], 0⟩] scope gpos) X.env) :: starEach [] X.env := by rfl) :
    PE X (.Call (.Name "any" p) [.GeneratorExp elt [⟨.Name x px, iter, [], 0⟩] scope gpos] [] pos) (tAnyL X T P elt x scope te) := by
  refine ⟨fun pins s σ H Q I h => ?_⟩
  have S := L I.ok
  refine wpAny_Call_Name_kw (ld_blt I hg hm PyProof.Rows.boot_any ?_)
  refine PyProof.Rows.callWith_builtin1 ?_ he (by rfl)
  rw [he]
  show wpAny _ _ (spliced ((false, eval (.GeneratorExp elt [⟨.Name x px, iter, [], 0⟩] scope gpos) X.env) :: backTo pos (starEach [] X.env))) _ _ s
  refine Calls.spliced_cons (gen_lst (T := T) (R := fun vs pb H1 => ∀ H2, LamX.ExtN H1 H2 → LamX.Tabs T H2 → Q (.bl ((List.range vs.length).any pb)) H2) hr TB hcode S hi m1 m2 hs I h fun vs pb H1 g s5 hR hG => ?_)
  obtain ⟨fp, wr, G, F, St, W, hst, htr, hI⟩ := hG
  refine Calls.spliced_nil ?_
  refine call_any_walkS (W.self 0 _ _ _ hst ⟨g, fp, wr, G, _, F, St, _, rfl, W, hst, htr, fun s' hmv => ?_⟩)
  obtain ⟨H2, hE, hT, J⟩ := hI s' hmv
  exact ⟨.bl _, H2, J, rfl, hR H2 hE hT⟩
theorem dpAll_at {K : PySem.W.Frag} {H : Hp} : ∀ {vs : List V} {ds : List D}, DpAll K H vs ds → ∀ {i : Nat} {v : V}, vs[i]? = some v → ∃ d, ds[i]? = some d ∧ Dp K H v d
  | _, _, .nil, i, v, e => by simp at e
  | _, _, .cons h r, 0, v, e => by
    cases e
    exact ⟨_, rfl, h⟩
  | _, _, .cons h r, i + 1, v, e => dpAll_at r (i := i) e
/-- the generator's names: «.0», its one name, captured ones and globals -/
structure GenB (sc scope : Scope) (x : PySem.Str) : Prop where
  kind : scope.kind = .function
  co : scope.isCoroutine = false
  cell : ∀ y ∈ scope.names, y.2 ≠ .cell
  dot : scope.names.lookup (".0" : PySem.Str) = some NameKind.local
  loc : scope.names.lookup x = some .local
  free : ∀ y ∈ scope.names, y.2 = .free → sc.names.lookup y.1 = some .cell ∨ sc.names.lookup y.1 = some .free
def genBB (sc scope : Scope) (x : PySem.Str) : Bool :=
  decide (scope.kind = .function) && !scope.isCoroutine && decide (scope.names.lookup (".0" : PySem.Str) = some NameKind.local) && decide (scope.names.lookup x = some .local) && scope.names.all fun y => !decide (y.2 = .cell) && (!decide (y.2 = .free) || decide (sc.names.lookup y.1 = some .cell) || decide (sc.names.lookup y.1 = some .free))
theorem genB_by {sc scope : Scope} {x : PySem.Str} (h : genBB sc scope x = true) : GenB sc scope x := by
  unfold genBB at h
  simp only [Bool.and_eq_true, Bool.or_eq_true, Bool.not_eq_true', decide_eq_true_eq, decide_eq_false_iff_not, List.all_eq_true] at h
  obtain ⟨⟨⟨⟨h1, h2⟩, h3⟩, h5⟩, h4⟩ := h
  refine ⟨h1, h2, fun y hy => (h4 y hy).1, h3, h5, fun y hy e => ?_⟩
  rcases (h4 y hy).2 with (z | z) | z
  · exact absurd e z
  · exact .inl z
  · exact .inr z
theorem GenB.toS {scope : Scope} {x : PySem.Str} (L : GenB X.env.scope scope x) (ok : X.Ok) : GxR.GenS X.env scope x :=
  ⟨L.kind, L.co, L.cell, L.dot, L.loc, fun y hy e => by
    rcases L.free y hy e with k | k
    · exact ok.has _ (.inl k)
    · exact ok.has _ (.inr k)⟩
theorem lookup_in {α β : Type} [BEq α] [LawfulBEq α] : ∀ {l : List (α × β)} {a : α} {b : β}, l.lookup a = some b → (a, b) ∈ l
  | [], a, b, h => by cases h
  | (y, d) :: r, a, b, h => by
    rw [List.lookup_cons] at h
    split at h
    · rename_i e
      have e := eq_of_beq e
      subst e
      cases h
      exact List.mem_cons_self
    · exact List.mem_cons_of_mem _ (lookup_in h)
theorem elt_in {prog : Program} {w : World} {A' : Around} {E' : Value → Shared → Prop} {cenv : Env} {s2 : Shared} {n1 n2 : PySem.Str} {p1 p2 p3 : Pos} {u v : Value} {z : Int} {xs : List D} {as bs : List Addr}
    (h1 : ∀ Q : Value → Shared → Prop, Q u s2 → wpAny (model prog w) A' (eval (.Name n1 p1) cenv) Q E' s2) (h2 : ∀ Q : Value → Shared → Prop, Q v s2 → wpAny (model prog w) A' (eval (.Name n2 p2) cenv) Q E' s2)
    (ru : Reads s2.heap u (.int z) bs) (rv : Reads s2.heap v (.list xs) as) (hs : shal (.list xs) = true) (hu : A'.units + 1 < cLine) :
    wpAny (model prog w) A' (eval (.Compare (.Name n1 p1) [.In] [.Name n2 p2] p3) cenv) (fun y s3 => y = .bool (xs.any fun y => PyData.eqv y (.int z)) ∧ Keeps s2 s3) E' s2 := by
  refine wpAny_Compare1 (h1 _ (h2 _ ?_)) (by first | exact nomark _ | rfl | with_unfolding_all rfl)
  have hc : PyData.canLayAll0 xs = true := by
    have := SeqAt.canLay_of_shaped hs
    simpa only [PyData.canLay0] using this
  exact SeqAt.in_list_reads rv ru hc rfl (by
    have : min (PyData.depthAll xs) (PyData.int z).depth = 0 := Nat.min_eq_right (Nat.zero_le _) |>.trans rfl
    rw [this]
    exact hu) ⟨rfl, GxR.keeps_refl _⟩
/-- a captured name's value, within the generator's frame -/
theorem free_name {pins : List (Addr × Obj)} {σ : L2.St} {H1 : Hp} {s1 s2 : Shared} {P : Addr} {ps : Array Value} {scope : Scope} {x n : PySem.Str} {j : Nat} {w1 : V} {v : D} {cenv : Env} {p1 : Pos}
    (I1 : Inv X pins σ H1 s1) (hP : s1.heap.get? P = some { cls := .none, data := .fields ps }) (S : GxR.GenS X.env scope x) (hN : X.N[j]? = some n) (hσ : σ[j]? = some (some w1)) (hw : Dp X.K H1 w1 v) (hkn : X.env.kindOf n = some .cell ∨ X.env.kindOf n = some .free) (hvis : Vis X.env.scope n)
    (hf : (n, NameKind.free) ∈ scope.names) (hfl : scope.names.lookup n = some .free) (hd : (n == ("__debug__" : PySem.Str)) = false) (hcd : (n == ("__classdict__" : PySem.Str)) = false) (hsc : cenv.scope = scope) (hcl : cenv.cells = cloFrom X.env.cells scope.names [])
    (hk : ∀ b o, b ≠ P → s1.heap.get? b = some o → s2.heap.get? b = some o) :
    ∃ u as, Reads s2.heap u v as ∧ ∀ (A' : Around) (E' : Value → Shared → Prop) (Q : Value → Shared → Prop), Q u s2 → wpAny (model X.prog X.w) A' (eval (.Name n p1) cenv) Q E' s2 := by
  obtain ⟨m, hnm, loc⟩ := I1.loc
  obtain ⟨u, ru, lk⟩ := loc j n w1 hN hσ hvis
  have hc : ∃ c0, X.env.cells.lookup n = some c0 ∧ s1.heap.IsCell c0 (some u) := by
    rcases lk with ⟨h1, _⟩ | ⟨_, h⟩
    · rcases hkn with z | z <;> rw [z] at h1 <;> cases h1
    · exact h
  obtain ⟨c0, hc0, o, ho, hda⟩ := hc
  have cP : c0 ≠ P := fun z => by
    rw [z, hP] at ho
    cases ho
    cases hda
  have hc2 : s2.heap.IsCell c0 (some u) := ⟨o, hk _ _ cP ho, hda⟩
  obtain ⟨as, rd⟩ := Dp.reads I1 v w1 u hw ru
  refine ⟨u, as, reads_but hk hP rd, fun A' E' Q hQ => ?_⟩
  refine wpAny_Name (wpAny_loadName_free (by rw [hsc]; exact S.kind) (show cenv.scope.names.lookup n = some .free by rw [hsc]; exact hfl) (by rw [hcl]; exact NdefX.clo_has S.free hf hc0) hc2 hQ hcd) hd
theorem loop_name {scope : Scope} {x : PySem.Str} {cenv : Env} {s2 : Shared} {m2 : PySem.Str → Option Value} {v : Value} {p1 : Pos} (S : GxR.GenS X.env scope x) (hsc : cenv.scope = scope) (hn : s2.heap.Ns cenv.locals m2) (hm : m2 x = some v) (hd : (x == ("__debug__" : PySem.Str)) = false)
    (A' : Around) (E' : Value → Shared → Prop) (Q : Value → Shared → Prop) (hQ : Q v s2) : wpAny (model X.prog X.w) A' (eval (.Name x p1) cenv) Q E' s2 :=
  wpAny_Name (wpAny_loadName_local (by rw [hsc]; exact S.kind) (show cenv.scope.names.lookup x = some .local by rw [hsc]; exact S.loc) hn hm hQ) hd
section
variable {c : Cf} {W : WX} {iter : Expr} {ma : M Ev} {x n : PySem.Str} {px p pos gpos p1 p2 p3 : Pos} {scope : Scope} {k : Nat} {xm : PySem.Str} {stm : Stmt} {fm cR : Addr}
/-- what a maker of generator expressions knows of its code object -/
def GenAtC (T : List (Addr × PySem.Str)) (mg : PySem.Str → Option Value) (base : Heap) (x : PySem.Str) (st : Stmt) (f cR : Addr) : Prop := ∃ PT, LamX.TabB base mg cR PT ∧ (PT, (envOfC x (defScope st) 0 f (.ref cR)).qual ++ ("<genexpr>" : PySem.Str)) ∈ T ∧ ∀ p ∈ T, p.1 = PT → p.2 = (envOfC x (defScope st) 0 f (.ref cR)).qual ++ ("<genexpr>" : PySem.Str)
theorem x_any {elt : Expr} {f : N4.St → D → Option Bool} (hr : Room k X.A) (hg : Gl X "any") (hm : X.mg "any" = none) (hL : GenAtC c.T X.mg X.base xm stm fm cR) (hq : (envOfC xm (defScope stm) 0 fm (.ref cR)).qual = X.env.qual) (hcode : X.env.code = .ref cR) (S : GB X scope x) (ha : PE X iter (rdE c W ma))
    (hs : ∀ v, genFold iter X.env v = pure v)
    (he : starEach [.GeneratorExp elt [⟨.Name x px, iter, [], 0⟩] scope gpos] X.env = (false, eval (.GeneratorExp elt [⟨.Name x px, iter, [], 0⟩] scope gpos) X.env) :: starEach [] X.env)
    (helt : ∀ (P : Addr) (ps : Array Value) (pins : List (Addr × Obj)) (σ : L2.St) (H1 F2 : Hp) (fr : Fr) (τ2 : N4.St) (s1 : Shared) (vs : List V) (ds : List D) (bs : List Bool), Inv X pins σ H1 s1 → s1.heap.get? P = some { cls := .none, data := .fields ps } → Sat c fr τ2 σ H1 F2 → DpAll X.K H1 vs ds → bools (f τ2) ds = some bs → EltL X P elt x scope s1 vs fun i => bs.getD i false)
    (hK : X.K = c.K) :
    PE X (.Call (.Name "any" p) [.GeneratorExp elt [⟨.Name x px, iter, [], 0⟩] scope gpos] [] pos) (rdE c W (eAny f ma)) := by
  obtain ⟨PT, tb, m1, m2⟩ := hL
  rw [hq] at m1 m2
  refine (pe_anyL (T := c.T) hr hg hm tb hcode S ha m1 m2 hs he).impN fun σ H Q ⟨fr, τ, F, Sa, q⟩ => ?_
  refine (post_bind (R := EvOk c) Sa q).mono fun v H1 ⟨e1, τ1, F1, g1, S1, r1, q1⟩ => ?_
  obtain ⟨d, τ2, F2, g2, S2, d2, q2⟩ := post_freeze S1 r1 q1
  cases d with
  | list ds =>
    simp only at q2
    cases hb : bools (f τ2) ds with
    | none => simp only [hb] at q2; exact q2.elim
    | some bs =>
      simp only [hb] at q2
      cases d2 with
      | @lst a vs _ h1 h2 =>
        have hl := dtAll_length h2
        refine ⟨a, vs, fun i => bs.getD i false, rfl, SqL.of (S2.sub _ _ h1), S2.tabs, fun pins s1 I1 => ?_, fun H2 hE hT => ?_⟩
        · obtain ⟨ps, hP, _⟩ := S2.tabs _ m1
          exact helt PT ps pins σ H1 F2 fr τ2 s1 vs ds bs I1 (I1.hok PT _ hP) S2 (by rw [hK]; exact DtAll.dp S2.sub _ _ h2) hb
        · have hbl := (bools_at hb).1
          rw [hl, ← hbl, any_range]
          exact q2 _ H2 F2 (Same.refl F2) (S2.ext hE hT) (.bl _)
  | _ => exact q2.elim
theorem inI_some {v d : D} {b : Bool} (h : inI v d = some b) : ∃ z xs, v = .int z ∧ d = .list xs ∧ shal (.list xs) = true ∧ (xs.any fun y => PyData.eqv y (.int z)) = b := by
  unfold inI at h
  split at h
  · rename_i z xs
    by_cases hsh : shal (.list xs) = true
    · rw [if_pos hsh] at h
      exact ⟨z, xs, rfl, rfl, hsh, Option.some.inj h⟩
    · rw [if_neg hsh] at h
      cases h
  · cases h
theorem helt_in (j : Nat) (hu : X.A.units + 65 < cLine) (Sb : GB X scope x) (hN : X.N[j]? = some n) (hK : X.K = c.K) (hkn : X.env.kindOf n = some .cell ∨ X.env.kindOf n = some .free) (hvis : Vis X.env.scope n)
    (hf : (n, NameKind.free) ∈ scope.names) (hfl : scope.names.lookup n = some .free) (hd : (n == ("__debug__" : PySem.Str)) = false) (hcd : (n == ("__classdict__" : PySem.Str)) = false) (hdx : (x == ("__debug__" : PySem.Str)) = false)
    (P : Addr) (ps : Array Value) (pins : List (Addr × Obj)) (σ : L2.St) (H1 F2 : Hp) (fr : Fr) (τ2 : N4.St) (s1 : Shared) (vs : List V) (ds : List D) (bs : List Bool) (I1 : Inv X pins σ H1 s1) (hP : s1.heap.get? P = some { cls := .none, data := .fields ps }) (S2 : Sat c fr τ2 σ H1 F2) (hv : DpAll X.K H1 vs ds) (hb : bools (anIn j τ2) ds = some bs) :
    EltL X P (.Compare (.Name n p1) [.In] [.Name x p2] p3) x scope s1 vs fun i => bs.getD i false := by
  intro cenv A' E' i vi v s2 m2 hU hsc hcl hvi rvi hn hm hk
  have S := Sb I1.ok
  obtain ⟨d, hdi, hdp⟩ := dpAll_at hv hvi
  obtain ⟨b, hbi, hfb⟩ := (bools_at hb).2 hdi
  have hpb : bs.getD i false = b := by rw [List.getD_eq_getElem?_getD, hbi]; rfl
  unfold anIn at hfb
  cases hs : slotD τ2 j with
  | none => simp [hs] at hfb
  | some y =>
    simp only [hs] at hfb
    have hsl : τ2.sl[j]? = some (some (.val y)) := by
      unfold slotD at hs
      split at hs
      · rename_i h
        cases hs
        exact h
      · cases hs
    obtain ⟨w1, hσ, hw⟩ := S2.slot j _ hsl
    have hw : Dt c.K F2 w1 y := hw
    have hw2 : Dp X.K H1 w1 y := by rw [hK]; exact Dt.dp S2.sub _ _ hw
    obtain ⟨z, xs, rfl, rfl, hsh, hfb⟩ := inI_some hfb
    obtain ⟨u, as, rd, ln⟩ := free_name (P := P) (s2 := s2) (cenv := cenv) (p1 := p1) I1 hP S hN hσ hw2 hkn hvis hf hfl hd hcd hsc hcl hk
    obtain ⟨bs2, rd2⟩ := Dp.reads I1 _ vi v hdp rvi
    have r := elt_in (prog := X.prog) (w := X.w) (A' := A') (E' := E') (p1 := p1) (p2 := p2) (p3 := p3) (n1 := n) (n2 := x) (ln A' E') (loop_name (X := X) (p1 := p2) S hsc hn hm hdx A' E') rd (reads_but hk hP rd2) hsh (by omega)
    rw [hfb] at r
    show wpAny _ _ _ (fun y s3 => y = Value.bool (bs.getD i false) ∧ Keeps s2 s3) E' s2
    rw [hpb]
    exact r
theorem helt_of (j : Nat) (hu : X.A.units + 65 < cLine) (Sb : GB X scope x) (hN : X.N[j]? = some n) (hK : X.K = c.K) (hkn : X.env.kindOf n = some .cell ∨ X.env.kindOf n = some .free) (hvis : Vis X.env.scope n)
    (hf : (n, NameKind.free) ∈ scope.names) (hfl : scope.names.lookup n = some .free) (hd : (n == ("__debug__" : PySem.Str)) = false) (hcd : (n == ("__classdict__" : PySem.Str)) = false) (hdx : (x == ("__debug__" : PySem.Str)) = false)
    (P : Addr) (ps : Array Value) (pins : List (Addr × Obj)) (σ : L2.St) (H1 F2 : Hp) (fr : Fr) (τ2 : N4.St) (s1 : Shared) (vs : List V) (ds : List D) (bs : List Bool) (I1 : Inv X pins σ H1 s1) (hP : s1.heap.get? P = some { cls := .none, data := .fields ps }) (S2 : Sat c fr τ2 σ H1 F2) (hv : DpAll X.K H1 vs ds) (hb : bools (anOf j τ2) ds = some bs) :
    EltL X P (.Compare (.Name x p1) [.In] [.Name n p2] p3) x scope s1 vs fun i => bs.getD i false := by
  intro cenv A' E' i vi v s2 m2 hU hsc hcl hvi rvi hn hm hk
  have S := Sb I1.ok
  obtain ⟨d, hdi, hdp⟩ := dpAll_at hv hvi
  obtain ⟨b, hbi, hfb⟩ := (bools_at hb).2 hdi
  have hpb : bs.getD i false = b := by rw [List.getD_eq_getElem?_getD, hbi]; rfl
  unfold anOf at hfb
  cases hs : slotD τ2 j with
  | none => simp [hs] at hfb
  | some y =>
    simp only [hs] at hfb
    have hsl : τ2.sl[j]? = some (some (.val y)) := by
      unfold slotD at hs
      split at hs
      · rename_i h
        cases hs
        exact h
      · cases hs
    obtain ⟨w1, hσ, hw⟩ := S2.slot j _ hsl
    have hw : Dt c.K F2 w1 y := hw
    have hw2 : Dp X.K H1 w1 y := by rw [hK]; exact Dt.dp S2.sub _ _ hw
    obtain ⟨z, xs, rfl, rfl, hsh, hfb⟩ := inI_some hfb
    obtain ⟨u, as, rd, ln⟩ := free_name (P := P) (s2 := s2) (cenv := cenv) (p1 := p2) I1 hP S hN hσ hw2 hkn hvis hf hfl hd hcd hsc hcl hk
    obtain ⟨bs2, rd2⟩ := Dp.reads I1 _ vi v hdp rvi
    have r := elt_in (prog := X.prog) (w := X.w) (A' := A') (E' := E') (p1 := p1) (p2 := p2) (p3 := p3) (n1 := x) (n2 := n) (loop_name (X := X) (p1 := p1) S hsc hn hm hdx A' E') (ln A' E') (reads_but hk hP rd2) rd hsh (by omega)
    rw [hfb] at r
    show wpAny _ _ _ (fun y s3 => y = Value.bool (bs.getD i false) ∧ Keeps s2 s3) E' s2
    rw [hpb]
    exact r
/-- any(n in x for x in e), n a captured name -/
theorem x_anyIn (j : Nat) (hr : Room k X.A) (hm : X.mg "any" = none) (hL : GenAtC c.T X.mg X.base xm stm fm cR) (ha : PE X iter (rdE c W ma)) (Lb : GenB X.env.scope scope x) (hu : X.A.units + 65 < cLine) (hK : X.K = c.K := by rfl) (hq : (envOfC xm (defScope stm) 0 fm (.ref cR)).qual = X.env.qual := by rfl) (hcode : X.env.code = .ref cR := by rfl) (hg : Gl X "any" := by rfl)
    (hs : ∀ v, genFold iter X.env v = pure v := by intro v; rfl) (hN : X.N[j]? = some n := by rfl) (hkn : X.env.kindOf n = some .cell ∨ X.env.kindOf n = some .free := by first | exact Or.inl rfl | exact Or.inr rfl) (hvis : Vis X.env.scope n := by first | exact Or.inl rfl | exact Or.inr (Or.inl rfl) | exact Or.inr (Or.inr rfl))
    (hfl : scope.names.lookup n = some .free := by rfl) (hd : (n == ("__debug__" : PySem.Str)) = false := by decide) (hcd : (n == ("__classdict__" : PySem.Str)) = false := by decide) (hdx : (x == ("__debug__" : PySem.Str)) = false := by decide)
    (he : starEach [.GeneratorExp (.Compare (.Name n p1) [.In] [.Name x p2] p3) [⟨.Name x px, iter, [], 0⟩] scope gpos] X.env = (false, eval (.GeneratorExp (.Compare (.Name n p1) [.In] [.Name x p2] p3) [⟨.Name x px, iter, [], 0⟩] scope gpos) X.env) :: starEach [] X.env := by rfl) :
    PE X (.Call (.Name "any" p) [.GeneratorExp (.Compare (.Name n p1) [.In] [.Name x p2] p3) [⟨.Name x px, iter, [], 0⟩] scope gpos] [] pos) (rdE c W (eAny (anIn j) ma)) :=
  x_any hr hg hm hL hq hcode Lb.toS ha hs he (helt_in j hu Lb.toS hN hK hkn hvis (lookup_in hfl) hfl hd hcd hdx) hK
/-- any(x in n for x in e), n a captured name -/
theorem x_anyOf (j : Nat) (hr : Room k X.A) (hm : X.mg "any" = none) (hL : GenAtC c.T X.mg X.base xm stm fm cR) (ha : PE X iter (rdE c W ma)) (Lb : GenB X.env.scope scope x) (hu : X.A.units + 65 < cLine) (hK : X.K = c.K := by rfl) (hq : (envOfC xm (defScope stm) 0 fm (.ref cR)).qual = X.env.qual := by rfl) (hcode : X.env.code = .ref cR := by rfl) (hg : Gl X "any" := by rfl)
    (hs : ∀ v, genFold iter X.env v = pure v := by intro v; rfl) (hN : X.N[j]? = some n := by rfl) (hkn : X.env.kindOf n = some .cell ∨ X.env.kindOf n = some .free := by first | exact Or.inl rfl | exact Or.inr rfl) (hvis : Vis X.env.scope n := by first | exact Or.inl rfl | exact Or.inr (Or.inl rfl) | exact Or.inr (Or.inr rfl))
    (hfl : scope.names.lookup n = some .free := by rfl) (hd : (n == ("__debug__" : PySem.Str)) = false := by decide) (hcd : (n == ("__classdict__" : PySem.Str)) = false := by decide) (hdx : (x == ("__debug__" : PySem.Str)) = false := by decide)
    (he : starEach [.GeneratorExp (.Compare (.Name x p1) [.In] [.Name n p2] p3) [⟨.Name x px, iter, [], 0⟩] scope gpos] X.env = (false, eval (.GeneratorExp (.Compare (.Name x p1) [.In] [.Name n p2] p3) [⟨.Name x px, iter, [], 0⟩] scope gpos) X.env) :: starEach [] X.env := by rfl) :
    PE X (.Call (.Name "any" p) [.GeneratorExp (.Compare (.Name x p1) [.In] [.Name n p2] p3) [⟨.Name x px, iter, [], 0⟩] scope gpos] [] pos) (rdE c W (eAny (anOf j) ma)) :=
  x_any hr hg hm hL hq hcode Lb.toS ha hs he (helt_of j hu Lb.toS hN hK hkn hvis (lookup_in hfl) hfl hd hcd hdx) hK
end
end
section
variable {P : Program} {w : World} {K : PySem.W.Frag} {mg : PySem.Str → Option Value} {base : Heap} {gd : Bool}
def DefG (K : PySem.W.Frag) (mg : PySem.Str → Option Value) (base : Heap) (T : List (Addr × PySem.Str)) (x : PySem.Str) (st : Stmt) : Prop := ∃ (f : Addr) (oc : Value) (od : Option Addr) (kV doc pm : Value) (an : Option Addr) (cR : Addr) (ct : Value) (osl : Array (Option Value)) (PT : Addr),
  K.lookup f = some ⟨oc, od, .func (PySem.W.fnOf x x (defArgs st) (defBody st) (defScope st) .none kV doc pm an (.ref cR) ct), osl⟩ ∧ PySem.W.codeIn K (.ref cR) x = true ∧ PySem.W.keepIn K (.ref f) = true ∧ mg x = some (.ref f) ∧
  LamX.TabB base mg cR PT ∧ (PT, (envOfC x (defScope st) 0 f (.ref cR)).qual ++ ("<genexpr>" : PySem.Str)) ∈ T ∧ ∀ p ∈ T, p.1 = PT → p.2 = (envOfC x (defScope st) 0 f (.ref cR)).qual ++ ("<genexpr>" : PySem.Str)
theorem CallOk.ofG {c : Cf} {T : List (Addr × PySem.Str)} {x : PySem.Str} {st : Stmt} {N ps : List PySem.Str} {k : Nat} {b : SM} (D : DefG K mg base T x st) (S : FnScope N ps (defScope st))
    (hbind : ∀ (kV doc pm : Value) (an : Option Addr) (cdv ct : Value) (us : List Value), us.length = ps.length → bindArgs (PySem.W.fnOf x x (defArgs st) (defBody st) (defScope st) .none kV doc pm an cdv ct) ⟨us, []⟩ = pure (ps.zip us))
    (hbody : ∀ (f cR : Addr) (hL : GenAtC T mg base x st f cR) (A : Around) (outer : List Env) (s : Shared) (H : Hp) (E : XK), Room k (A.deeper (envOfC x (defScope st) s.heap.objs.size f (.ref cR))) → (gd = true → A.guards = some []) → (A.deeper (envOfC x (defScope st) s.heap.objs.size f (.ref cR))).units + 65 < cLine →
      Takes (cxOf (L2.CX P w) P w K mg base N x (defScope st) f (.ref cR) A outer s H E) (fun cl d _ H => E cl d H) → PassesOwn (model P w) (A.deeper (envOfC x (defScope st) s.heap.objs.size f (.ref cR))) (envOfC x (defScope st) s.heap.objs.size f (.ref cR)) (cxOf (L2.CX P w) P w K mg base N x (defScope st) f (.ref cR) A outer s H E).xe →
      PSs (cxOf (L2.CX P w) P w K mg base N x (defScope st) f (.ref cR) A outer s H E) (defBody st) (rdS c (fun cl d _ H => E cl d H) b)) :
    CallOk gd P w K mg base c (k + 1) x ps (mkFn ps.length N.length b) := by
  obtain ⟨f, oc, od, kV, doc, pm, an, cR, ct, osl, PT, lk, hcd, kp, hm, tb, m1, m2⟩ := D
  have hpn : ps.length ≤ N.length := by
    have := congrArg List.length S.pre
    rw [List.length_take] at this
    omega
  have len : ∀ vs H Q E, spOf c (mkFn ps.length N.length b) vs H Q E → vs.length = ps.length := fun vs H Q E ⟨F, pa, ss, pl, _, A, h⟩ => by
    have e := asOk_length A
    by_cases hl : ss.length = ps.length
    · exact e.trans hl
    · rw [mkFn, if_neg hl] at h
      exact h.elim
  refine ⟨f, _, ⟨len, fun A outer s H as us vs Q E hr hgd e0 hb r hsp => ?_⟩, hm, kp, .all (hbind kV doc pm an (.ref cR) ct)⟩
  have hl := len _ _ _ _ hsp
  refine LamX.run_ofS (N := N) lk hcd S hr e0 hb r hl fun hr' => ⟨_, hbody f cR ⟨PT, tb, m1, m2⟩ A outer s H E hr' hgd (by have := hr'.un; omega) (takes_of rfl rfl rfl rfl) (passes_of rfl), ?_⟩
  obtain ⟨F, pa, ss, pl, S0, A0, h⟩ := hsp
  have hss : ss.length = ps.length := (asOk_length A0).symm.trans hl
  rw [mkFn, if_pos hss] at h
  exact ⟨_, _, F, start_sat S0 A0 (by omega) hss, post_end h⟩
end
section
variable {X : Cx} {c : Cf} {W : WX} {x : PySem.Str} {p pos : Pos} {k : Nat} {ps : List PySem.Str} {sem : Fn} {gd : Bool}
/-- a call without an argument -/
theorem x_ck0 (h : CallOk gd X.prog X.w X.K X.mg X.base c k x ps sem) (hr : Room k X.A) (hgd : gd = true → X.A.guards = some []) (tk : Takes X W)
    (hg : Gl X x := by rfl) (hdb : (x == ("__debug__" : PySem.Str)) = false := by decide) :
    PE X (.Call (.Name x p) [] [] pos) (rdE c W (eCall sem [])) := by
  obtain ⟨f, fd, G, hm, hk, hb⟩ := h.ex
  exact x_call0 G hm hk hb hr hgd tk hg hdb
end
end N4
end
section
set_option Elab.async false
set_option linter.all false
set_option autoImplicit false
set_option maxRecDepth 100000
set_option maxHeartbeats 2000000
/-! sum, max, min of a list of ints; all, any of a list of truths. -/
namespace N4
open PySem PySem.Spec PyProof.Rows L2
section
variable {c : Cf}
def bSum : List PyData → Option Ev
  | [.list ds] => (toIs ds).map fun ns => .val (.int ns.sum)
  | _ => none
theorem ok_sum : BuOk c (rSum c.K) bSum := by
  intro fr τ σ H F xs ds res Q S vx hr k
  unfold bSum at hr
  split at hr
  · rename_i ds
    obtain ⟨v, rfl, h⟩ := vws1 vx
    obtain ⟨a, vs, rfl, ha, da⟩ := h
    cases hn : toIs ds with
    | none => rw [hn] at hr; cases hr
    | some ns =>
      rw [hn] at hr
      cases hr
      have e := toIs_eq hn
      subst e
      have e2 := dtAll_vals da
      subst e2
      exact ⟨a, ns, rfl, SqL.of ha, k _ H F (Same.refl F) S (.int _)⟩
  · cases hr
/-- the greatest one, the least one -/
def mxN : List Int → Option Int
  | [] => none
  | x :: r => some (match mxN r with
    | some y => if y ≤ x then x else y
    | none => x)
def mnN : List Int → Option Int
  | [] => none
  | x :: r => some (match mnN r with
    | some y => if x ≤ y then x else y
    | none => x)
theorem mxN_is : ∀ {ns : List Int} {m : Int}, mxN ns = some m → m ∈ ns ∧ ∀ y ∈ ns, y ≤ m
  | [], m, h => by cases h
  | x :: r, m, h => by
    unfold mxN at h
    cases hr : mxN r with
    | none =>
      rw [hr] at h
      have h := Option.some.inj h
      subst h
      have : r = [] := by
        cases r with
        | nil => rfl
        | cons y s => unfold mxN at hr; cases hr
      subst this
      exact ⟨List.mem_cons_self .., fun y hy => by rw [List.mem_singleton.mp hy]; exact Int.le_refl _⟩
    | some y =>
      rw [hr] at h
      have ih := mxN_is hr
      have h : (if y ≤ x then x else y) = m := Option.some.inj h
      by_cases e : y ≤ x
      · rw [if_pos e] at h
        subst h
        exact ⟨List.mem_cons_self .., fun z hz => by
          rcases List.mem_cons.mp hz with rfl | hz
          · exact Int.le_refl _
          · exact Int.le_trans (ih.2 z hz) e⟩
      · rw [if_neg e] at h
        subst h
        exact ⟨List.mem_cons_of_mem _ ih.1, fun z hz => by
          rcases List.mem_cons.mp hz with rfl | hz
          · omega
          · exact ih.2 z hz⟩
theorem mnN_is : ∀ {ns : List Int} {m : Int}, mnN ns = some m → m ∈ ns ∧ ∀ y ∈ ns, m ≤ y
  | [], m, h => by cases h
  | x :: r, m, h => by
    unfold mnN at h
    cases hr : mnN r with
    | none =>
      rw [hr] at h
      have h := Option.some.inj h
      subst h
      have : r = [] := by
        cases r with
        | nil => rfl
        | cons y s => unfold mnN at hr; cases hr
      subst this
      exact ⟨List.mem_cons_self .., fun y hy => by rw [List.mem_singleton.mp hy]; exact Int.le_refl _⟩
    | some y =>
      rw [hr] at h
      have ih := mnN_is hr
      have h : (if x ≤ y then x else y) = m := Option.some.inj h
      by_cases e : x ≤ y
      · rw [if_pos e] at h
        subst h
        exact ⟨List.mem_cons_self .., fun z hz => by
          rcases List.mem_cons.mp hz with rfl | hz
          · exact Int.le_refl _
          · exact Int.le_trans e (ih.2 z hz)⟩
      · rw [if_neg e] at h
        subst h
        exact ⟨List.mem_cons_of_mem _ ih.1, fun z hz => by
          rcases List.mem_cons.mp hz with rfl | hz
          · omega
          · exact ih.2 z hz⟩
def bMaxL : List PyData → Option Ev
  | [.list ds] => match toIs ds with
    | some ns => (mxN ns).map fun m => .val (.int m)
    | none => none
  | _ => none
def bMinL : List PyData → Option Ev
  | [.list ds] => match toIs ds with
    | some ns => (mnN ns).map fun m => .val (.int m)
    | none => none
  | _ => none
theorem ok_maxL : BuOk c (rMax c.K) bMaxL := by
  intro fr τ σ H F xs ds res Q S vx hr k
  unfold bMaxL at hr
  split at hr
  · rename_i ds
    obtain ⟨v, rfl, h⟩ := vws1 vx
    obtain ⟨a, vs, rfl, ha, da⟩ := h
    split at hr
    · rename_i ns hn
      cases hm : mxN ns with
      | none => rw [hm] at hr; cases hr
      | some m =>
        rw [hm] at hr
        cases hr
        have e := toIs_eq hn
        subst e
        have e2 := dtAll_vals da
        subst e2
        have hmm := mxN_is hm
        refine ⟨a, ns, rfl, SqL.of ha, List.length_pos_of_mem hmm.1, fun m' h1 h2 => ?_⟩
        have : m' = m := Int.le_antisymm (hmm.2 m' h1) (h2 m hmm.1)
        subst this
        exact k _ H F (Same.refl F) S (.int _)
    · cases hr
  · cases hr
theorem ok_minL : BuOk c (rMin c.K) bMinL := by
  intro fr τ σ H F xs ds res Q S vx hr k
  unfold bMinL at hr
  split at hr
  · rename_i ds
    obtain ⟨v, rfl, h⟩ := vws1 vx
    obtain ⟨a, vs, rfl, ha, da⟩ := h
    split at hr
    · rename_i ns hn
      cases hm : mnN ns with
      | none => rw [hm] at hr; cases hr
      | some m =>
        rw [hm] at hr
        cases hr
        have e := toIs_eq hn
        subst e
        have e2 := dtAll_vals da
        subst e2
        have hmm := mnN_is hm
        refine ⟨a, ns, rfl, SqL.of ha, List.length_pos_of_mem hmm.1, fun m' h1 h2 => ?_⟩
        have : m' = m := Int.le_antisymm (h2 m hmm.1) (hmm.2 m' h1)
        subst this
        exact k _ H F (Same.refl F) S (.int _)
    · cases hr
  · cases hr
/-! truths -/
def toBs : List PyData → Option (List Bool)
  | [] => some []
  | .bool b :: r => (toBs r).map (b :: ·)
  | _ => none
theorem toBs_eq : ∀ {ds : List PyData} {bs : List Bool}, toBs ds = some bs → ds = bs.map PyData.bool
  | [], bs, h => by cases h; rfl
  | d :: r, bs, h => by
    cases d with
    | bool b =>
      unfold toBs at h
      cases hr : toBs r with
      | none => rw [hr] at h; cases h
      | some cs =>
        rw [hr] at h
        cases h
        rw [toBs_eq hr]
        rfl
    | _ => cases h
theorem dtAll_bls {K : PySem.W.Frag} {F : Hp} : ∀ {vs : List V} {bs : List Bool}, DtAll K F vs (bs.map PyData.bool) → vs = bs.map V.bl
  | _, [], h => by cases h; rfl
  | _, n :: ns, h => by
    cases h with
    | cons h1 h2 =>
      cases h1
      rw [dtAll_bls h2]
      rfl
def bAllL : List PyData → Option Ev
  | [.list ds] => (toBs ds).map fun bs => .val (.bool (bs.all id))
  | _ => none
def bAnyL : List PyData → Option Ev
  | [.list ds] => (toBs ds).map fun bs => .val (.bool (bs.any id))
  | _ => none
theorem ok_allL : BuOk c (rAll c.K) bAllL := by
  intro fr τ σ H F xs ds res Q S vx hr k
  unfold bAllL at hr
  split at hr
  · rename_i ds
    obtain ⟨v, rfl, h⟩ := vws1 vx
    obtain ⟨a, vs, rfl, ha, da⟩ := h
    cases hn : toBs ds with
    | none => rw [hn] at hr; cases hr
    | some bs =>
      rw [hn] at hr
      cases hr
      have e := toBs_eq hn
      subst e
      have e2 := dtAll_bls da
      subst e2
      exact ⟨a, bs, rfl, SqL.of ha, k _ H F (Same.refl F) S (.bl _)⟩
  · cases hr
theorem ok_anyL : BuOk c (rAny c.K) bAnyL := by
  intro fr τ σ H F xs ds res Q S vx hr k
  unfold bAnyL at hr
  split at hr
  · rename_i ds
    obtain ⟨v, rfl, h⟩ := vws1 vx
    obtain ⟨a, vs, rfl, ha, da⟩ := h
    cases hn : toBs ds with
    | none => rw [hn] at hr; cases hr
    | some bs =>
      rw [hn] at hr
      cases hr
      have e := toBs_eq hn
      subst e
      have e2 := dtAll_bls da
      subst e2
      exact ⟨a, bs, rfl, SqL.of ha, k _ H F (Same.refl F) S (.bl _)⟩
  · cases hr
end
end N4
end
section
set_option Elab.async false
set_option linter.all false
set_option autoImplicit false
set_option maxRecDepth 100000
set_option maxHeartbeats 2000000
/-! Dicts of one's own whose keys are whole numbers. -/
namespace N4
open PySem PySem.Spec PyProof.Rows L2
/-! ### the meaning -/
def isK (i : Int) : PyData → Bool
  | .int j => decide (j = i)
  | _ => false
def dAt (kvs : List (PyData × PyData)) (i : Int) : Option PyData := (kvs.find? fun kv => isK i kv.1).map (·.2)
def dPut (kvs : List (PyData × PyData)) (i : Int) (d : PyData) : List (PyData × PyData) :=
  if (kvs.any fun kv => isK i kv.1) = true then kvs.map (fun kv => if isK i kv.1 = true then (kv.1, d) else kv) else kvs ++ [(.int i, d)]
def dOf (s : N4.St) (i : Nat) : Option (List (PyData × PyData)) := match s.sl[i]? with
  | some (some (.obj (.dct kvs))) => some kvs
  | some (some (.ro kvs)) => some kvs
  | _ => none
def intEv : Ev → Option Int
  | .val (.int i) => some i
  | _ => none
/-- {} -/
def eDNew : M Ev := mRet (.obj (.dct []))
/-- {k: v} -/
def eD1 (k v : M Ev) : M Ev := mBind k fun x => mBind v fun y => mBind (freeze y) fun d => match intEv x with
  | some i => mRet (.obj (.dct [(.int i, d)]))
  | none => mBad
/-- x[k], x a name -/
def hasD {α : Type} (i : Nat) (k : M α) : M α := fun s => match dOf s i with
  | some _ => k s
  | none => .bad
def eDGet (i : Nat) (k : M Ev) : M Ev := hasD i (mBind k fun x s => match dOf s i, intEv x with
  | some kvs, some j => match dAt kvs j with
    | some d => .ok (.val d) s
    | none => .bad
  | _, _ => .bad)
/-- f(..)[y], y a name -/
def eDGetF (m : M Ev) (j : Nat) : M Ev := mBind m fun x s => match x, s.sl[j]? with
  | .obj (.dct kvs), some (some (.val (.int k))) => match dAt kvs k with
    | some d => .ok (.val d) s
    | none => .bad
  | _, _ => .bad
/-- k in x, k not in x -/
def eDIn (neg : Bool) (k : M Ev) (i : Nat) : M Ev := mBind k fun x s => match dOf s i, intEv x with
  | some kvs, some j => .ok (.val (.bool (if neg then !(dAt kvs j).isSome else (dAt kvs j).isSome))) s
  | _, _ => .bad
/-- x.get(k, e) -/
def eDGetD (i : Nat) (k e : M Ev) : M Ev := hasD i (mBind k fun x => mBind e fun y => mBind (freeze y) fun d s => match dOf s i, intEv x with
  | some kvs, some j => .ok (.val ((dAt kvs j).getD d)) s
  | _, _ => .bad)
/-- len(x) -/
def eDLen (i : Nat) : M Ev := fun s => match s.sl[i]? with
  | some (some (.obj (.dct kvs))) => .ok (.val (.int kvs.length)) s
  | _ => .bad
/-- x[k] = e -/
def sDPutN (i : Nat) (k e : M Ev) : SM := sE e fun y => sE (freeze y) fun d => sE (hasD i k) fun x s => match s.sl[i]?, intEv x with
  | some (some (.obj (.dct kvs))), some j => if kvs.length < lineN then .nx (setSl s i (some (.obj (.dct (dPut kvs j d))))) else .bad
  | _, _ => .bad
/-- x = y, y a dict: it is x's from now on -/
def sMove (i j : Nat) : SM := fun s => match s.sl[j]? with
  | some (some (.obj b)) => if i < s.sl.length ∧ i ≠ j then .nx (setSl (setSl s j none) i (some (.obj b))) else .bad
  | _ => .bad
def noRo : Option Sl → Option Sl
  | some (.ro _) => none
  | x => x
def offRo (s : N4.St) : N4.St := { s with sl := s.sl.map noRo }
def offOut : SOut → SOut
  | .nx s => .nx (offRo s)
  | .brk s => .brk (offRo s)
  | .cnt s => .cnt (offRo s)
  | .ret (.val d) s => .ret (.val d) (offRo s)
  | .ret (.fresh xs) s => .ret (.fresh xs) (offRo s)
  | _ => .bad
/-- for k in x: behind it nothing is known of x -/
def sForD (i : Nat) (g : Tg) (b : SM) : SM := fun s => match s.sl[i]? with
  | some (some (.obj (.dct kvs))) => offOut (loop g b (kvs.map (·.1)) (setSl s i (some (.ro kvs))))
  | _ => .bad
/-! ### the entries -/
section
variable {K : PySem.W.Frag} {F : Hp}
theorem ks_at {ks : List (L2.Key × V)} {kvs : List (PyData × PyData)} (h : KsOk K F ks kvs) (i : Int) : (∃ d v, dAt kvs i = some d ∧ valV ks (.inl i) = some v ∧ Dt K F v d) ∨ (dAt kvs i = none ∧ valV ks (.inl i) = none) := by
  induction h with
  | nil => exact .inr ⟨rfl, rfl⟩
  | @cons j v d ks kvs hd _ ih =>
    by_cases e : j = i
    · subst e
      exact .inl ⟨d, v, by simp [dAt, isK], valV_pos rfl, hd⟩
    · rcases ih with ⟨d2, v2, h1, h2, h3⟩ | ⟨h1, h2⟩
      · refine .inl ⟨d2, v2, ?_, ?_, h3⟩
        · unfold dAt at h1 ⊢
          rw [List.find?_cons_of_neg (by simp [isK, e])]
          exact h1
        · rw [valV_neg (fun z => e (Sum.inl.inj z))]
          exact h2
      · refine .inr ⟨?_, ?_⟩
        · unfold dAt at h1 ⊢
          rw [List.find?_cons_of_neg (by simp [isK, e])]
          exact h1
        · rw [valV_neg (fun z => e (Sum.inl.inj z))]
          exact h2
theorem ks_len {ks : List (L2.Key × V)} {kvs : List (PyData × PyData)} (h : KsOk K F ks kvs) : ks.length = kvs.length := by
  induction h with
  | nil => rfl
  | cons _ _ ih => simp [ih]
theorem ks_any {ks : List (L2.Key × V)} {kvs : List (PyData × PyData)} (h : KsOk K F ks kvs) (i : Int) : (ks.any fun kv => decide (kv.1 = .inl i)) = kvs.any fun kv => isK i kv.1 := by
  induction h with
  | nil => rfl
  | @cons j v d ks kvs hd _ ih =>
    rw [List.any_cons, List.any_cons, ih]
    congr 1
    show decide ((Sum.inl j : L2.Key) = .inl i) = decide (j = i)
    exact decide_eq_decide.mpr ⟨fun z => Sum.inl.inj z, fun z => by rw [z]⟩
theorem ks_append {ks ks2 : List (L2.Key × V)} {kvs kvs2 : List (PyData × PyData)} (h : KsOk K F ks kvs) (h2 : KsOk K F ks2 kvs2) : KsOk K F (ks ++ ks2) (kvs ++ kvs2) := by
  induction h with
  | nil => exact h2
  | cons hd _ ih => exact .cons hd ih
theorem ks_put {ks : List (L2.Key × V)} {kvs : List (PyData × PyData)} {v : V} {d : PyData} (h : KsOk K F ks kvs) (i : Int) (hv : Dt K F v d) : KsOk K F (putK ks (.inl i) v) (dPut kvs i d) := by
  unfold putK dPut
  rw [ks_any h i]
  cases c : kvs.any fun kv => isK i kv.1 with
  | false =>
    simp only [Bool.false_eq_true, if_false]
    exact ks_append h (.cons hv .nil)
  | true =>
    simp only [if_true]
    clear c
    induction h with
    | nil => exact .nil
    | @cons j w d2 ks kvs hd _ ih =>
      rw [List.map_cons, List.map_cons]
      by_cases e : j = i
      · subst e
        have e1 : isK j (.int j) = true := by simp [isK]
        rw [if_pos rfl, if_pos e1]
        exact .cons hv ih
      · have e1 : ¬ isK i (.int j) = true := by simp [isK, e]
        rw [if_neg (fun z => e (Sum.inl.inj z)), if_neg e1]
        exact .cons hd ih
theorem ks_key {ks : List (L2.Key × V)} {kvs : List (PyData × PyData)} (h : KsOk K F ks kvs) : ∀ {i : Nat} {d : PyData}, (kvs.map (·.1))[i]? = some d → ∃ j v, ks[i]? = some (.inl j, v) ∧ d = .int j := by
  induction h with
  | nil => exact fun e => by simp at e
  | @cons j v d ks kvs hd _ ih =>
    intro i e he
    cases i with
    | zero =>
      simp at he
      exact ⟨j, v, rfl, he.symm⟩
    | succ i => exact ih (by simpa using he)
end
/-! ### states -/
section
variable {c : Cf} {fr : Fr} {τ : N4.St} {σ : L2.St} {H F : Hp}
/-- an object that stands alone is changed -/
theorem Sat.tmpO (S : Sat c fr τ σ H F) {a : Addr} {o o2 : HO} (p1 : ∀ ps, o ≠ .tbl ps) (p2 : ∀ c q, o ≠ LamX.CodeO c q) (h1 : H a = some o) (h3 : F a = none) (h4 : fr.H0 a = none) (h5 : ∀ i : Nat, IsOwn τ i → σ[i]? ≠ some (some (.ref a))) : Sat c fr τ σ (upd H a o2) F := by
  have ap := S.apart h4
  refine ⟨fun b o e => by rw [upd_ne (ne_of_none e h3)]; exact S.sub b o e, fun p hp => ?_, fun b o e q t => ?_, fun b e => ?_, S.nw, S.base, fun i s e => ?_, S.dist, ?_, S.len, S.ntb⟩
  · obtain ⟨ps, k1, k2, k3⟩ := S.tabs p hp
    have np : p.1 ≠ a := fun z => by rw [z, h1] at k1; exact p1 _ (Option.some.inj k1)
    refine ⟨ps, by rw [upd_ne np]; exact k1, k2, fun pos cv hc => ?_⟩
    obtain ⟨cc, g1, g2⟩ := k3 pos cv hc
    have nc : cc ≠ a := fun z => by
      rw [z, h1] at g2
      exact p2 _ _ (Option.some.inj g2)
    exact ⟨cc, g1, by rw [upd_ne nc]; exact g2⟩
  · rw [upd_ne (fun z => by rw [z, h4] at e; cases e)]
    exact S.keep b o e q t
  · by_cases hb : b = a
    · rw [hb, upd_same]
      exact fun z => nomatch z
    · rw [upd_ne hb]
      exact S.there b e
  · obtain ⟨v, e1, e2⟩ := S.slot i s e
    refine ⟨v, e1, ?_⟩
    cases s with
    | val d => exact e2
    | own xs =>
      obtain ⟨b, us, rfl, q1, q⟩ := e2
      exact ⟨b, us, rfl, by rw [upd_ne (fun z : b = a => h5 i (.lst e) (by rw [← z]; exact e1))]; exact q1, q⟩
    | obj ob =>
      obtain ⟨b, o, rfl, q1, q⟩ := e2
      exact ⟨b, o, rfl, by rw [upd_ne (fun z : b = a => h5 i (.ob e) (by rw [← z]; exact e1))]; exact q1, q⟩
    | pool => exact e2
    | raw => exact e2
    | exc x => exact e2
    | ro kvs => exact e2
  · have pk := S.pool
    cases hpl : τ.pl with
    | none => rw [hpl] at pk; exact pk
    | some pl =>
      obtain ⟨x, y, l⟩ := pl
      rw [hpl] at pk
      obtain ⟨p1, p2, q, q1, q2, q3, q4⟩ := pk
      obtain ⟨n1, n2⟩ := ap _ _ q
      exact ⟨p1, p2, q, q1, by rw [upd_ne (Ne.symm n1)]; exact q2, by rw [upd_ne (Ne.symm n2)]; exact q3, q4⟩
theorem dk_tbl {ks : List (L2.Key × V)} : ∀ ps, (HO.dK ks) ≠ .tbl ps := fun ps z => nomatch z
theorem dk_code {ks : List (L2.Key × V)} : ∀ c q, (HO.dK ks) ≠ LamX.CodeO c q := fun c q z => by unfold LamX.CodeO at z; cases z
/-- where the dict of a slot stands, readable -/
theorem Sat.dct (S : Sat c fr τ σ H F) {i : Nat} {kvs : List (PyData × PyData)} (h : dOf τ i = some kvs) : ∃ a ks, σ[i]? = some (some (.ref a)) ∧ Rd H a (.dK ks) ∧ KsOk c.K F ks kvs := by
  unfold dOf at h
  split at h
  · rename_i kv e
    cases h
    obtain ⟨a, o, e1, e2, e3, _⟩ := S.ob e
    obtain ⟨ks, rfl, r⟩ := e3
    exact ⟨a, ks, e1, .inl e2, r⟩
  · rename_i kv e
    cases h
    obtain ⟨v, e1, a, ob, ks, rfl, h1, h2, h3⟩ := S.slot i _ e
    exact ⟨a, ks, e1, .inr ⟨ob, S.keep a _ h1 h2 (fun ps z => nomatch z)⟩, h3⟩
  · cases h
end
/-! ### readings -/
section
variable {X : Cx} {c : Cf} {W : WX} {e k f : Expr} {pos p cpos apos : Pos} {m mk me : M Ev} {x : PySem.Str}
/-- {} -/
theorem x_dnew : PE X (.Dict [] [] pos) (rdE c W eDNew) := pe_dnewK.impN fun σ H Q ⟨fr, τ, F, S, q⟩ => by
  intro p hp
  obtain ⟨_, S1⟩ := S.new (o := .dK []) hp
  exact post_ret S1 q ⟨p, .dK [], rfl, upd_same, ⟨[], rfl, .nil⟩, S.f0 hp, S.h0 hp, S.nown hp⟩
theorem intEv_ok {fr : Fr} {σ : L2.St} {τ : N4.St} {H F : Hp} {v : V} {x : Ev} {i : Int} (r : EvOk c fr σ τ H F v x) (h : intEv x = some i) : v = .int i := by
  unfold intEv at h
  split at h
  · cases h
    cases r
    rfl
  · cases h
/-- {k: v} -/
theorem x_d1 (hk : PE X k (rdE c W mk)) (he : PE X e (rdE c W me)) : PE X (.Dict [some k] [e] pos) (rdE c W (eD1 mk me)) := (pe_disp (pps_cons hk he pps_nil) (by rfl) (by rfl) (fun z => by cases z) (Nat.le_of_ble_eq_true rfl)).impN fun σ H Q ⟨fr, τ, F, S, q⟩ => by
  intro p hp
  have po : Pln (HO.dK []) := ⟨fun ps z => (nomatch z), fun fs z => (nomatch z), dk_code, fun ob u z => (nomatch z)⟩
  obtain ⟨_, S1⟩ := S.new (o := .dK []) hp
  have h4 := S.h0 hp
  have ap := S.apart h4
  have f0 : fr.F0 p = none := by
    cases z : fr.F0 p with
    | none => rfl
    | some o =>
      have := S.sub _ _ (S.base p o z)
      rw [hp] at this
      cases this
  have S2 := S1.resO po upd_same (S.f0 hp) h4 (S.nown hp)
  unfold eD1 at q
  refine (post_res (R := EvOk c) po S1 S2 h4 q).mono fun v H1 ⟨ek, τ1, F1, g1, S3, r1, q1⟩ => ?_
  have S3u := Sat.unresO po S3 h4 S.poolH0
  refine (post_res (R := EvOk c) po S3u S3 h4 q1).mono fun w H2 ⟨ev, τ2, F2, g2, S4, r2, q2⟩ => ?_
  obtain ⟨d, τ3, F3, g3, S5, r3, q3⟩ : ∃ d τ1 F1, Same F2 F1 ∧ Sat c (fr.resO p (.dK [])) τ1 σ H2 F1 ∧ Dt c.K F1 w d ∧ PostM c W (EvOk c) fr F1 σ Q ((match intEv ek with | some i => mRet (Ev.obj (.dct [(.int i, d)])) | none => mBad) τ1) := by
    cases hf : freeze ev τ2 with
    | ok d τ1 =>
      obtain ⟨F1, g1, S1, d1⟩ := freeze_ok S4 r2 hf
      simp only [mBind, hf] at q2
      exact ⟨d, τ1, F1, g1, S1, d1, q2.grow g1⟩
    | err cl y t => exact (freeze_no hf).elim
    | bad =>
      simp only [mBind, hf] at q2
      exact q2.elim
  obtain ⟨k1, k2, k3⟩ := S5.heldO po f0 ap
  cases hi : intEv ek with
  | none => rw [hi] at q3; exact q3.elim
  | some i =>
    rw [hi] at q3
    have ev := intEv_ok r1 hi
    subst ev
    refine ⟨k1, [(.inl i, w)], rfl, Nat.le_of_ble_eq_true rfl, ?_⟩
    have S6 := Sat.unresO po S5 h4 S.poolH0
    have S7 := S6.tmpO (o2 := .dK (mergeK [] [(.inl i, w)])) dk_tbl dk_code k1 k2 h4 k3
    exact post_ret S7 q3 ⟨p, _, rfl, upd_same, ⟨_, rfl, .cons r3 .nil⟩, k2, h4, k3⟩
theorem hasD_some {α β : Type} {R : Fr → L2.St → N4.St → Hp → Hp → β → α → Prop} {Q : β → Hp → Prop} {fr : Fr} {F : Hp} {σ : L2.St} {i : Nat} {k : M α} {τ : N4.St} (q : PostM c W R fr F σ Q (hasD i k τ)) : ∃ kvs, dOf τ i = some kvs ∧ PostM c W R fr F σ Q (k τ) := by
  unfold hasD at q
  cases h : dOf τ i with
  | none => rw [h] at q; exact q.elim
  | some kvs => rw [h] at q; exact ⟨kvs, rfl, q⟩
theorem hasD_someS {α : Type} {D : Ends} {fr : Fr} {F : Hp} {i : Nat} {m : M α} {k : α → SM} {τ : N4.St} (q : PostS c W fr F D (sE (hasD i m) k τ)) : ∃ kvs, dOf τ i = some kvs ∧ PostS c W fr F D (sE m k τ) := by
  unfold sE hasD at q
  cases h : dOf τ i with
  | none => rw [h] at q; exact q.elim
  | some kvs => rw [h] at q; exact ⟨kvs, rfl, q⟩
theorem x_dget (i : Nat) (hu : X.A.units + 65 < cLine) (hk : PE X k (rdE c W mk)) (hs : NoSl k := by exact fun _ _ => rfl) (hN : X.N[i]? = some x := by rfl) (hv : Vis X.env.scope x := by first | exact Or.inl rfl | exact Or.inr (Or.inl rfl) | exact Or.inr (Or.inr rfl)) (hd : (x == ("__debug__" : PySem.Str)) = false := by decide)
    (hcd : (x == ("__classdict__" : PySem.Str)) = false := by decide) : PE X (.Subscript (.Name x p) k pos) (rdE c W (eDGet i mk)) := (pe_dget (by omega) (pe_var (pos := p) hN hv hd hcd) hk hs).impN fun σ H Q ⟨fr, τ, F, S, q⟩ => by
  obtain ⟨kv0, ho, q⟩ := hasD_some q
  obtain ⟨a, ks0, ea, _⟩ := S.dct ho
  refine ⟨_, ea, (post_bind (R := EvOk c) S q).mono fun y H1 ⟨ek, τ1, F1, g1, S1, r1, q1⟩ => ?_⟩
  cases ho : dOf τ1 i with
  | none => simp only [ho] at q1; exact q1.elim
  | some kvs =>
    cases hi : intEv ek with
    | none => simp only [ho, hi] at q1; exact q1.elim
    | some j =>
      have ev := intEv_ok r1 hi
      subst ev
      obtain ⟨a', ks, e1, e2, e3⟩ := S1.dct ho
      rw [ea] at e1
      cases e1
      rcases ks_at e3 j with ⟨d, v, h1, h2, h3⟩ | ⟨h1, _⟩
      · simp only [ho, hi, h1] at q1
        exact ⟨a, v, rfl, .inl ⟨ks, .inl j, e2, rfl, h2.symm⟩, q1 v H1 F1 (Same.refl F1) S1 h3⟩
      · simp only [ho, hi, h1] at q1
        exact q1.elim
/-- k in x, k not in x -/
theorem x_din (i : Nat) (hu : X.A.units + 65 < cLine) (hk : PE X k (rdE c W mk)) (hN : X.N[i]? = some x := by rfl) (hv : Vis X.env.scope x := by first | exact Or.inl rfl | exact Or.inr (Or.inl rfl) | exact Or.inr (Or.inr rfl)) (hd : (x == ("__debug__" : PySem.Str)) = false := by decide)
    (hcd : (x == ("__classdict__" : PySem.Str)) = false := by decide) (hm : behindInMarks .In (.Name x p) = false := by first | exact nobehind _ (by decide) (by decide) | rfl) : PE X (.Compare k [.In] [.Name x p] pos) (rdE c W (eDIn false mk i)) := (pe_cmp (pc_din (by omega) hk (pe_var (pos := p) hN hv hd hcd)) hm).impN fun σ H Q ⟨fr, τ, F, S, q⟩ => by
  refine (post_bind (R := EvOk c) S q).mono fun y H1 ⟨ek, τ1, F1, g1, S1, r1, q1⟩ => ?_
  cases ho : dOf τ1 i with
  | none => simp only [ho] at q1; exact q1.elim
  | some kvs =>
    cases hi : intEv ek with
    | none => simp only [ho, hi] at q1; exact q1.elim
    | some j =>
      have ev := intEv_ok r1 hi
      subst ev
      obtain ⟨a, ks, e1, e2, e3⟩ := S1.dct ho
      simp only [ho, hi, Bool.false_eq_true, if_false] at q1
      refine ⟨_, e1, a, valV ks (.inl j), rfl, .inl ⟨ks, .inl j, e2, rfl, rfl⟩, q1 _ H1 F1 (Same.refl F1) S1 ?_⟩
      rcases ks_at e3 j with ⟨d, v, h1, h2, h3⟩ | ⟨h1, h2⟩
      · rw [h1, h2]; exact .bl true
      · rw [h1, h2]; exact .bl false
theorem x_dnin (i : Nat) (hu : X.A.units + 65 < cLine) (hk : PE X k (rdE c W mk)) (hN : X.N[i]? = some x := by rfl) (hv : Vis X.env.scope x := by first | exact Or.inl rfl | exact Or.inr (Or.inl rfl) | exact Or.inr (Or.inr rfl)) (hd : (x == ("__debug__" : PySem.Str)) = false := by decide)
    (hcd : (x == ("__classdict__" : PySem.Str)) = false := by decide) (hm : behindInMarks .NotIn (.Name x p) = false := by first | exact nobehind _ (by decide) (by decide) | rfl) : PE X (.Compare k [.NotIn] [.Name x p] pos) (rdE c W (eDIn true mk i)) := (pe_cmp (pc_dnotin (by omega) hk (pe_var (pos := p) hN hv hd hcd)) hm).impN fun σ H Q ⟨fr, τ, F, S, q⟩ => by
  refine (post_bind (R := EvOk c) S q).mono fun y H1 ⟨ek, τ1, F1, g1, S1, r1, q1⟩ => ?_
  cases ho : dOf τ1 i with
  | none => simp only [ho] at q1; exact q1.elim
  | some kvs =>
    cases hi : intEv ek with
    | none => simp only [ho, hi] at q1; exact q1.elim
    | some j =>
      have ev := intEv_ok r1 hi
      subst ev
      obtain ⟨a, ks, e1, e2, e3⟩ := S1.dct ho
      simp only [ho, hi, if_true] at q1
      refine ⟨_, e1, a, valV ks (.inl j), rfl, .inl ⟨ks, .inl j, e2, rfl, rfl⟩, q1 _ H1 F1 (Same.refl F1) S1 ?_⟩
      rcases ks_at e3 j with ⟨d, v, h1, h2, h3⟩ | ⟨h1, h2⟩
      · rw [h1, h2]; exact .bl false
      · rw [h1, h2]; exact .bl true
theorem t_din (i : Nat) (hu : X.A.units + 65 < cLine) (hk : PE X k (rdE c W mk)) (hN : X.N[i]? = some x := by rfl) (hv : Vis X.env.scope x := by first | exact Or.inl rfl | exact Or.inr (Or.inl rfl) | exact Or.inr (Or.inr rfl)) (hd : (x == ("__debug__" : PySem.Str)) = false := by decide)
    (hcd : (x == ("__classdict__" : PySem.Str)) = false := by decide) (hm : behindInMarks .In (.Name x p) = false := by first | exact nobehind _ (by decide) (by decide) | rfl) : PT X (.Compare k [.In] [.Name x p] pos) (rdT c W (tV (eDIn false mk i))) := (pt_cmp (pc_din (by omega) hk (pe_var (pos := p) hN hv hd hcd)) hm).impN fun σ H Q h => by
  obtain ⟨fr, τ, F, S, q⟩ := rd_tV h
  refine (post_bind (R := EvOk c) S q).mono fun y H1 ⟨ek, τ1, F1, g1, S1, r1, q1⟩ => ?_
  cases ho : dOf τ1 i with
  | none => simp only [ho] at q1; exact q1.elim
  | some kvs =>
    cases hi : intEv ek with
    | none => simp only [ho, hi] at q1; exact q1.elim
    | some j =>
      have ev := intEv_ok r1 hi
      subst ev
      obtain ⟨a, ks, e1, e2, e3⟩ := S1.dct ho
      simp only [ho, hi, Bool.false_eq_true, if_false] at q1
      refine ⟨_, e1, a, valV ks (.inl j), rfl, .inl ⟨ks, .inl j, e2, rfl, rfl⟩, q1 _ H1 F1 (Same.refl F1) S1 ?_⟩
      rcases ks_at e3 j with ⟨d, v, h1, h2, h3⟩ | ⟨h1, h2⟩
      · rw [h1, h2]; exact .bl true
      · rw [h1, h2]; exact .bl false
theorem t_dnin (i : Nat) (hu : X.A.units + 65 < cLine) (hk : PE X k (rdE c W mk)) (hN : X.N[i]? = some x := by rfl) (hv : Vis X.env.scope x := by first | exact Or.inl rfl | exact Or.inr (Or.inl rfl) | exact Or.inr (Or.inr rfl)) (hd : (x == ("__debug__" : PySem.Str)) = false := by decide)
    (hcd : (x == ("__classdict__" : PySem.Str)) = false := by decide) (hm : behindInMarks .NotIn (.Name x p) = false := by first | exact nobehind _ (by decide) (by decide) | rfl) : PT X (.Compare k [.NotIn] [.Name x p] pos) (rdT c W (tV (eDIn true mk i))) := (pt_cmp (pc_dnotin (by omega) hk (pe_var (pos := p) hN hv hd hcd)) hm).impN fun σ H Q h => by
  obtain ⟨fr, τ, F, S, q⟩ := rd_tV h
  refine (post_bind (R := EvOk c) S q).mono fun y H1 ⟨ek, τ1, F1, g1, S1, r1, q1⟩ => ?_
  cases ho : dOf τ1 i with
  | none => simp only [ho] at q1; exact q1.elim
  | some kvs =>
    cases hi : intEv ek with
    | none => simp only [ho, hi] at q1; exact q1.elim
    | some j =>
      have ev := intEv_ok r1 hi
      subst ev
      obtain ⟨a, ks, e1, e2, e3⟩ := S1.dct ho
      simp only [ho, hi, if_true] at q1
      refine ⟨_, e1, a, valV ks (.inl j), rfl, .inl ⟨ks, .inl j, e2, rfl, rfl⟩, q1 _ H1 F1 (Same.refl F1) S1 ?_⟩
      rcases ks_at e3 j with ⟨d, v, h1, h2, h3⟩ | ⟨h1, h2⟩
      · rw [h1, h2]; exact .bl false
      · rw [h1, h2]; exact .bl true
/-- x.get(k, e) -/
theorem x_dgetd (i : Nat) (hu : X.A.units + 65 < cLine) (hk : PE X k (rdE c W mk)) (he : PE X e (rdE c W me)) (hN : X.N[i]? = some x := by rfl) (hv : Vis X.env.scope x := by first | exact Or.inl rfl | exact Or.inr (Or.inl rfl) | exact Or.inr (Or.inr rfl)) (hd : (x == ("__debug__" : PySem.Str)) = false := by decide)
    (hcd : (x == ("__classdict__" : PySem.Str)) = false := by decide) (hm : M2 X (.Name x p) "get" apos k e cpos := by exact ⟨rfl, rfl, rfl, rfl⟩) : PE X (.Call (.Attribute (.Name x p) "get" apos) [k, e] [] cpos) (rdE c W (eDGetD i mk me)) := (pe_dget2 (by omega) (pe_var (pos := p) hN hv hd hcd) hk he hm).impN fun σ H Q ⟨fr, τ, F, S, q⟩ => by
  obtain ⟨kv0, ho, q⟩ := hasD_some q
  obtain ⟨a, ks0, ea, rd0, _⟩ := S.dct ho
  refine ⟨_, ea, a, rfl, .inl ⟨ks0, rd0⟩, (post_bind (R := EvOk c) S q).mono fun y H1 ⟨ek, τ1, F1, g1, S1, r1, q1⟩ => (post_bind (R := EvOk c) S1 q1).mono fun z H2 ⟨ez, τ2, F2, g2, S2, r2, q2⟩ => ?_⟩
  obtain ⟨d, τ3, F3, g3, S3, d3, q3⟩ := post_freeze S2 r2 q2
  cases ho : dOf τ3 i with
  | none => simp only [ho] at q3; exact q3.elim
  | some kvs =>
    cases hi : intEv ek with
    | none => simp only [ho, hi] at q3; exact q3.elim
    | some j =>
      have ev := intEv_ok r1 hi
      subst ev
      obtain ⟨a', ks, e1, e2, e3⟩ := S3.dct ho
      rw [ea] at e1
      cases e1
      simp only [ho, hi] at q3
      refine ⟨valV ks (.inl j), .inl ⟨ks, .inl j, e2, rfl, rfl⟩, q3 _ H2 F3 (Same.refl F3) S3 ?_⟩
      rcases ks_at e3 j with ⟨d2, v, h1, h2, h3⟩ | ⟨h1, h2⟩
      · rw [h1, h2]; exact h3
      · rw [h1, h2]; exact d3
/-- len(x) -/
theorem x_dlen (i : Nat) (hml : X.mg "len" = none) (hN : X.N[i]? = some x := by rfl) (hv : Vis X.env.scope x := by first | exact Or.inl rfl | exact Or.inr (Or.inl rfl) | exact Or.inr (Or.inr rfl)) (hd : (x == ("__debug__" : PySem.Str)) = false := by decide)
    (hcd : (x == ("__classdict__" : PySem.Str)) = false := by decide) (hg : Gl X "len" := by rfl) (hn : starEach [.Name x p] X.env = (false, eval (.Name x p) X.env) :: starEach [] X.env := by rfl) (hpl : (backTo pos (starEach [] X.env)).any (·.1) = false := by rfl) : PE X (.Call (.Name "len" cpos) [.Name x p] [] pos) (rdE c W (eDLen i)) :=
  (pe_callB call_lenD hg hml PySem.boot_len (pa_cons (pe_var (pos := p) hN hv hd hcd) pa_nil hn) (by decide) (by decide) hn hpl).impN fun σ H Q ⟨fr, τ, F, S, q⟩ => by
  unfold eDLen at q
  split at q
  · rename_i kvs hs
    obtain ⟨a, o, e1, e2, ⟨ks, rfl, r⟩, _⟩ := S.ob hs
    exact ⟨_, e1, a, ks, rfl, e2, by rw [ks_len r]; exact q _ H F (Same.refl F) S (.int _)⟩
  · exact q.elim
/-- x[k] = e -/
theorem s_dput (i : Nat) (hu : X.A.units + 65 < cLine) (he : PE X e (rdE c W me)) (hk : PE X k (rdE c W mk)) (hN : X.N[i]? = some x := by rfl) (hv : Vis X.env.scope x := by first | exact Or.inl rfl | exact Or.inr (Or.inl rfl) | exact Or.inr (Or.inr rfl)) (hd : (x == ("__debug__" : PySem.Str)) = false := by decide)
    (hcd : (x == ("__classdict__" : PySem.Str)) = false := by decide) (hs : swapsWith e (some (.Subscript (.Name x p) k apos)) pos.line X.env = pure false := by rfl) : PS X (.Assign [.Subscript (.Name x p) k apos] e pos) (rdS c W (sDPutN i mk me)) := (ps_dput (by omega) (pe_var (pos := p) hN hv hd hcd) hk he hs).impN fun D σ H ⟨fr, τ, F, S, q⟩ => by
  refine (post_e (R := EvOk c) S q).mono fun v H1 ⟨ev, τ1, F1, g1, S1, r1, q1⟩ => ?_
  obtain ⟨d, τ2, F2, g2, S2, d2, q2⟩ := post_fz S1 r1 q1
  obtain ⟨kv0, ho, q2'⟩ := hasD_someS q2
  obtain ⟨a, ks0, ea, _⟩ := S2.dct ho
  refine ⟨_, ea, (post_e (R := EvOk c) S2 q2').mono fun y H3 ⟨ek, τ3, F3, g3, S3, r3, q3⟩ => ?_⟩
  cases hs : τ3.sl[i]? with
  | none => simp only [hs] at q3; exact q3.elim
  | some o =>
    cases o with
    | none => simp only [hs] at q3; exact q3.elim
    | some s =>
      cases s with
      | obj b =>
        cases b with
        | dct kvs =>
          cases hi : intEv ek with
          | none => simp only [hs, hi] at q3; exact q3.elim
          | some j =>
            have ev := intEv_ok r3 hi
            subst ev
            obtain ⟨a', o, e1, e2, ⟨ks, rfl, r⟩, _⟩ := S3.ob hs
            rw [ea] at e1
            cases e1
            simp only [hs, hi] at q3
            by_cases hl : kvs.length < lineN
            · rw [if_pos hl] at q3
              refine ⟨a, _, rfl, .inl ⟨ks, .inl j, e2, rfl, by rw [ks_len r, ← line_eq]; exact hl, rfl⟩, ?_⟩
              exact q3 σ _ F3 (Same.refl F3) (S3.mutO (b2 := .dct (dPut kvs j d)) hs ea ⟨_, rfl, ks_put r j (Dt.grow g3 _ _ d2)⟩)
            · rw [if_neg hl] at q3
              exact q3.elim
        | st xs => simp only [hs] at q3; exact q3.elim
      | _ => simp only [hs] at q3; exact q3.elim
/-- x = y, y a dict -/
theorem s_move (i j : Nat) {y : PySem.Str} {py px : Pos} (hN : X.N[j]? = some y := by rfl) (hv : Vis X.env.scope y := by first | exact Or.inl rfl | exact Or.inr (Or.inl rfl) | exact Or.inr (Or.inr rfl)) (hd : (y == ("__debug__" : PySem.Str)) = false := by decide)
    (hcd : (y == ("__classdict__" : PySem.Str)) = false := by decide) (hn : X.N.Nodup) (hi : X.N[i]? = some x := by rfl) (hx : Loc X.env.scope x := by first | exact Or.inl rfl | exact Or.inr rfl) (hfx : X.fn x = true ∨ X.env.scope.names.lookup x = some .local := by first | exact Or.inl rfl | exact Or.inr rfl)
    (hs : swapsWithSole [.Name x px] (.Name y py) pos.line X.env = pure false := by rfl) (hw : swappedStores [.Name x px] (.Name y py) X.env = pure none := by rfl) (h1 : (assignEach [.Name x px] X.env).map (·.2) = [assign (.Name x px) X.env] := by rfl) :
    PS X (.Assign [.Name x px] (.Name y py) pos) (rdS c W (sMove i j)) := (ps_asg (pe_var (pos := py) hN hv hd hcd) (pg_name hn hi hx hfx) hs hw h1).impN fun D σ H ⟨fr, τ, F, S, q⟩ => by
  unfold sMove at q
  split at q
  · rename_i b hs
    obtain ⟨a, o, e1, e2, e3, e4, e5⟩ := S.ob hs
    by_cases hl : i < τ.sl.length ∧ i ≠ j
    · rw [if_pos hl] at q
      refine ⟨_, e1, ?_⟩
      have S0 : Sat c fr (setSl τ j none) σ H F := S.slots (fun x q => nomatch q) (fun x q => nomatch q)
      have hl0 : i < (setSl τ j none).sl.length := by simpa [setSl] using hl.1
      exact q _ H F (Same.refl F) (S0.set (v := .ref a) (s := .obj b) hl0 ⟨a, o, rfl, e2, e3, e4, e5⟩ fun _ a' ea k hk ⟨z, hz, ho⟩ hq => by
        cases ea
        by_cases hkj : j = k
        · subst hkj
          rw [setSl_self (slot_lt hs)] at hz
          cases hz
        · rw [setSl_ne hkj] at hz
          exact S.dist j k a hkj (.ob hs) ⟨z, hz, ho⟩ e1 hq)
    · rw [if_neg hl] at q
      exact q.elim
  · exact q.elim
/-- f(..)[y], y a name -/
theorem x_dgetF (j : Nat) {y : PySem.Str} {py : Pos} (hu : X.A.units + 65 < cLine) (he : PE X e (rdE c W m)) (hN : X.N[j]? = some y := by rfl) (hv : Vis X.env.scope y := by first | exact Or.inl rfl | exact Or.inr (Or.inl rfl) | exact Or.inr (Or.inr rfl)) (hd : (y == ("__debug__" : PySem.Str)) = false := by decide)
    (hcd : (y == ("__classdict__" : PySem.Str)) = false := by decide) (hs : NoSl (.Name y py) := by exact fun _ _ => rfl) : PE X (.Subscript e (.Name y py) pos) (rdE c W (eDGetF m j)) := (pe_dget (by omega) he (pe_var (pos := py) hN hv hd hcd) hs).impN fun σ H Q ⟨fr, τ, F, S, q⟩ => by
  refine (post_bind (R := EvOk c) S q).mono fun v H1 ⟨ev, τ1, F1, g1, S1, r1, q1⟩ => ?_
  split at q1
  · rename_i x1 x2 kvs k hk
    obtain ⟨a, o, rfl, h1, ⟨ks, rfl, r⟩, _⟩ := r1
    obtain ⟨w, e1, e2⟩ := S1.slot j _ hk
    cases e2
    rcases ks_at r k with ⟨d, v, k1, k2, k3⟩ | ⟨k1, _⟩
    · simp only [k1] at q1
      exact ⟨_, e1, a, v, rfl, .inl ⟨ks, .inl k, .inl h1, rfl, k2.symm⟩, q1 v H1 F1 (Same.refl F1) S1 k3⟩
    · simp only [k1] at q1
      exact q1.elim
  · exact q1.elim
end
/-! ### a dict is walked -/
section
variable {c : Cf} {fr : Fr} {τ : N4.St} {σ : L2.St} {H F : Hp}
theorem noRo_get {i : Nat} {s : Sl} (h : (τ.sl.map noRo)[i]? = some (some s)) : τ.sl[i]? = some (some s) ∧ ∀ kvs, s ≠ .ro kvs := by
  rw [List.getElem?_map] at h
  cases hs : τ.sl[i]? with
  | none => rw [hs] at h; cases h
  | some o =>
    rw [hs] at h
    have h : noRo o = some s := Option.some.inj h
    cases o with
    | none => cases h
    | some z =>
      cases z with
      | ro kvs => cases h
      | _ => cases h; exact ⟨rfl, fun kvs q => nomatch q⟩
theorem Sat.offRo (S : Sat c fr τ σ H F) : Sat c fr (N4.offRo τ) σ H F := S.change (by show (τ.sl.map noRo).length ≤ _; rw [List.length_map]; exact S.len) rfl fun i s e => ⟨(noRo_get e).1, rfl⟩
/-- what was reserved for the walk is not any longer -/
theorem Sat.unresZ {a : Addr} {od : Obj} {ks : List (L2.Key × V)} (S : Sat c (fr.resO a (.frz od (.dK ks))) τ σ H F) (hz : ∀ (i : Nat) (kvs : List (PyData × PyData)), τ.sl[i]? ≠ some (some (.ro kvs))) (h4 : fr.H0 a = none) (hp : ∀ pp pq, fr.pa = some (pp, pq) → fr.H0 pp ≠ none ∧ fr.H0 pq ≠ none) : Sat c fr τ σ H F := by
  have up : ∀ b o, fr.H0 b = some o → upd fr.H0 a (.frz od (.dK ks)) b = some o := fun b o e => by rw [upd_ne (ne_of_none e h4)]; exact e
  have dn : ∀ b, upd fr.H0 a (.frz od (.dK ks)) b = none → fr.H0 b = none := fun b e => by
    by_cases hb : b = a
    · rw [hb]; exact h4
    · rw [upd_ne hb] at e; exact e
  have ne : ∀ b, fr.H0 b ≠ none → upd fr.H0 a (.frz od (.dK ks)) b ≠ none := fun b e z => e (dn b z)
  refine ⟨S.sub, S.tabs, fun b o e q t => S.keep b o (up b o e) q t, fun b e => S.there b (ne b e), fun b o e => ?_, S.base, fun i s e => ?_, S.dist, ?_, S.len, S.ntb.1, fun b ps e => S.ntb.2 b ps (up b _ e)⟩
  · rcases S.nw b o e with z | z
    · exact .inl z
    · exact .inr (dn b z)
  · obtain ⟨v, e1, e2⟩ := S.slot i s e
    refine ⟨v, e1, ?_⟩
    cases s with
    | val d => exact e2
    | own xs =>
      obtain ⟨b, ws, rfl, q1, q2, q3, q4⟩ := e2
      exact ⟨b, ws, rfl, q1, q2, q3, dn b q4⟩
    | obj ob =>
      obtain ⟨b, o, rfl, q1, q2, q3, q4⟩ := e2
      exact ⟨b, o, rfl, q1, q2, q3, dn b q4⟩
    | pool => exact e2
    | raw =>
      obtain ⟨k1, k2, k3, k4, k5⟩ := e2
      have k4 : upd fr.H0 a (.frz od (.dK ks)) c.gc = some (LamX.CodeO c.gc c.gq) := k4
      refine ⟨k1, k2, k3, ?_, k5⟩
      rw [upd_ne (fun z => by rw [z, upd_same] at k4; unfold LamX.CodeO at k4; cases k4)] at k4
      exact k4
    | exc x =>
      obtain ⟨dd, y, k1, k2, k3, k4⟩ := e2
      have n : dd ≠ a := fun z => by
        have k3 : upd fr.H0 a (.frz od (.dK ks)) dd = some (.xd [(whatS, y)]) := k3.1
        rw [z, upd_same] at k3
        cases k3
      exact ⟨dd, y, k1, k2, ⟨by have k3 : upd fr.H0 a (.frz od (.dK ks)) dd = some (.xd [(whatS, y)]) := k3.1; rw [upd_ne n] at k3; exact k3, k3.2⟩, k4⟩
    | ro kvs => exact absurd e (hz i kvs)
  · have pk := S.pool
    cases hpl : τ.pl with
    | none => rw [hpl] at pk; exact pk
    | some pl =>
      obtain ⟨x, y, l⟩ := pl
      rw [hpl] at pk
      obtain ⟨p1, p2, q, q1, q2, q3, q4, q5, _, _⟩ := pk
      obtain ⟨n1, n2⟩ := hp _ _ q
      exact ⟨p1, p2, q, q1, q2, q3, q4, q5, n1, n2⟩
/-- behind the walk -/
theorem Sat.walked {a : Addr} {od : Obj} {ks : List (L2.Key × V)} (S : Sat c (fr.resO a (.frz od (.dK ks))) τ σ H F) (f0 : fr.F0 a = none) (h4 : fr.H0 a = none) (hp : ∀ pp pq, fr.pa = some (pp, pq) → fr.H0 pp ≠ none ∧ fr.H0 pq ≠ none) (ap : ∀ pp pq, fr.pa = some (pp, pq) → a ≠ pp ∧ a ≠ pq) :
    H a = some (.frz od (.dK ks)) ∧ Sat c fr (N4.offRo τ) σ (upd H a (.dK ks)) F := by
  have h1 : H a = some (.frz od (.dK ks)) := S.keep a _ (by show upd fr.H0 a _ a = _; exact upd_same) ap (fun ps z => nomatch z)
  have h3 : F a = none := by
    cases z : F a with
    | none => rfl
    | some o =>
      rcases S.nw a o z with y | y
      · have y : fr.F0 a = some o := y
        rw [f0] at y
        cases y
      · have y : upd fr.H0 a (.frz od (.dK ks)) a = none := y
        rw [upd_same] at y
        cases y
  have h5 : ∀ i : Nat, IsOwn (N4.offRo τ) i → σ[i]? ≠ some (some (.ref a)) := fun i ho q => by
    obtain ⟨b, o, e1, e2, e4, e5⟩ := S.offRo.own1 ho
    rw [q] at e1
    cases e1
    have e5 : upd fr.H0 a (.frz od (.dK ks)) a = none := e5
    rw [upd_same] at e5
    cases e5
  have S1 : Sat c fr (N4.offRo τ) σ H F := S.offRo.unresZ (fun i kvs e => (noRo_get e).2 kvs rfl) h4 hp
  exact ⟨h1, S1.tmpO (o := .frz od (.dK ks)) (fun ps z => nomatch z) (fun c q z => by unfold LamX.CodeO at z; cases z) h1 h3 h4 h5⟩
end
section
variable {X : Cx} {c : Cf} {W : WX} {tg : Expr} {body : List Stmt} {pos p : Pos} {x : PySem.Str} {g : Tg} {is : List Nat} {b : SM}
theorem s_forD (i : Nat) (hp : PassesOwn (model X.prog X.w) X.A X.env X.xe) (hc : X.calm = true) (hg : PG X tg (rdTg c is g)) (hb : PSs X body (rdS c W b)) (hN : X.N[i]? = some x := by rfl) (hv : Vis X.env.scope x := by first | exact Or.inl rfl | exact Or.inr (Or.inl rfl) | exact Or.inr (Or.inr rfl))
    (hd : (x == ("__debug__" : PySem.Str)) = false := by decide) (hcd : (x == ("__classdict__" : PySem.Str)) = false := by decide) (hs : ∀ y, foldedSetIterable (.Name x p) X.env y = pure y := by intro _; rfl) :
    PS X (.For tg (.Name x p) body [] pos) (rdS c W (sForD i g b)) := (ps_lock (ps_for hp hc (pi_keys (pe_var (pos := p) hN hv hd hcd)) hg hb hs)).impN fun D σ H ⟨fr, τ, F, S, q⟩ => by
  unfold sForD at q
  split at q
  · rename_i kvs hsl
    obtain ⟨a, o, e1, e2, ⟨ks, rfl, r⟩, e4, e5⟩ := S.ob hsl
    refine ⟨a, .dK ks, e2, trivial, fun od => ?_⟩
    have ap := S.apart e5
    have f0 : fr.F0 a = none := by
      cases z : fr.F0 a with
      | none => rfl
      | some o =>
        have := S.base a o z
        rw [e4] at this
        cases this
    have S0 : Sat c fr (setSl τ i none) σ H F := S.slots (fun x q => nomatch q) (fun x q => nomatch q)
    have n0 : ∀ j : Nat, IsOwn (setSl τ i none) j → σ[j]? ≠ some (some (.ref a)) := fun j ⟨z, hz, ho⟩ hq => by
      by_cases hj : i = j
      · subst hj
        rw [setSl_self (slot_lt hsl)] at hz
        cases hz
      · rw [setSl_ne hj] at hz
        exact S.dist i j a hj (.ob hsl) ⟨z, hz, ho⟩ e1 hq
    have S1 := S0.tmpO (o := .dK ks) (o2 := .frz od (.dK ks)) dk_tbl dk_code e2 e4 e5 n0
    have S2 : Sat c (fr.resO a (.frz od (.dK ks))) (setSl τ i none) σ (upd H a (.frz od (.dK ks))) F := by
      refine ⟨S1.sub, S1.tabs, fun b o e q t => ?_, fun b e => ?_, fun b o e => ?_, S1.base, fun j s e => ?_, S1.dist, ?_, S1.len, S1.ntb.1, S1.ntb.2.upd fun ps z => nomatch z⟩
      · by_cases hb : b = a
        · subst hb
          have e : upd fr.H0 b (.frz od (.dK ks)) b = some o := e
          rw [upd_same] at e ⊢
          exact e
        · have e : upd fr.H0 a (.frz od (.dK ks)) b = some o := e
          rw [upd_ne hb] at e
          exact S1.keep b o e q t
      · by_cases hb : b = a
        · subst hb
          rw [upd_same]
          exact fun z => nomatch z
        · have e : upd fr.H0 a (.frz od (.dK ks)) b ≠ none := e
          rw [upd_ne hb] at e
          exact S1.there b e
      · by_cases hb : b = a
        · subst hb
          rw [e4] at e
          cases e
        · rcases S1.nw b o e with z | z
          · exact .inl z
          · exact .inr (by show upd fr.H0 a (.frz od (.dK ks)) b = none; rw [upd_ne hb]; exact z)
      · obtain ⟨v, k1, k2⟩ := S1.slot j s e
        refine ⟨v, k1, ?_⟩
        cases s with
        | val d => exact k2
        | own xs =>
          obtain ⟨b, ws, rfl, q1, q2, q3, q4⟩ := k2
          exact ⟨b, ws, rfl, q1, q2, q3, by show upd fr.H0 a (.frz od (.dK ks)) b = none; rw [upd_ne (fun z : b = a => n0 j (.lst e) (by rw [← z]; exact k1))]; exact q4⟩
        | obj ob =>
          obtain ⟨b, o, rfl, q1, q2, q3, q4⟩ := k2
          exact ⟨b, o, rfl, q1, q2, q3, by show upd fr.H0 a (.frz od (.dK ks)) b = none; rw [upd_ne (fun z : b = a => n0 j (.ob e) (by rw [← z]; exact k1))]; exact q4⟩
        | pool => exact k2
        | raw =>
          obtain ⟨m1, m2, m3, m4, m5⟩ := k2
          exact ⟨m1, m2, m3, by show upd fr.H0 a (.frz od (.dK ks)) c.gc = _; rw [upd_ne (ne_of_none m4 e5)]; exact m4, m5⟩
        | exc x =>
          obtain ⟨dd, y, m1, m2, m3, m4⟩ := k2
          exact ⟨dd, y, m1, m2, ⟨by show upd fr.H0 a (.frz od (.dK ks)) dd = _; rw [upd_ne (ne_of_none m3.1 e5)]; exact m3.1, m3.2⟩, m4⟩
        | ro kvs =>
          obtain ⟨b, ob, ks, m1, m2, m3⟩ := k2
          exact ⟨b, ob, ks, m1, by show upd fr.H0 a _ b = _; rw [upd_ne (ne_of_none m2 e5)]; exact m2, m3⟩
      · have pk := S1.pool
        cases hpl : (setSl τ i none).pl with
        | none => rw [hpl] at pk; exact pk
        | some pl =>
          obtain ⟨x, y, l⟩ := pl
          rw [hpl] at pk
          obtain ⟨p1, p2, q, q1, q2, q3, q4, q5, q6, q7⟩ := pk
          obtain ⟨n1, n2⟩ := ap _ _ q
          exact ⟨p1, p2, q, q1, q2, q3, q4, q5, by show upd fr.H0 a (.frz od (.dK ks)) p1 ≠ none; rw [upd_ne (Ne.symm n1)]; exact q6, by show upd fr.H0 a (.frz od (.dK ks)) p2 ≠ none; rw [upd_ne (Ne.symm n2)]; exact q7⟩
    have S3 := S2.slots (i := i) (s := some (.ro kvs)) (fun x q => by cases q; exact ⟨_, e1, a, od, ks, rfl, (show upd fr.H0 a _ a = _ from upd_same), ap, r⟩) (fun x q => by cases q; rfl)
    have es : setSl (setSl τ i none) i (some (.ro kvs)) = setSl τ i (some (.ro kvs)) := by simp [setSl]
    rw [es] at S3
    refine ⟨_, e1, a, od, rfl, .inl ⟨ks, upd_same, ?_⟩⟩
    have kl := ks_len r
    refine ⟨fun n m σ' H' => m = kvs.length - n ∧ n ≤ kvs.length ∧ ∃ τ' F', Same F F' ∧ Sat c (fr.resO a (.frz od (.dK ks))) τ' σ' H' F' ∧ PostS c W fr F' D (offOut (loop g b ((kvs.map fun kv : PyData × PyData => kv.1).drop n) τ')), ⟨kvs.length, by simp, Nat.zero_le _, _, F, Same.refl F, S3, q⟩, ?_⟩
    rintro n m σ' H' ⟨rfl, hn, τ', F', g', S', q'⟩
    obtain ⟨hH, hW⟩ := S'.walked f0 e5 S.poolH0 ap
    by_cases hlt : n < kvs.length
    · refine .inr ⟨⟨hH, by omega⟩, fun σ2 H2 => ∃ τ2 F2, Same F F2 ∧ Sat c (fr.resO a (.frz od (.dK ks))) τ2 σ2 H2 F2 ∧ PostS c W fr F2 D (offOut (loop g b ((kvs.map fun kv : PyData × PyData => kv.1).drop (n + 1)) τ2)), fun σ2 H2 z => ⟨kvs.length - (n + 1), by omega, rfl, hlt, z⟩, fun x H2 y => ?_⟩
      obtain ⟨rfl, k, v, hk, rfl⟩ := y
      have hd : (kvs.map fun kv : PyData × PyData => kv.1)[n]? = some ((kvs.map fun kv : PyData × PyData => kv.1)[n]'(by simpa using hlt)) := List.getElem?_eq_getElem _
      obtain ⟨j, w, hj, hjd⟩ := ks_key r hd
      rw [hk] at hj
      cases hj
      rw [List.drop_eq_getElem_cons (by simpa using hlt), hjd] at q'
      cases hgd : g (.int j) τ' with
      | none => simp only [loop, hgd] at q'; exact q'.elim
      | some τ2 =>
        simp only [loop, hgd] at q'
        refine ⟨_, τ', F', .int j, τ2, S', .int j, hgd, fun σ2 _ S4 => ⟨_, τ2, F', S4, ?_⟩⟩
        cases hbd : b τ2 with
        | nx t =>
          simp only [hbd] at q'
          exact fun σ3 H3 F3 g3 S5 => ⟨t, F3, g'.trans g3, S5, q'.grow g3⟩
        | cnt t =>
          simp only [hbd] at q'
          exact fun σ3 H3 F3 g3 S5 => ⟨t, F3, g'.trans g3, S5, q'.grow g3⟩
        | brk t =>
          simp only [hbd] at q'
          exact fun σ3 H3 F3 g3 S5 => by
            obtain ⟨k1, k2⟩ := S5.walked f0 e5 S.poolH0 ap
            exact ⟨k1, q' σ3 _ F3 g3 k2⟩
        | ret v t =>
          simp only [hbd] at q'
          cases v with
          | val d =>
            exact fun u σ3 H3 F3 g3 S5 ru => by
              obtain ⟨k1, k2⟩ := S5.walked f0 e5 S.poolH0 ap
              exact ⟨k1, q' u σ3 _ F3 g3 k2 ru⟩
          | fresh xs =>
            exact fun u σ3 H3 F3 g3 S5 ru => by
              obtain ⟨k1, k2⟩ := S5.walked f0 e5 S.poolH0 ap
              obtain ⟨b2, vs, rfl, h1, h2, h3, h4, h5⟩ := ru
              have nb : b2 ≠ a := fun z => by rw [z, k1] at h1; cases h1
              have h4 : upd fr.H0 a (.frz od (.dK ks)) b2 = none := h4
              rw [upd_ne nb] at h4
              refine ⟨k1, q' _ σ3 _ F3 g3 k2 ⟨b2, vs, rfl, by rw [upd_ne nb]; exact h1, h2, h3, h4, fun j ⟨z, hz, ho⟩ => h5 j ⟨z, (noRo_get hz).1, ho⟩⟩⟩
          | slot _ => exact q'.elim
          | pool => exact q'.elim
          | obj _ => exact q'.elim
          | junk => exact q'.elim
        | err cl x t => simp only [hbd] at q'; exact q'.elim
        | bad => simp only [hbd] at q'; exact q'.elim
    · have e : (kvs.map fun kv : PyData × PyData => kv.1).drop n = [] := List.drop_eq_nil_of_le (by simp; omega)
      rw [e] at q'
      exact .inl ⟨⟨hH, by omega⟩, hH, q' σ' _ F' (Same.refl F') hW⟩
  · exact q.elim
end
section
variable {X : Cx} {c : Cf} {es : List Expr} {pos : Pos} {gs : List Tg} {is : List Nat}
/-- a row of names takes a list apart -/
theorem tg_l {k : Nat} (hc : X.calm = true) (hK : X.K = c.K) (h : PGs X es (rdTgs c is gs)) (hn : (assignEach es X.env).length = gs.length := by rfl) (hst : (assignEach es X.env).findIdx? (·.1) = none := by rfl) : PG X (.Tuple es k pos) (rdTg c is (gL gs)) :=
  (pg_lst hc h hn hst).impN fun v σ H Q ⟨fr, τ, F, d, τ', S, hd, hg, q⟩ => by
    cases d with
    | list ds =>
      obtain ⟨a, vs, rfl, h1, h2⟩ := Dt.vw S.sub hd
      refine ⟨a, vs, rfl, ?_, ?_, fr, τ, F, ds, τ', S, h2, hg, q⟩
      · rw [hK]
        exact SqL.of h1
      · exact (dtAll_length h2).trans (gAll_len hg)
    | _ => cases hg
end
end N4
end
section
set_option Elab.async false
set_option linter.all false
set_option autoImplicit false
set_option maxRecDepth 100000
set_option maxHeartbeats 8000000
/-! The walk of law_k02_strays_and_meeting: printed by gen.py. -/
namespace K02
open PySem PySem.Spec PyProof.Rows L2 N4
def topS (i : Nat) : Stmt := PySem.Challenge.pw_neverfour_k02_strays_and_meeting.main.body.getD i (.Pass ⟨0, 0, 0, 0⟩)
abbrev s_is_number : Stmt := topS 8
abbrev s_is_between : Stmt := topS 9
abbrev s_is_tuple_of : Stmt := topS 10
abbrev s_is_state_form : Stmt := topS 11
abbrev s_wrong_form : Stmt := topS 12
abbrev s_states_met : Stmt := topS 13
abbrev s_first_stray : Stmt := topS 14
abbrev s_is_book : Stmt := topS 15
abbrev s_check_forms : Stmt := topS 16
abbrev s_made_book : Stmt := topS 17
abbrev s_by_meeting : Stmt := topS 18
abbrev s_trimmed : Stmt := topS 19
abbrev s__law_pool : Stmt := topS 21
abbrev s__law_draw : Stmt := topS 22
abbrev s__law_pick : Stmt := topS 23
abbrev s__law_turned : Stmt := topS 24
abbrev s__law_book_meeting : Stmt := topS 25
abbrev s__law_book_messages : Stmt := topS 26
abbrev s__law_book_drawn : Stmt := topS 27
abbrev s__law_book_renamed : Stmt := topS 28
abbrev s__law_heard : Stmt := topS 29
abbrev s__law_with_strays : Stmt := topS 30
abbrev s__law_by_rows : Stmt := topS 31
abbrev s__law_trimmed_right : Stmt := topS 32
abbrev s_law : Stmt := topS 33
structure Gn (mg : PySem.Str → Option Value) : Prop where
  b_ValueError : mg "ValueError" = none
  b_bool : mg "bool" = none
  b_enumerate : mg "enumerate" = none
  b_int : mg "int" = none
  b_isinstance : mg "isinstance" = none
  b_len : mg "len" = none
  b_list : mg "list" = none
  b_min : mg "min" = none
  b_range : mg "range" = none
  b_repr : mg "repr" = none
  b_sorted : mg "sorted" = none
  b_tuple : mg "tuple" = none
  c_MOST_MESSAGE : ∃ t, mg "MOST_MESSAGE" = some (.int (99) t)
  c_MOST_MOVES : ∃ t, mg "MOST_MOVES" = some (.int (5) t)
  c_MOST_STATES : ∃ t, mg "MOST_STATES" = some (.int (8) t)
structure Tx (P : Program) (w : World) (K : PySem.W.Frag) (mg : PySem.Str → Option Value) (base : Heap) (TT : List (Addr × PySem.Str)) (cls : String → Addr) : Prop where
  gn : Gn mg
  er : ErrT P w K mg base cls [("BadBook", "BadBook"), ("Stray", "Stray")]
  d_is_number : DefT K mg "is_number" s_is_number
  d_is_between : DefT K mg "is_between" s_is_between
  d_is_tuple_of : DefT K mg "is_tuple_of" s_is_tuple_of
  d_is_state_form : DefT K mg "is_state_form" s_is_state_form
  d_wrong_form : DefT K mg "wrong_form" s_wrong_form
  d_states_met : DefT K mg "states_met" s_states_met
  d_first_stray : DefT K mg "first_stray" s_first_stray
  d_is_book : DefT K mg "is_book" s_is_book
  d_check_forms : DefT K mg "check_forms" s_check_forms
  d_made_book : DefT K mg "made_book" s_made_book
  d_by_meeting : DefT K mg "by_meeting" s_by_meeting
  d_trimmed : DefT K mg "trimmed" s_trimmed
  d__law_pool : DefT K mg "_law_pool" s__law_pool
  d__law_draw : DefT K mg "_law_draw" s__law_draw
  d__law_pick : DefT K mg "_law_pick" s__law_pick
  d__law_turned : DefT K mg "_law_turned" s__law_turned
  d__law_book_meeting : DefT K mg "_law_book_meeting" s__law_book_meeting
  d__law_book_messages : DefT K mg "_law_book_messages" s__law_book_messages
  d__law_book_drawn : DefT K mg "_law_book_drawn" s__law_book_drawn
  d__law_book_renamed : DefT K mg "_law_book_renamed" s__law_book_renamed
  d__law_heard : DefT K mg "_law_heard" s__law_heard
  d__law_with_strays : DefT K mg "_law_with_strays" s__law_with_strays
  d__law_by_rows : DefT K mg "_law_by_rows" s__law_by_rows
  d__law_trimmed_right : DefL K mg base TT "_law_trimmed_right" s__law_trimmed_right
  d_law : DefL K mg base TT "law" s_law
  g_BadBook : mg "BadBook" = some (.ref (cls "BadBook"))
  g_Refused : mg "Refused" = some (.ref (cls "Refused"))
  g_Stray : mg "Stray" = some (.ref (cls "Stray"))
  x_BadBook : ∀ p ∈ [("BadBook", true), ("Stray", false)], PySem.W.exmOne K (.ref (cls p.1)) (.ref (cls "BadBook")) = some p.2
  x_Refused : ∀ p ∈ [("BadBook", true), ("Stray", true)], PySem.W.exmOne K (.ref (cls p.1)) (.ref (cls "Refused")) = some p.2
  x_Stray : ∀ p ∈ [("BadBook", false), ("Stray", true)], PySem.W.exmOne K (.ref (cls p.1)) (.ref (cls "Stray")) = some p.2
  k_Refused : ∀ e ∈ ["BadBook", "Stray"], PySem.W.kitOne K (.ref (cls e)) (.ref (cls "Refused")) = some true
  ec : ∀ e ∈ ["BadBook", "Stray"], ErrC K cls e
section
variable {P : Program} {w : World} {K : PySem.W.Frag} {mg : PySem.Str → Option Value} {base : Heap} {TT : List (Addr × PySem.Str)} {cls : String → Addr}
theorem sc__law_pool : FnScope ["script", "first", "size"] ["script"] (defScope s__law_pool) := ⟨rfl, rfl, rfl, by decide +kernel, rfl, by decide +kernel, by decide +kernel⟩
theorem sc_is_number : FnScope ["thing"] ["thing"] (defScope s_is_number) := ⟨rfl, rfl, rfl, by decide +kernel, rfl, by decide +kernel, by decide +kernel⟩
def b_is_number : SM := sRet (eAnd (eUn (oIsa .int) (eV 0)) (eNot (eUn (oIsa .bool) (eV 0))))
def sem_is_number : Fn := mkFn 1 1 b_is_number
theorem ok_is_number (T : Tx P w K mg base TT cls) : CallOk false P w K mg base (cfg K TT cls) 1 "is_number" ["thing"] sem_is_number :=
  CallOk.of (N := ["thing"]) (ps := ["thing"]) (k := 0) (b := b_is_number) T.d_is_number sc_is_number (fun _ _ _ _ _ _ us hl => match us, hl with | [_], _ => rfl) fun f cdv A outer s H E hr hgd hu tk hp => by
  exact (ss_one (s_ret (x_and (x_isi .int (x_v 0) rfl T.gn.b_isinstance T.gn.b_int) (x_one (x_not (x_isi .bool (x_v 0) rfl T.gn.b_isinstance T.gn.b_bool))))))
theorem sc_is_between : FnScope ["thing", "low", "high"] ["thing", "low", "high"] (defScope s_is_between) := ⟨rfl, rfl, rfl, by decide +kernel, rfl, by decide +kernel, by decide +kernel⟩
def b_is_between : SM := sRet (eAnd (eCall sem_is_number [eV 0]) (eChain oLe oLe (eV 1) (eV 0) (eV 2)))
def sem_is_between : Fn := mkFn 3 3 b_is_between
theorem ok_is_between (T : Tx P w K mg base TT cls) : CallOk false P w K mg base (cfg K TT cls) 2 "is_between" ["thing", "low", "high"] sem_is_between :=
  CallOk.of (N := ["thing", "low", "high"]) (ps := ["thing", "low", "high"]) (k := 1) (b := b_is_between) T.d_is_between sc_is_between (fun _ _ _ _ _ _ us hl => match us, hl with | [_, _, _], _ => rfl) fun f cdv A outer s H E hr hgd hu tk hp => by
  exact (ss_one (s_ret (x_and (x_ck (ok_is_number T) (hr.mono (by decide)) (fun z => nomatch z) tk (g_cons (x_v 0) g_nil)) (x_one (x_chain op_le ok_le op_le ok_le (x_v 1) (x_v 0) (x_v 2))))))
theorem sc_is_tuple_of : FnScope ["thing", "low", "high"] ["thing", "low", "high"] (defScope s_is_tuple_of) := ⟨rfl, rfl, rfl, by decide +kernel, rfl, by decide +kernel, by decide +kernel⟩
def b_is_tuple_of : SM := sRet (eAnd (eUn (oIsa .tuple) (eV 0)) (eChain oLe oLe (eV 1) (eBu bLen [eV 0]) (eV 2)))
def sem_is_tuple_of : Fn := mkFn 3 3 b_is_tuple_of
theorem ok_is_tuple_of (T : Tx P w K mg base TT cls) : CallOk false P w K mg base (cfg K TT cls) 1 "is_tuple_of" ["thing", "low", "high"] sem_is_tuple_of :=
  CallOk.of (N := ["thing", "low", "high"]) (ps := ["thing", "low", "high"]) (k := 0) (b := b_is_tuple_of) T.d_is_tuple_of sc_is_tuple_of (fun _ _ _ _ _ _ us hl => match us, hl with | [_, _, _], _ => rfl) fun f cdv A outer s H E hr hgd hu tk hp => by
  exact (ss_one (s_ret (x_and (x_isi .tuple (x_v 0) rfl T.gn.b_isinstance T.gn.b_tuple) (x_one (x_chain op_le ok_le op_le ok_le (x_v 1) (x_bu call_len_seq ok_len T.gn.b_len rfl (a_cons (x_v 0) a_nil)) (x_v 2))))))
def b_is_state_form_1 : SM := sSeq (sIf (N4.tOr (N4.tNot (tV (eCall sem_is_tuple_of [eV 3, eC (.int 2), eC (.int 2)]))) (N4.tNot (tV (eCall sem_is_between [eOp oIx (eV 3) (eC (.int 0)), eOp oAdd (eV 2) (eC (.int 1)), eC (.int 99)])))) (sRet (eC (.bool false))) (sNil))
    (sSeq (sIf (N4.tNot (tV (eCall sem_is_between [eOp oIx (eV 3) (eC (.int 1)), eC (.int 0), eOp oSub (eV 1) (eC (.int 1))]))) (sRet (eC (.bool false))) (sNil))
    (sSet 2 (eOp oIx (eV 3) (eC (.int 0)))))
theorem sc_is_state_form : FnScope ["thing", "states", "last", "move"] ["thing", "states"] (defScope s_is_state_form) := ⟨rfl, rfl, rfl, by decide +kernel, rfl, by decide +kernel, by decide +kernel⟩
def b_is_state_form : SM := sSeq (sIf (N4.tNot (tV (eCall sem_is_tuple_of [eV 0, eC (.int 0), eC (.int 5)]))) (sRet (eC (.bool false))) (sNil))
    (sSeq (sSet 2 (eUn oNeg (eC (.int 1))))
    (sSeq (sFor (iSeq (eV 0)) (gN 3) (b_is_state_form_1))
    (sRet (eC (.bool true)))))
def sem_is_state_form : Fn := mkFn 2 4 b_is_state_form
theorem ok_is_state_form (T : Tx P w K mg base TT cls) : CallOk false P w K mg base (cfg K TT cls) 3 "is_state_form" ["thing", "states"] sem_is_state_form :=
  CallOk.of (N := ["thing", "states", "last", "move"]) (ps := ["thing", "states"]) (k := 2) (b := b_is_state_form) T.d_is_state_form sc_is_state_form (fun _ _ _ _ _ _ us hl => match us, hl with | [_, _], _ => rfl) fun f cdv A outer s H E hr hgd hu tk hp => by
  exact (ss_cons (s_if (t_not (t_val (x_ck (ok_is_tuple_of T) (hr.mono (by decide)) (fun z => nomatch z) tk (g_cons (x_v 0) (g_cons x_int (g_cons (x_gc T.gn.c_MOST_MOVES) g_nil)))))) (ss_one (s_ret x_bl)) ss_nil)
    (ss_cons (s_set 2 (x_un un_neg ok_neg x_int) sc_is_state_form.nd)
    (ss_cons (s_for hp rfl (i_seq (x_v 0) rfl) (tg_n 3 sc_is_state_form.nd) (ss_cons (s_if (t_bo (w_or (t_not (t_val (x_ck (ok_is_tuple_of T) (hr.mono (by decide)) (fun z => nomatch z) tk (g_cons (x_v 3) (g_cons x_int (g_cons x_int g_nil)))))) (w_or1 (t_not (t_val (x_ck (ok_is_between T) (hr.mono (by decide)) (fun z => nomatch z) tk (g_cons (x_ix ix_N ok_ix (x_v 3) x_int) (g_cons (x_op op_addN ok_add (x_v 2) x_int) (g_cons (x_gc T.gn.c_MOST_MESSAGE) g_nil))))))))) (ss_one (s_ret x_bl)) ss_nil)
    (ss_cons (s_if (t_not (t_val (x_ck (ok_is_between T) (hr.mono (by decide)) (fun z => nomatch z) tk (g_cons (x_ix ix_N ok_ix (x_v 3) x_int) (g_cons x_int (g_cons (x_op op_sub ok_sub (x_v 1) x_int) g_nil)))))) (ss_one (s_ret x_bl)) ss_nil)
    (ss_one (s_set 2 (x_ix ix_N ok_ix (x_v 3) x_int) sc_is_state_form.nd)))))
    (ss_one (s_ret x_bl)))))
def b_wrong_form_1 : SM := sIf (N4.tNot (tV (eCall sem_is_state_form [eOp oIx (eV 0) (eV 1), eBu bLen [eV 0]]))) (sRet (eV 1)) (sNil)
theorem sc_wrong_form : FnScope ["thing", "state"] ["thing"] (defScope s_wrong_form) := ⟨rfl, rfl, rfl, by decide +kernel, rfl, by decide +kernel, by decide +kernel⟩
def b_wrong_form : SM := sSeq (sIf (N4.tNot (tV (eCall sem_is_tuple_of [eV 0, eC (.int 1), eC (.int 8)]))) (sRet (eUn oNeg (eC (.int 1)))) (sNil))
    (sSeq (sFor (iRng1 [eBu bLen [eV 0]]) (gN 1) (b_wrong_form_1))
    (sRet (eC .none)))
def sem_wrong_form : Fn := mkFn 1 2 b_wrong_form
theorem ok_wrong_form (T : Tx P w K mg base TT cls) : CallOk false P w K mg base (cfg K TT cls) 4 "wrong_form" ["thing"] sem_wrong_form :=
  CallOk.of (N := ["thing", "state"]) (ps := ["thing"]) (k := 3) (b := b_wrong_form) T.d_wrong_form sc_wrong_form (fun _ _ _ _ _ _ us hl => match us, hl with | [_], _ => rfl) fun f cdv A outer s H E hr hgd hu tk hp => by
  exact (ss_cons (s_if (t_not (t_val (x_ck (ok_is_tuple_of T) (hr.mono (by decide)) (fun z => nomatch z) tk (g_cons (x_v 0) (g_cons x_int (g_cons (x_gc T.gn.c_MOST_STATES) g_nil)))))) (ss_one (s_ret (x_un un_neg ok_neg x_int))) ss_nil)
    (ss_cons (s_for hp rfl (i_rng1 (a_cons (x_bu call_len_seq ok_len T.gn.b_len rfl (a_cons (x_v 0) a_nil)) a_nil) T.gn.b_range) (tg_n 1 sc_wrong_form.nd) (ss_one (s_if (t_not (t_val (x_ck (ok_is_state_form T) (hr.mono (by decide)) (fun z => nomatch z) tk (g_cons (x_ix ix_N ok_ix (x_v 0) (x_v 1)) (g_cons (x_bu call_len_seq ok_len T.gn.b_len rfl (a_cons (x_v 0) a_nil)) g_nil))))) (ss_one (s_ret (x_v 1))) ss_nil)))
    (ss_one (s_ret x_non))))
def b_states_met_1 : SM := sIf (tV (eOp oNotIn (eV 5) (eV 2))) (sApp 2 (eV 5)) (sNil)
def b_states_met_2 : SM := sSeq (sFor (iSeq (eOp oIx (eV 0) (eOp oIx (eV 2) (eV 3)))) (gT [gN 4, gN 5]) (b_states_met_1))
    (sSet 3 (eOp oAdd (eV 3) (eC (.int 1))))
theorem sc_states_met : FnScope ["moves", "start", "found", "at", "message", "to"] ["moves", "start"] (defScope s_states_met) := ⟨rfl, rfl, rfl, by decide +kernel, rfl, by decide +kernel, by decide +kernel⟩
def b_states_met : SM := sSeq (sPars [2, 3] [eLst [eV 1], eC (.int 0)])
    (sSeq (sWhile (tV (eOp oLt (eV 3) (eBu bLen [eV 2]))) (b_states_met_2))
    (sRet (eV 2)))
def sem_states_met : Fn := mkFn 2 6 b_states_met
theorem ok_states_met (T : Tx P w K mg base TT cls) : CallOk false P w K mg base (cfg K TT cls) 1 "states_met" ["moves", "start"] sem_states_met :=
  CallOk.of (N := ["moves", "start", "found", "at", "message", "to"]) (ps := ["moves", "start"]) (k := 0) (b := b_states_met) T.d_states_met sc_states_met (fun _ _ _ _ _ _ us hl => match us, hl with | [_, _], _ => rfl) fun f cdv A outer s H E hr hgd hu tk hp => by
  exact (ss_cons (s_par 2 3 (r_cons (x_lst (d_cons (x_v 1) d_nil)) (r_cons x_int r_nil)) rfl sc_states_met.nd)
    (ss_cons (s_while hp (t_cmp op_lt ok_lt (x_v 3) (x_bu call_len_seq ok_len T.gn.b_len rfl (a_cons (x_v 2) a_nil))) (ss_cons (s_for hp rfl (i_seq (x_ix ix_N ok_ix (x_v 0) (x_ix ix_N ok_ix (x_v 2) (x_v 3))) rfl) (tg_t rfl rfl (tgs_cons (tg_n 4 sc_states_met.nd) (tgs_cons (tg_n 5 sc_states_met.nd) tgs_nil))) (ss_one (s_if (t_cmp (op_notInN hu) ok_notin (x_v 5) (x_v 2)) (ss_one (s_app 2 (x_v 5))) ss_nil)))
    (ss_one (s_set 3 (x_op op_addN ok_add (x_v 3) x_int) sc_states_met.nd))))
    (ss_one (s_ret (x_v 2)))))
def b_first_stray_1 : SM := sIf (tV (eOp oNotIn (eV 2) (eV 1))) (sRet (eV 2)) (sNil)
theorem sc_first_stray : FnScope ["book", "come", "state"] ["book"] (defScope s_first_stray) := ⟨rfl, rfl, rfl, by decide +kernel, rfl, by decide +kernel, by decide +kernel⟩
def b_first_stray : SM := sSeq (sSet 1 (eCall sem_states_met [eV 0, eC (.int 0)]))
    (sSeq (sFor (iRng1 [eBu bLen [eV 0]]) (gN 2) (b_first_stray_1))
    (sRet (eC .none)))
def sem_first_stray : Fn := mkFn 1 3 b_first_stray
theorem ok_first_stray (T : Tx P w K mg base TT cls) : CallOk false P w K mg base (cfg K TT cls) 2 "first_stray" ["book"] sem_first_stray :=
  CallOk.of (N := ["book", "come", "state"]) (ps := ["book"]) (k := 1) (b := b_first_stray) T.d_first_stray sc_first_stray (fun _ _ _ _ _ _ us hl => match us, hl with | [_], _ => rfl) fun f cdv A outer s H E hr hgd hu tk hp => by
  exact (ss_cons (s_set 1 (x_ck (ok_states_met T) (hr.mono (by decide)) (fun z => nomatch z) tk (g_cons (x_v 0) (g_cons x_int g_nil))) sc_first_stray.nd)
    (ss_cons (s_for hp rfl (i_rng1 (a_cons (x_bu call_len_seq ok_len T.gn.b_len rfl (a_cons (x_v 0) a_nil)) a_nil) T.gn.b_range) (tg_n 2 sc_first_stray.nd) (ss_one (s_if (t_cmp (op_notInN hu) ok_notin (x_v 2) (x_v 1)) (ss_one (s_ret (x_v 2))) ss_nil)))
    (ss_one (s_ret x_non))))
theorem sc_is_book : FnScope ["thing"] ["thing"] (defScope s_is_book) := ⟨rfl, rfl, rfl, by decide +kernel, rfl, by decide +kernel, by decide +kernel⟩
def b_is_book : SM := sRet (eAnd (eOp oIsB (eCall sem_wrong_form [eV 0]) (eC .none)) (eOp oIsB (eCall sem_first_stray [eV 0]) (eC .none)))
def sem_is_book : Fn := mkFn 1 1 b_is_book
theorem ok_is_book (T : Tx P w K mg base TT cls) : CallOk false P w K mg base (cfg K TT cls) 5 "is_book" ["thing"] sem_is_book :=
  CallOk.of (N := ["thing"]) (ps := ["thing"]) (k := 4) (b := b_is_book) T.d_is_book sc_is_book (fun _ _ _ _ _ _ us hl => match us, hl with | [_], _ => rfl) fun f cdv A outer s H E hr hgd hu tk hp => by
  exact (ss_one (s_ret (x_and (x_cmp (op_isN.or op_isBl) ok_isB (x_ck (ok_wrong_form T) (hr.mono (by decide)) (fun z => nomatch z) tk (g_cons (x_v 0) g_nil)) x_non) (x_one (x_cmp (op_isN.or op_isBl) ok_isB (x_ck (ok_first_stray T) (hr.mono (by decide)) (fun z => nomatch z) tk (g_cons (x_v 0) g_nil)) x_non)))))
theorem sc_check_forms : FnScope ["thing", "wrong"] ["thing"] (defScope s_check_forms) := ⟨rfl, rfl, rfl, by decide +kernel, rfl, by decide +kernel, by decide +kernel⟩
def b_check_forms : SM := sSeq (sSet 1 (eCall sem_wrong_form [eV 0]))
    (sIf (tV (eOp oIsNotB (eV 1) (eC .none))) (sRaise "BadBook" (eV 1)) (sNil))
def sem_check_forms : Fn := mkFn 1 2 b_check_forms
theorem ok_check_forms (T : Tx P w K mg base TT cls) : CallOk false P w K mg base (cfg K TT cls) 5 "check_forms" ["thing"] sem_check_forms :=
  CallOk.of (N := ["thing", "wrong"]) (ps := ["thing"]) (k := 4) (b := b_check_forms) T.d_check_forms sc_check_forms (fun _ _ _ _ _ _ us hl => match us, hl with | [_], _ => rfl) fun f cdv A outer s H E hr hgd hu tk hp => by
  exact (ss_cons (s_set 1 (x_ck (ok_wrong_form T) (hr.mono (by decide)) (fun z => nomatch z) tk (g_cons (x_v 0) g_nil)) sc_check_forms.nd)
    (ss_one (s_if (t_cmp (op_notN.or op_notBl) ok_isnotB (x_v 1) x_non) (ss_one (s_rs "BadBook" T.er (by decide) rfl (hr.mono (by decide)) tk (x_v 1))) ss_nil)))
theorem sc_made_book : FnScope ["thing", "stray"] ["thing"] (defScope s_made_book) := ⟨rfl, rfl, rfl, by decide +kernel, rfl, by decide +kernel, by decide +kernel⟩
def b_made_book : SM := sSeq (sExpr (eCall sem_check_forms [eV 0]))
    (sSeq (sSet 1 (eCall sem_first_stray [eV 0]))
    (sSeq (sIf (tV (eOp oIsNotB (eV 1) (eC .none))) (sRaise "Stray" (eV 1)) (sNil))
    (sRet (eV 0))))
def sem_made_book : Fn := mkFn 1 2 b_made_book
theorem ok_made_book (T : Tx P w K mg base TT cls) : CallOk false P w K mg base (cfg K TT cls) 6 "made_book" ["thing"] sem_made_book :=
  CallOk.of (N := ["thing", "stray"]) (ps := ["thing"]) (k := 5) (b := b_made_book) T.d_made_book sc_made_book (fun _ _ _ _ _ _ us hl => match us, hl with | [_], _ => rfl) fun f cdv A outer s H E hr hgd hu tk hp => by
  exact (ss_cons (s_expr (x_ck (ok_check_forms T) (hr.mono (by decide)) (fun z => nomatch z) tk (g_cons (x_v 0) g_nil)))
    (ss_cons (s_set 1 (x_ck (ok_first_stray T) (hr.mono (by decide)) (fun z => nomatch z) tk (g_cons (x_v 0) g_nil)) sc_made_book.nd)
    (ss_cons (s_if (t_cmp (op_notN.or op_notBl) ok_isnotB (x_v 1) x_non) (ss_one (s_rs "Stray" T.er (by decide) rfl (hr.mono (by decide)) tk (x_v 1))) ss_nil)
    (ss_one (s_ret (x_v 0))))))
theorem sc_by_meeting : FnScope ["moves", "found", "state", "message", "to"] ["moves"] (defScope s_by_meeting) := ⟨rfl, rfl, rfl, by decide +kernel, rfl, by decide +kernel, by decide +kernel⟩
def b_by_meeting : SM := sSeq (sSet 1 (eCall sem_states_met [eV 0, eC (.int 0)]))
    (sRet (eBu bTuple [eLC [2] (iSeq (eV 1)) (gN 2) (mRet true) (eBu bTuple [eLC [3, 4] (iSeq (eOp oIx (eV 0) (eV 2))) (gT [gN 3, gN 4]) (mRet true) (eTup [eV 3, eLm bIndex (eV 1) [eV 4]])])]))
def sem_by_meeting : Fn := mkFn 1 5 b_by_meeting
theorem ok_by_meeting (T : Tx P w K mg base TT cls) : CallOk false P w K mg base (cfg K TT cls) 2 "by_meeting" ["moves"] sem_by_meeting :=
  CallOk.of (N := ["moves", "found", "state", "message", "to"]) (ps := ["moves"]) (k := 1) (b := b_by_meeting) T.d_by_meeting sc_by_meeting (fun _ _ _ _ _ _ us hl => match us, hl with | [_], _ => rfl) fun f cdv A outer s H E hr hgd hu tk hp => by
  exact (ss_cons (s_set 1 (x_ck (ok_states_met T) (hr.mono (by decide)) (fun z => nomatch z) tk (g_cons (x_v 0) (g_cons x_int g_nil))) sc_by_meeting.nd)
    (ss_one (s_ret (x_ty call_tuple_of ok_tuple T.gn.b_tuple rfl (a_cons (x_lc (is := [2]) (own := [("state", 2)]) (i_seq (x_v 1) rfl) (blkOk_by (by kernel_rfl)) (by decide) rfl sc_by_meeting.nd (fun _ _ _ _ _ => (tg_n 2 sc_by_meeting.nd)) (fun _ _ _ _ _ => ts_nil) (fun _ _ _ _ _ => (x_ty call_tuple_of ok_tuple T.gn.b_tuple rfl (a_cons (x_lc (is := [3, 4]) (own := [("message", 3), ("to", 4)]) (i_seq (x_ix ix_N ok_ix (x_v 0) (x_v 2)) rfl) (blkOk_by (by kernel_rfl)) (by decide) rfl sc_by_meeting.nd (fun _ _ _ _ _ => (tg_t rfl rfl (tgs_cons (tg_n 3 sc_by_meeting.nd) (tgs_cons (tg_n 4 sc_by_meeting.nd) tgs_nil)))) (fun _ _ _ _ _ => ts_nil) (fun _ _ _ _ _ => (x_tup (d_cons (x_v 3) (d_cons (x_index hu rfl (x_v 1) (a_cons (x_v 4) a_nil)) d_nil))))) a_nil)))) a_nil)))))
theorem sc_trimmed : FnScope ["thing"] ["thing"] (defScope s_trimmed) := ⟨rfl, rfl, rfl, by decide +kernel, rfl, by decide +kernel, by decide +kernel⟩
def b_trimmed : SM := sSeq (sExpr (eCall sem_check_forms [eV 0]))
    (sRet (eCall sem_by_meeting [eV 0]))
def sem_trimmed : Fn := mkFn 1 1 b_trimmed
theorem ok_trimmed (T : Tx P w K mg base TT cls) : CallOk false P w K mg base (cfg K TT cls) 6 "trimmed" ["thing"] sem_trimmed :=
  CallOk.of (N := ["thing"]) (ps := ["thing"]) (k := 5) (b := b_trimmed) T.d_trimmed sc_trimmed (fun _ _ _ _ _ _ us hl => match us, hl with | [_], _ => rfl) fun f cdv A outer s H E hr hgd hu tk hp => by
  exact (ss_cons (s_expr (x_ck (ok_check_forms T) (hr.mono (by decide)) (fun z => nomatch z) tk (g_cons (x_v 0) g_nil)))
    (ss_one (s_ret (x_ck (ok_by_meeting T) (hr.mono (by decide)) (fun z => nomatch z) tk (g_cons (x_v 0) g_nil)))))
theorem sc__law_draw : FnScope ["pool", "many", "cell", "size", "found"] ["pool", "many"] (defScope s__law_draw) := ⟨rfl, rfl, rfl, by decide +kernel, rfl, by decide +kernel, by decide +kernel⟩
def b__law_draw : SM := sSeq (sIf (N4.tAnd (tV (eOp oEq (eP0 0) (eC (.int 0)))) (tV (ePne 0))) (sSeq (sSet 2 (eBu bInt [ePpop 0]))
    (sSeq (sSet 3 (eIf (tV (eOp oGe (eV 2) (eC (.int 0)))) (eOp oTimes (eC (.int 2)) (eV 2)) (eOp oSub (eUn oNeg (eC (.int 1))) (eOp oTimes (eC (.int 2)) (eV 2)))))
    (sSeq (sP0 0 (eIf (tV (eOp oGe (eV 3) (eOp oPow (eC (.int 10)) (eC (.int 18))))) (eV 3) (eC (.int 0))))
    (sP1 0 (eOp oAdd (eOp oMod (eBu bInt [eOp oAdd (eP1 0) (eOp oTimes (eV 3) (eC (.int 69621)))]) (eC (.int 2147483629))) (eC (.int 3))))))) (sNil))
    (sSeq (sIf (tV (eOp oGt (eP0 0) (eC (.int 0)))) (sSeq (sSet 4 (eOp oMod (eBu bInt [eP0 0]) (eV 1)))
    (sSeq (sP0 0 (eOp oDiv (eP0 0) (eV 1)))
    (sRet (eV 4)))) (sNil))
    (sSeq (sP1 0 (eOp oMod (eBu bInt [eOp oAdd (eOp oTimes (eP1 0) (eC (.int 48271))) (eC (.int 11))]) (eC (.int 2147483647))))
    (sRet (eOp oMod (eOp oDiv (eOp oMod (eBu bInt [eOp oTimes (eP1 0) (eP1 0)]) (eC (.int 2147483629))) (eC (.int 32))) (eV 1)))))
def sem__law_draw : Fn := mkFn 2 5 b__law_draw
theorem ok__law_draw (T : Tx P w K mg base TT cls) : CallOk false P w K mg base (cfg K TT cls) 1 "_law_draw" ["pool", "many"] sem__law_draw :=
  CallOk.of (N := ["pool", "many", "cell", "size", "found"]) (ps := ["pool", "many"]) (k := 0) (b := b__law_draw) T.d__law_draw sc__law_draw (fun _ _ _ _ _ _ us hl => match us, hl with | [_, _], _ => rfl) fun f cdv A outer s H E hr hgd hu tk hp => by
  exact (ss_cons (s_if (t_bo (w_and (t_cmp (op_eqD (hu64 hu)) ok_eq (x_p0 0 rfl) x_int) (w_and1 (t_pne 0 (hu64 hu))))) (ss_cons (s_set 2 (x_ty call_int1 ok_int T.gn.b_int rfl (a_cons (x_ppop 0) a_nil)) sc__law_draw.nd)
    (ss_cons (s_set 3 (x_if (t_cmp op_ge ok_ge (x_v 2) x_int) (x_op op_times ok_times x_int (x_v 2)) (x_op op_sub ok_sub (x_un un_neg ok_neg x_int) (x_op op_times ok_times x_int (x_v 2)))) sc__law_draw.nd)
    (ss_cons (s_p0 0 (x_if (t_cmp op_ge ok_ge (x_v 3) (x_op op_pow ok_pow x_int x_int)) (x_v 3) x_int))
    (ss_one (s_p1 0 (x_op op_addN ok_add (x_op op_mod ok_mod (x_ty call_int1 ok_int T.gn.b_int rfl (a_cons (x_op op_addN ok_add (x_p1 0 rfl) (x_op op_times ok_times (x_v 3) x_int)) a_nil)) x_int) x_int)))))) ss_nil)
    (ss_cons (s_if (t_cmp op_gt ok_gt (x_p0 0 rfl) x_int) (ss_cons (s_set 4 (x_op op_mod ok_mod (x_ty call_int1 ok_int T.gn.b_int rfl (a_cons (x_p0 0 rfl) a_nil)) (x_v 1)) sc__law_draw.nd)
    (ss_cons (s_p0 0 (x_op op_fdiv ok_div (x_p0 0 rfl) (x_v 1)))
    (ss_one (s_ret (x_v 4))))) ss_nil)
    (ss_cons (s_p1 0 (x_op op_mod ok_mod (x_ty call_int1 ok_int T.gn.b_int rfl (a_cons (x_op op_addN ok_add (x_op op_times ok_times (x_p1 0 rfl) x_int) x_int) a_nil)) x_int))
    (ss_one (s_ret (x_op op_mod ok_mod (x_op op_fdiv ok_div (x_op op_mod ok_mod (x_ty call_int1 ok_int T.gn.b_int rfl (a_cons (x_op op_times ok_times (x_p1 0 rfl) (x_p1 0 rfl)) a_nil)) x_int) x_int) (x_v 1)))))))
theorem sc__law_pick : FnScope ["pool", "things"] ["pool", "things"] (defScope s__law_pick) := ⟨rfl, rfl, rfl, by decide +kernel, rfl, by decide +kernel, by decide +kernel⟩
def b__law_pick : SM := sRet (eOp oIx (eV 1) (eCall sem__law_draw [eV 0, eBu bLen [eV 1]]))
def sem__law_pick : Fn := mkFn 2 2 b__law_pick
theorem ok__law_pick (T : Tx P w K mg base TT cls) : CallOk false P w K mg base (cfg K TT cls) 2 "_law_pick" ["pool", "things"] sem__law_pick :=
  CallOk.of (N := ["pool", "things"]) (ps := ["pool", "things"]) (k := 1) (b := b__law_pick) T.d__law_pick sc__law_pick (fun _ _ _ _ _ _ us hl => match us, hl with | [_, _], _ => rfl) fun f cdv A outer s H E hr hgd hu tk hp => by
  exact (ss_one (s_ret (x_ix ix_N ok_ix (x_v 1) (x_ck (ok__law_draw T) (hr.mono (by decide)) (fun z => nomatch z) tk (g_cons (x_v 0) (g_cons (x_bu call_len_seq ok_len T.gn.b_len rfl (a_cons (x_v 1) a_nil)) g_nil))))))
def b__law_turned_1 : SM := sApp 3 (ePopAt 2 (eCall sem__law_draw [eV 0, eBu bLen [eV 2]]))
theorem sc__law_turned : FnScope ["pool", "many", "left", "found", "turn"] ["pool", "many"] (defScope s__law_turned) := ⟨rfl, rfl, rfl, by decide +kernel, rfl, by decide +kernel, by decide +kernel⟩
def b__law_turned : SM := sSeq (sPars [2, 3] [eLrng (eV 1), eLst []])
    (sSeq (sFor (iRng1 [eV 1]) (gN 4) (b__law_turned_1))
    (sRet (eV 3)))
def sem__law_turned : Fn := mkFn 2 5 b__law_turned
theorem ok__law_turned (T : Tx P w K mg base TT cls) : CallOk false P w K mg base (cfg K TT cls) 2 "_law_turned" ["pool", "many"] sem__law_turned :=
  CallOk.of (N := ["pool", "many", "left", "found", "turn"]) (ps := ["pool", "many"]) (k := 1) (b := b__law_turned) T.d__law_turned sc__law_turned (fun _ _ _ _ _ _ us hl => match us, hl with | [_, _], _ => rfl) fun f cdv A outer s H E hr hgd hu tk hp => by
  exact (ss_cons (s_par 2 3 (r_cons (x_lrng rfl T.gn.b_list T.gn.b_range (x_v 1)) (r_cons (x_lst d_nil) r_nil)) rfl sc__law_turned.nd)
    (ss_cons (s_for hp rfl (i_rng1 (a_cons (x_v 1) a_nil) T.gn.b_range) (tg_n 4 sc__law_turned.nd) (ss_one (s_app 3 (x_popAt 2 (x_ck (ok__law_draw T) (hr.mono (by decide)) (fun z => nomatch z) tk (g_cons (x_v 0) (g_cons (x_bu call_len_seq ok_len T.gn.b_len rfl (a_cons (x_v 2) a_nil)) g_nil)))))))
    (ss_one (s_ret (x_v 3)))))
def b__law_book_meeting_1 : SM := sIf (tV (eOp oNotIn (eV 4) (eV 1))) (sApp 1 (eV 4)) (sNil)
def b__law_book_meeting_2 : SM := sSeq (sIf (tV (eOp oEq (eV 2) (eBu bLen [eV 1]))) (sBrk) (sNil))
    (sFor (iSeq (eOp oIx (eV 0) (eOp oIx (eV 1) (eV 2)))) (gT [gN 3, gN 4]) (b__law_book_meeting_1))
theorem sc__law_book_meeting : FnScope ["moves", "found", "at", "message", "to", "state"] ["moves"] (defScope s__law_book_meeting) := ⟨rfl, rfl, rfl, by decide +kernel, rfl, by decide +kernel, by decide +kernel⟩
def b__law_book_meeting : SM := sSeq (sSet 1 (eLst [eC (.int 0)]))
    (sSeq (sFor (iRng1 [eBu bLen [eV 0]]) (gN 2) (b__law_book_meeting_2))
    (sRet (eBu bTuple [eLC [5] (iSeq (eV 1)) (gN 5) (mRet true) (eBu bTuple [eLC [3, 4] (iSeq (eOp oIx (eV 0) (eV 5))) (gT [gN 3, gN 4]) (mRet true) (eTup [eV 3, eLm bIndex (eV 1) [eV 4]])])])))
def sem__law_book_meeting : Fn := mkFn 1 6 b__law_book_meeting
theorem ok__law_book_meeting (T : Tx P w K mg base TT cls) : CallOk false P w K mg base (cfg K TT cls) 1 "_law_book_meeting" ["moves"] sem__law_book_meeting :=
  CallOk.of (N := ["moves", "found", "at", "message", "to", "state"]) (ps := ["moves"]) (k := 0) (b := b__law_book_meeting) T.d__law_book_meeting sc__law_book_meeting (fun _ _ _ _ _ _ us hl => match us, hl with | [_], _ => rfl) fun f cdv A outer s H E hr hgd hu tk hp => by
  exact (ss_cons (s_set 1 (x_lst (d_cons x_int d_nil)) sc__law_book_meeting.nd)
    (ss_cons (s_for hp rfl (i_rng1 (a_cons (x_bu call_len_seq ok_len T.gn.b_len rfl (a_cons (x_v 0) a_nil)) a_nil) T.gn.b_range) (tg_n 2 sc__law_book_meeting.nd) (ss_cons (s_if (t_cmp (op_eqD (hu64 hu)) ok_eq (x_v 2) (x_bu call_len_seq ok_len T.gn.b_len rfl (a_cons (x_v 1) a_nil))) (ss_one s_brk) ss_nil)
    (ss_one (s_for hp rfl (i_seq (x_ix ix_N ok_ix (x_v 0) (x_ix ix_N ok_ix (x_v 1) (x_v 2))) rfl) (tg_t rfl rfl (tgs_cons (tg_n 3 sc__law_book_meeting.nd) (tgs_cons (tg_n 4 sc__law_book_meeting.nd) tgs_nil))) (ss_one (s_if (t_cmp (op_notInN hu) ok_notin (x_v 4) (x_v 1)) (ss_one (s_app 1 (x_v 4))) ss_nil))))))
    (ss_one (s_ret (x_ty call_tuple_of ok_tuple T.gn.b_tuple rfl (a_cons (x_lc (is := [5]) (own := [("state", 5)]) (i_seq (x_v 1) rfl) (blkOk_by (by kernel_rfl)) (by decide) rfl sc__law_book_meeting.nd (fun _ _ _ _ _ => (tg_n 5 sc__law_book_meeting.nd)) (fun _ _ _ _ _ => ts_nil) (fun _ _ _ _ _ => (x_ty call_tuple_of ok_tuple T.gn.b_tuple rfl (a_cons (x_lc (is := [3, 4]) (own := [("message", 3), ("to", 4)]) (i_seq (x_ix ix_N ok_ix (x_v 0) (x_v 5)) rfl) (blkOk_by (by kernel_rfl)) (by decide) rfl sc__law_book_meeting.nd (fun _ _ _ _ _ => (tg_t rfl rfl (tgs_cons (tg_n 3 sc__law_book_meeting.nd) (tgs_cons (tg_n 4 sc__law_book_meeting.nd) tgs_nil)))) (fun _ _ _ _ _ => ts_nil) (fun _ _ _ _ _ => (x_tup (d_cons (x_v 3) (d_cons (x_index hu rfl (x_v 1) (a_cons (x_v 4) a_nil)) d_nil))))) a_nil)))) a_nil))))))
def b__law_book_messages_1 : SM := sApp 5 (ePopAt 4 (eIf (tV (eOp oLt (eV 2) (eC (.int 3)))) (eCall sem__law_draw [eV 0, eBu bLen [eV 4]]) (eOp oSub (eOp oSub (eBu bLen [eV 4]) (eC (.int 1))) (eCall sem__law_draw [eV 0, eC (.int 3)]))))
theorem sc__law_book_messages : FnScope ["pool", "count", "way", "top", "left", "found", "turn"] ["pool", "count"] (defScope s__law_book_messages) := ⟨rfl, rfl, rfl, by decide +kernel, rfl, by decide +kernel, by decide +kernel⟩
def b__law_book_messages : SM := sSeq (sSet 2 (eCall sem__law_draw [eV 0, eC (.int 4)]))
    (sSeq (sSet 3 (eOp oIx (eLst [eV 1, eV 1, eBu bMin2 [eOp oAdd (eV 1) (eC (.int 2)), eC (.int 6)], eC (.int 100)]) (eV 2)))
    (sSeq (sPars [4, 5] [eLrng (eV 3), eLst []])
    (sSeq (sFor (iRng1 [eV 1]) (gN 6) (b__law_book_messages_1))
    (sRet (eBu bSorted [eV 5])))))
def sem__law_book_messages : Fn := mkFn 2 7 b__law_book_messages
theorem ok__law_book_messages (T : Tx P w K mg base TT cls) : CallOk false P w K mg base (cfg K TT cls) 2 "_law_book_messages" ["pool", "count"] sem__law_book_messages :=
  CallOk.of (N := ["pool", "count", "way", "top", "left", "found", "turn"]) (ps := ["pool", "count"]) (k := 1) (b := b__law_book_messages) T.d__law_book_messages sc__law_book_messages (fun _ _ _ _ _ _ us hl => match us, hl with | [_, _], _ => rfl) fun f cdv A outer s H E hr hgd hu tk hp => by
  exact (ss_cons (s_set 2 (x_ck (ok__law_draw T) (hr.mono (by decide)) (fun z => nomatch z) tk (g_cons (x_v 0) (g_cons x_int g_nil))) sc__law_book_messages.nd)
    (ss_cons (s_set 3 (x_ix ix_N ok_ix (x_lst (d_cons (x_v 1) (d_cons (x_v 1) (d_cons (x_bu (call_min2 rfl) ok_min2 T.gn.b_min rfl (a_cons (x_op op_addN ok_add (x_v 1) x_int) (a_cons x_int a_nil))) (d_cons x_int d_nil))))) (x_v 2)) sc__law_book_messages.nd)
    (ss_cons (s_par 4 5 (r_cons (x_lrng rfl T.gn.b_list T.gn.b_range (x_v 3)) (r_cons (x_lst d_nil) r_nil)) rfl sc__law_book_messages.nd)
    (ss_cons (s_for hp rfl (i_rng1 (a_cons (x_v 1) a_nil) T.gn.b_range) (tg_n 6 sc__law_book_messages.nd) (ss_one (s_app 5 (x_popAt 4 (x_if (t_cmp op_lt ok_lt (x_v 2) x_int) (x_ck (ok__law_draw T) (hr.mono (by decide)) (fun z => nomatch z) tk (g_cons (x_v 0) (g_cons (x_bu call_len_seq ok_len T.gn.b_len rfl (a_cons (x_v 4) a_nil)) g_nil))) (x_op op_sub ok_sub (x_op op_sub ok_sub (x_bu call_len_seq ok_len T.gn.b_len rfl (a_cons (x_v 4) a_nil)) x_int) (x_ck (ok__law_draw T) (hr.mono (by decide)) (fun z => nomatch z) tk (g_cons (x_v 0) (g_cons x_int g_nil)))))))))
    (ss_one (s_ret (x_bu cr_sortedI ok_sorted T.gn.b_sorted rfl (a_cons (x_v 5) a_nil))))))))
def b__law_book_drawn_1 : SM := sSeq (sSet 10 (eCall sem__law_draw [eV 0, eV 3]))
    (sSeq (sIf (N4.tAnd (tV (eOp oGt (eV 4) (eC (.int 3)))) (tV (eOp oLt (eV 6) (eOp oSub (eV 3) (eC (.int 1)))))) (sSet 10 (eOp oAdd (eOp oAdd (eV 6) (eC (.int 1))) (eCall sem__law_draw [eV 0, eOp oSub (eOp oSub (eV 3) (eC (.int 1))) (eV 6)]))) (sNil))
    (sApp 8 (eTup [eV 9, eV 10])))
def b__law_book_drawn_2 : SM := sSeq (sSet 7 (eCall sem__law_pick [eV 0, eLst [eC (.int 1), eC (.int 1), eC (.int 2), eC (.int 2), eBu bMin2 [eC (.int 2), eV 2], eCall sem__law_draw [eV 0, eOp oAdd (eV 2) (eC (.int 1))]]]))
    (sSeq (sIf (N4.tAnd (tV (eOp oGt (eV 4) (eC (.int 3)))) (tV (eOp oEq (eV 6) (eOp oSub (eV 3) (eC (.int 1)))))) (sSet 7 (eC (.int 0))) (sNil))
    (sSeq (sSet 8 (eLst []))
    (sSeq (sFor (iSeq (eCall sem__law_book_messages [eV 0, eBu bMin2 [eV 7, eV 2]])) (gN 9) (b__law_book_drawn_1))
    (sSeq (sIf (N4.tAnd (tV (eOp oGt (eV 4) (eC (.int 1)))) (tV (eOp oNe (eV 8) (eLst [])))) (sSeq (sSet 11 (eCall sem__law_draw [eV 0, eBu bLen [eV 8]]))
    (sPut 8 (eV 11) (eTup [eOp oIx (eOp oIx (eV 8) (eV 11)) (eC (.int 0)), eIf (tV (eOp oLt (eV 4) (eC (.int 4)))) (eOp oMod (eBu bInt [eOp oAdd (eV 6) (eC (.int 1))]) (eV 3)) (eBu bMin2 [eOp oAdd (eV 6) (eC (.int 1)), eOp oSub (eV 3) (eC (.int 1))])]))) (sNil))
    (sApp 5 (eV 8))))))
theorem sc__law_book_drawn : FnScope ["pool", "states", "most", "size", "way", "moves", "state", "count", "told", "message", "to", "at"] ["pool", "states", "most"] (defScope s__law_book_drawn) := ⟨rfl, rfl, rfl, by decide +kernel, rfl, by decide +kernel, by decide +kernel⟩
def b__law_book_drawn : SM := sSeq (sPars [3, 4, 5] [eOp oAdd (eC (.int 1)) (eCall sem__law_draw [eV 0, eV 1]), eCall sem__law_draw [eV 0, eC (.int 6)], eLst []])
    (sSeq (sFor (iRng1 [eV 3]) (gN 6) (b__law_book_drawn_2))
    (sRet (eCall sem__law_book_meeting [eV 5])))
def sem__law_book_drawn : Fn := mkFn 3 12 b__law_book_drawn
theorem ok__law_book_drawn (T : Tx P w K mg base TT cls) : CallOk false P w K mg base (cfg K TT cls) 3 "_law_book_drawn" ["pool", "states", "most"] sem__law_book_drawn :=
  CallOk.of (N := ["pool", "states", "most", "size", "way", "moves", "state", "count", "told", "message", "to", "at"]) (ps := ["pool", "states", "most"]) (k := 2) (b := b__law_book_drawn) T.d__law_book_drawn sc__law_book_drawn (fun _ _ _ _ _ _ us hl => match us, hl with | [_, _, _], _ => rfl) fun f cdv A outer s H E hr hgd hu tk hp => by
  exact (ss_cons (s_par3 3 4 5 (r_cons (x_op op_addN ok_add x_int (x_ck (ok__law_draw T) (hr.mono (by decide)) (fun z => nomatch z) tk (g_cons (x_v 0) (g_cons (x_v 1) g_nil)))) (r_cons (x_ck (ok__law_draw T) (hr.mono (by decide)) (fun z => nomatch z) tk (g_cons (x_v 0) (g_cons x_int g_nil))) (r_cons (x_lst d_nil) r_nil))) rfl sc__law_book_drawn.nd)
    (ss_cons (s_for hp rfl (i_rng1 (a_cons (x_v 3) a_nil) T.gn.b_range) (tg_n 6 sc__law_book_drawn.nd) (ss_cons (s_set 7 (x_ck (ok__law_pick T) (hr.mono (by decide)) (fun z => nomatch z) tk (g_cons (x_v 0) (g_cons (x_lst (d_cons x_int (d_cons x_int (d_cons x_int (d_cons x_int (d_cons (x_bu (call_min2 rfl) ok_min2 T.gn.b_min rfl (a_cons x_int (a_cons (x_v 2) a_nil))) (d_cons (x_ck (ok__law_draw T) (hr.mono (by decide)) (fun z => nomatch z) tk (g_cons (x_v 0) (g_cons (x_op op_addN ok_add (x_v 2) x_int) g_nil))) d_nil))))))) g_nil))) sc__law_book_drawn.nd)
    (ss_cons (s_if (t_bo (w_and (t_cmp op_gt ok_gt (x_v 4) x_int) (w_and1 (t_cmp (op_eqD (hu64 hu)) ok_eq (x_v 6) (x_op op_sub ok_sub (x_v 3) x_int))))) (ss_one (s_set 7 x_int sc__law_book_drawn.nd)) ss_nil)
    (ss_cons (s_set 8 (x_lst d_nil) sc__law_book_drawn.nd)
    (ss_cons (s_for hp rfl (i_seq (x_ck (ok__law_book_messages T) (hr.mono (by decide)) (fun z => nomatch z) tk (g_cons (x_v 0) (g_cons (x_bu (call_min2 rfl) ok_min2 T.gn.b_min rfl (a_cons (x_v 7) (a_cons (x_v 2) a_nil))) g_nil))) rfl) (tg_n 9 sc__law_book_drawn.nd) (ss_cons (s_set 10 (x_ck (ok__law_draw T) (hr.mono (by decide)) (fun z => nomatch z) tk (g_cons (x_v 0) (g_cons (x_v 3) g_nil))) sc__law_book_drawn.nd)
    (ss_cons (s_if (t_bo (w_and (t_cmp op_gt ok_gt (x_v 4) x_int) (w_and1 (t_cmp op_lt ok_lt (x_v 6) (x_op op_sub ok_sub (x_v 3) x_int))))) (ss_one (s_set 10 (x_op op_addN ok_add (x_op op_addN ok_add (x_v 6) x_int) (x_ck (ok__law_draw T) (hr.mono (by decide)) (fun z => nomatch z) tk (g_cons (x_v 0) (g_cons (x_op op_sub ok_sub (x_op op_sub ok_sub (x_v 3) x_int) (x_v 6)) g_nil)))) sc__law_book_drawn.nd)) ss_nil)
    (ss_one (s_app 8 (x_tup (d_cons (x_v 9) (d_cons (x_v 10) d_nil))))))))
    (ss_cons (s_if (t_bo (w_and (t_cmp op_gt ok_gt (x_v 4) x_int) (w_and1 (t_cmp (op_neD (hu64 hu)) ok_ne (x_v 8) (x_lst d_nil))))) (ss_cons (s_set 11 (x_ck (ok__law_draw T) (hr.mono (by decide)) (fun z => nomatch z) tk (g_cons (x_v 0) (g_cons (x_bu call_len_seq ok_len T.gn.b_len rfl (a_cons (x_v 8) a_nil)) g_nil))) sc__law_book_drawn.nd)
    (ss_one (s_put 8 (x_tup (d_cons (x_ix ix_N ok_ix (x_ix ix_N ok_ix (x_v 8) (x_v 11)) x_int) (d_cons (x_if (t_cmp op_lt ok_lt (x_v 4) x_int) (x_op op_mod ok_mod (x_ty call_int1 ok_int T.gn.b_int rfl (a_cons (x_op op_addN ok_add (x_v 6) x_int) a_nil)) (x_v 3)) (x_bu (call_min2 rfl) ok_min2 T.gn.b_min rfl (a_cons (x_op op_addN ok_add (x_v 6) x_int) (a_cons (x_op op_sub ok_sub (x_v 3) x_int) a_nil)))) d_nil))) (x_v 11)))) ss_nil)
    (ss_one (s_app 5 (x_v 8)))))))))
    (ss_one (s_ret (x_ck (ok__law_book_meeting T) (hr.mono (by decide)) (fun z => nomatch z) tk (g_cons (x_v 5) g_nil))))))
def b__law_book_renamed_1 : SM := sPut 3 (eOp oIx (eV 2) (eV 4)) (eBu bTuple [eLC [7, 8] (iSeq (eV 5)) (gT [gN 7, gN 8]) (mRet true) (eTup [eV 7, eOp oIx (eV 2) (eV 8)])])
theorem sc__law_book_renamed : FnScope ["pool", "book", "names", "found", "state", "moves", "at", "message", "to"] ["pool", "book"] (defScope s__law_book_renamed) := ⟨rfl, rfl, rfl, by decide +kernel, rfl, by decide +kernel, by decide +kernel⟩
def b__law_book_renamed : SM := sSeq (sSet 2 (eOp oAdd (eLst [eC (.int 0)]) (eLC [6] (iSeq (eCall sem__law_turned [eV 0, eOp oSub (eBu bLen [eV 1]) (eC (.int 1))])) (gN 6) (mRet true) (eOp oAdd (eC (.int 1)) (eV 6)))))
    (sSeq (sSet 3 (eOp oTimes (eLst [eTup []]) (eBu bLen [eV 1])))
    (sSeq (sFor (iEnum (eV 1)) (gT [gN 4, gN 5]) (b__law_book_renamed_1))
    (sRet (eLst [eBu bTuple [eV 3], eV 2]))))
def sem__law_book_renamed : Fn := mkFn 2 9 b__law_book_renamed
theorem ok__law_book_renamed (T : Tx P w K mg base TT cls) : CallOk false P w K mg base (cfg K TT cls) 3 "_law_book_renamed" ["pool", "book"] sem__law_book_renamed :=
  CallOk.of (N := ["pool", "book", "names", "found", "state", "moves", "at", "message", "to"]) (ps := ["pool", "book"]) (k := 2) (b := b__law_book_renamed) T.d__law_book_renamed sc__law_book_renamed (fun _ _ _ _ _ _ us hl => match us, hl with | [_, _], _ => rfl) fun f cdv A outer s H E hr hgd hu tk hp => by
  exact (ss_cons (s_set 2 (x_op op_addN ok_add (x_lst (d_cons x_int d_nil)) (x_lc (is := [6]) (own := [("at", 6)]) (i_seq (x_ck (ok__law_turned T) (hr.mono (by decide)) (fun z => nomatch z) tk (g_cons (x_v 0) (g_cons (x_op op_sub ok_sub (x_bu call_len_seq ok_len T.gn.b_len rfl (a_cons (x_v 1) a_nil)) x_int) g_nil))) rfl) (blkOk_by (by kernel_rfl)) (by decide) rfl sc__law_book_renamed.nd (fun _ _ _ _ _ => (tg_n 6 sc__law_book_renamed.nd)) (fun _ _ _ _ _ => ts_nil) (fun _ _ _ _ _ => (x_op op_addN ok_add x_int (x_v 6))))) sc__law_book_renamed.nd)
    (ss_cons (s_set 3 (x_op op_times ok_times (x_lst (d_cons (x_tup d_nil) d_nil)) (x_bu call_len_seq ok_len T.gn.b_len rfl (a_cons (x_v 1) a_nil))) sc__law_book_renamed.nd)
    (ss_cons (s_for hp rfl (i_enum rfl T.gn.b_enumerate (x_v 1)) (tg_t rfl rfl (tgs_cons (tg_n 4 sc__law_book_renamed.nd) (tgs_cons (tg_n 5 sc__law_book_renamed.nd) tgs_nil))) (ss_one (s_put 3 (x_ty call_tuple_of ok_tuple T.gn.b_tuple rfl (a_cons (x_lc (is := [7, 8]) (own := [("message", 7), ("to", 8)]) (i_seq (x_v 5) rfl) (blkOk_by (by kernel_rfl)) (by decide) rfl sc__law_book_renamed.nd (fun _ _ _ _ _ => (tg_t rfl rfl (tgs_cons (tg_n 7 sc__law_book_renamed.nd) (tgs_cons (tg_n 8 sc__law_book_renamed.nd) tgs_nil)))) (fun _ _ _ _ _ => ts_nil) (fun _ _ _ _ _ => (x_tup (d_cons (x_v 7) (d_cons (x_ix ix_N ok_ix (x_v 2) (x_v 8)) d_nil))))) a_nil)) (x_ix ix_N ok_ix (x_v 2) (x_v 4)))))
    (ss_one (s_ret (x_lst (d_cons (x_ty call_tuple_of ok_tuple T.gn.b_tuple rfl (a_cons (x_v 3) a_nil)) (d_cons (x_v 2) d_nil))))))))
theorem sc__law_heard : FnScope ["call", "error", "found"] ["call"] (defScope s__law_heard) := ⟨rfl, rfl, rfl, by decide +kernel, rfl, by decide +kernel, by decide +kernel⟩
def b__law_heard (act : N4.Act) : SM := sSeq (sTry 3 (sRet (eTup [eC (.str "told"), eAct act])) [⟨fun cl => [("BadBook", true), ("Stray", false)].lookup cl, some 1, fun _ => sSet 2 (eTup [eC (.str "BadBook"), eWhat 1, eAnd (eIsE 1 true) (eIsE 1 true)])⟩, ⟨fun cl => [("BadBook", false), ("Stray", true)].lookup cl, some 1, fun _ => sSet 2 (eTup [eC (.str "Stray"), eWhat 1, eAnd (eIsE 1 true) (eIsE 1 true)])⟩, ⟨fun cl => [("BadBook", true), ("Stray", true)].lookup cl, none, fun _ => sSet 2 (eTup [eC (.str "another"), eC (.int 0), eC (.bool true)])⟩])
    (sRet (eV 2))
def sem__law_heard : N4.Act → N4.Act := semH 3 b__law_heard
theorem hb__law_heard (T : Tx P w K mg base TT cls) {A : Around} {stk : List Env} {g : Addr} {cdg : Value} {s : Shared} {H : Hp} {f c' : Addr} {q : PySem.Str} {F : Hp} {pa : Option (Addr × Addr)} {act : N4.Act} (hgd : true = true → A.guards = some []) (hu0 : A.units + 100 < cLine)
    (hact : ∀ (W : WX) (pn : List (Addr × Obj)) (xe : Value → Shared → Prop) (p1 p2 : Pos), Takes ((cxOf C8.CX0 P w K mg base ["call", "error", "found"] "_law_heard" (defScope s__law_heard) g cdg A stk s H C8.E0).tr pn xe) W → PE ((cxOf C8.CX0 P w K mg base ["call", "error", "found"] "_law_heard" (defScope s__law_heard) g cdg A stk s H C8.E0).tr pn xe) (.Call (.Name "call" p1) [] [] p2) (rdE ((cfg K TT cls).lam f c' q F pa) W (eAct act))) :
    PSs (cxOf C8.CX0 P w K mg base ["call", "error", "found"] "_law_heard" (defScope s__law_heard) g cdg A stk s H C8.E0).nox (defBody s__law_heard) (rdS ((cfg K TT cls).lam f c' q F pa) W0 (b__law_heard act)) := by
  have hu : (A.deeper (envOfC "_law_heard" (defScope s__law_heard) s.heap.objs.size g cdg)).units + 65 < cLine := by show A.units + 3 + 65 < cLine; omega
  exact (ss_cons (s_try rfl rfl sc__law_heard.nd LamX.takes0 (fun W pn xe tk _ => (ss_one (s_ret (x_tup (d_cons x_str (d_cons (hact _ _ _ _ _ tk) d_nil)))))) (HdN.named (i := 1) (hit := fun cl => [("BadBook", true), ("Stray", false)].lookup cl) ⟨rfl, by decide, .inl T.g_BadBook⟩ rfl rfl (fun cl b h => look_all (P := fun e b => PySem.W.exmOne K (.ref (cls e)) (.ref (cls "BadBook")) = some b) T.x_BadBook h) (fun a dd oe cl pn hcl hz hf => (fun (hE : ErrC K cls cl) => (ss_one (s_set 2 (x_tup (d_cons x_str (d_cons (x_what 1 hE.xf hE.no hz hf) (d_cons (x_and (x_isE 1 true hE.ic hz hf (T.k_Refused _ (look_mem hcl)) (pe_glob (v := .ref (cls "Refused")) (by rfl) T.g_Refused rfl) (fun w z => z) T.gn.b_isinstance) (x_one (x_isE 1 true hE.ic hz hf hE.ve (pe_bltn (v := .ty "ValueError") (by rfl) T.gn.b_ValueError (by rfl) rfl) (fun w z => z) T.gn.b_isinstance))) d_nil)))) sc__law_heard.nd))) (T.ec cl (look_mem hcl))) (HdN.named (i := 1) (hit := fun cl => [("BadBook", false), ("Stray", true)].lookup cl) ⟨rfl, by decide, .inl T.g_Stray⟩ rfl rfl (fun cl b h => look_all (P := fun e b => PySem.W.exmOne K (.ref (cls e)) (.ref (cls "Stray")) = some b) T.x_Stray h) (fun a dd oe cl pn hcl hz hf => (fun (hE : ErrC K cls cl) => (ss_one (s_set 2 (x_tup (d_cons x_str (d_cons (x_what 1 hE.xf hE.no hz hf) (d_cons (x_and (x_isE 1 true hE.ic hz hf (T.k_Refused _ (look_mem hcl)) (pe_glob (v := .ref (cls "Refused")) (by rfl) T.g_Refused rfl) (fun w z => z) T.gn.b_isinstance) (x_one (x_isE 1 true hE.ic hz hf hE.ve (pe_bltn (v := .ty "ValueError") (by rfl) T.gn.b_ValueError (by rfl) rfl) (fun w z => z) T.gn.b_isinstance))) d_nil)))) sc__law_heard.nd))) (T.ec cl (look_mem hcl))) (HdN.bare (hit := fun cl => [("BadBook", true), ("Stray", true)].lookup cl) ⟨rfl, by decide, .inl T.g_Refused⟩ (fun cl b h => look_all (P := fun e b => PySem.W.exmOne K (.ref (cls e)) (.ref (cls "Refused")) = some b) T.x_Refused h) (fun a oe cl pn hcl => (ss_one (s_set 2 (x_tup (d_cons x_str (d_cons x_int (d_cons x_bl d_nil)))) sc__law_heard.nd))) HdN.nil))))
    (ss_one (s_ret (x_v 2))))
def b__law_with_strays_1 : SM := sPut 4 (eOp oIx (eV 3) (eV 5)) (eBu bTuple [eLC [9, 10] (iSeq (eV 6)) (gT [gN 9, gN 10]) (mRet true) (eTup [eV 9, eOp oIx (eV 3) (eV 10)])])
def b__law_with_strays_2 : SM := sSeq (sSet 7 (eCall sem__law_book_messages [eV 0, eCall sem__law_draw [eV 0, eC (.int 3)]]))
    (sPut 4 (eOp oIx (eV 3) (eV 5)) (eBu bTuple [eLC [9] (iSeq (eV 7)) (gN 9) (mRet true) (eTup [eV 9, eCall sem__law_draw [eV 0, eV 2]])]))
theorem sc__law_with_strays : FnScope ["pool", "book", "size", "order", "found", "state", "moves", "some", "at", "message", "to"] ["pool", "book"] (defScope s__law_with_strays) := ⟨rfl, rfl, rfl, by decide +kernel, rfl, by decide +kernel, by decide +kernel⟩
def b__law_with_strays : SM := sSeq (sSet 2 (eOp oAdd (eBu bLen [eV 1]) (eCall sem__law_draw [eV 0, eBu bMin2 [eC (.int 4), eOp oSub (eC (.int 9)) (eBu bLen [eV 1])]])))
    (sSeq (sSet 3 (eOp oAdd (eLst [eC (.int 0)]) (eLC [8] (iSeq (eCall sem__law_turned [eV 0, eOp oSub (eV 2) (eC (.int 1))])) (gN 8) (mRet true) (eOp oAdd (eC (.int 1)) (eV 8)))))
    (sSeq (sSet 4 (eOp oTimes (eLst [eTup []]) (eV 2)))
    (sSeq (sFor (iEnum (eV 1)) (gT [gN 5, gN 6]) (b__law_with_strays_1))
    (sSeq (sFor (iRng2 [eBu bLen [eV 1], eV 2]) (gN 5) (b__law_with_strays_2))
    (sRet (eLst [eBu bTuple [eV 4], eBu bSorted [eSl (eV 3) (some (eBu bLen [eV 1])) none]]))))))
def sem__law_with_strays : Fn := mkFn 2 11 b__law_with_strays
theorem ok__law_with_strays (T : Tx P w K mg base TT cls) : CallOk false P w K mg base (cfg K TT cls) 3 "_law_with_strays" ["pool", "book"] sem__law_with_strays :=
  CallOk.of (N := ["pool", "book", "size", "order", "found", "state", "moves", "some", "at", "message", "to"]) (ps := ["pool", "book"]) (k := 2) (b := b__law_with_strays) T.d__law_with_strays sc__law_with_strays (fun _ _ _ _ _ _ us hl => match us, hl with | [_, _], _ => rfl) fun f cdv A outer s H E hr hgd hu tk hp => by
  exact (ss_cons (s_set 2 (x_op op_addN ok_add (x_bu call_len_seq ok_len T.gn.b_len rfl (a_cons (x_v 1) a_nil)) (x_ck (ok__law_draw T) (hr.mono (by decide)) (fun z => nomatch z) tk (g_cons (x_v 0) (g_cons (x_bu (call_min2 rfl) ok_min2 T.gn.b_min rfl (a_cons x_int (a_cons (x_op op_sub ok_sub x_int (x_bu call_len_seq ok_len T.gn.b_len rfl (a_cons (x_v 1) a_nil))) a_nil))) g_nil)))) sc__law_with_strays.nd)
    (ss_cons (s_set 3 (x_op op_addN ok_add (x_lst (d_cons x_int d_nil)) (x_lc (is := [8]) (own := [("at", 8)]) (i_seq (x_ck (ok__law_turned T) (hr.mono (by decide)) (fun z => nomatch z) tk (g_cons (x_v 0) (g_cons (x_op op_sub ok_sub (x_v 2) x_int) g_nil))) rfl) (blkOk_by (by kernel_rfl)) (by decide) rfl sc__law_with_strays.nd (fun _ _ _ _ _ => (tg_n 8 sc__law_with_strays.nd)) (fun _ _ _ _ _ => ts_nil) (fun _ _ _ _ _ => (x_op op_addN ok_add x_int (x_v 8))))) sc__law_with_strays.nd)
    (ss_cons (s_set 4 (x_op op_times ok_times (x_lst (d_cons (x_tup d_nil) d_nil)) (x_v 2)) sc__law_with_strays.nd)
    (ss_cons (s_for hp rfl (i_enum rfl T.gn.b_enumerate (x_v 1)) (tg_t rfl rfl (tgs_cons (tg_n 5 sc__law_with_strays.nd) (tgs_cons (tg_n 6 sc__law_with_strays.nd) tgs_nil))) (ss_one (s_put 4 (x_ty call_tuple_of ok_tuple T.gn.b_tuple rfl (a_cons (x_lc (is := [9, 10]) (own := [("message", 9), ("to", 10)]) (i_seq (x_v 6) rfl) (blkOk_by (by kernel_rfl)) (by decide) rfl sc__law_with_strays.nd (fun _ _ _ _ _ => (tg_t rfl rfl (tgs_cons (tg_n 9 sc__law_with_strays.nd) (tgs_cons (tg_n 10 sc__law_with_strays.nd) tgs_nil)))) (fun _ _ _ _ _ => ts_nil) (fun _ _ _ _ _ => (x_tup (d_cons (x_v 9) (d_cons (x_ix ix_N ok_ix (x_v 3) (x_v 10)) d_nil))))) a_nil)) (x_ix ix_N ok_ix (x_v 3) (x_v 5)))))
    (ss_cons (s_for hp rfl (i_rng2 (a_cons (x_bu call_len_seq ok_len T.gn.b_len rfl (a_cons (x_v 1) a_nil)) (a_cons (x_v 2) a_nil)) T.gn.b_range) (tg_n 5 sc__law_with_strays.nd) (ss_cons (s_set 7 (x_ck (ok__law_book_messages T) (hr.mono (by decide)) (fun z => nomatch z) tk (g_cons (x_v 0) (g_cons (x_ck (ok__law_draw T) (hr.mono (by decide)) (fun z => nomatch z) tk (g_cons (x_v 0) (g_cons x_int g_nil))) g_nil))) sc__law_with_strays.nd)
    (ss_one (s_put 4 (x_ty call_tuple_of ok_tuple T.gn.b_tuple rfl (a_cons (x_lc (is := [9]) (own := [("message", 9)]) (i_seq (x_v 7) rfl) (blkOk_by (by kernel_rfl)) (by decide) rfl sc__law_with_strays.nd (fun _ _ _ _ _ => (tg_n 9 sc__law_with_strays.nd)) (fun _ _ _ _ _ => ts_nil) (fun _ _ _ _ _ => (x_tup (d_cons (x_v 9) (d_cons (x_ck (ok__law_draw T) (hr.mono (by decide)) (fun z => nomatch z) LamX.takes0 (g_cons (x_v 0) (g_cons (x_v 2) g_nil))) d_nil))))) a_nil)) (x_ix ix_N ok_ix (x_v 3) (x_v 5))))))
    (ss_one (s_ret (x_lst (d_cons (x_ty call_tuple_of ok_tuple T.gn.b_tuple rfl (a_cons (x_v 4) a_nil)) (d_cons (x_bu cr_sortedI ok_sorted T.gn.b_sorted rfl (a_cons (x_sl rfl (x_v 3) (o_some (x_bu call_len_seq ok_len T.gn.b_len rfl (a_cons (x_v 1) a_nil))) o_none) a_nil)) d_nil))))))))))
def b__law_by_rows_1 : SM := sIf (tV (eDIn true (eV 7) 1)) (sSeq (sDPutN 1 (eV 7) (eDLen 1))
    (sApp 4 (eV 7))) (sNil)
def b__law_by_rows_2 : SM := sFor (iSeq (eOp oIx (eV 0) (eV 5))) (gT [gN 6, gN 7]) (b__law_by_rows_1)
def b__law_by_rows_3 : SM := sSeq (sSet 4 (eLst []))
    (sSeq (sFor (iSeq (eV 2)) (gN 5) (b__law_by_rows_2))
    (sSet 2 (eV 4)))
def b__law_by_rows_4 : SM := sPut 8 (eDGet 1 (eV 5)) (eBu bTuple [eLC [6, 7] (iSeq (eOp oIx (eV 0) (eV 5))) (gT [gN 6, gN 7]) (mRet true) (eTup [eV 6, eDGet 1 (eV 7)])])
theorem sc__law_by_rows : FnScope ["book", "names", "level", "turn", "ahead", "state", "message", "to", "found"] ["book"] (defScope s__law_by_rows) := ⟨rfl, rfl, rfl, by decide +kernel, rfl, by decide +kernel, by decide +kernel⟩
def b__law_by_rows : SM := sSeq (sPars [1, 2] [eD1 (eC (.int 0)) (eC (.int 0)), eLst [eC (.int 0)]])
    (sSeq (sFor (iRng1 [eBu bLen [eV 0]]) (gN 3) (b__law_by_rows_3))
    (sSeq (sSet 8 (eOp oTimes (eLst [eTup []]) (eDLen 1)))
    (sSeq (sForD 1 (gN 5) (b__law_by_rows_4))
    (sRet (eBu bTuple [eV 8])))))
def sem__law_by_rows : Fn := mkFn 1 9 b__law_by_rows
theorem ok__law_by_rows (T : Tx P w K mg base TT cls) : CallOk false P w K mg base (cfg K TT cls) 1 "_law_by_rows" ["book"] sem__law_by_rows :=
  CallOk.of (N := ["book", "names", "level", "turn", "ahead", "state", "message", "to", "found"]) (ps := ["book"]) (k := 0) (b := b__law_by_rows) T.d__law_by_rows sc__law_by_rows (fun _ _ _ _ _ _ us hl => match us, hl with | [_], _ => rfl) fun f cdv A outer s H E hr hgd hu tk hp => by
  exact (ss_cons (s_parT 1 2 (r_cons (x_d1 x_int x_int) (r_cons (x_lst (d_cons x_int d_nil)) r_nil)) rfl rfl sc__law_by_rows.nd)
    (ss_cons (s_for hp rfl (i_rng1 (a_cons (x_bu call_len_seq ok_len T.gn.b_len rfl (a_cons (x_v 0) a_nil)) a_nil) T.gn.b_range) (tg_n 3 sc__law_by_rows.nd) (ss_cons (s_set 4 (x_lst d_nil) sc__law_by_rows.nd)
    (ss_cons (s_for hp rfl (i_seq (x_v 2) rfl) (tg_n 5 sc__law_by_rows.nd) (ss_one (s_for hp rfl (i_seq (x_ix ix_N ok_ix (x_v 0) (x_v 5)) rfl) (tg_t rfl rfl (tgs_cons (tg_n 6 sc__law_by_rows.nd) (tgs_cons (tg_n 7 sc__law_by_rows.nd) tgs_nil))) (ss_one (s_if (t_dnin 1 hu (x_v 7)) (ss_cons (s_dput 1 hu (x_dlen 1 T.gn.b_len) (x_v 7))
    (ss_one (s_app 4 (x_v 7)))) ss_nil)))))
    (ss_one (s_set 2 (x_v 4) sc__law_by_rows.nd)))))
    (ss_cons (s_set 8 (x_op op_times ok_times (x_lst (d_cons (x_tup d_nil) d_nil)) (x_dlen 1 T.gn.b_len)) sc__law_by_rows.nd)
    (ss_cons (s_forD 1 hp rfl (tg_n 5 sc__law_by_rows.nd) (ss_one (s_put 8 (x_ty call_tuple_of ok_tuple T.gn.b_tuple rfl (a_cons (x_lc (is := [6, 7]) (own := [("message", 6), ("to", 7)]) (i_seq (x_ix ix_N ok_ix (x_v 0) (x_v 5)) rfl) (blkOk_by (by kernel_rfl)) (by decide) rfl sc__law_by_rows.nd (fun _ _ _ _ _ => (tg_t rfl rfl (tgs_cons (tg_n 6 sc__law_by_rows.nd) (tgs_cons (tg_n 7 sc__law_by_rows.nd) tgs_nil)))) (fun _ _ _ _ _ => ts_nil) (fun _ _ _ _ _ => (x_tup (d_cons (x_v 6) (d_cons (x_dget 1 hu (x_v 7)) d_nil))))) a_nil)) (x_dget 1 hu (x_v 5)))))
    (ss_one (s_ret (x_ty call_tuple_of ok_tuple T.gn.b_tuple rfl (a_cons (x_v 8) a_nil))))))))
theorem sc__law_trimmed_right : FnScope ["book", "strays", "due", "told"] ["book", "strays"] (defScope s__law_trimmed_right) := ⟨rfl, rfl, rfl, by decide +kernel, rfl, by decide +kernel, by decide +kernel⟩
def b__law_trimmed_right : SM := sSeq (sSet 2 (eIf (tV (eOp oEq (eV 1) (eLst []))) (eTup [eC (.str "told"), eV 0]) (eTup [eC (.str "Stray"), eOp oIx (eV 1) (eC (.int 0)), eC (.bool true)])))
    (sSeq (sIf (N4.tOr (tV (eOp oNe (eBu bRepr [eHeard [0] sem__law_heard (eCall sem_made_book [eV 0])]) (eBu bRepr [eV 2]))) (tV (eOp oNe (eBu bRepr [eCall sem_is_book [eV 0]]) (eBu bRepr [eOp oEq (eV 1) (eLst [])])))) (sRet (eC (.bool false))) (sNil))
    (sSeq (sSet 3 (eCall sem_trimmed [eV 0]))
    (sSeq (sIf (N4.tOr (tV (eOp oNe (eBu bRepr [eV 3]) (eBu bRepr [eCall sem__law_by_rows [eV 0]]))) (tV (eOp oNe (eBu bRepr [eCall sem_trimmed [eV 3]]) (eBu bRepr [eV 3])))) (sRet (eC (.bool false))) (sNil))
    (sRet (eOp oIsB (eCall sem_is_book [eV 3]) (eC (.bool true)))))))
def sem__law_trimmed_right : Fn := mkFn 2 4 b__law_trimmed_right
theorem ok__law_trimmed_right (T : Tx P w K mg base TT cls) : CallOk true P w K mg base (cfg K TT cls) 9 "_law_trimmed_right" ["book", "strays"] sem__law_trimmed_right :=
  CallOk.ofL (N := ["book", "strays", "due", "told"]) (ps := ["book", "strays"]) (k := 8) (b := b__law_trimmed_right) T.d__law_trimmed_right sc__law_trimmed_right (fun _ _ _ _ _ _ us hl => match us, hl with | [_, _], _ => rfl) fun f cR hL A outer s H E hr hgd hu tk hp => by
  exact (ss_cons (s_set 2 (x_if (t_cmp (op_eqD (hu64 hu)) ok_eq (x_v 1) (x_lst d_nil)) (x_tup (d_cons x_str (d_cons (x_v 0) d_nil))) (x_tup (d_cons x_str (d_cons (x_ix ix_N ok_ix (x_v 1) x_int) (d_cons x_bl d_nil))))) sc__law_trimmed_right.nd)
    (ss_cons (s_if (t_bo (w_or (t_cmp (op_neD (hu64 hu)) ok_ne (x_bu (cr_repr (hgd rfl) hu) ok_repr T.gn.b_repr rfl (a_cons (x_heard (x := "_law_heard") (a := "call") (st := s__law_heard) (Ng := ["call", "error", "found"]) (b := b__law_heard) (k := 6) (caps := [0]) T.d__law_heard sc__law_heard (by decide) rfl (Or.inl rfl) (fun _ _ _ _ _ _ us hl => match us, hl with | [_], _ => rfl) (fun g cdg s H f c' F pa act hact => hb__law_heard T hgd (hu0 hr) hact) hL rfl rfl (hr.mono (by decide)) (LamX.lamS_by (by kernel_rfl)) rfl (fun _ _ _ _ _ => rfl) (fun _ _ _ _ _ _ _ hr tkL => (x_ck (ok_made_book T) (hr.mono (by decide)) (fun z => nomatch z) tkL (g_cons (x_v 0) g_nil)))) a_nil)) (x_bu (cr_repr (hgd rfl) hu) ok_repr T.gn.b_repr rfl (a_cons (x_v 2) a_nil))) (w_or1 (t_cmp (op_neD (hu64 hu)) ok_ne (x_bu (cr_repr (hgd rfl) hu) ok_repr T.gn.b_repr rfl (a_cons (x_ck (ok_is_book T) (hr.mono (by decide)) (fun z => nomatch z) tk (g_cons (x_v 0) g_nil)) a_nil)) (x_bu (cr_repr (hgd rfl) hu) ok_repr T.gn.b_repr rfl (a_cons (x_cmp (op_eqD (hu64 hu)) ok_eq (x_v 1) (x_lst d_nil)) a_nil)))))) (ss_one (s_ret x_bl)) ss_nil)
    (ss_cons (s_set 3 (x_ck (ok_trimmed T) (hr.mono (by decide)) (fun z => nomatch z) tk (g_cons (x_v 0) g_nil)) sc__law_trimmed_right.nd)
    (ss_cons (s_if (t_bo (w_or (t_cmp (op_neD (hu64 hu)) ok_ne (x_bu (cr_repr (hgd rfl) hu) ok_repr T.gn.b_repr rfl (a_cons (x_v 3) a_nil)) (x_bu (cr_repr (hgd rfl) hu) ok_repr T.gn.b_repr rfl (a_cons (x_ck (ok__law_by_rows T) (hr.mono (by decide)) (fun z => nomatch z) tk (g_cons (x_v 0) g_nil)) a_nil))) (w_or1 (t_cmp (op_neD (hu64 hu)) ok_ne (x_bu (cr_repr (hgd rfl) hu) ok_repr T.gn.b_repr rfl (a_cons (x_ck (ok_trimmed T) (hr.mono (by decide)) (fun z => nomatch z) tk (g_cons (x_v 3) g_nil)) a_nil)) (x_bu (cr_repr (hgd rfl) hu) ok_repr T.gn.b_repr rfl (a_cons (x_v 3) a_nil)))))) (ss_one (s_ret x_bl)) ss_nil)
    (ss_one (s_ret (x_cmp (op_isN.or op_isBl) ok_isB (x_ck (ok_is_book T) (hr.mono (by decide)) (fun z => nomatch z) tk (g_cons (x_v 3) g_nil)) x_bl)))))))
def b_law_1 : SM := sSeq (sTgt (gL [gN 4, gN 5]) (eCall sem__law_with_strays [eV 1, eV 2]))
    (sIf (N4.tNot (tV (eCall sem__law_trimmed_right [eV 4, eV 5]))) (sRet (eC (.bool false))) (sNil))
theorem sc_law : FnScope ["script", "pool", "book", "turn", "thing", "strays", "at", "odd", "bent", "none"] ["script"] (defScope s_law) := ⟨rfl, rfl, rfl, by decide +kernel, rfl, by decide +kernel, by decide +kernel⟩
def b_law : SM := sSeq (sIf (tV (eOp oNe (eCall sem_trimmed [eTup [eTup [eTup [eC (.int 5), eC (.int 2)]], eTup [eTup [eC (.int 0), eC (.int 0)]], eTup [eTup [eC (.int 3), eC (.int 2)], eTup [eC (.int 4), eC (.int 0)]]]]) (eTup [eTup [eTup [eC (.int 5), eC (.int 1)]], eTup [eTup [eC (.int 3), eC (.int 1)], eTup [eC (.int 4), eC (.int 0)]]]))) (sRet (eC (.bool false))) (sNil))
    (sSeq (sIf (N4.tOr (tV (eOp oNe (eCall sem_trimmed [eTup [eTup [], eTup [eTup [eC (.int 7), eC (.int 0)], eTup [eC (.int 9), eC (.int 1)]]]]) (eTup [eTup []]))) (tV (eOp oNe (eCall sem_trimmed [eOp oAdd (eTup [eTup [eTup [eC (.int 0), eC (.int 0)]]]) (eOp oTimes (eTup [eTup []]) (eC (.int 7)))]) (eTup [eTup [eTup [eC (.int 0), eC (.int 0)]]])))) (sRet (eC (.bool false))) (sNil))
    (sSeq (sSet 2 (eCall sem__law_book_drawn [eV 1, eC (.int 5), eC (.int 3)]))
    (sSeq (sFor (iRng1 [eC (.int 3)]) (gN 3) (b_law_1))
    (sSeq (sIf (N4.tNot (tV (eCall sem__law_trimmed_right [eOp oIx (eCall sem__law_book_renamed [eV 1, eV 2]) (eC (.int 0)), eLst []]))) (sRet (eC (.bool false))) (sNil))
    (sSeq (sSet 6 (eCall sem__law_draw [eV 1, eBu bLen [eV 4]]))
    (sSeq (sSet 7 (eCall sem__law_pick [eV 1, eLst [eC .none, eC (.int 0), eTup [eC .none], eTup [eTup [eC (.int 0)]], eTup [eTup [eC (.int 1), eC (.int 0)], eTup [eC (.int 0), eC (.int 0)]], eTup [eTup [eC (.int 0), eBu bLen [eV 4]]], eTup [eTup [eC (.int 100), eC (.int 0)]], eTup [eTup [eC (.bool true), eC (.int 0)]], eTup [eTup [eC (.int 0), eUn oNeg (eC (.int 1))]]]]))
    (sSeq (sSet 8 (eOp oAdd (eOp oAdd (eSl (eV 4) none (some (eV 6))) (eTup [eV 7])) (eSl (eV 4) (some (eOp oAdd (eV 6) (eC (.int 1)))) none)))
    (sSeq (sIf (tV (eOp oNe (eBu bRepr [eHeard [8] sem__law_heard (eCall sem_trimmed [eV 8])]) (eBu bRepr [eTup [eC (.str "BadBook"), eV 6, eC (.bool true)]]))) (sRet (eC (.bool false))) (sNil))
    (sSeq (sIf (N4.tOr (tV (eOp oNe (eBu bRepr [eHeard [8] sem__law_heard (eCall sem_made_book [eV 8])]) (eBu bRepr [eTup [eC (.str "BadBook"), eV 6, eC (.bool true)]]))) (tV (eOp oIsNotB (eCall sem_is_book [eV 8]) (eC (.bool false))))) (sRet (eC (.bool false))) (sNil))
    (sSeq (sSet 9 (eCall sem__law_pick [eV 1, eLst [eC .none, eTup [], eOp oTimes (eTup [eTup []]) (eC (.int 9)), eC (.int 3), eC (.bool true), eC (.str "book")]]))
    (sRet (eOp oEq (eBu bRepr [eHeard [9] sem__law_heard (eCall sem_trimmed [eV 9])]) (eBu bRepr [eTup [eC (.str "BadBook"), eUn oNeg (eC (.int 1)), eC (.bool true)]])))))))))))))
abbrev lawN : List PySem.Str := ["script", "pool", "book", "turn", "thing", "strays", "at", "odd", "bent", "none"]
abbrev lawK : Nat := 9
theorem wk_law (T : Tx P w K mg base TT cls) {f : Addr} {cR : Addr} (hL : LamAt TT mg base "law" s_law f cR) {A : Around} {outer : List Env} {s : Shared} {H : Hp} {E : XK} (hr : Room lawK (A.deeper (envOfC "law" (defScope s_law) s.heap.objs.size f (.ref cR)))) (hgd : true = true → A.guards = some []) :
    PSs (cxOf (L2.CX P w) P w K mg base lawN "law" (defScope s_law) f (.ref cR) A outer s H E) (defBody s_law).tail (rdS (cfg K TT cls) (fun cl d _ H => E cl d H) b_law) := by
  have hu : (A.deeper (envOfC "law" (defScope s_law) s.heap.objs.size f (.ref cR))).units + 65 < cLine := by have := hr.un; omega
  have tk : Takes (cxOf (L2.CX P w) P w K mg base lawN "law" (defScope s_law) f (.ref cR) A outer s H E) (fun cl d _ H => E cl d H) := takes_of rfl rfl rfl rfl
  have hp : PassesOwn (model P w) (A.deeper (envOfC "law" (defScope s_law) s.heap.objs.size f (.ref cR))) (envOfC "law" (defScope s_law) s.heap.objs.size f (.ref cR)) (cxOf (L2.CX P w) P w K mg base lawN "law" (defScope s_law) f (.ref cR) A outer s H E).xe := passes_of rfl
  exact (ss_cons (s_if (t_cmp (op_neD (hu64 hu)) ok_ne (x_ck (ok_trimmed T) (hr.mono (by decide)) (fun z => nomatch z) tk (g_cons (x_tup (d_cons (x_tup (d_cons (x_tup (d_cons x_int (d_cons x_int d_nil))) d_nil)) (d_cons (x_tup (d_cons (x_tup (d_cons x_int (d_cons x_int d_nil))) d_nil)) (d_cons (x_tup (d_cons (x_tup (d_cons x_int (d_cons x_int d_nil))) (d_cons (x_tup (d_cons x_int (d_cons x_int d_nil))) d_nil))) d_nil)))) g_nil)) (x_tup (d_cons (x_tup (d_cons (x_tup (d_cons x_int (d_cons x_int d_nil))) d_nil)) (d_cons (x_tup (d_cons (x_tup (d_cons x_int (d_cons x_int d_nil))) (d_cons (x_tup (d_cons x_int (d_cons x_int d_nil))) d_nil))) d_nil)))) (ss_one (s_ret x_bl)) ss_nil)
    (ss_cons (s_if (t_bo (w_or (t_cmp (op_neD (hu64 hu)) ok_ne (x_ck (ok_trimmed T) (hr.mono (by decide)) (fun z => nomatch z) tk (g_cons (x_tup (d_cons (x_tup d_nil) (d_cons (x_tup (d_cons (x_tup (d_cons x_int (d_cons x_int d_nil))) (d_cons (x_tup (d_cons x_int (d_cons x_int d_nil))) d_nil))) d_nil))) g_nil)) (x_tup (d_cons (x_tup d_nil) d_nil))) (w_or1 (t_cmp (op_neD (hu64 hu)) ok_ne (x_ck (ok_trimmed T) (hr.mono (by decide)) (fun z => nomatch z) tk (g_cons (x_op op_addN ok_add (x_tup (d_cons (x_tup (d_cons (x_tup (d_cons x_int (d_cons x_int d_nil))) d_nil)) d_nil)) (x_op op_times ok_times (x_tup (d_cons (x_tup d_nil) d_nil)) x_int)) g_nil)) (x_tup (d_cons (x_tup (d_cons (x_tup (d_cons x_int (d_cons x_int d_nil))) d_nil)) d_nil)))))) (ss_one (s_ret x_bl)) ss_nil)
    (ss_cons (s_set 2 (x_ck (ok__law_book_drawn T) (hr.mono (by decide)) (fun z => nomatch z) tk (g_cons (x_v 1) (g_cons x_int (g_cons x_int g_nil)))) sc_law.nd)
    (ss_cons (s_for hp rfl (i_rng1 (a_cons x_int a_nil) T.gn.b_range) (tg_n 3 sc_law.nd) (ss_cons (s_tgt (x_ck (ok__law_with_strays T) (hr.mono (by decide)) (fun z => nomatch z) tk (g_cons (x_v 1) (g_cons (x_v 2) g_nil))) (tg_l rfl rfl (tgs_cons (tg_n 4 sc_law.nd) (tgs_cons (tg_n 5 sc_law.nd) tgs_nil))))
    (ss_one (s_if (t_not (t_val (x_ck (ok__law_trimmed_right T) (hr.mono (by decide)) hgd tk (g_cons (x_v 4) (g_cons (x_v 5) g_nil))))) (ss_one (s_ret x_bl)) ss_nil))))
    (ss_cons (s_if (t_not (t_val (x_ck (ok__law_trimmed_right T) (hr.mono (by decide)) hgd tk (g_cons (x_ix ix_N ok_ix (x_ck (ok__law_book_renamed T) (hr.mono (by decide)) (fun z => nomatch z) tk (g_cons (x_v 1) (g_cons (x_v 2) g_nil))) x_int) (g_cons (x_lst d_nil) g_nil))))) (ss_one (s_ret x_bl)) ss_nil)
    (ss_cons (s_set 6 (x_ck (ok__law_draw T) (hr.mono (by decide)) (fun z => nomatch z) tk (g_cons (x_v 1) (g_cons (x_bu call_len_seq ok_len T.gn.b_len rfl (a_cons (x_v 4) a_nil)) g_nil))) sc_law.nd)
    (ss_cons (s_set 7 (x_ck (ok__law_pick T) (hr.mono (by decide)) (fun z => nomatch z) tk (g_cons (x_v 1) (g_cons (x_lst (d_cons x_non (d_cons x_int (d_cons (x_tup (d_cons x_non d_nil)) (d_cons (x_tup (d_cons (x_tup (d_cons x_int d_nil)) d_nil)) (d_cons (x_tup (d_cons (x_tup (d_cons x_int (d_cons x_int d_nil))) (d_cons (x_tup (d_cons x_int (d_cons x_int d_nil))) d_nil))) (d_cons (x_tup (d_cons (x_tup (d_cons x_int (d_cons (x_bu call_len_seq ok_len T.gn.b_len rfl (a_cons (x_v 4) a_nil)) d_nil))) d_nil)) (d_cons (x_tup (d_cons (x_tup (d_cons x_int (d_cons x_int d_nil))) d_nil)) (d_cons (x_tup (d_cons (x_tup (d_cons x_bl (d_cons x_int d_nil))) d_nil)) (d_cons (x_tup (d_cons (x_tup (d_cons x_int (d_cons (x_un un_neg ok_neg x_int) d_nil))) d_nil)) d_nil)))))))))) g_nil))) sc_law.nd)
    (ss_cons (s_set 8 (x_op op_addN ok_add (x_op op_addN ok_add (x_sl rfl (x_v 4) o_none (o_some (x_v 6))) (x_tup (d_cons (x_v 7) d_nil))) (x_sl rfl (x_v 4) (o_some (x_op op_addN ok_add (x_v 6) x_int)) o_none)) sc_law.nd)
    (ss_cons (s_if (t_cmp (op_neD (hu64 hu)) ok_ne (x_bu (cr_repr (hgd rfl) hu) ok_repr T.gn.b_repr rfl (a_cons (x_heard (x := "_law_heard") (a := "call") (st := s__law_heard) (Ng := ["call", "error", "found"]) (b := b__law_heard) (k := 6) (caps := [8]) T.d__law_heard sc__law_heard (by decide) rfl (Or.inl rfl) (fun _ _ _ _ _ _ us hl => match us, hl with | [_], _ => rfl) (fun g cdg s H f c' F pa act hact => hb__law_heard T hgd (hu0 hr) hact) hL rfl rfl (hr.mono (by decide)) (LamX.lamS_by (by kernel_rfl)) rfl (fun _ _ _ _ _ => rfl) (fun _ _ _ _ _ _ _ hr tkL => (x_ck (ok_trimmed T) (hr.mono (by decide)) (fun z => nomatch z) tkL (g_cons (x_v 8) g_nil)))) a_nil)) (x_bu (cr_repr (hgd rfl) hu) ok_repr T.gn.b_repr rfl (a_cons (x_tup (d_cons x_str (d_cons (x_v 6) (d_cons x_bl d_nil)))) a_nil))) (ss_one (s_ret x_bl)) ss_nil)
    (ss_cons (s_if (t_bo (w_or (t_cmp (op_neD (hu64 hu)) ok_ne (x_bu (cr_repr (hgd rfl) hu) ok_repr T.gn.b_repr rfl (a_cons (x_heard (x := "_law_heard") (a := "call") (st := s__law_heard) (Ng := ["call", "error", "found"]) (b := b__law_heard) (k := 6) (caps := [8]) T.d__law_heard sc__law_heard (by decide) rfl (Or.inl rfl) (fun _ _ _ _ _ _ us hl => match us, hl with | [_], _ => rfl) (fun g cdg s H f c' F pa act hact => hb__law_heard T hgd (hu0 hr) hact) hL rfl rfl (hr.mono (by decide)) (LamX.lamS_by (by kernel_rfl)) rfl (fun _ _ _ _ _ => rfl) (fun _ _ _ _ _ _ _ hr tkL => (x_ck (ok_made_book T) (hr.mono (by decide)) (fun z => nomatch z) tkL (g_cons (x_v 8) g_nil)))) a_nil)) (x_bu (cr_repr (hgd rfl) hu) ok_repr T.gn.b_repr rfl (a_cons (x_tup (d_cons x_str (d_cons (x_v 6) (d_cons x_bl d_nil)))) a_nil))) (w_or1 (t_cmp (op_notN.or op_notBl) ok_isnotB (x_ck (ok_is_book T) (hr.mono (by decide)) (fun z => nomatch z) tk (g_cons (x_v 8) g_nil)) x_bl)))) (ss_one (s_ret x_bl)) ss_nil)
    (ss_cons (s_set 9 (x_ck (ok__law_pick T) (hr.mono (by decide)) (fun z => nomatch z) tk (g_cons (x_v 1) (g_cons (x_lst (d_cons x_non (d_cons (x_tup d_nil) (d_cons (x_op op_times ok_times (x_tup (d_cons (x_tup d_nil) d_nil)) x_int) (d_cons x_int (d_cons x_bl (d_cons x_str d_nil))))))) g_nil))) sc_law.nd)
    (ss_one (s_ret (x_cmp (op_eqD (hu64 hu)) ok_eq (x_bu (cr_repr (hgd rfl) hu) ok_repr T.gn.b_repr rfl (a_cons (x_heard (x := "_law_heard") (a := "call") (st := s__law_heard) (Ng := ["call", "error", "found"]) (b := b__law_heard) (k := 6) (caps := [9]) T.d__law_heard sc__law_heard (by decide) rfl (Or.inl rfl) (fun _ _ _ _ _ _ us hl => match us, hl with | [_], _ => rfl) (fun g cdg s H f c' F pa act hact => hb__law_heard T hgd (hu0 hr) hact) hL rfl rfl (hr.mono (by decide)) (LamX.lamS_by (by kernel_rfl)) rfl (fun _ _ _ _ _ => rfl) (fun _ _ _ _ _ _ _ hr tkL => (x_ck (ok_trimmed T) (hr.mono (by decide)) (fun z => nomatch z) tkL (g_cons (x_v 9) g_nil)))) a_nil)) (x_bu (cr_repr (hgd rfl) hu) ok_repr T.gn.b_repr rfl (a_cons (x_tup (d_cons x_str (d_cons (x_un un_neg ok_neg x_int) (d_cons x_bl d_nil)))) a_nil))))))))))))))))
end
end K02
end
section
set_option Elab.async false
set_option linter.all false
set_option autoImplicit false
set_option maxRecDepth 100000
set_option maxHeartbeats 8000000
namespace K02
open PySem PySem.Spec PyProof.Rows L2 N4
def spPool (K : PySem.W.Frag) (X Y : List Int → Int) : Sp := fun vs H Q _ => ∃ (a : Addr) (ns : List Int), vs = [.ref a] ∧ SqL K H a (ns.map V.int) ∧ ns.length ≤ 1000 ∧
  ∀ (H' : Hp) (pp pq : Addr), Same H H' → H pp = none → H pq = none → pp ≠ pq → H' pp = some (.lst [.int (X ns), .int (Y ns), .ref pq]) → H' pq = some (.lst (ns.tail.map V.int)) → Q (.ref pp) H'
def pF (ns : List Int) : Int := match ns with | [] => 0 | n :: _ => n
def pS (ns : List Int) : Int := if 0 ≤ pF ns then 2 * pF ns else -1 - 2 * pF ns
def pX (ns : List Int) : Int := if 10 ^ 18 ≤ pS ns then pS ns else 0
def pY (ns : List Int) : Int := (pS ns * 48271 + 1009) % 2147483629 + 3
theorem ifI {c : Bool} {A B : Prop} (h1 : c = true → A) (h2 : c = false → B) : if c = true then A else B := by
  cases c with
  | true => rw [if_pos rfl]; exact h1 rfl
  | false => rw [if_neg Bool.false_ne_true]; exact h2 rfl
section
variable {P : Program} {w : World} {K : PySem.W.Frag} {mg : PySem.Str → Option Value} {base : Heap} {TT : List (Addr × PySem.Str)} {cls : String → Addr}
theorem pool_ok (T : Tx P w K mg base TT cls) {f : Addr} {fd : FuncData} (F : Fun K "_law_pool" "_law_pool" s__law_pool f fd) : FnOk P w K mg base C8.CX0 1 f fd ["script"] (spPool K pX pY) := by
  refine F.ok sc__law_pool (fun vs H Q E h => ?_) (fun cdv A outer s H vs Q E hr h => ⟨_, pss_cons (ps_set (i := 1) sc__law_pool.nd rfl (Or.inl rfl) (pe_ifExp (pt_cmpR op_gt (pe_callB call_len_seq rfl T.gn.b_len rfl (pa_cons (pv 0) pa_nil)) pe_int (nomark _)) (pe_callTy call_int1 rfl T.gn.b_int rfl (pa_cons (pe_ix ix_list (pv 0) pe_int (by exact fun _ _ => rfl)) pa_nil)) pe_int))
    (pss_cons (ps_set (i := 2) sc__law_pool.nd rfl (Or.inl rfl) (pe_ifExp (pt_cmpR op_ge (pv 1) pe_int (nomark _)) (pe_op op_mul pe_int (pv 1)) (pe_op op_sub (pe_un un_neg pe_int) (pe_op op_mul pe_int (pv 1)))))
    (pss_one (ps_ret (pe_lst (pa_cons (pe_ifExp (pt_cmpR op_ge (pv 2) (pe_op op_pow pe_int pe_int) (nomark _)) (pv 2) pe_int) (pa_cons (pe_op op_add (pe_op op_mod (pe_callTy call_int1 rfl T.gn.b_int rfl (pa_cons (pe_op op_add (pe_op op_mul (pv 2) pe_int) pe_int) pa_nil)) pe_int) pe_int) (pa_cons (pe_callTy call_list_of rfl T.gn.b_list rfl (pa_cons (pe_slice sl_list (pv 0) (po_some pe_int) po_none) pa_nil)) pa_nil))))))), ?_⟩)
  · obtain ⟨a, ns, rfl, _⟩ := h
    rfl
  · obtain ⟨a, ns, rfl, hS, hl, q⟩ := h
    have fin : ∀ (x y : Int), x = pX ns → y = pY ns → ∀ (pt pq pp : Addr), H pt = none → upd H pt (.lst (cutV (ns.map V.int) (some 1) none)) pq = none → upd (upd H pt (.lst (cutV (ns.map V.int) (some 1) none))) pq (.lst (cutV (ns.map V.int) (some 1) none)) pp = none →
        Q (.ref pp) (upd (upd (upd H pt (.lst (cutV (ns.map V.int) (some 1) none))) pq (.lst (cutV (ns.map V.int) (some 1) none))) pp (.lst [.int x, .int y, .ref pq])) := fun x y ex ey pt pq pp h1 h2 h3 => by
      have cut : cutV (ns.map V.int) (some 1) none = ns.tail.map V.int := by
        unfold cutV
        rw [List.length_map]
        cases ns with
        | nil => rfl
        | cons n r =>
          have e1 : HT.sIx (n :: r).length 0 (some 1) = 1 := by
            unfold HT.sIx
            simp
          have e2 : HT.sIx (n :: r).length (n :: r).length none = (n :: r).length := rfl
          rw [e1, e2, List.map_cons, List.length_cons, Nat.add_sub_cancel, List.drop_one, List.tail_cons, List.take_of_length_le (by rw [List.length_map]; exact Nat.le_refl _)]
          rfl
      rw [cut] at h2 h3 ⊢
      have n1 : pq ≠ pt := fun z => by rw [z, upd_same] at h2; cases h2
      have n2 : pp ≠ pq := fun z => by rw [z, upd_same] at h3; cases h3
      rw [upd_ne n2] at h3
      have n3 : pp ≠ pt := fun z => by rw [z, upd_same] at h3; cases h3
      rw [upd_ne n3] at h3
      rw [upd_ne n1] at h2
      refine q _ pp pq (fun b o e => ?_) h3 h2 n2 (by rw [upd_same, ex, ey]) (by rw [upd_ne (Ne.symm n2), upd_same])
      rw [upd_ne (ne_of_none e h3), upd_ne (ne_of_none e h2), upd_ne (ne_of_none e h1)]
      exact e
    have len0 : ((ns.map V.int).length : Int) = ns.length := by rw [List.length_map]
    refine ⟨.ref a, rfl, a, _, rfl, .inl hS, _, _, rfl, rfl, _, rfl, ifI (fun hc => ?_) fun hc => ?_⟩
    · rw [len0] at hc
      obtain ⟨n, r, en⟩ : ∃ n r, ns = n :: r := by
        cases ns with
        | nil => simp at hc
        | cons n r => exact ⟨n, r, rfl⟩
      have at0 : atI (ns.map V.int) 0 = some (.int n) := by rw [en]; exact atI_nat (j := 0) rfl
      have eF : n = pF ns := by rw [en]; rfl
      refine ⟨.ref a, rfl, a, _, 0, .int n, rfl, rfl, hS, at0, .inl ⟨n, rfl, .int n, rfl, _, _, rfl, rfl, _, rfl, ?_⟩⟩
      refine ifI (fun hc2 => ?_) fun hc2 => ?_
      all_goals (
        have hc2 := hc2
        simp only [decide_eq_true_eq, decide_eq_false_iff_not] at hc2)
      · refine ⟨.int _, rfl, _, _, rfl, rfl, .inl ⟨by decide, by decide⟩, ?_⟩
        refine ⟨.int _, rfl, _, _, rfl, rfl, ⟨by decide, by decide, by decide⟩, _, _, rfl, rfl, _, rfl, ?_⟩
        have eS : 2 * n = pS ns := by unfold pS; rw [← eF, if_pos hc2]
        refine ifI (fun hc3 => ?_) fun hc3 => ?_
        all_goals simp only [decide_eq_true_eq, decide_eq_false_iff_not] at hc3
        · refine ⟨.int _, rfl, .int _, rfl, _, _, rfl, rfl, .inr ⟨by decide, by decide⟩, _, _, rfl, rfl, .inl ⟨_, rfl, _, _, rfl, rfl, (by show (0 : Int) < 2147483629; decide), _, _, rfl, rfl, ?_⟩⟩
          refine ⟨.ref a, rfl, 1, rfl, a, _, rfl, hS, fun pt h1 => ⟨pt, _, rfl, .inl (SqL.of upd_same), fun pq h2 => ⟨by show 3 ≤ sizeLine; decide, fun pp h3 => fin _ _ ?_ ?_ pt pq pp h1 h2 h3⟩⟩⟩
          · rw [eS] at hc3 ⊢
            exact (if_pos hc3).symm
          · rw [eS]; rfl
        · refine ⟨.int _, rfl, _, _, rfl, rfl, .inr ⟨by decide, by decide⟩, _, _, rfl, rfl, .inl ⟨_, rfl, _, _, rfl, rfl, (by show (0 : Int) < 2147483629; decide), _, _, rfl, rfl, ?_⟩⟩
          refine ⟨.ref a, rfl, 1, rfl, a, _, rfl, hS, fun pt h1 => ⟨pt, _, rfl, .inl (SqL.of upd_same), fun pq h2 => ⟨by show 3 ≤ sizeLine; decide, fun pp h3 => fin _ _ ?_ ?_ pt pq pp h1 h2 h3⟩⟩⟩
          · rw [eS] at hc3
            exact (if_neg hc3).symm
          · rw [eS]; rfl
      · refine ⟨_, rfl, .int _, rfl, _, _, rfl, rfl, .inl ⟨by decide, by decide⟩, _, _, rfl, rfl, ?_⟩
        refine ⟨.int _, rfl, _, _, rfl, rfl, ⟨by decide, by decide, by decide⟩, _, _, rfl, rfl, _, rfl, ?_⟩
        have eS : -1 - 2 * n = pS ns := by unfold pS; rw [← eF, if_neg hc2]
        refine ifI (fun hc3 => ?_) fun hc3 => ?_
        all_goals simp only [decide_eq_true_eq, decide_eq_false_iff_not] at hc3
        · refine ⟨.int _, rfl, .int _, rfl, _, _, rfl, rfl, .inr ⟨by decide, by decide⟩, _, _, rfl, rfl, .inl ⟨_, rfl, _, _, rfl, rfl, (by show (0 : Int) < 2147483629; decide), _, _, rfl, rfl, ?_⟩⟩
          refine ⟨.ref a, rfl, 1, rfl, a, _, rfl, hS, fun pt h1 => ⟨pt, _, rfl, .inl (SqL.of upd_same), fun pq h2 => ⟨by show 3 ≤ sizeLine; decide, fun pp h3 => fin _ _ ?_ ?_ pt pq pp h1 h2 h3⟩⟩⟩
          · rw [eS] at hc3 ⊢
            exact (if_pos hc3).symm
          · rw [eS]; rfl
        · refine ⟨.int _, rfl, _, _, rfl, rfl, .inr ⟨by decide, by decide⟩, _, _, rfl, rfl, .inl ⟨_, rfl, _, _, rfl, rfl, (by show (0 : Int) < 2147483629; decide), _, _, rfl, rfl, ?_⟩⟩
          refine ⟨.ref a, rfl, 1, rfl, a, _, rfl, hS, fun pt h1 => ⟨pt, _, rfl, .inl (SqL.of upd_same), fun pq h2 => ⟨by show 3 ≤ sizeLine; decide, fun pp h3 => fin _ _ ?_ ?_ pt pq pp h1 h2 h3⟩⟩⟩
          · rw [eS] at hc3
            exact (if_neg hc3).symm
          · rw [eS]; rfl
    · rw [len0] at hc
      have en : ns = [] := by
        cases ns with
        | nil => rfl
        | cons n r => simp at hc
      have eF : 0 = pF ns := by rw [en]; rfl
      refine ⟨.int 0, rfl, _, _, rfl, rfl, _, rfl, ?_⟩
      refine ifI (fun hc2 => ?_) fun hc2 => ?_
      all_goals (
        have hc2 := hc2
        simp only [decide_eq_true_eq, decide_eq_false_iff_not] at hc2)
      · refine ⟨.int _, rfl, _, _, rfl, rfl, .inl ⟨by decide, by decide⟩, ?_⟩
        refine ⟨.int _, rfl, _, _, rfl, rfl, ⟨by decide, by decide, by decide⟩, _, _, rfl, rfl, _, rfl, ?_⟩
        have eS : 2 * 0 = pS ns := by unfold pS; rw [← eF, if_pos hc2]
        refine ifI (fun hc3 => ?_) fun hc3 => ?_
        all_goals simp only [decide_eq_true_eq, decide_eq_false_iff_not] at hc3
        · refine ⟨.int _, rfl, .int _, rfl, _, _, rfl, rfl, .inr ⟨by decide, by decide⟩, _, _, rfl, rfl, .inl ⟨_, rfl, _, _, rfl, rfl, (by show (0 : Int) < 2147483629; decide), _, _, rfl, rfl, ?_⟩⟩
          refine ⟨.ref a, rfl, 1, rfl, a, _, rfl, hS, fun pt h1 => ⟨pt, _, rfl, .inl (SqL.of upd_same), fun pq h2 => ⟨by show 3 ≤ sizeLine; decide, fun pp h3 => fin _ _ ?_ ?_ pt pq pp h1 h2 h3⟩⟩⟩
          · rw [eS] at hc3 ⊢
            exact (if_pos hc3).symm
          · rw [eS]; rfl
        · refine ⟨.int _, rfl, _, _, rfl, rfl, .inr ⟨by decide, by decide⟩, _, _, rfl, rfl, .inl ⟨_, rfl, _, _, rfl, rfl, (by show (0 : Int) < 2147483629; decide), _, _, rfl, rfl, ?_⟩⟩
          refine ⟨.ref a, rfl, 1, rfl, a, _, rfl, hS, fun pt h1 => ⟨pt, _, rfl, .inl (SqL.of upd_same), fun pq h2 => ⟨by show 3 ≤ sizeLine; decide, fun pp h3 => fin _ _ ?_ ?_ pt pq pp h1 h2 h3⟩⟩⟩
          · rw [eS] at hc3
            exact (if_neg hc3).symm
          · rw [eS]; rfl
      · refine ⟨_, rfl, .int _, rfl, _, _, rfl, rfl, .inl ⟨by decide, by decide⟩, _, _, rfl, rfl, ?_⟩
        refine ⟨.int _, rfl, _, _, rfl, rfl, ⟨by decide, by decide, by decide⟩, _, _, rfl, rfl, _, rfl, ?_⟩
        have eS : -1 - 2 * 0 = pS ns := by unfold pS; rw [← eF, if_neg hc2]
        refine ifI (fun hc3 => ?_) fun hc3 => ?_
        all_goals simp only [decide_eq_true_eq, decide_eq_false_iff_not] at hc3
        · refine ⟨.int _, rfl, .int _, rfl, _, _, rfl, rfl, .inr ⟨by decide, by decide⟩, _, _, rfl, rfl, .inl ⟨_, rfl, _, _, rfl, rfl, (by show (0 : Int) < 2147483629; decide), _, _, rfl, rfl, ?_⟩⟩
          refine ⟨.ref a, rfl, 1, rfl, a, _, rfl, hS, fun pt h1 => ⟨pt, _, rfl, .inl (SqL.of upd_same), fun pq h2 => ⟨by show 3 ≤ sizeLine; decide, fun pp h3 => fin _ _ ?_ ?_ pt pq pp h1 h2 h3⟩⟩⟩
          · rw [eS] at hc3 ⊢
            exact (if_pos hc3).symm
          · rw [eS]; rfl
        · refine ⟨.int _, rfl, _, _, rfl, rfl, .inr ⟨by decide, by decide⟩, _, _, rfl, rfl, .inl ⟨_, rfl, _, _, rfl, rfl, (by show (0 : Int) < 2147483629; decide), _, _, rfl, rfl, ?_⟩⟩
          refine ⟨.ref a, rfl, 1, rfl, a, _, rfl, hS, fun pt h1 => ⟨pt, _, rfl, .inl (SqL.of upd_same), fun pq h2 => ⟨by show 3 ≤ sizeLine; decide, fun pp h3 => fin _ _ ?_ ?_ pt pq pp h1 h2 h3⟩⟩⟩
          · rw [eS] at hc3
            exact (if_neg hc3).symm
          · rw [eS]; rfl
end
end K02
end
section
set_option Elab.async false
set_option linter.all false
set_option autoImplicit false
set_option maxRecDepth 100000
set_option maxHeartbeats 8000000
namespace K02
open PySem PySem.Spec PyProof.Rows L2 N4
/-- the state in which the law's own lines begin -/
def lawS (ns : List Int) : N4.St := ⟨none :: some Sl.pool :: List.replicate (lawN.length - 2) none, some (pX ns, pY ns, ns.tail)⟩
section
variable {P : Program} {w : World} {K : PySem.W.Frag} {mg : PySem.Str → Option Value} {base : Heap} {TT : List (Addr × PySem.Str)} {cls : String → Addr}
theorem pool_sat {c : Cf} {H H' : Hp} {a pp pq : Addr} {ns : List Int} (tabs : LamX.Tabs c.T H) (same : Same H H') (n1 : H pp = none) (n2 : H pq = none) (hne : pp ≠ pq) (h1 : H' pp = some (.lst [.int (pX ns), .int (pY ns), .ref pq])) (h2 : H' pq = some (.lst (ns.tail.map V.int))) :
    Sat c ⟨noT H', fun _ => none, some (pp, pq)⟩ (lawS ns) ((L2.start lawN [.ref a]).set 1 (some (.ref pp))) H' (fun _ => none) := by
  have look : ∀ (i : Nat) (s : Sl), (lawS ns).sl[i]? = some (some s) → i = 1 ∧ s = .pool := fun i s e => by
    match i, e with
    | 0, e => cases e
    | 1, e => cases e; exact ⟨rfl, rfl⟩
    | i + 2, e =>
      have e : (List.replicate (lawN.length - 2) (none : Option Sl))[i]? = some (some s) := e
      rw [List.getElem?_replicate] at e
      split at e <;> cases e
  refine ⟨fun b o e => (by cases e), tabs.ext same, fun b o e _ _ => noT_some e, fun b e z => e (noT_none z), fun b o e => (by cases e), Same.refl _, fun i s e => ?_, fun i j b _ ⟨s0, e, hs0⟩ => ?_, ⟨pp, pq, rfl, hne, h1, h2, rfl, rfl, ?_, ?_⟩, Nat.le_refl _, fun b ps e => (by cases e), noT_ok H'⟩
  · obtain ⟨rfl, rfl⟩ := look i s e
    exact ⟨.ref pp, rfl, pp, pq, rfl, rfl⟩
  · rw [(look i s0 e).2] at hs0; exact absurd hs0 (by decide)
  · show noT H' pp ≠ none
    rw [noT_of h1 fun ps z => nomatch z]
    exact fun z => nomatch z
  · show noT H' pq ≠ none
    rw [noT_of h2 fun ps z => nomatch z]
    exact fun z => nomatch z
theorem law_go (T : Tx P w K mg base TT cls) (Dp : DefT K mg "_law_pool" s__law_pool) {fa : Addr} {oc : Value} {od : Option Addr} {kV doc pm : Value} {an : Option Addr} {cR : Addr} {ct : Value} {osl : Array (Option Value)}
    (lk : K.lookup fa = some ⟨oc, od, .func (PySem.W.fnOf "law" "law" (defArgs s_law) (defBody s_law) (defScope s_law) .none kV doc pm an (.ref cR) ct), osl⟩) (hcd : PySem.W.codeIn K (.ref cR) "law" = true) (hL : LamAt TT mg base "law" s_law fa cR)
    {A : Around} (hgd : A.guards = some []) (hr : Room (lawK + 1) A) {outer : List Env} {s : Shared} {H : Hp} {a : Addr} {ns : List Int} (hS : SqL K H a (ns.map V.int)) (hl : ns.length ≤ 1000) (tabs : LamX.Tabs TT H) (e0 : Env0 P w K mg base A outer s H)
    (pure : ∃ s', b_law (lawS ns) = .ret (.val (.bool true)) s') :
    codeAny (model P w) A (.call (.ref fa) ⟨[.ref a], []⟩) (CR (L2.CX P w) outer P w H s (fun v _ => v = .bl true) fun _ _ _ => False) s := by
  obtain ⟨fp, fdp, Fp, hmp⟩ := Dp
  have bp : Binds K fdp ["script"] [] := Fp.binds fun _ _ _ _ _ _ us hl => match us, hl with | [_], _ => rfl
  have Gp := pool_ok (base := base) T Fp
  refine LamX.run_ofS (N := lawN) (ps := ["script"]) (us := [.ref a]) (vs := [.ref a]) lk hcd sc_law hr e0 (.of_eq rfl) (.cons rfl .nil) rfl fun hr' => ⟨_, pss_cons (ps_set (i := 1) sc_law.nd rfl (by first | exact Or.inl rfl | exact Or.inr rfl) (by exact (pe_callS (E := fun _ _ _ _ => False) Gp (hr'.mono (by decide)) rfl hmp Fp.kp bp (fun _ _ _ _ _ _ _ z => (show False from z).elim) (pa_cons (pe_var (i := 0) rfl (Or.inl rfl)) pa_nil)))) (wk_law T hL hr' fun _ => hgd), ?_⟩
  refine ⟨.ref a, rfl, a, ns, rfl, hS, hl, fun H' pp pq same n1 n2 hne h1 h2 => ?_⟩
  have hs := pool_sat (c := cfg K TT cls) (a := a) tabs same n1 n2 hne h1 h2
  obtain ⟨s', hp⟩ := pure
  suffices h : rdS (cfg K TT cls) (fun cl d x H => False) b_law { nx := fun x H' => V.non = V.bl true, rt := fun v x => v = V.bl true } ((L2.start lawN [.ref a]).set 1 (some (.ref pp))) H' from h
  unfold rdS
  apply Exists.intro
  apply Exists.intro
  apply Exists.intro
  apply And.intro hs
  rw [hp]
  exact fun v σ H2 F2 g S r => by cases r; rfl
end
end K02
end
section
set_option Elab.async false
set_option linter.all false
set_option autoImplicit false
set_option maxRecDepth 100000
set_option maxHeartbeats 8000000
namespace K02
open PySem PySem.Spec PyProof.Rows L2 N4
def s_init : Stmt := match topS 1 with
  | .ClassDef _ _ _ (st :: _) .. => st
  | st => st
theorem law_all {w : World} {K : PySem.W.Frag} {s1 : Shared} {mg mb : PySem.Str → Option Value} {fa a : Addr} {vs : List Value} {ns : List Int}
  {f_is_number : Addr} {od_is_number an_is_number : Option Addr} {sl_is_number : Array (Option Value)} {oc_is_number kV_is_number dc_is_number pm_is_number ct_is_number : Value} {cd_is_number : Value}
  {f_is_between : Addr} {od_is_between an_is_between : Option Addr} {sl_is_between : Array (Option Value)} {oc_is_between kV_is_between dc_is_between pm_is_between ct_is_between : Value} {cd_is_between : Value}
  {f_is_tuple_of : Addr} {od_is_tuple_of an_is_tuple_of : Option Addr} {sl_is_tuple_of : Array (Option Value)} {oc_is_tuple_of kV_is_tuple_of dc_is_tuple_of pm_is_tuple_of ct_is_tuple_of : Value} {cd_is_tuple_of : Value}
  {f_is_state_form : Addr} {od_is_state_form an_is_state_form : Option Addr} {sl_is_state_form : Array (Option Value)} {oc_is_state_form kV_is_state_form dc_is_state_form pm_is_state_form ct_is_state_form : Value} {cd_is_state_form : Value}
  {f_wrong_form : Addr} {od_wrong_form an_wrong_form : Option Addr} {sl_wrong_form : Array (Option Value)} {oc_wrong_form kV_wrong_form dc_wrong_form pm_wrong_form ct_wrong_form : Value} {cd_wrong_form : Value}
  {f_states_met : Addr} {od_states_met an_states_met : Option Addr} {sl_states_met : Array (Option Value)} {oc_states_met kV_states_met dc_states_met pm_states_met ct_states_met : Value} {cd_states_met : Value}
  {f_first_stray : Addr} {od_first_stray an_first_stray : Option Addr} {sl_first_stray : Array (Option Value)} {oc_first_stray kV_first_stray dc_first_stray pm_first_stray ct_first_stray : Value} {cd_first_stray : Value}
  {f_is_book : Addr} {od_is_book an_is_book : Option Addr} {sl_is_book : Array (Option Value)} {oc_is_book kV_is_book dc_is_book pm_is_book ct_is_book : Value} {cd_is_book : Value}
  {f_check_forms : Addr} {od_check_forms an_check_forms : Option Addr} {sl_check_forms : Array (Option Value)} {oc_check_forms kV_check_forms dc_check_forms pm_check_forms ct_check_forms : Value} {cd_check_forms : Value}
  {f_made_book : Addr} {od_made_book an_made_book : Option Addr} {sl_made_book : Array (Option Value)} {oc_made_book kV_made_book dc_made_book pm_made_book ct_made_book : Value} {cd_made_book : Value}
  {f_by_meeting : Addr} {od_by_meeting an_by_meeting : Option Addr} {sl_by_meeting : Array (Option Value)} {oc_by_meeting kV_by_meeting dc_by_meeting pm_by_meeting ct_by_meeting : Value} {cd_by_meeting : Value}
  {f_trimmed : Addr} {od_trimmed an_trimmed : Option Addr} {sl_trimmed : Array (Option Value)} {oc_trimmed kV_trimmed dc_trimmed pm_trimmed ct_trimmed : Value} {cd_trimmed : Value}
  {f__law_pool : Addr} {od__law_pool an__law_pool : Option Addr} {sl__law_pool : Array (Option Value)} {oc__law_pool kV__law_pool dc__law_pool pm__law_pool ct__law_pool : Value} {cd__law_pool : Value}
  {f__law_draw : Addr} {od__law_draw an__law_draw : Option Addr} {sl__law_draw : Array (Option Value)} {oc__law_draw kV__law_draw dc__law_draw pm__law_draw ct__law_draw : Value} {cd__law_draw : Value}
  {f__law_pick : Addr} {od__law_pick an__law_pick : Option Addr} {sl__law_pick : Array (Option Value)} {oc__law_pick kV__law_pick dc__law_pick pm__law_pick ct__law_pick : Value} {cd__law_pick : Value}
  {f__law_turned : Addr} {od__law_turned an__law_turned : Option Addr} {sl__law_turned : Array (Option Value)} {oc__law_turned kV__law_turned dc__law_turned pm__law_turned ct__law_turned : Value} {cd__law_turned : Value}
  {f__law_book_meeting : Addr} {od__law_book_meeting an__law_book_meeting : Option Addr} {sl__law_book_meeting : Array (Option Value)} {oc__law_book_meeting kV__law_book_meeting dc__law_book_meeting pm__law_book_meeting ct__law_book_meeting : Value} {cd__law_book_meeting : Value}
  {f__law_book_messages : Addr} {od__law_book_messages an__law_book_messages : Option Addr} {sl__law_book_messages : Array (Option Value)} {oc__law_book_messages kV__law_book_messages dc__law_book_messages pm__law_book_messages ct__law_book_messages : Value} {cd__law_book_messages : Value}
  {f__law_book_drawn : Addr} {od__law_book_drawn an__law_book_drawn : Option Addr} {sl__law_book_drawn : Array (Option Value)} {oc__law_book_drawn kV__law_book_drawn dc__law_book_drawn pm__law_book_drawn ct__law_book_drawn : Value} {cd__law_book_drawn : Value}
  {f__law_book_renamed : Addr} {od__law_book_renamed an__law_book_renamed : Option Addr} {sl__law_book_renamed : Array (Option Value)} {oc__law_book_renamed kV__law_book_renamed dc__law_book_renamed pm__law_book_renamed ct__law_book_renamed : Value} {cd__law_book_renamed : Value}
  {f__law_heard : Addr} {od__law_heard an__law_heard : Option Addr} {sl__law_heard : Array (Option Value)} {oc__law_heard kV__law_heard dc__law_heard pm__law_heard ct__law_heard : Value} {cd__law_heard : Value}
  {f__law_with_strays : Addr} {od__law_with_strays an__law_with_strays : Option Addr} {sl__law_with_strays : Array (Option Value)} {oc__law_with_strays kV__law_with_strays dc__law_with_strays pm__law_with_strays ct__law_with_strays : Value} {cd__law_with_strays : Value}
  {f__law_by_rows : Addr} {od__law_by_rows an__law_by_rows : Option Addr} {sl__law_by_rows : Array (Option Value)} {oc__law_by_rows kV__law_by_rows dc__law_by_rows pm__law_by_rows ct__law_by_rows : Value} {cd__law_by_rows : Value}
  {f__law_trimmed_right : Addr} {od__law_trimmed_right an__law_trimmed_right : Option Addr} {sl__law_trimmed_right : Array (Option Value)} {oc__law_trimmed_right kV__law_trimmed_right dc__law_trimmed_right pm__law_trimmed_right ct__law_trimmed_right : Value} {cR__law_trimmed_right PT__law_trimmed_right : Addr}
  {f_law : Addr} {od_law an_law : Option Addr} {sl_law : Array (Option Value)} {oc_law kV_law dc_law pm_law ct_law : Value} {cR_law PT_law : Addr}
  {oq__law_trimmed_right : Value} {odq__law_trimmed_right : Option Addr} {vq__law_trimmed_right : Array Value} {sq__law_trimmed_right : Array (Option Value)}
  {oq_law : Value} {odq_law : Option Addr} {vq_law : Array Value} {sq_law : Array (Option Value)}
  {tk_MOST_MESSAGE : Tok}
  {tk_MOST_MOVES : Tok}
  {tk_MOST_STATES : Tok}
  {fI : Addr} {odI anI : Option Addr} {slI : Array (Option Value)} {ocI kVI dcI pmI cdI ctI : Value}
  {C_BadBook N_BadBook : Addr} {nm_BadBook q_BadBook : PySem.Str} {bs_BadBook bm_BadBook : List Value} {sn_BadBook : List PySem.Str} {sub_BadBook : List Value} {ab_BadBook : Bool} {col_BadBook : Option Bool} {dd_BadBook : Option Addr} {k0_BadBook k1_BadBook k2_BadBook k3_BadBook k5_BadBook : Option Value}
  {C_Refused N_Refused : Addr} {nm_Refused q_Refused : PySem.Str} {bs_Refused bm_Refused : List Value} {sn_Refused : List PySem.Str} {sub_Refused : List Value} {ab_Refused : Bool} {col_Refused : Option Bool} {dd_Refused : Option Addr} {k0_Refused k1_Refused k2_Refused k3_Refused k5_Refused : Option Value}
  {C_Stray N_Stray : Addr} {nm_Stray q_Stray : PySem.Str} {bs_Stray bm_Stray : List Value} {sn_Stray : List PySem.Str} {sub_Stray : List Value} {ab_Stray : Bool} {col_Stray : Option Bool} {dd_Stray : Option Addr} {k0_Stray k1_Stray k2_Stray k3_Stray k5_Stray : Option Value}
  (KX : K.In s1.heap) (glo : s1.heap.Ns mainGlobals mg) (blt : s1.heap.Ns builtinsNs mb) (bltB : ∀ x : PySem.Str, x ≠ "__name__" → mb x = bootBuiltins x) (lim : s1.heap.NoLimit) (gens : s1.gens = #[])
  (bmain : ∃ (bm : Addr) (ob : Obj), mg "__builtins__" = some (.ref bm) ∧ bm ≠ builtinsNs ∧ s1.heap.get? bm = some ob ∧ ob.cls = .type "module" ∧ ob.dict = some builtinsNs ∧ ob.data = .plain)
  (hfa : mg "law" = some (.ref fa)) (scr : s1.heap.get? a = some (lstO vs)) (int : IntsAre vs ns) (size : ns.length ≤ 63) (pure : ∃ s', b_law (lawS ns) = .ret (.val (.bool true)) s')
  (a_is_number : PySem.W.nsIn K mainGlobals "is_number" = some (some (.ref f_is_number)))
  (l_is_number : K.lookup f_is_number = some ⟨oc_is_number, od_is_number, .func (PySem.W.fnOf "is_number" "is_number" (defArgs s_is_number) (defBody s_is_number) (defScope s_is_number) .none kV_is_number dc_is_number pm_is_number an_is_number cd_is_number ct_is_number), sl_is_number⟩)
  (c_is_number : PySem.W.codeIn K cd_is_number "is_number" = true)
  (k_is_number : PySem.W.keepIn K (.ref f_is_number) = true)
  (a_is_between : PySem.W.nsIn K mainGlobals "is_between" = some (some (.ref f_is_between)))
  (l_is_between : K.lookup f_is_between = some ⟨oc_is_between, od_is_between, .func (PySem.W.fnOf "is_between" "is_between" (defArgs s_is_between) (defBody s_is_between) (defScope s_is_between) .none kV_is_between dc_is_between pm_is_between an_is_between cd_is_between ct_is_between), sl_is_between⟩)
  (c_is_between : PySem.W.codeIn K cd_is_between "is_between" = true)
  (k_is_between : PySem.W.keepIn K (.ref f_is_between) = true)
  (a_is_tuple_of : PySem.W.nsIn K mainGlobals "is_tuple_of" = some (some (.ref f_is_tuple_of)))
  (l_is_tuple_of : K.lookup f_is_tuple_of = some ⟨oc_is_tuple_of, od_is_tuple_of, .func (PySem.W.fnOf "is_tuple_of" "is_tuple_of" (defArgs s_is_tuple_of) (defBody s_is_tuple_of) (defScope s_is_tuple_of) .none kV_is_tuple_of dc_is_tuple_of pm_is_tuple_of an_is_tuple_of cd_is_tuple_of ct_is_tuple_of), sl_is_tuple_of⟩)
  (c_is_tuple_of : PySem.W.codeIn K cd_is_tuple_of "is_tuple_of" = true)
  (k_is_tuple_of : PySem.W.keepIn K (.ref f_is_tuple_of) = true)
  (a_is_state_form : PySem.W.nsIn K mainGlobals "is_state_form" = some (some (.ref f_is_state_form)))
  (l_is_state_form : K.lookup f_is_state_form = some ⟨oc_is_state_form, od_is_state_form, .func (PySem.W.fnOf "is_state_form" "is_state_form" (defArgs s_is_state_form) (defBody s_is_state_form) (defScope s_is_state_form) .none kV_is_state_form dc_is_state_form pm_is_state_form an_is_state_form cd_is_state_form ct_is_state_form), sl_is_state_form⟩)
  (c_is_state_form : PySem.W.codeIn K cd_is_state_form "is_state_form" = true)
  (k_is_state_form : PySem.W.keepIn K (.ref f_is_state_form) = true)
  (a_wrong_form : PySem.W.nsIn K mainGlobals "wrong_form" = some (some (.ref f_wrong_form)))
  (l_wrong_form : K.lookup f_wrong_form = some ⟨oc_wrong_form, od_wrong_form, .func (PySem.W.fnOf "wrong_form" "wrong_form" (defArgs s_wrong_form) (defBody s_wrong_form) (defScope s_wrong_form) .none kV_wrong_form dc_wrong_form pm_wrong_form an_wrong_form cd_wrong_form ct_wrong_form), sl_wrong_form⟩)
  (c_wrong_form : PySem.W.codeIn K cd_wrong_form "wrong_form" = true)
  (k_wrong_form : PySem.W.keepIn K (.ref f_wrong_form) = true)
  (a_states_met : PySem.W.nsIn K mainGlobals "states_met" = some (some (.ref f_states_met)))
  (l_states_met : K.lookup f_states_met = some ⟨oc_states_met, od_states_met, .func (PySem.W.fnOf "states_met" "states_met" (defArgs s_states_met) (defBody s_states_met) (defScope s_states_met) .none kV_states_met dc_states_met pm_states_met an_states_met cd_states_met ct_states_met), sl_states_met⟩)
  (c_states_met : PySem.W.codeIn K cd_states_met "states_met" = true)
  (k_states_met : PySem.W.keepIn K (.ref f_states_met) = true)
  (a_first_stray : PySem.W.nsIn K mainGlobals "first_stray" = some (some (.ref f_first_stray)))
  (l_first_stray : K.lookup f_first_stray = some ⟨oc_first_stray, od_first_stray, .func (PySem.W.fnOf "first_stray" "first_stray" (defArgs s_first_stray) (defBody s_first_stray) (defScope s_first_stray) .none kV_first_stray dc_first_stray pm_first_stray an_first_stray cd_first_stray ct_first_stray), sl_first_stray⟩)
  (c_first_stray : PySem.W.codeIn K cd_first_stray "first_stray" = true)
  (k_first_stray : PySem.W.keepIn K (.ref f_first_stray) = true)
  (a_is_book : PySem.W.nsIn K mainGlobals "is_book" = some (some (.ref f_is_book)))
  (l_is_book : K.lookup f_is_book = some ⟨oc_is_book, od_is_book, .func (PySem.W.fnOf "is_book" "is_book" (defArgs s_is_book) (defBody s_is_book) (defScope s_is_book) .none kV_is_book dc_is_book pm_is_book an_is_book cd_is_book ct_is_book), sl_is_book⟩)
  (c_is_book : PySem.W.codeIn K cd_is_book "is_book" = true)
  (k_is_book : PySem.W.keepIn K (.ref f_is_book) = true)
  (a_check_forms : PySem.W.nsIn K mainGlobals "check_forms" = some (some (.ref f_check_forms)))
  (l_check_forms : K.lookup f_check_forms = some ⟨oc_check_forms, od_check_forms, .func (PySem.W.fnOf "check_forms" "check_forms" (defArgs s_check_forms) (defBody s_check_forms) (defScope s_check_forms) .none kV_check_forms dc_check_forms pm_check_forms an_check_forms cd_check_forms ct_check_forms), sl_check_forms⟩)
  (c_check_forms : PySem.W.codeIn K cd_check_forms "check_forms" = true)
  (k_check_forms : PySem.W.keepIn K (.ref f_check_forms) = true)
  (a_made_book : PySem.W.nsIn K mainGlobals "made_book" = some (some (.ref f_made_book)))
  (l_made_book : K.lookup f_made_book = some ⟨oc_made_book, od_made_book, .func (PySem.W.fnOf "made_book" "made_book" (defArgs s_made_book) (defBody s_made_book) (defScope s_made_book) .none kV_made_book dc_made_book pm_made_book an_made_book cd_made_book ct_made_book), sl_made_book⟩)
  (c_made_book : PySem.W.codeIn K cd_made_book "made_book" = true)
  (k_made_book : PySem.W.keepIn K (.ref f_made_book) = true)
  (a_by_meeting : PySem.W.nsIn K mainGlobals "by_meeting" = some (some (.ref f_by_meeting)))
  (l_by_meeting : K.lookup f_by_meeting = some ⟨oc_by_meeting, od_by_meeting, .func (PySem.W.fnOf "by_meeting" "by_meeting" (defArgs s_by_meeting) (defBody s_by_meeting) (defScope s_by_meeting) .none kV_by_meeting dc_by_meeting pm_by_meeting an_by_meeting cd_by_meeting ct_by_meeting), sl_by_meeting⟩)
  (c_by_meeting : PySem.W.codeIn K cd_by_meeting "by_meeting" = true)
  (k_by_meeting : PySem.W.keepIn K (.ref f_by_meeting) = true)
  (a_trimmed : PySem.W.nsIn K mainGlobals "trimmed" = some (some (.ref f_trimmed)))
  (l_trimmed : K.lookup f_trimmed = some ⟨oc_trimmed, od_trimmed, .func (PySem.W.fnOf "trimmed" "trimmed" (defArgs s_trimmed) (defBody s_trimmed) (defScope s_trimmed) .none kV_trimmed dc_trimmed pm_trimmed an_trimmed cd_trimmed ct_trimmed), sl_trimmed⟩)
  (c_trimmed : PySem.W.codeIn K cd_trimmed "trimmed" = true)
  (k_trimmed : PySem.W.keepIn K (.ref f_trimmed) = true)
  (a__law_pool : PySem.W.nsIn K mainGlobals "_law_pool" = some (some (.ref f__law_pool)))
  (l__law_pool : K.lookup f__law_pool = some ⟨oc__law_pool, od__law_pool, .func (PySem.W.fnOf "_law_pool" "_law_pool" (defArgs s__law_pool) (defBody s__law_pool) (defScope s__law_pool) .none kV__law_pool dc__law_pool pm__law_pool an__law_pool cd__law_pool ct__law_pool), sl__law_pool⟩)
  (c__law_pool : PySem.W.codeIn K cd__law_pool "_law_pool" = true)
  (k__law_pool : PySem.W.keepIn K (.ref f__law_pool) = true)
  (a__law_draw : PySem.W.nsIn K mainGlobals "_law_draw" = some (some (.ref f__law_draw)))
  (l__law_draw : K.lookup f__law_draw = some ⟨oc__law_draw, od__law_draw, .func (PySem.W.fnOf "_law_draw" "_law_draw" (defArgs s__law_draw) (defBody s__law_draw) (defScope s__law_draw) .none kV__law_draw dc__law_draw pm__law_draw an__law_draw cd__law_draw ct__law_draw), sl__law_draw⟩)
  (c__law_draw : PySem.W.codeIn K cd__law_draw "_law_draw" = true)
  (k__law_draw : PySem.W.keepIn K (.ref f__law_draw) = true)
  (a__law_pick : PySem.W.nsIn K mainGlobals "_law_pick" = some (some (.ref f__law_pick)))
  (l__law_pick : K.lookup f__law_pick = some ⟨oc__law_pick, od__law_pick, .func (PySem.W.fnOf "_law_pick" "_law_pick" (defArgs s__law_pick) (defBody s__law_pick) (defScope s__law_pick) .none kV__law_pick dc__law_pick pm__law_pick an__law_pick cd__law_pick ct__law_pick), sl__law_pick⟩)
  (c__law_pick : PySem.W.codeIn K cd__law_pick "_law_pick" = true)
  (k__law_pick : PySem.W.keepIn K (.ref f__law_pick) = true)
  (a__law_turned : PySem.W.nsIn K mainGlobals "_law_turned" = some (some (.ref f__law_turned)))
  (l__law_turned : K.lookup f__law_turned = some ⟨oc__law_turned, od__law_turned, .func (PySem.W.fnOf "_law_turned" "_law_turned" (defArgs s__law_turned) (defBody s__law_turned) (defScope s__law_turned) .none kV__law_turned dc__law_turned pm__law_turned an__law_turned cd__law_turned ct__law_turned), sl__law_turned⟩)
  (c__law_turned : PySem.W.codeIn K cd__law_turned "_law_turned" = true)
  (k__law_turned : PySem.W.keepIn K (.ref f__law_turned) = true)
  (a__law_book_meeting : PySem.W.nsIn K mainGlobals "_law_book_meeting" = some (some (.ref f__law_book_meeting)))
  (l__law_book_meeting : K.lookup f__law_book_meeting = some ⟨oc__law_book_meeting, od__law_book_meeting, .func (PySem.W.fnOf "_law_book_meeting" "_law_book_meeting" (defArgs s__law_book_meeting) (defBody s__law_book_meeting) (defScope s__law_book_meeting) .none kV__law_book_meeting dc__law_book_meeting pm__law_book_meeting an__law_book_meeting cd__law_book_meeting ct__law_book_meeting), sl__law_book_meeting⟩)
  (c__law_book_meeting : PySem.W.codeIn K cd__law_book_meeting "_law_book_meeting" = true)
  (k__law_book_meeting : PySem.W.keepIn K (.ref f__law_book_meeting) = true)
  (a__law_book_messages : PySem.W.nsIn K mainGlobals "_law_book_messages" = some (some (.ref f__law_book_messages)))
  (l__law_book_messages : K.lookup f__law_book_messages = some ⟨oc__law_book_messages, od__law_book_messages, .func (PySem.W.fnOf "_law_book_messages" "_law_book_messages" (defArgs s__law_book_messages) (defBody s__law_book_messages) (defScope s__law_book_messages) .none kV__law_book_messages dc__law_book_messages pm__law_book_messages an__law_book_messages cd__law_book_messages ct__law_book_messages), sl__law_book_messages⟩)
  (c__law_book_messages : PySem.W.codeIn K cd__law_book_messages "_law_book_messages" = true)
  (k__law_book_messages : PySem.W.keepIn K (.ref f__law_book_messages) = true)
  (a__law_book_drawn : PySem.W.nsIn K mainGlobals "_law_book_drawn" = some (some (.ref f__law_book_drawn)))
  (l__law_book_drawn : K.lookup f__law_book_drawn = some ⟨oc__law_book_drawn, od__law_book_drawn, .func (PySem.W.fnOf "_law_book_drawn" "_law_book_drawn" (defArgs s__law_book_drawn) (defBody s__law_book_drawn) (defScope s__law_book_drawn) .none kV__law_book_drawn dc__law_book_drawn pm__law_book_drawn an__law_book_drawn cd__law_book_drawn ct__law_book_drawn), sl__law_book_drawn⟩)
  (c__law_book_drawn : PySem.W.codeIn K cd__law_book_drawn "_law_book_drawn" = true)
  (k__law_book_drawn : PySem.W.keepIn K (.ref f__law_book_drawn) = true)
  (a__law_book_renamed : PySem.W.nsIn K mainGlobals "_law_book_renamed" = some (some (.ref f__law_book_renamed)))
  (l__law_book_renamed : K.lookup f__law_book_renamed = some ⟨oc__law_book_renamed, od__law_book_renamed, .func (PySem.W.fnOf "_law_book_renamed" "_law_book_renamed" (defArgs s__law_book_renamed) (defBody s__law_book_renamed) (defScope s__law_book_renamed) .none kV__law_book_renamed dc__law_book_renamed pm__law_book_renamed an__law_book_renamed cd__law_book_renamed ct__law_book_renamed), sl__law_book_renamed⟩)
  (c__law_book_renamed : PySem.W.codeIn K cd__law_book_renamed "_law_book_renamed" = true)
  (k__law_book_renamed : PySem.W.keepIn K (.ref f__law_book_renamed) = true)
  (a__law_heard : PySem.W.nsIn K mainGlobals "_law_heard" = some (some (.ref f__law_heard)))
  (l__law_heard : K.lookup f__law_heard = some ⟨oc__law_heard, od__law_heard, .func (PySem.W.fnOf "_law_heard" "_law_heard" (defArgs s__law_heard) (defBody s__law_heard) (defScope s__law_heard) .none kV__law_heard dc__law_heard pm__law_heard an__law_heard cd__law_heard ct__law_heard), sl__law_heard⟩)
  (c__law_heard : PySem.W.codeIn K cd__law_heard "_law_heard" = true)
  (k__law_heard : PySem.W.keepIn K (.ref f__law_heard) = true)
  (a__law_with_strays : PySem.W.nsIn K mainGlobals "_law_with_strays" = some (some (.ref f__law_with_strays)))
  (l__law_with_strays : K.lookup f__law_with_strays = some ⟨oc__law_with_strays, od__law_with_strays, .func (PySem.W.fnOf "_law_with_strays" "_law_with_strays" (defArgs s__law_with_strays) (defBody s__law_with_strays) (defScope s__law_with_strays) .none kV__law_with_strays dc__law_with_strays pm__law_with_strays an__law_with_strays cd__law_with_strays ct__law_with_strays), sl__law_with_strays⟩)
  (c__law_with_strays : PySem.W.codeIn K cd__law_with_strays "_law_with_strays" = true)
  (k__law_with_strays : PySem.W.keepIn K (.ref f__law_with_strays) = true)
  (a__law_by_rows : PySem.W.nsIn K mainGlobals "_law_by_rows" = some (some (.ref f__law_by_rows)))
  (l__law_by_rows : K.lookup f__law_by_rows = some ⟨oc__law_by_rows, od__law_by_rows, .func (PySem.W.fnOf "_law_by_rows" "_law_by_rows" (defArgs s__law_by_rows) (defBody s__law_by_rows) (defScope s__law_by_rows) .none kV__law_by_rows dc__law_by_rows pm__law_by_rows an__law_by_rows cd__law_by_rows ct__law_by_rows), sl__law_by_rows⟩)
  (c__law_by_rows : PySem.W.codeIn K cd__law_by_rows "_law_by_rows" = true)
  (k__law_by_rows : PySem.W.keepIn K (.ref f__law_by_rows) = true)
  (a__law_trimmed_right : PySem.W.nsIn K mainGlobals "_law_trimmed_right" = some (some (.ref f__law_trimmed_right)))
  (l__law_trimmed_right : K.lookup f__law_trimmed_right = some ⟨oc__law_trimmed_right, od__law_trimmed_right, .func (PySem.W.fnOf "_law_trimmed_right" "_law_trimmed_right" (defArgs s__law_trimmed_right) (defBody s__law_trimmed_right) (defScope s__law_trimmed_right) .none kV__law_trimmed_right dc__law_trimmed_right pm__law_trimmed_right an__law_trimmed_right (.ref cR__law_trimmed_right) ct__law_trimmed_right), sl__law_trimmed_right⟩)
  (c__law_trimmed_right : PySem.W.codeIn K (.ref cR__law_trimmed_right) "_law_trimmed_right" = true)
  (k__law_trimmed_right : PySem.W.keepIn K (.ref f__law_trimmed_right) = true)
  (a_law : PySem.W.nsIn K mainGlobals "law" = some (some (.ref f_law)))
  (l_law : K.lookup f_law = some ⟨oc_law, od_law, .func (PySem.W.fnOf "law" "law" (defArgs s_law) (defBody s_law) (defScope s_law) .none kV_law dc_law pm_law an_law (.ref cR_law) ct_law), sl_law⟩)
  (c_law : PySem.W.codeIn K (.ref cR_law) "law" = true)
  (k_law : PySem.W.keepIn K (.ref f_law) = true)
  (ti__law_trimmed_right : K.lookup cR__law_trimmed_right = some ⟨oq__law_trimmed_right, odq__law_trimmed_right, .fields vq__law_trimmed_right, sq__law_trimmed_right⟩)
  (pv__law_trimmed_right : vq__law_trimmed_right[11]? = some (.ref PT__law_trimmed_right))
  (t__law_trimmed_right : PySem.W.CodeHd s1.heap cR__law_trimmed_right PT__law_trimmed_right ∧ s1.heap.get? PT__law_trimmed_right = some tabO)
  (n__law_trimmed_right : K.lookup PT__law_trimmed_right = none)
  (ti_law : K.lookup cR_law = some ⟨oq_law, odq_law, .fields vq_law, sq_law⟩)
  (pv_law : vq_law[11]? = some (.ref PT_law))
  (t_law : PySem.W.CodeHd s1.heap cR_law PT_law ∧ s1.heap.get? PT_law = some tabO)
  (n_law : K.lookup PT_law = none)
  (d__law_trimmed_right_law : PT__law_trimmed_right ≠ PT_law)
  (b_ValueError : PySem.W.nsIn K mainGlobals "ValueError" = some none)
  (b_bool : PySem.W.nsIn K mainGlobals "bool" = some none)
  (b_enumerate : PySem.W.nsIn K mainGlobals "enumerate" = some none)
  (b_int : PySem.W.nsIn K mainGlobals "int" = some none)
  (b_isinstance : PySem.W.nsIn K mainGlobals "isinstance" = some none)
  (b_len : PySem.W.nsIn K mainGlobals "len" = some none)
  (b_list : PySem.W.nsIn K mainGlobals "list" = some none)
  (b_min : PySem.W.nsIn K mainGlobals "min" = some none)
  (b_range : PySem.W.nsIn K mainGlobals "range" = some none)
  (b_repr : PySem.W.nsIn K mainGlobals "repr" = some none)
  (b_sorted : PySem.W.nsIn K mainGlobals "sorted" = some none)
  (b_tuple : PySem.W.nsIn K mainGlobals "tuple" = some none)
  (v_MOST_MESSAGE : PySem.W.nsIn K mainGlobals "MOST_MESSAGE" = some (some (.int (99) tk_MOST_MESSAGE)))
  (v_MOST_MOVES : PySem.W.nsIn K mainGlobals "MOST_MOVES" = some (some (.int (5) tk_MOST_MOVES)))
  (v_MOST_STATES : PySem.W.nsIn K mainGlobals "MOST_STATES" = some (some (.int (8) tk_MOST_STATES)))
  (aC_BadBook : PySem.W.nsIn K mainGlobals "BadBook" = some (some (.ref C_BadBook)))
  (xL_BadBook : K.lookup C_BadBook = some (excClassObj nm_BadBook q_BadBook C_BadBook N_BadBook bs_BadBook bm_BadBook true sn_BadBook sub_BadBook ab_BadBook col_BadBook dd_BadBook k0_BadBook k1_BadBook k2_BadBook k3_BadBook k5_BadBook "ValueError.__new__"))
  (vb_BadBook : PySem.HandSPX.refsVE bm_BadBook = true)
  (sa_BadBook : PySem.W.findIn K (.ref C_BadBook) "__setattr__" = some (some (.builtin "object.__setattr__")))
  (ex_BadBook : PySem.W.subIn K (.ref C_BadBook) (.type "BaseException") = some true)
  (ty_BadBook : PySem.W.typeIn K (.ref C_BadBook) = some (.type "type"))
  (kp_BadBook : PySem.W.keepIn K (.ref C_BadBook) = true)
  (hd_BadBook : PySem.W.hasDictIn K C_BadBook = true)
  (in_BadBook : PySem.W.findIn K (.ref C_BadBook) "__init__" = some (some (.ref fI)))
  (no_BadBook : PySem.W.findIn K (.ref C_BadBook) "what" = some none)
  (ga_BadBook : PySem.W.findIn K (.ref C_BadBook) "__getattribute__" = some (some (.builtin "BaseException.__getattribute__")))
  (gg_BadBook : PySem.W.findIn K (.ref C_BadBook) "__getattr__" = some none)
  (cc_BadBook : PySem.W.isClsIn K C_BadBook = true)
  (ha_BadBook : PySem.W.findIn K (.ref C_BadBook) "__class__" = some (some (.builtin "object.__class__")))
  (mo_BadBook : PySem.W.mroIn K C_BadBook (.type "object") = some true)
  (ve_BadBook : PySem.W.kitOne K (.ref C_BadBook) (.type "ValueError") = some true)
  (sb_BadBook_BadBook : PySem.W.subIn K (.ref C_BadBook) (.ref C_BadBook) = some true)
  (sb_BadBook_Refused : PySem.W.subIn K (.ref C_BadBook) (.ref C_Refused) = some true)
  (sb_BadBook_Stray : PySem.W.subIn K (.ref C_BadBook) (.ref C_Stray) = some false)
  (ki_BadBook_Refused : PySem.W.kitOne K (.ref C_BadBook) (.ref C_Refused) = some true)
  (aC_Refused : PySem.W.nsIn K mainGlobals "Refused" = some (some (.ref C_Refused)))
  (xL_Refused : K.lookup C_Refused = some (excClassObj nm_Refused q_Refused C_Refused N_Refused bs_Refused bm_Refused true sn_Refused sub_Refused ab_Refused col_Refused dd_Refused k0_Refused k1_Refused k2_Refused k3_Refused k5_Refused "ValueError.__new__"))
  (vb_Refused : PySem.HandSPX.refsVE bm_Refused = true)
  (sa_Refused : PySem.W.findIn K (.ref C_Refused) "__setattr__" = some (some (.builtin "object.__setattr__")))
  (ex_Refused : PySem.W.subIn K (.ref C_Refused) (.type "BaseException") = some true)
  (ty_Refused : PySem.W.typeIn K (.ref C_Refused) = some (.type "type"))
  (kp_Refused : PySem.W.keepIn K (.ref C_Refused) = true)
  (hd_Refused : PySem.W.hasDictIn K C_Refused = true)
  (aC_Stray : PySem.W.nsIn K mainGlobals "Stray" = some (some (.ref C_Stray)))
  (xL_Stray : K.lookup C_Stray = some (excClassObj nm_Stray q_Stray C_Stray N_Stray bs_Stray bm_Stray true sn_Stray sub_Stray ab_Stray col_Stray dd_Stray k0_Stray k1_Stray k2_Stray k3_Stray k5_Stray "ValueError.__new__"))
  (vb_Stray : PySem.HandSPX.refsVE bm_Stray = true)
  (sa_Stray : PySem.W.findIn K (.ref C_Stray) "__setattr__" = some (some (.builtin "object.__setattr__")))
  (ex_Stray : PySem.W.subIn K (.ref C_Stray) (.type "BaseException") = some true)
  (ty_Stray : PySem.W.typeIn K (.ref C_Stray) = some (.type "type"))
  (kp_Stray : PySem.W.keepIn K (.ref C_Stray) = true)
  (hd_Stray : PySem.W.hasDictIn K C_Stray = true)
  (in_Stray : PySem.W.findIn K (.ref C_Stray) "__init__" = some (some (.ref fI)))
  (no_Stray : PySem.W.findIn K (.ref C_Stray) "what" = some none)
  (ga_Stray : PySem.W.findIn K (.ref C_Stray) "__getattribute__" = some (some (.builtin "BaseException.__getattribute__")))
  (gg_Stray : PySem.W.findIn K (.ref C_Stray) "__getattr__" = some none)
  (cc_Stray : PySem.W.isClsIn K C_Stray = true)
  (ha_Stray : PySem.W.findIn K (.ref C_Stray) "__class__" = some (some (.builtin "object.__class__")))
  (mo_Stray : PySem.W.mroIn K C_Stray (.type "object") = some true)
  (ve_Stray : PySem.W.kitOne K (.ref C_Stray) (.type "ValueError") = some true)
  (sb_Stray_BadBook : PySem.W.subIn K (.ref C_Stray) (.ref C_BadBook) = some false)
  (sb_Stray_Refused : PySem.W.subIn K (.ref C_Stray) (.ref C_Refused) = some true)
  (sb_Stray_Stray : PySem.W.subIn K (.ref C_Stray) (.ref C_Stray) = some true)
  (ki_Stray_Refused : PySem.W.kitOne K (.ref C_Stray) (.ref C_Refused) = some true)
  (hn : PySem.W.specialIn K (.builtin "object.__class__") "__get__" = some (some (.builtin "getset_descriptor.__get__")))
  (htk : PySem.W.takesIn K (.builtin "object.__class__") = some true)
  (tI : PySem.W.typeIn K (.ref fI) = some (.type "function"))
  (lI : K.lookup fI = some ⟨ocI, odI, .func (PySem.W.fnOf "__init__" "Refused.__init__" (defArgs s_init) (defBody s_init) (defScope s_init) .none kVI dcI pmI anI cdI ctI), slI⟩)
  (cI : PySem.W.codeIn K cdI "Refused.__init__" = true) :
    codeAny (model PySem.Challenge.pw_neverfour_k02_strays_and_meeting w) callerA (.call (.ref fa) ⟨[.ref a], []⟩) (fun r s' => r = .ok (.ret (.bool true)) ∧ OldK s1.heap s'.heap ∧ s'.os = s1.os ∧ AllBare s'.gens) s1 := by
  have e := (PySem.W.mg_of KX glo a_law).symm.trans hfa
  have e : f_law = fa := by injection e with e; injection e
  subst e
  let cls : String → Addr := (fun s => (([("BadBook", C_BadBook), ("Refused", C_Refused), ("Stray", C_Stray)] : List (String × Addr)).lookup s).getD 0)
  have e_BadBook : cls "BadBook" = C_BadBook := rfl
  have e_Refused : cls "Refused" = C_Refused := rfl
  have e_Stray : cls "Stray" = C_Stray := rfl
  refine law_callG (cs := [(cR__law_trimmed_right, PT__law_trimmed_right), (cR_law, PT_law)]) KX glo blt bltB lim gens ?_ ?_ ?_ bmain scr int (by rw [sizeLine_eq]; omega) fun base H kb gb tb hT hS _ e0 => ?_
  · intro p hp
    simp only [List.mem_cons, List.not_mem_nil, or_false] at hp
    rcases hp with rfl | rfl
    · exact t__law_trimmed_right.2
    · exact t_law.2
  · intro p hp
    simp only [List.mem_cons, List.not_mem_nil, or_false] at hp
    rcases hp with rfl | rfl
    · exact n__law_trimmed_right
    · exact n_law
  · intro p hp
    simp only [List.mem_cons, List.not_mem_nil, or_false] at hp
    rcases hp with rfl | rfl
    · exact t__law_trimmed_right.1
    · exact t_law.1
  have gn : Gn mg := { b_ValueError := PySem.W.mg_none_of KX glo b_ValueError, b_bool := PySem.W.mg_none_of KX glo b_bool, b_enumerate := PySem.W.mg_none_of KX glo b_enumerate, b_int := PySem.W.mg_none_of KX glo b_int, b_isinstance := PySem.W.mg_none_of KX glo b_isinstance, b_len := PySem.W.mg_none_of KX glo b_len, b_list := PySem.W.mg_none_of KX glo b_list, b_min := PySem.W.mg_none_of KX glo b_min, b_range := PySem.W.mg_none_of KX glo b_range, b_repr := PySem.W.mg_none_of KX glo b_repr, b_sorted := PySem.W.mg_none_of KX glo b_sorted, b_tuple := PySem.W.mg_none_of KX glo b_tuple, c_MOST_MESSAGE := ⟨_, PySem.W.mg_of KX glo v_MOST_MESSAGE⟩, c_MOST_MOVES := ⟨_, PySem.W.mg_of KX glo v_MOST_MOVES⟩, c_MOST_STATES := ⟨_, PySem.W.mg_of KX glo v_MOST_STATES⟩ }
  have scI : FnScope initN initN (defScope s_init) := ⟨rfl, rfl, rfl, by decide +kernel, rfl, by decide +kernel, by decide +kernel⟩
  have okI : FnOk PySem.Challenge.pw_neverfour_k02_strays_and_meeting w K mg base C8.CX0 1 fI _ initN (spInit K) := init_ok lI cI scI (Or.inl rfl) (Or.inl rfl) (fun _ _ _ _ _ => rfl)
  have bI : L2.Binds K (PySem.W.fnOf "__init__" "Refused.__init__" (defArgs s_init) (defBody s_init) (defScope s_init) .none kVI dcI pmI anI cdI ctI) initN [] := .all (fun us hl => match us, hl with | [_, _], _ => rfl)
  have ct_BadBook : ClsT K mg fI "BadBook" C_BadBook := ⟨PySem.W.mg_of KX glo aC_BadBook, ⟨⟨_, _, _, _, _, _, _, _, _, _, _, _, _, _, _, xL_BadBook, vb_BadBook⟩, sa_BadBook, ex_BadBook, ty_BadBook, kp_BadBook⟩, in_BadBook, no_BadBook⟩
  have ct_Stray : ClsT K mg fI "Stray" C_Stray := ⟨PySem.W.mg_of KX glo aC_Stray, ⟨⟨_, _, _, _, _, _, _, _, _, _, _, _, _, _, _, xL_Stray, vb_Stray⟩, sa_Stray, ex_Stray, ty_Stray, kp_Stray⟩, in_Stray, no_Stray⟩
  have er : ErrT PySem.Challenge.pw_neverfour_k02_strays_and_meeting w K mg base cls [("BadBook", "BadBook"), ("Stray", "Stray")] := ⟨fI, _, tI, okI, bI, by
    intro x hx
    simp only [List.mem_cons, List.not_mem_nil, or_false] at hx
    rcases hx with rfl | rfl
    · exact ct_BadBook
    · exact ct_Stray⟩
  have T : Tx PySem.Challenge.pw_neverfour_k02_strays_and_meeting w K mg base ([(PT__law_trimmed_right, (envOfC "_law_trimmed_right" (defScope s__law_trimmed_right) 0 f__law_trimmed_right (.ref cR__law_trimmed_right)).qual ++ ("<lambda>" : PySem.Str)), (PT_law, (envOfC "law" (defScope s_law) 0 f_law (.ref cR_law)).qual ++ ("<lambda>" : PySem.Str))] : List (Addr × PySem.Str)) cls := {
    gn := gn
    er := er
    d_is_number := ⟨f_is_number, _, fun_mk l_is_number c_is_number k_is_number, PySem.W.mg_of KX glo a_is_number⟩
    d_is_between := ⟨f_is_between, _, fun_mk l_is_between c_is_between k_is_between, PySem.W.mg_of KX glo a_is_between⟩
    d_is_tuple_of := ⟨f_is_tuple_of, _, fun_mk l_is_tuple_of c_is_tuple_of k_is_tuple_of, PySem.W.mg_of KX glo a_is_tuple_of⟩
    d_is_state_form := ⟨f_is_state_form, _, fun_mk l_is_state_form c_is_state_form k_is_state_form, PySem.W.mg_of KX glo a_is_state_form⟩
    d_wrong_form := ⟨f_wrong_form, _, fun_mk l_wrong_form c_wrong_form k_wrong_form, PySem.W.mg_of KX glo a_wrong_form⟩
    d_states_met := ⟨f_states_met, _, fun_mk l_states_met c_states_met k_states_met, PySem.W.mg_of KX glo a_states_met⟩
    d_first_stray := ⟨f_first_stray, _, fun_mk l_first_stray c_first_stray k_first_stray, PySem.W.mg_of KX glo a_first_stray⟩
    d_is_book := ⟨f_is_book, _, fun_mk l_is_book c_is_book k_is_book, PySem.W.mg_of KX glo a_is_book⟩
    d_check_forms := ⟨f_check_forms, _, fun_mk l_check_forms c_check_forms k_check_forms, PySem.W.mg_of KX glo a_check_forms⟩
    d_made_book := ⟨f_made_book, _, fun_mk l_made_book c_made_book k_made_book, PySem.W.mg_of KX glo a_made_book⟩
    d_by_meeting := ⟨f_by_meeting, _, fun_mk l_by_meeting c_by_meeting k_by_meeting, PySem.W.mg_of KX glo a_by_meeting⟩
    d_trimmed := ⟨f_trimmed, _, fun_mk l_trimmed c_trimmed k_trimmed, PySem.W.mg_of KX glo a_trimmed⟩
    d__law_pool := ⟨f__law_pool, _, fun_mk l__law_pool c__law_pool k__law_pool, PySem.W.mg_of KX glo a__law_pool⟩
    d__law_draw := ⟨f__law_draw, _, fun_mk l__law_draw c__law_draw k__law_draw, PySem.W.mg_of KX glo a__law_draw⟩
    d__law_pick := ⟨f__law_pick, _, fun_mk l__law_pick c__law_pick k__law_pick, PySem.W.mg_of KX glo a__law_pick⟩
    d__law_turned := ⟨f__law_turned, _, fun_mk l__law_turned c__law_turned k__law_turned, PySem.W.mg_of KX glo a__law_turned⟩
    d__law_book_meeting := ⟨f__law_book_meeting, _, fun_mk l__law_book_meeting c__law_book_meeting k__law_book_meeting, PySem.W.mg_of KX glo a__law_book_meeting⟩
    d__law_book_messages := ⟨f__law_book_messages, _, fun_mk l__law_book_messages c__law_book_messages k__law_book_messages, PySem.W.mg_of KX glo a__law_book_messages⟩
    d__law_book_drawn := ⟨f__law_book_drawn, _, fun_mk l__law_book_drawn c__law_book_drawn k__law_book_drawn, PySem.W.mg_of KX glo a__law_book_drawn⟩
    d__law_book_renamed := ⟨f__law_book_renamed, _, fun_mk l__law_book_renamed c__law_book_renamed k__law_book_renamed, PySem.W.mg_of KX glo a__law_book_renamed⟩
    d__law_heard := ⟨f__law_heard, _, fun_mk l__law_heard c__law_heard k__law_heard, PySem.W.mg_of KX glo a__law_heard⟩
    d__law_with_strays := ⟨f__law_with_strays, _, fun_mk l__law_with_strays c__law_with_strays k__law_with_strays, PySem.W.mg_of KX glo a__law_with_strays⟩
    d__law_by_rows := ⟨f__law_by_rows, _, fun_mk l__law_by_rows c__law_by_rows k__law_by_rows, PySem.W.mg_of KX glo a__law_by_rows⟩
    d__law_trimmed_right := ⟨f__law_trimmed_right, _, _, _, _, _, _, cR__law_trimmed_right, _, _, PT__law_trimmed_right, l__law_trimmed_right, c__law_trimmed_right, k__law_trimmed_right, PySem.W.mg_of KX glo a__law_trimmed_right, tb (cR__law_trimmed_right, PT__law_trimmed_right) (by simp), by simp, by
      intro p hp e
      simp only [List.mem_cons, List.not_mem_nil, or_false] at hp
      rcases hp with rfl | rfl
      · rfl
      · exact absurd e (Ne.symm d__law_trimmed_right_law)
    ⟩
    d_law := ⟨f_law, _, _, _, _, _, _, cR_law, _, _, PT_law, l_law, c_law, k_law, PySem.W.mg_of KX glo a_law, tb (cR_law, PT_law) (by simp), by simp, by
      intro p hp e
      simp only [List.mem_cons, List.not_mem_nil, or_false] at hp
      rcases hp with rfl | rfl
      · exact absurd e d__law_trimmed_right_law
      · rfl
    ⟩
    g_BadBook := PySem.W.mg_of KX glo aC_BadBook
    g_Refused := PySem.W.mg_of KX glo aC_Refused
    g_Stray := PySem.W.mg_of KX glo aC_Stray
    x_BadBook := by
      intro p hp
      simp only [List.mem_cons, List.not_mem_nil, or_false] at hp
      rcases hp with rfl | rfl
      · exact PySem.W.exm_ref ex_BadBook hd_BadBook ty_BadBook sb_BadBook_BadBook
      · exact PySem.W.exm_ref ex_BadBook hd_BadBook ty_BadBook sb_Stray_BadBook
    x_Refused := by
      intro p hp
      simp only [List.mem_cons, List.not_mem_nil, or_false] at hp
      rcases hp with rfl | rfl
      · exact PySem.W.exm_ref ex_Refused hd_Refused ty_Refused sb_BadBook_Refused
      · exact PySem.W.exm_ref ex_Refused hd_Refused ty_Refused sb_Stray_Refused
    x_Stray := by
      intro p hp
      simp only [List.mem_cons, List.not_mem_nil, or_false] at hp
      rcases hp with rfl | rfl
      · exact PySem.W.exm_ref ex_Stray hd_Stray ty_Stray sb_BadBook_Stray
      · exact PySem.W.exm_ref ex_Stray hd_Stray ty_Stray sb_Stray_Stray
    k_Refused := by
      intro p hp
      simp only [List.mem_cons, List.not_mem_nil, or_false] at hp
      rcases hp with rfl | rfl
      · exact ki_BadBook_Refused
      · exact ki_Stray_Refused
    ec := by
      intro p hp
      simp only [List.mem_cons, List.not_mem_nil, or_false] at hp
      rcases hp with rfl | rfl
      · exact ⟨⟨ga_BadBook, gg_BadBook, ex_BadBook, hd_BadBook⟩, no_BadBook, ⟨cc_BadBook, ga_BadBook, gg_BadBook, ex_BadBook, ha_BadBook, hn, htk, mo_BadBook⟩, ve_BadBook⟩
      · exact ⟨⟨ga_Stray, gg_Stray, ex_Stray, hd_Stray⟩, no_Stray, ⟨cc_Stray, ga_Stray, gg_Stray, ex_Stray, ha_Stray, hn, htk, mo_Stray⟩, ve_Stray⟩
  }
  have tabs : LamX.Tabs ([(PT__law_trimmed_right, (envOfC "_law_trimmed_right" (defScope s__law_trimmed_right) 0 f__law_trimmed_right (.ref cR__law_trimmed_right)).qual ++ ("<lambda>" : PySem.Str)), (PT_law, (envOfC "law" (defScope s_law) 0 f_law (.ref cR_law)).qual ++ ("<lambda>" : PySem.Str))] : List (Addr × PySem.Str)) H := by
    intro p hp
    simp only [List.mem_cons, List.not_mem_nil, or_false] at hp
    rcases hp with rfl | rfl
    · exact LamX.TabS.nil (hT (cR__law_trimmed_right, PT__law_trimmed_right) (by simp))
    · exact LamX.TabS.nil (hT (cR_law, PT_law) (by simp))
  have uq : ∀ p ∈ ([(PT__law_trimmed_right, (envOfC "_law_trimmed_right" (defScope s__law_trimmed_right) 0 f__law_trimmed_right (.ref cR__law_trimmed_right)).qual ++ ("<lambda>" : PySem.Str)), (PT_law, (envOfC "law" (defScope s_law) 0 f_law (.ref cR_law)).qual ++ ("<lambda>" : PySem.Str))] : List (Addr × PySem.Str)), p.1 = PT_law → p.2 = (envOfC "law" (defScope s_law) 0 f_law (.ref cR_law)).qual ++ ("<lambda>" : PySem.Str) := by
    intro p hp e
    simp only [List.mem_cons, List.not_mem_nil, or_false] at hp
    rcases hp with rfl | rfl
    · exact absurd e d__law_trimmed_right_law
    · rfl
  exact law_go T T.d__law_pool l_law c_law ⟨PT_law, tb (cR_law, PT_law) (by simp), by simp, uq⟩ rfl ⟨rfl, by decide, by decide⟩ hS (by omega) tabs e0 pure
end K02
end
section
set_option Elab.async false
set_option linter.all false
set_option autoImplicit false
set_option maxRecDepth 100000
set_option maxHeartbeats 4000000
namespace K02
open PySem PySem.Spec PyProof.Rows L2 N4
def Inv0 (p : Pl) : Prop := 0 ≤ p.1 ∧ 0 ≤ p.2.1 ∧ p.2.1 < 4294967296
theorem shal_ints (l : List Int) : shal (.list (l.map .int)) = true := by
  have h : ∀ l : List Int, PyData.canLayAll0 (l.map .int) = true ∧ PyData.depthAll (l.map .int) ≤ 1 := fun l => by
    induction l with
    | nil => exact ⟨rfl, by decide⟩
    | cons x r ih =>
      refine ⟨?_, ?_⟩
      · simp only [List.map_cons, PyData.canLayAll0, PyData.canLay0, ih.1, Bool.and_self, Bool.true_and]
      · have := ih.2
        simp only [List.map_cons, PyData.depthAll, PyData.depth]
        omega
  unfold shal SeqAt.shaped
  have := h l
  have h2 := this.2
  simp only [PyData.canLay0, PyData.depth, this.1, Bool.true_and]
  exact decide_eq_true (by omega)
theorem shal_int (i : Int) : shal (.int i) = true := rfl
theorem eqv_int (i j : Int) : PyData.eqv (.int i) (.int j) = decide (i = j) := by
  by_cases h : i = j <;> simp [PyData.eqv, h]
theorem eqv_nil (l : List Int) : PyData.eqv (.list (l.map .int)) (.list []) = l.isEmpty := by
  cases l with
  | nil => rfl
  | cons x r => rfl
def drawB : SM := sSeq (sIf (tV (eOp oGt (eP0 0) (eC (.int 0)))) (sSeq (sSet 4 (eOp oMod (eBu bInt [eP0 0]) (eV 1)))
    (sSeq (sP0 0 (eOp oDiv (eP0 0) (eV 1)))
    (sRet (eV 4)))) (sNil))
    (sSeq (sP1 0 (eOp oMod (eBu bInt [eOp oAdd (eOp oTimes (eP1 0) (eC (.int 48271))) (eC (.int 11))]) (eC (.int 2147483647))))
    (sRet (eOp oMod (eOp oDiv (eOp oMod (eBu bInt [eOp oTimes (eP1 0) (eP1 0)]) (eC (.int 2147483629))) (eC (.int 32))) (eV 1))))
theorem drawB_ok (x y : Int) (l : List Int) (many : Int) (h1 : 0 < many) (h2 : many < 1073741824) (hx : 0 ≤ x) (hy : 0 ≤ y) (hy2 : y < 4294967296) (s2 s3 : Option Sl) :
    ∃ (r : Int) (p' : Pl) (s' : N4.St), drawB ⟨[some .pool, some (.val (.int many)), s2, s3, none], some (x, y, l)⟩ = .ret (.val (.int r)) s' ∧ s'.pl = some p' ∧ Inv0 p' ∧ 0 ≤ r ∧ r < many := by
  by_cases hp : 0 < x
  · refine ⟨x % many, (x / many, y, l), ⟨[some .pool, some (.val (.int many)), s2, s3, some (.val (.int (x % many)))], some (x / many, y, l)⟩, ?_, rfl, ⟨Int.ediv_nonneg hx (by omega), hy, hy2⟩, Int.emod_nonneg _ (by omega), Int.emod_lt_of_pos _ h1⟩
    · simp [drawB, sSeq, sIf, sE, tV, mBind, eOp, eP0, poolAt, mRet, eC, look, oGt, hp, sSet, eBu, evs, N4.settle, looks, bInt, eV, oMod, h1, store, freeze, setSl, sP0, intOf, sPool, oDiv, h2, sRet]
  · have hx0 : x = 0 := by omega
    subst hx0
    have hm : 0 ≤ (y * 48271 + 11) % 2147483647 := Int.emod_nonneg _ (by decide)
    have hm2 : (y * 48271 + 11) % 2147483647 < 2147483647 := Int.emod_lt_of_pos _ (by decide)
    generalize hz : (y * 48271 + 11) % 2147483647 = z at hm hm2
    refine ⟨((z * z) % 2147483629 / 32) % many, (0, z, l), ⟨[some .pool, some (.val (.int many)), s2, s3, none], some (0, z, l)⟩, ?_, rfl, ⟨Int.le_refl 0, hm, by show z < 4294967296; omega⟩, Int.emod_nonneg _ (by omega), Int.emod_lt_of_pos _ h1⟩
    · have b1 : -big64 < z := by unfold big64; omega
      have b2 : z < big64 := by unfold big64; omega
      have b3 : -big64 < (48271 : Int) := by decide
      have b4 : (48271 : Int) < big64 := by decide
      simp [drawB, sSeq, sIf, sE, tV, mBind, eOp, eP0, eP1, poolAt, mRet, eC, look, oGt, sNil, eBu, evs, N4.settle, looks, bInt, eV, oMod, oTimes, oMul, oAdd, h1, sP1, intOf, sPool, oDiv, h2, sRet, b1, b2, b3, b4, hz]
theorem draw_ok (p : Pl) (many : Int) (h1 : 0 < many) (h2 : many < 1073741824) (hi : Inv0 p) : ∃ (r : Int) (p' : Pl), sem__law_draw [.pool, .val (.int many)] (some p) = .ok (.val (.int r)) (some p') ∧ Inv0 p' ∧ 0 ≤ r ∧ r < many := by
  obtain ⟨x, y, l⟩ := p
  obtain ⟨hx, hy, hy2⟩ := hi
  have hx : 0 ≤ x := hx
  have hy : 0 ≤ y := hy
  have hy2 : y < 4294967296 := hy2
  have fin : ∀ (x y : Int) (l : List Int) (s2 s3 : Option Sl), 0 ≤ x → 0 ≤ y → y < 4294967296 → ∃ (r : Int) (p' : Pl), endOf (drawB ⟨[some .pool, some (.val (.int many)), s2, s3, none], some (x, y, l)⟩) = .ok (.val (.int r)) (some p') ∧ Inv0 p' ∧ 0 ≤ r ∧ r < many := fun x y l s2 s3 a b d => by
    obtain ⟨r, p', s', e1, e2, e3, e4, e5⟩ := drawB_ok x y l many h1 h2 a b d s2 s3
    exact ⟨r, p', by rw [e1]; show FOut.ok (.val (.int r)) s'.pl = _; rw [e2], e3, e4, e5⟩
  by_cases hc : x = 0 ∧ l ≠ []
  · obtain ⟨rfl, hl⟩ := hc
    cases l with
    | nil => exact absurd rfl hl
    | cons z r =>
      have key : ∀ S : Int, 0 ≤ S → S = (if 0 ≤ z then 2 * z else -1 - 2 * z) → sem__law_draw [.pool, .val (.int many)] (some (0, y, z :: r)) = endOf (drawB ⟨[some .pool, some (.val (.int many)), some (.val (.int z)), some (.val (.int S)), none], some (if 1000000000000000000 ≤ S then S else 0, (y + S * 69621) % 2147483629 + 3, r)⟩) := fun S hS eS => by
        have c1 : -big64 < (69621 : Int) := by decide
        have c2 : (69621 : Int) < big64 := by decide
        have c3 : -big64 < (2 : Int) := by decide
        have c4 : (2 : Int) < big64 := by decide
        have c5 : ((10 : Int).natAbs < 18446744073709551616) := by decide
        have c6 : (10 : Int) ^ (18 : Int).toNat = 10 ^ 18 := rfl
        have sh := shal_ints (z :: r)
        rw [List.map_cons] at sh
        by_cases hz : 0 ≤ z
        · rw [if_pos hz] at eS
          subst eS
          by_cases hb : (1000000000000000000 : Int) ≤ 2 * z
          · simp [sem__law_draw, mkFn, b__law_draw, drawB, sSeq, sIf, sE, tV, N4.tAnd, mBind, eOp, eUn, oNeg, oSub, eP0, eP1, ePne, ePpop, poolAt, mRet, eC, look, oEq, shal_int, eqv_int, sh, PyData.eqv, sSet, eBu, evs, N4.settle, looks, bInt, store, freeze, setSl, eV, oGe, hz, eIf, oTimes, oMul, c3, c4, oPow, c5, hb, sP0, sP1, intOf, sPool, oAdd, oMod, c1, c2, PyData.eqvAll, List.replicate]
          · simp [sem__law_draw, mkFn, b__law_draw, drawB, sSeq, sIf, sE, tV, N4.tAnd, mBind, eOp, eUn, oNeg, oSub, eP0, eP1, ePne, ePpop, poolAt, mRet, eC, look, oEq, shal_int, eqv_int, sh, PyData.eqv, sSet, eBu, evs, N4.settle, looks, bInt, store, freeze, setSl, eV, oGe, hz, eIf, oTimes, oMul, c3, c4, oPow, c5, hb, sP0, sP1, intOf, sPool, oAdd, oMod, c1, c2, PyData.eqvAll, List.replicate]
        · rw [if_neg hz] at eS
          subst eS
          by_cases hb : (1000000000000000000 : Int) ≤ -1 - 2 * z
          · simp [sem__law_draw, mkFn, b__law_draw, drawB, sSeq, sIf, sE, tV, N4.tAnd, mBind, eOp, eUn, oNeg, oSub, eP0, eP1, ePne, ePpop, poolAt, mRet, eC, look, oEq, shal_int, eqv_int, sh, PyData.eqv, sSet, eBu, evs, N4.settle, looks, bInt, store, freeze, setSl, eV, oGe, hz, eIf, oTimes, oMul, c3, c4, oPow, c5, hb, sP0, sP1, intOf, sPool, oAdd, oMod, c1, c2, PyData.eqvAll, List.replicate]
          · simp [sem__law_draw, mkFn, b__law_draw, drawB, sSeq, sIf, sE, tV, N4.tAnd, mBind, eOp, eUn, oNeg, oSub, eP0, eP1, ePne, ePpop, poolAt, mRet, eC, look, oEq, shal_int, eqv_int, sh, PyData.eqv, sSet, eBu, evs, N4.settle, looks, bInt, store, freeze, setSl, eV, oGe, hz, eIf, oTimes, oMul, c3, c4, oPow, c5, hb, sP0, sP1, intOf, sPool, oAdd, oMod, c1, c2, PyData.eqvAll, List.replicate]
      by_cases hz : 0 ≤ z
      · rw [key (2 * z) (by omega) (by rw [if_pos hz])]
        refine fin _ _ _ _ _ ?_ ?_ ?_
        · split <;> omega
        · have := Int.emod_nonneg (y + 2 * z * 69621) (show (2147483629 : Int) ≠ 0 by decide); omega
        · have := Int.emod_lt_of_pos (y + 2 * z * 69621) (show (0 : Int) < 2147483629 by decide); omega
      · rw [key (-1 - 2 * z) (by omega) (by rw [if_neg hz])]
        refine fin _ _ _ _ _ ?_ ?_ ?_
        · split <;> omega
        · have := Int.emod_nonneg (y + (-1 - 2 * z) * 69621) (show (2147483629 : Int) ≠ 0 by decide); omega
        · have := Int.emod_lt_of_pos (y + (-1 - 2 * z) * 69621) (show (0 : Int) < 2147483629 by decide); omega
  · have e : sem__law_draw [.pool, .val (.int many)] (some (x, y, l)) = endOf (drawB ⟨[some .pool, some (.val (.int many)), none, none, none], some (x, y, l)⟩) := by
      have sh := shal_ints l
      by_cases hx0 : x = 0
      · have hl : l = [] := by
          by_cases h : l = []
          · exact h
          · exact absurd ⟨hx0, h⟩ hc
        subst hx0 hl
        have sh : shal (.list []) = true := rfl
        simp [sem__law_draw, mkFn, b__law_draw, drawB, sSeq, sIf, sE, tV, N4.tAnd, mBind, eOp, eP0, ePne, poolAt, mRet, eC, look, oEq, shal_int, eqv_int, sh, PyData.eqv, sNil, List.replicate, PyData.eqvAll]
      · simp [sem__law_draw, mkFn, b__law_draw, drawB, sSeq, sIf, sE, tV, N4.tAnd, mBind, eOp, eP0, ePne, poolAt, mRet, eC, look, oEq, shal_int, eqv_int, hx0, sNil, List.replicate]
    rw [e]
    exact fin x y l none none hx hy hy2
end K02
end
section
set_option linter.all false
set_option autoImplicit false
set_option maxRecDepth 100000
/-! Plain lemmas about the meaning: loops by invariants. -/
namespace N4
open PySem
/-- a loop whose body goes on at each turn -/
theorem loop_all {g : Tg} {b : SM} {I : List D → St → Prop} : ∀ (ds dn : List D) (s : St), I dn s →
    (∀ (dn : List D) (d : D) (rest : List D) (s : St), I dn s → (dn ++ d :: rest).length ≤ (dn ++ d :: rest).length → ∃ s1, g d s = some s1 ∧ ∃ s2, (b s1 = .nx s2 ∨ b s1 = .cnt s2) ∧ I (dn ++ [d]) s2) → ∃ s', loop g b ds s = .nx s' ∧ I (dn ++ ds) s'
  | [], dn, s, h, _ => ⟨s, rfl, by rw [List.append_nil]; exact h⟩
  | d :: ds, dn, s, h, step => by
    obtain ⟨s1, e1, s2, e2, h2⟩ := step dn d ds s h (Nat.le_refl _)
    obtain ⟨s', e3, h3⟩ := loop_all ds (dn ++ [d]) s2 h2 step
    refine ⟨s', ?_, by rw [List.append_assoc] at h3; exact h3⟩
    unfold loop
    rw [e1]
    rcases e2 with e2 | e2
    · simp only [e2]
      exact e3
    · simp only [e2]
      exact e3
/-- a loop over items that are told: what stands behind the items that are done, with the items that are yet to come; it may end early -/
theorem loop_exit {g : Tg} {b : SM} {I : List D → List D → St → Prop} {E : SOut → Prop} : ∀ (ds dn : List D) (s : St), I dn ds s →
    (∀ (dn : List D) (d : D) (rest : List D) (s : St), I dn (d :: rest) s → ∃ s1, g d s = some s1 ∧ ((∃ s2, (b s1 = .nx s2 ∨ b s1 = .cnt s2) ∧ I (dn ++ [d]) rest s2) ∨ (∃ s2, b s1 = .brk s2 ∧ E (.nx s2)) ∨ (∃ e s2, b s1 = .ret e s2 ∧ E (.ret e s2)) ∨ ∃ c x s2, b s1 = .err c x s2 ∧ E (.err c x s2))) →
    (∃ s', loop g b ds s = .nx s' ∧ I (dn ++ ds) [] s') ∨ E (loop g b ds s)
  | [], dn, s, h, _ => .inl ⟨s, rfl, by rw [List.append_nil]; exact h⟩
  | d :: ds, dn, s, h, step => by
    obtain ⟨s1, e1, k⟩ := step dn d ds s h
    unfold loop
    rw [e1]
    rcases k with ⟨s2, e2, h2⟩ | ⟨s2, e2, h2⟩ | ⟨e, s2, e2, h2⟩ | ⟨c, x, s2, e2, h2⟩
    · have r := loop_exit ds (dn ++ [d]) s2 h2 step
      rw [List.append_assoc] at r
      rcases e2 with e2 | e2
      · simp only [e2]
        exact r
      · simp only [e2]
        exact r
    · simp only [e2]
      exact .inr h2
    · simp only [e2]
      exact .inr h2
    · simp only [e2]
      exact .inr h2
/-- a while loop with a measure -/
theorem while_all {c : M Bool} {b : SM} {I : Nat → St → Prop} {J : St → Prop} : ∀ (n fuel : Nat) (s : St), n < fuel → I n s →
    (∀ (n : Nat) (s : St), I n s → (∃ s1, c s = .ok false s1 ∧ J s1) ∨ ∃ s1 s2 m, c s = .ok true s1 ∧ (b s1 = .nx s2 ∨ b s1 = .cnt s2) ∧ m < n ∧ I m s2) → ∃ s', whileN c b fuel s = .nx s' ∧ J s'
  | n, 0, s, h, _, _ => absurd h (Nat.not_lt_zero n)
  | n, fuel + 1, s, h, hI, step => by
    rcases step n s hI with ⟨s1, e1, h1⟩ | ⟨s1, s2, m, e1, e2, hm, h2⟩
    · exact ⟨s1, by unfold whileN; simp only [e1], h1⟩
    · obtain ⟨s', e3, h3⟩ := while_all m fuel s2 (by omega) h2 step
      refine ⟨s', ?_, h3⟩
      unfold whileN
      rcases e2 with e2 | e2
      · simp only [e1, e2]
        exact e3
      · simp only [e1, e2]
        exact e3
/-- the step of a loop that runs through the items' images -/
theorem loop_map {α : Type} {g : Tg} {b : SM} {f : α → D} {I : List α → List α → St → Prop} : ∀ (as dn : List α) (s : St), I dn as s →
    (∀ (dn : List α) (a : α) (rest : List α) (s : St), I dn (a :: rest) s → ∃ s1, g (f a) s = some s1 ∧ ∃ s2, (b s1 = .nx s2 ∨ b s1 = .cnt s2) ∧ I (dn ++ [a]) rest s2) → ∃ s', loop g b (as.map f) s = .nx s' ∧ I (dn ++ as) [] s'
  | [], dn, s, h, _ => ⟨s, rfl, by rw [List.append_nil]; exact h⟩
  | a :: as, dn, s, h, step => by
    obtain ⟨s1, e1, s2, e2, h2⟩ := step dn a as s h
    obtain ⟨s', e3, h3⟩ := loop_map as (dn ++ [a]) s2 h2 step
    refine ⟨s', ?_, by rw [List.append_assoc] at h3; exact h3⟩
    rw [List.map_cons]
    unfold loop
    rw [e1]
    rcases e2 with e2 | e2
    · simp only [e2]
      exact e3
    · simp only [e2]
      exact e3
/-- the same, with ends ahead of the last item -/
theorem loop_mapX {α : Type} {g : Tg} {b : SM} {f : α → D} {I : List α → List α → St → Prop} {E : SOut → Prop} : ∀ (as dn : List α) (s : St), I dn as s →
    (∀ (dn : List α) (a : α) (rest : List α) (s : St), I dn (a :: rest) s → ∃ s1, g (f a) s = some s1 ∧ ((∃ s2, (b s1 = .nx s2 ∨ b s1 = .cnt s2) ∧ I (dn ++ [a]) rest s2) ∨ (∃ s2, b s1 = .brk s2 ∧ E (.nx s2)) ∨ (∃ e s2, b s1 = .ret e s2 ∧ E (.ret e s2)) ∨ ∃ c x s2, b s1 = .err c x s2 ∧ E (.err c x s2))) →
    (∃ s', loop g b (as.map f) s = .nx s' ∧ I (dn ++ as) [] s') ∨ E (loop g b (as.map f) s)
  | [], dn, s, h, _ => .inl ⟨s, rfl, by rw [List.append_nil]; exact h⟩
  | a :: as, dn, s, h, step => by
    obtain ⟨s1, e1, k⟩ := step dn a as s h
    rw [List.map_cons]
    unfold loop
    rw [e1]
    rcases k with ⟨s2, e2, h2⟩ | ⟨s2, e2, h2⟩ | ⟨e, s2, e2, h2⟩ | ⟨c, x, s2, e2, h2⟩
    · have r := loop_mapX as (dn ++ [a]) s2 h2 step
      rw [List.append_assoc] at r
      rcases e2 with e2 | e2
      · simp only [e2]
        exact r
      · simp only [e2]
        exact r
    · simp only [e2]
      exact .inr h2
    · simp only [e2]
      exact .inr h2
    · simp only [e2]
      exact .inr h2
theorem rng1_ok {as : List (M Ev)} {s s1 : St} {n : Int} (h : evs as s = .ok [.val (.int n)] s1) (b : 0 ≤ n) (b2 : n < 1000000) : iRng1 as s = .ok (intsN 0 n.toNat) s1 := by
  unfold iRng1
  rw [show mBind (evs as) _ s = _ from by unfold mBind; rw [h]]
  have c1 : -boundN ≤ n := by unfold boundN; omega
  have c2 : n < boundN := by unfold boundN; omega
  show (if -boundN ≤ n ∧ n < boundN then mRet (intsN 0 n.toNat) else mBad) s1 = _
  rw [if_pos ⟨c1, c2⟩]
  rfl
/-- range(len(x)), x in a slot -/
theorem rng_len {i : Nat} {s : St} {d : D} {xs : List D} (h : s.sl[i]? = some (some (.val d))) (e : d = .tuple xs ∨ d = .list xs) (b : xs.length < 1000000) : iRng1 [eBu bLen [eV i]] s = .ok (intsN 0 xs.length) s := by
  refine rng1_ok (n := xs.length) ?_ (by omega) (by omega)
  rcases e with rfl | rfl <;> simp [evs, eBu, mBind, eV, h, mRet, N4.settle, looks, look, bLen]
theorem sSeq_nx {a b : SM} {s s1 : St} (h : a s = .nx s1) : sSeq a b s = b s1 := by
  unfold sSeq
  rw [h]
theorem sSeq_ret {a b : SM} {s s1 : St} {e : Ev} (h : a s = .ret e s1) : sSeq a b s = .ret e s1 := by
  unfold sSeq
  rw [h]
theorem mBind_ok {α β : Type} {m : M α} {k : α → M β} {s s1 : St} {a : α} (h : m s = .ok a s1) : mBind m k s = k a s1 := by
  unfold mBind
  rw [h]
theorem sE_ok {α : Type} {m : M α} {k : α → SM} {s s1 : St} {a : α} (h : m s = .ok a s1) : sE m k s = k a s1 := by
  unfold sE
  rw [h]
end N4
end
section
set_option Elab.async false
set_option linter.all false
set_option autoImplicit false
set_option maxRecDepth 100000
set_option maxHeartbeats 4000000
namespace K02
open PySem PySem.Spec PyProof.Rows N4
def isDict : PyData → Bool
  | .dict _ => true
  | _ => false
def numB : PyData → Bool
  | .int _ => true
  | _ => false
theorem is_number_ok (d : PyData) (h : isDict d = false) (p : Option Pl) : sem_is_number [.val d] p = .ok (.val (.bool (numB d))) p := by
  cases d <;> first
    | (simp [isDict] at h; done)
    | simp [sem_is_number, mkFn, b_is_number, sRet, sE, eAnd, mBind, eUn, eV, look, oIsa, isaB, isaInt, isaBool, boolOf, eNot, mRet, endOf, numB]
def btwB (d : PyData) (lo hi : Int) : Bool := match d with
  | .int v => decide (lo ≤ v) && decide (v ≤ hi)
  | _ => false
theorem is_between_ok (d : PyData) (h : isDict d = false) (lo hi : Int) (p : Option Pl) : sem_is_between [.val d, .val (.int lo), .val (.int hi)] p = .ok (.val (.bool (btwB d lo hi))) p := by
  have hn := is_number_ok d h p
  cases d with
  | int v =>
    have hn : sem_is_number [.val (.int v)] p = .ok (.val (.bool true)) p := hn
    by_cases hl : lo ≤ v
    · simp [sem_is_between, mkFn, b_is_between, sRet, sE, eAnd, mBind, eCall, args, argOf, freeze, eV, hn, mRet, boolOf, eChain, look, oLe, hl, endOf, btwB]
    · simp [sem_is_between, mkFn, b_is_between, sRet, sE, eAnd, mBind, eCall, args, argOf, freeze, eV, hn, mRet, boolOf, eChain, look, oLe, hl, endOf, btwB]
  | dict kv => simp [isDict] at h
  | none => simp only [numB] at hn; simp [sem_is_between, mkFn, b_is_between, sRet, sE, eAnd, mBind, eCall, args, argOf, freeze, eV, hn, mRet, boolOf, endOf, btwB]
  | bool b => simp only [numB] at hn; simp [sem_is_between, mkFn, b_is_between, sRet, sE, eAnd, mBind, eCall, args, argOf, freeze, eV, hn, mRet, boolOf, endOf, btwB]
  | str b => simp only [numB] at hn; simp [sem_is_between, mkFn, b_is_between, sRet, sE, eAnd, mBind, eCall, args, argOf, freeze, eV, hn, mRet, boolOf, endOf, btwB]
  | list b => simp only [numB] at hn; simp [sem_is_between, mkFn, b_is_between, sRet, sE, eAnd, mBind, eCall, args, argOf, freeze, eV, hn, mRet, boolOf, endOf, btwB]
  | tuple b => simp only [numB] at hn; simp [sem_is_between, mkFn, b_is_between, sRet, sE, eAnd, mBind, eCall, args, argOf, freeze, eV, hn, mRet, boolOf, endOf, btwB]
def tofB (d : PyData) (lo hi : Int) : Bool := match d with
  | .tuple xs => decide (lo ≤ (xs.length : Int)) && decide ((xs.length : Int) ≤ hi)
  | _ => false
theorem is_tuple_of_ok (d : PyData) (h : isDict d = false) (lo hi : Int) (p : Option Pl) : sem_is_tuple_of [.val d, .val (.int lo), .val (.int hi)] p = .ok (.val (.bool (tofB d lo hi))) p := by
  cases d with
  | tuple xs =>
    by_cases hl : lo ≤ (xs.length : Int)
    · simp [sem_is_tuple_of, mkFn, b_is_tuple_of, sRet, sE, eAnd, mBind, eUn, oIsa, isaB, isaTuple, eV, mRet, boolOf, eChain, look, eBu, evs, N4.settle, looks, bLen, oLe, hl, endOf, tofB]
    · simp [sem_is_tuple_of, mkFn, b_is_tuple_of, sRet, sE, eAnd, mBind, eUn, oIsa, isaB, isaTuple, eV, mRet, boolOf, eChain, look, eBu, evs, N4.settle, looks, bLen, oLe, hl, endOf, tofB]
  | dict kv => simp [isDict] at h
  | _ => simp [sem_is_tuple_of, mkFn, b_is_tuple_of, sRet, sE, eAnd, mBind, eUn, oIsa, isaB, isaTuple, eV, mRet, boolOf, look, endOf, tofB]
theorem noDict {d : PyData} (h : d.hasDict = false) : isDict d = false := by
  cases d with
  | dict kv => simp [PyData.hasDict] at h
  | _ => rfl
def mvStep (n last : Int) : PyData → Option Int
  | .tuple [x, y] => if btwB x (last + 1) 99 && btwB y 0 (n - 1) then (match x with | .int a => some a | _ => none) else none
  | _ => none
theorem btwB_int {x : PyData} {lo hi : Int} (h : btwB x lo hi = true) : ∃ a, x = .int a ∧ lo ≤ a ∧ a ≤ hi := by
  cases x with
  | int a => simp [btwB] at h; exact ⟨a, rfl, h⟩
  | _ => simp [btwB] at h
theorem sf_body (d m : PyData) (hm : m.hasDict = false) (n last : Int) (p : Option Pl) : b_is_state_form_1 ⟨[some (.val d), some (.val (.int n)), some (.val (.int last)), some (.val m)], p⟩ =
    match mvStep n last m with
    | some a => .nx ⟨[some (.val d), some (.val (.int n)), some (.val (.int a)), some (.val m)], p⟩
    | none => .ret (.val (.bool false)) ⟨[some (.val d), some (.val (.int n)), some (.val (.int last)), some (.val m)], p⟩ := by
  have t1 := is_tuple_of_ok m (noDict hm) 2 2 p
  by_cases h2 : tofB m 2 2 = true
  · obtain ⟨x, y, rfl⟩ : ∃ x y, m = .tuple [x, y] := by
      cases m with
      | tuple xs =>
        simp [tofB] at h2
        match xs, h2 with
        | [x, y], _ => exact ⟨x, y, rfl⟩
        | [], h => simp at h
        | [x], h => simp at h
        | _ :: _ :: _ :: _, h => simp at h; omega
      | _ => simp [tofB] at h2
    have hx : x.hasDict = false ∧ y.hasDict = false := by
      simp [PyData.hasDict, PyData.hasDictAll] at hm
      exact hm
    have t2 := is_between_ok x (noDict hx.1) (last + 1) 99 p
    have t3 := is_between_ok y (noDict hx.2) 0 (n - 1) p
    rw [h2] at t1
    by_cases h3 : btwB x (last + 1) 99 = true
    · obtain ⟨a, rfl, _⟩ := btwB_int h3
      rw [h3] at t2
      by_cases h4 : btwB y 0 (n - 1) = true
      · rw [h4] at t3
        simp [b_is_state_form_1, sSeq, sIf, sE, N4.tOr, N4.tNot, tV, mBind, eCall, args, argOf, freeze, eV, eC, mRet, t1, t2, t3, eOp, oIx, N4.ixN, look, oAdd, oSub, sNil, sSet, store, setSl, mvStep, h3, h4]
      · have h4 : btwB y 0 (n - 1) = false := Bool.eq_false_iff.mpr h4
        rw [h4] at t3
        simp [b_is_state_form_1, sSeq, sIf, sE, N4.tOr, N4.tNot, tV, mBind, eCall, args, argOf, freeze, eV, eC, mRet, t1, t2, t3, eOp, oIx, N4.ixN, look, oAdd, oSub, sNil, sSet, store, setSl, mvStep, h3, h4, sRet]
    · have h3 : btwB x (last + 1) 99 = false := Bool.eq_false_iff.mpr h3
      rw [h3] at t2
      simp [b_is_state_form_1, sSeq, sIf, sE, N4.tOr, N4.tNot, tV, mBind, eCall, args, argOf, freeze, eV, eC, mRet, t1, t2, t3, eOp, oIx, N4.ixN, look, oAdd, oSub, sNil, sSet, store, setSl, mvStep, h3, sRet]
  · have h2 : tofB m 2 2 = false := Bool.eq_false_iff.mpr h2
    rw [h2] at t1
    have e : mvStep n last m = none := by
      unfold mvStep
      split
      · simp [tofB] at h2
      · rfl
    rw [e]
    simp [b_is_state_form_1, sSeq, sIf, sE, N4.tOr, N4.tNot, tV, mBind, eCall, args, argOf, freeze, eV, eC, mRet, t1, sRet]
def sfGo (n : Int) : Int → List PyData → Bool
  | _, [] => true
  | last, m :: r => match mvStep n last m with
    | some a => sfGo n a r
    | none => false
theorem sf_loop (d : PyData) (n : Int) (p : Option Pl) : ∀ (ms : List PyData) (last : Int) (s3 : Option Sl), PyData.hasDictAll ms = false →
    (sfGo n last ms = true ∧ ∃ l s3', loop (gN 3) b_is_state_form_1 ms ⟨[some (.val d), some (.val (.int n)), some (.val (.int last)), s3], p⟩ = .nx ⟨[some (.val d), some (.val (.int n)), some (.val (.int l)), s3'], p⟩) ∨
    (sfGo n last ms = false ∧ ∃ s', loop (gN 3) b_is_state_form_1 ms ⟨[some (.val d), some (.val (.int n)), some (.val (.int last)), s3], p⟩ = .ret (.val (.bool false)) s' ∧ s'.pl = p)
  | [], last, s3, _ => .inl ⟨rfl, last, s3, rfl⟩
  | m :: ms, last, s3, h => by
    have h : m.hasDict = false ∧ PyData.hasDictAll ms = false := by simpa [PyData.hasDictAll] using h
    have e1 : gN 3 m ⟨[some (.val d), some (.val (.int n)), some (.val (.int last)), s3], p⟩ = some ⟨[some (.val d), some (.val (.int n)), some (.val (.int last)), some (.val m)], p⟩ := rfl
    have e2 := sf_body d m h.1 n last p
    unfold loop
    rw [e1]
    simp only [sfGo]
    cases hm : mvStep n last m with
    | some a =>
      rw [hm] at e2
      simp only at e2
      simp only [e2]
      exact sf_loop d n p ms a _ h.2
    | none =>
      rw [hm] at e2
      simp only at e2
      simp only [e2]
      exact .inr ⟨trivial, _, rfl, rfl⟩
def sfB (d : PyData) (n : Int) : Bool := match d with
  | .tuple ms => decide (ms.length ≤ 5) && sfGo n (-1) ms
  | _ => false
theorem is_state_form_ok (d : PyData) (hd : d.hasDict = false) (n : Int) (p : Option Pl) : sem_is_state_form [.val d, .val (.int n)] p = .ok (.val (.bool (sfB d n))) p := by
  have t1 := is_tuple_of_ok d (noDict hd) 0 5 p
  by_cases h : tofB d 0 5 = true
  · rw [h] at t1
    cases d with
    | tuple ms =>
      have hl : ms.length ≤ 5 := by simp [tofB] at h; omega
      have hms : PyData.hasDictAll ms = false := by simpa [PyData.hasDict] using hd
      have lp := sf_loop (.tuple ms) n p ms (-1) none hms
      rcases lp with ⟨h1, l, s3, h2⟩ | ⟨h1, s', h2, h3⟩
      · simp [sem_is_state_form, mkFn, b_is_state_form, sSeq, sIf, sE, N4.tNot, tV, mBind, eCall, args, argOf, freeze, eV, eC, mRet, t1, sNil, sSet, eUn, look, oNeg, store, setSl, sFor, iSeq, List.replicate, h2, sRet, endOf, sfB, hl, h1]
      · simp [sem_is_state_form, mkFn, b_is_state_form, sSeq, sIf, sE, N4.tNot, tV, mBind, eCall, args, argOf, freeze, eV, eC, mRet, t1, sNil, sSet, eUn, look, oNeg, store, setSl, sFor, iSeq, List.replicate, h2, sRet, endOf, sfB, hl, h1, h3]
    | _ => simp [tofB] at h
  · have h : tofB d 0 5 = false := Bool.eq_false_iff.mpr h
    rw [h] at t1
    have e : sfB d n = false := by
      cases d with
      | tuple ms =>
        simp [tofB] at h
        simp [sfB]
        omega
      | _ => rfl
    rw [e]
    simp [sem_is_state_form, mkFn, b_is_state_form, sSeq, sIf, sE, N4.tNot, tV, mBind, eCall, args, argOf, freeze, eV, eC, mRet, t1, sRet, endOf, List.replicate]
theorem ixN_nat {len i : Nat} (h : i < len) : N4.ixN len (i : Int) = some i := by
  unfold N4.ixN
  rw [if_pos (by omega), if_pos (by omega)]
  simp
theorem hasDict_at {xs : List PyData} (h : PyData.hasDictAll xs = false) {i : Nat} {m : PyData} (e : xs[i]? = some m) : m.hasDict = false := by
  induction xs generalizing i with
  | nil => simp at e
  | cons x r ih =>
    have h : x.hasDict = false ∧ PyData.hasDictAll r = false := by simpa [PyData.hasDictAll] using h
    cases i with
    | zero => simp at e; rw [← e]; exact h.1
    | succ j => exact ih h.2 (i := j) (by simpa using e)
def fbGo (n : Int) : Nat → List PyData → Option Nat
  | _, [] => none
  | i, m :: r => if sfB m n then fbGo n (i + 1) r else some i
theorem wf_body (xs : List PyData) (h : PyData.hasDictAll xs = false) (i : Nat) (m : PyData) (e : xs[i]? = some m) (p : Option Pl) : b_wrong_form_1 ⟨[some (.val (.tuple xs)), some (.val (.int i))], p⟩ =
    if sfB m xs.length then .nx ⟨[some (.val (.tuple xs)), some (.val (.int i))], p⟩ else .ret (.val (.int i)) ⟨[some (.val (.tuple xs)), some (.val (.int i))], p⟩ := by
  have hi : i < xs.length := (List.getElem?_eq_some_iff.mp e).1
  have t1 := is_state_form_ok m (hasDict_at h e) xs.length p
  have ix := ixN_nat hi
  by_cases hs : sfB m xs.length = true
  · rw [hs] at t1
    simp [b_wrong_form_1, sIf, sE, N4.tNot, tV, mBind, eCall, args, argOf, freeze, eOp, eV, look, oIx, ix, e, eBu, evs, N4.settle, looks, bLen, mRet, t1, sNil, hs]
  · have hs : sfB m xs.length = false := Bool.eq_false_iff.mpr hs
    rw [hs] at t1
    simp [b_wrong_form_1, sIf, sE, N4.tNot, tV, mBind, eCall, args, argOf, freeze, eOp, eV, look, oIx, ix, e, eBu, evs, N4.settle, looks, bLen, mRet, t1, sRet, hs]
theorem wf_loop (xs : List PyData) (h : PyData.hasDictAll xs = false) (p : Option Pl) : ∀ (k i : Nat) (s1 : Option Sl), i + k = xs.length →
    (fbGo xs.length i (xs.drop i) = none ∧ ∃ s1', loop (gN 1) b_wrong_form_1 (intsN i k) ⟨[some (.val (.tuple xs)), s1], p⟩ = .nx ⟨[some (.val (.tuple xs)), s1'], p⟩) ∨
    (∃ j s', fbGo xs.length i (xs.drop i) = some j ∧ loop (gN 1) b_wrong_form_1 (intsN i k) ⟨[some (.val (.tuple xs)), s1], p⟩ = .ret (.val (.int (j : Nat))) s' ∧ s'.pl = p)
  | 0, i, s1, e => .inl ⟨by rw [List.drop_eq_nil_of_le (by omega)]; rfl, s1, rfl⟩
  | k + 1, i, s1, e => by
    have hi : i < xs.length := by omega
    have em : xs[i]? = some xs[i] := List.getElem?_eq_getElem hi
    have eg : gN 1 (.int (i : Int)) ⟨[some (.val (.tuple xs)), s1], p⟩ = some ⟨[some (.val (.tuple xs)), some (.val (.int i))], p⟩ := rfl
    have eb := wf_body xs h i _ em p
    have en : intsN (i : Int) (k + 1) = .int (i : Int) :: intsN ((i + 1 : Nat) : Int) k := by simp [intsN]
    rw [en, List.drop_eq_getElem_cons hi]
    unfold loop
    rw [eg]
    simp only [fbGo]
    by_cases hs : sfB xs[i] xs.length = true
    · rw [if_pos hs] at eb ⊢
      simp only [eb]
      exact wf_loop xs h p k (i + 1) _ (by omega)
    · rw [if_neg hs] at eb ⊢
      simp only [eb]
      exact .inr ⟨i, _, rfl, rfl, rfl⟩
def wfR : PyData → PyData
  | .tuple xs => if 1 ≤ xs.length ∧ xs.length ≤ 8 then (match fbGo xs.length 0 xs with
    | some j => .int (j : Nat)
    | none => .none) else .int (-1)
  | _ => .int (-1)
theorem wrong_form_ok (d : PyData) (hd : d.hasDict = false) (p : Option Pl) : sem_wrong_form [.val d] p = .ok (.val (wfR d)) p := by
  have t1 := is_tuple_of_ok d (noDict hd) 1 8 p
  by_cases h : tofB d 1 8 = true
  · rw [h] at t1
    cases d with
    | tuple xs =>
      have hl : 1 ≤ xs.length ∧ xs.length ≤ 8 := by simp [tofB] at h; omega
      have hx : PyData.hasDictAll xs = false := by simpa [PyData.hasDict] using hd
      have hr : N4.iRng1 [eBu bLen [eV 0]] ⟨[some (.val (.tuple xs)), none], p⟩ = .ok (intsN 0 xs.length) ⟨[some (.val (.tuple xs)), none], p⟩ := rng_len (d := .tuple xs) rfl (.inl rfl) (by omega)
      have lp := wf_loop xs hx p xs.length 0 none (by omega)
      rw [List.drop_zero] at lp
      have lp0 : ((0 : Nat) : Int) = 0 := rfl
      rw [lp0] at lp
      have e1 : (sIf (N4.tNot (tV (eCall sem_is_tuple_of [eV 0, eC (.int 1), eC (.int 8)]))) (sRet (eUn oNeg (eC (.int 1)))) sNil) ⟨[some (.val (.tuple xs)), none], p⟩ = .nx ⟨[some (.val (.tuple xs)), none], p⟩ := by
        simp [sIf, sE, N4.tNot, tV, mBind, eCall, args, argOf, freeze, eV, eC, mRet, t1, sNil]
      show endOf (b_wrong_form ⟨[some (.val (.tuple xs)), none], p⟩) = _
      unfold b_wrong_form
      rw [sSeq_nx e1]
      unfold sFor
      rw [show wfR (.tuple xs) = (match fbGo xs.length 0 xs with
        | some j => .int (j : Nat)
        | none => .none) from if_pos hl]
      rcases lp with ⟨h1, s1, h2⟩ | ⟨j, s', h1, h2, h3⟩
      · rw [sSeq_nx ((sE_ok hr).trans h2), h1]
        rfl
      · rw [sSeq_ret ((sE_ok hr).trans h2), h1]
        show FOut.ok _ s'.pl = _
        rw [h3]
    | _ => simp [tofB] at h
  · have h : tofB d 1 8 = false := Bool.eq_false_iff.mpr h
    rw [h] at t1
    have e : wfR d = .int (-1) := by
      cases d with
      | tuple xs =>
        have : ¬ (1 ≤ xs.length ∧ xs.length ≤ 8) := fun hh => by
          simp [tofB] at h
          omega
        simp only [wfR, if_neg this]
      | _ => rfl
    rw [e]
    simp [sem_wrong_form, mkFn, b_wrong_form, sSeq, sIf, sE, N4.tNot, tV, mBind, eCall, args, argOf, freeze, eV, eC, mRet, t1, sRet, endOf, List.replicate, eUn, look, oNeg]
end K02
end
section
set_option Elab.async false
set_option linter.all false
set_option autoImplicit false
set_option maxRecDepth 100000
set_option maxHeartbeats 4000000
namespace K02
open PySem N4
abbrev Bk := List (List (Nat × Nat))
def mvD (m : Nat × Nat) : PyData := .tuple [.int m.1, .int m.2]
def stD (ms : List (Nat × Nat)) : PyData := .tuple (ms.map mvD)
def bkD (b : Bk) : PyData := .tuple (b.map stD)
def intsD (F : List Nat) : List PyData := F.map fun k : Nat => .int (k : Int)
structure OkSt (n : Nat) (ms : List (Nat × Nat)) : Prop where
  len : ms.length ≤ 5
  rise : (ms.map (·.1)).Pairwise (· < ·)
  most : ∀ m ∈ ms, m.1 ≤ 99
  to : ∀ m ∈ ms, m.2 < n
structure OkBk (b : Bk) : Prop where
  one : 1 ≤ b.length
  most : b.length ≤ 8
  sts : ∀ ms ∈ b, OkSt b.length ms
theorem mvStep_ok {n : Nat} {last : Int} {m : Nat × Nat} (h1 : last < m.1) (h2 : m.1 ≤ 99) (h3 : m.2 < n) : mvStep n last (mvD m) = some (m.1 : Int) := by
  have a1 : btwB (.int m.1) (last + 1) 99 = true := by simp [btwB]; omega
  have a2 : btwB (.int m.2) 0 ((n : Int) - 1) = true := by simp [btwB]; omega
  simp [mvStep, mvD, a1, a2]
theorem sfGo_ok {n : Nat} : ∀ (ms : List (Nat × Nat)) (last : Int), (∀ m ∈ ms, last < m.1) → (ms.map (·.1)).Pairwise (· < ·) → (∀ m ∈ ms, m.1 ≤ 99) → (∀ m ∈ ms, m.2 < n) → sfGo n last (ms.map mvD) = true
  | [], _, _, _, _, _ => rfl
  | m :: ms, last, h1, h2, h3, h4 => by
    have h2 : (∀ a ∈ ms.map (·.1), m.1 < a) ∧ (ms.map (·.1)).Pairwise (· < ·) := by simpa only [List.map_cons, List.pairwise_cons] using h2
    simp only [List.map_cons, sfGo, mvStep_ok (h1 m (List.mem_cons_self ..)) (h3 m (List.mem_cons_self ..)) (h4 m (List.mem_cons_self ..))]
    exact sfGo_ok ms m.1 (fun x hx => by have := h2.1 x.1 (List.mem_map_of_mem hx); omega) h2.2 (fun x hx => h3 x (List.mem_cons_of_mem _ hx)) (fun x hx => h4 x (List.mem_cons_of_mem _ hx))
theorem sfB_ok {n : Nat} {ms : List (Nat × Nat)} (h : OkSt n ms) : sfB (stD ms) n = true := by
  have := sfGo_ok ms (-1) (fun m _ => by omega) h.rise h.most h.to
  have hl := h.len
  simp [sfB, stD, this, hl]
theorem fbGo_ok {n : Nat} : ∀ (ss : Bk) (i : Nat), (∀ ms ∈ ss, OkSt n ms) → fbGo n i (ss.map stD) = none
  | [], _, _ => rfl
  | ms :: ss, i, h => by
    simp only [List.map_cons, fbGo, sfB_ok (h ms (List.mem_cons_self ..)), if_true]
    exact fbGo_ok ss (i + 1) fun x hx => h x (List.mem_cons_of_mem _ hx)
theorem wfR_ok {b : Bk} (h : OkBk b) : wfR (bkD b) = .none := by
  have h1 : fbGo (b.map stD).length 0 (b.map stD) = none := by
    rw [List.length_map]
    exact fbGo_ok b 0 h.sts
  have h2 : 1 ≤ (b.map stD).length ∧ (b.map stD).length ≤ 8 := by
    rw [List.length_map]
    exact ⟨h.one, h.most⟩
  unfold wfR bkD
  simp only [if_pos h2, h1]
theorem dict_mv (m : Nat × Nat) : (mvD m).hasDict = false := rfl
theorem dict_st (ms : List (Nat × Nat)) : (stD ms).hasDict = false := by
  show PyData.hasDictAll (ms.map mvD) = false
  induction ms with
  | nil => rfl
  | cons m r ih => simp [PyData.hasDictAll, dict_mv, ih]
theorem dict_bk (b : Bk) : (bkD b).hasDict = false := by
  show PyData.hasDictAll (b.map stD) = false
  induction b with
  | nil => rfl
  | cons m r ih => simp [PyData.hasDictAll, dict_st, ih]
def visit : List Nat → List (Nat × Nat) → List Nat
  | F, [] => F
  | F, m :: ms => visit (if m.2 ∈ F then F else F ++ [m.2]) ms
def stOf (b : Bk) (k : Nat) : List (Nat × Nat) := b.getD k []
def bfs (b : Bk) : Nat → Nat → List Nat → List Nat
  | 0, _, F => F
  | k + 1, i, F => if i < F.length then bfs b k (i + 1) (visit F (stOf b (F.getD i 0))) else F
theorem visit_pre : ∀ (ms : List (Nat × Nat)) (F : List Nat), F <+: visit F ms
  | [], F => List.prefix_refl F
  | m :: ms, F => by
    have h := visit_pre ms (if m.2 ∈ F then F else F ++ [m.2])
    unfold visit
    by_cases e : m.2 ∈ F
    · rw [if_pos e] at h ⊢
      exact h
    · rw [if_neg e] at h ⊢
      exact (List.prefix_append F [m.2]).trans h
theorem bfs_pre (b : Bk) : ∀ (k i : Nat) (F : List Nat), F <+: bfs b k i F
  | 0, i, F => List.prefix_refl F
  | k + 1, i, F => by
    unfold bfs
    by_cases e : i < F.length
    · rw [if_pos e]
      exact (visit_pre _ F).trans (bfs_pre b k (i + 1) _)
    · rw [if_neg e]
      exact List.prefix_refl F
structure Met (n : Nat) (F : List Nat) : Prop where
  nd : F.Nodup
  lt : ∀ x ∈ F, x < n
theorem met_len : ∀ {n : Nat} {F : List Nat}, Met n F → F.length ≤ n
  | 0, F, h => by
    cases F with
    | nil => exact Nat.le_refl 0
    | cons x r => exact absurd (h.lt x (List.mem_cons_self ..)) (Nat.not_lt_zero x)
  | n + 1, F, h => by
    by_cases e : n ∈ F
    · have h2 : Met n (F.erase n) := ⟨h.nd.erase n, fun x hx => by
        have h3 := (h.nd.mem_erase_iff).mp hx
        have := h.lt x h3.2
        have := h3.1
        omega⟩
      have := met_len h2
      rw [List.length_erase_of_mem e] at this
      omega
    · have h2 : Met n F := ⟨h.nd, fun x hx => by
        have := h.lt x hx
        have : x ≠ n := fun h => e (h ▸ hx)
        omega⟩
      have := met_len h2
      omega
theorem visit_met {n : Nat} : ∀ (ms : List (Nat × Nat)) (F : List Nat), Met n F → (∀ m ∈ ms, m.2 < n) → Met n (visit F ms) ∧ ∀ m ∈ ms, m.2 ∈ visit F ms
  | [], F, h, _ => ⟨h, fun m hm => nomatch hm⟩
  | m :: ms, F, h, ht => by
    have h' : Met n (if m.2 ∈ F then F else F ++ [m.2]) := by
      by_cases e : m.2 ∈ F
      · rw [if_pos e]
        exact h
      · rw [if_neg e]
        refine ⟨?_, ?_⟩
        · rw [List.nodup_append]
          refine ⟨h.nd, by simp, ?_⟩
          intro a ha c hc
          simp at hc
          rw [hc]
          intro e2
          exact e (e2 ▸ ha)
        · intro x hx
          rcases List.mem_append.mp hx with hx | hx
          · exact h.lt x hx
          · simp at hx
            rw [hx]
            exact ht m (List.mem_cons_self ..)
    have r := visit_met ms _ h' fun x hx => ht x (List.mem_cons_of_mem _ hx)
    unfold visit
    refine ⟨r.1, fun x hx => ?_⟩
    rcases List.mem_cons.mp hx with rfl | hx
    · refine (visit_pre ms _).subset ?_
      by_cases e : x.2 ∈ F
      · rw [if_pos e]
        exact e
      · rw [if_neg e]
        exact List.mem_append_right _ (by simp)
    · exact r.2 x hx
theorem stOf_to {b : Bk} (h : OkBk b) (k : Nat) : ∀ m ∈ stOf b k, m.2 < b.length := by
  intro m hm
  unfold stOf at hm
  by_cases e : k < b.length
  · rw [List.getD_eq_getElem?_getD, List.getElem?_eq_getElem e] at hm
    exact (h.sts _ (List.getElem_mem e)).to m hm
  · rw [List.getD_eq_getElem?_getD, List.getElem?_eq_none (by omega)] at hm
    exact nomatch hm
theorem bfs_met {b : Bk} (h : ∀ k, ∀ m ∈ stOf b k, m.2 < b.length) : ∀ (k i : Nat) (F : List Nat), Met b.length F → Met b.length (bfs b k i F)
  | 0, i, F, hm => hm
  | k + 1, i, F, hm => by
    unfold bfs
    by_cases e : i < F.length
    · rw [if_pos e]
      exact bfs_met h k (i + 1) _ (visit_met _ F hm (h _)).1
    · rw [if_neg e]
      exact hm
theorem bfs_closed {b : Bk} (h : ∀ k, ∀ m ∈ stOf b k, m.2 < b.length) : ∀ (k i : Nat) (F : List Nat), Met b.length F → b.length ≤ i + k → (∀ j, j < i → j < F.length → ∀ m ∈ stOf b (F.getD j 0), m.2 ∈ F) →
    ∀ s ∈ bfs b k i F, ∀ m ∈ stOf b s, m.2 ∈ bfs b k i F
  | 0, i, F, hm, hk, hc => by
    show ∀ s ∈ F, ∀ m ∈ stOf b s, m.2 ∈ F
    intro s hs m hms
    obtain ⟨j, hj, rfl⟩ := List.getElem_of_mem hs
    have := met_len hm
    have e : F.getD j 0 = F[j] := by rw [List.getD_eq_getElem?_getD, List.getElem?_eq_getElem hj]; rfl
    exact hc j (by have : j < F.length := hj; omega) hj m (e ▸ hms)
  | k + 1, i, F, hm, hk, hc => by
    unfold bfs
    by_cases e : i < F.length
    · rw [if_pos e]
      have v := visit_met _ F hm (h (F.getD i 0))
      refine bfs_closed h k (i + 1) _ v.1 (by omega) ?_
      intro j hj hjl m hms
      obtain ⟨R, hR⟩ := visit_pre (stOf b (F.getD i 0)) F
      have hjF : j < F.length := by omega
      have e2 : (visit F (stOf b (F.getD i 0))).getD j 0 = F.getD j 0 := by
        rw [← hR]
        simp [List.getD_eq_getElem?_getD, List.getElem?_append_left hjF]
      rw [e2] at hms
      by_cases ej : j = i
      · subst ej
        exact v.2 m hms
      · exact (visit_pre _ F).subset (hc j (by omega) hjF m hms)
    · rw [if_neg e]
      intro s hs m hms
      obtain ⟨j, hj, rfl⟩ := List.getElem_of_mem hs
      have e : F.getD j 0 = F[j] := by rw [List.getD_eq_getElem?_getD, List.getElem?_eq_getElem hj]; rfl
      exact hc j (by omega) hj m (e ▸ hms)
def renum (G : List Nat) (b : Bk) : Bk := G.map fun s => (stOf b s).map fun m => (m.1, G.idxOf m.2)
theorem idx_pre {F G : List Nat} (hp : F <+: G) (hn : G.Nodup) (t : Nat) (ht : t ∈ G) : G.idxOf t < F.length ↔ t ∈ F := by
  obtain ⟨R, rfl⟩ := hp
  constructor
  · intro h
    refine Classical.byContradiction fun hc => ?_
    rw [List.idxOf_append, if_neg hc] at h
    omega
  · intro h
    rw [List.idxOf_append, if_pos h]
    exact List.idxOf_lt_length_of_mem h
theorem visit_sim {G : List Nat} (hn : G.Nodup) : ∀ (ms : List (Nat × Nat)) (F : List Nat), visit F ms <+: G → visit (List.range F.length) (ms.map fun m => (m.1, G.idxOf m.2)) = List.range (visit F ms).length
  | [], F, _ => rfl
  | m :: ms, F, hp => by
    rw [List.map_cons]
    unfold visit at hp ⊢
    have hF : (if m.2 ∈ F then F else F ++ [m.2]) <+: G := (visit_pre ms _).trans hp
    have hm : m.2 ∈ G := hF.subset (by
      by_cases e : m.2 ∈ F
      · rw [if_pos e]
        exact e
      · rw [if_neg e]
        exact List.mem_append_right _ (by simp))
    have hF0 : F <+: G := by
      by_cases e : m.2 ∈ F
      · rw [if_pos e] at hF
        exact hF
      · rw [if_neg e] at hF
        exact (List.prefix_append F [m.2]).trans hF
    have i := idx_pre hF0 hn m.2 hm
    rw [← visit_sim hn ms _ hp]
    by_cases e : m.2 ∈ F
    · have e2 : G.idxOf m.2 ∈ List.range F.length := List.mem_range.mpr (i.mpr e)
      rw [if_pos e, if_pos e2]
    · have e2 : ¬ G.idxOf m.2 ∈ List.range F.length := fun h => e (i.mp (List.mem_range.mp h))
      rw [if_neg e, if_neg e2]
      rw [if_neg e] at hF
      have e3 : G.idxOf m.2 = F.length := by
        obtain ⟨R, hR⟩ := hF
        rw [← hR, List.append_assoc, List.idxOf_append, if_neg e]
        simp
      rw [e3, List.length_append]
      exact congrArg (fun z => visit z _) (List.range_succ (n := F.length)).symm
theorem stOf_renum {G : List Nat} {b : Bk} {i : Nat} (h : i < G.length) : stOf (renum G b) i = (stOf b (G.getD i 0)).map fun m => (m.1, G.idxOf m.2) := by
  unfold stOf renum
  simp [List.getD_eq_getElem?_getD, List.getElem?_map, List.getElem?_eq_getElem h, stOf]
theorem bfs_sim {G : List Nat} {b : Bk} (hn : G.Nodup) : ∀ (k i : Nat) (F : List Nat), bfs b k i F <+: G → bfs (renum G b) k i (List.range F.length) = List.range (bfs b k i F).length
  | 0, i, F, _ => rfl
  | k + 1, i, F, hp => by
    unfold bfs at hp ⊢
    rw [List.length_range]
    by_cases e : i < F.length
    · rw [if_pos e] at hp ⊢
      rw [if_pos e]
      have hv : visit F (stOf b (F.getD i 0)) <+: G := (bfs_pre b k (i + 1) _).trans hp
      have hF : F <+: G := (visit_pre _ F).trans hv
      have e1 : (List.range F.length).getD i 0 = i := by simp [List.getD_eq_getElem?_getD, List.getElem?_range e]
      have e2 : G.getD i 0 = F.getD i 0 := by
        obtain ⟨R, rfl⟩ := hF
        simp [List.getD_eq_getElem?_getD, List.getElem?_append_left e]
      rw [e1, stOf_renum (Nat.lt_of_lt_of_le e hF.length_le), e2, visit_sim hn _ F hv]
      exact bfs_sim hn k (i + 1) _ hp
    · rw [if_neg e]
      rw [if_neg e]
end K02
end
section
set_option Elab.async false
set_option linter.all false
set_option autoImplicit false
set_option maxRecDepth 100000
set_option maxHeartbeats 4000000
namespace K02
open PySem PySem.Spec PyProof.Rows N4
theorem intsD_eq (F : List Nat) : intsD F = (F.map fun k : Nat => (k : Int)).map .int := by
  unfold intsD
  rw [List.map_map]
  rfl
theorem shal_intsD (F : List Nat) : shal (.list (intsD F)) = true := by
  rw [intsD_eq]
  exact shal_ints _
theorem any_intsD (F : List Nat) (t : Nat) : (intsD F).any (fun z => PyData.eqv z (.int t)) = decide (t ∈ F) := by
  unfold intsD
  rw [List.any_map]
  induction F with
  | nil => rfl
  | cons x r ih =>
    rw [List.any_cons, ih]
    show (PyData.eqv (.int x) (.int t) || _) = _
    rw [eqv_int]
    by_cases e : x = t
    · subst e
      simp
    · have : ¬ ((x : Int) = (t : Int)) := by omega
      have e2 : ¬ t = x := fun h => e h.symm
      simp [this, e2]
theorem in_intsD (F : List Nat) (t : Nat) : oNotIn (.int t) (.list (intsD F)) = some (.val (.bool (!decide (t ∈ F)))) := by
  show (if (shal (.int t) && shal (.list (intsD F))) = true then some (Ev.val (PyData.bool !(intsD F).any fun z => z.eqv (.int t))) else none) = _
  rw [shal_intsD, shal_int, any_intsD]
  rfl
theorem app_intsD (F : List Nat) (t : Nat) : intsD F ++ [.int t] = intsD (F ++ [t]) := by simp [intsD]
theorem len_intsD (F : List Nat) : (intsD F).length = F.length := by simp [intsD]
theorem at_intsD {F : List Nat} {i : Nat} (h : i < F.length) : (intsD F)[i]? = some (.int (F.getD i 0 : Nat)) := by
  simp [intsD, List.getD_eq_getElem?_getD, List.getElem?_eq_getElem h]
theorem sm_body (F : List Nat) (t : Nat) (s0 s1 s3 s4 : Option Sl) (p : Option Pl) (h : F.length < lineN) : b_states_met_1 ⟨[s0, s1, some (.own (intsD F)), s3, s4, some (.val (.int t))], p⟩ = .nx ⟨[s0, s1, some (.own (intsD (if t ∈ F then F else F ++ [t]))), s3, s4, some (.val (.int t))], p⟩ := by
  by_cases e : t ∈ F
  · simp [b_states_met_1, sIf, sE, tV, mBind, eOp, eV, look, in_intsD, e, mRet, sNil]
  · simp [b_states_met_1, sIf, sE, tV, mBind, eOp, eV, look, in_intsD, e, mRet, sApp, onOwn, freeze, len_intsD, h, setSl, app_intsD]
theorem sm_loop (s0 s1 s3 : Option Sl) (p : Option Pl) : ∀ (ms : List (Nat × Nat)) (F : List Nat) (s4 s5 : Option Sl), F.length + ms.length ≤ lineN →
    ∃ s4' s5', loop (gT [gN 4, gN 5]) b_states_met_1 (ms.map mvD) ⟨[s0, s1, some (.own (intsD F)), s3, s4, s5], p⟩ = .nx ⟨[s0, s1, some (.own (intsD (visit F ms))), s3, s4', s5'], p⟩
  | [], F, s4, s5, _ => ⟨s4, s5, rfl⟩
  | m :: ms, F, s4, s5, h => by
    have eg : gT [gN 4, gN 5] (mvD m) ⟨[s0, s1, some (.own (intsD F)), s3, s4, s5], p⟩ = some ⟨[s0, s1, some (.own (intsD F)), s3, some (.val (.int m.1)), some (.val (.int m.2))], p⟩ := rfl
    have h : F.length + (ms.length + 1) ≤ lineN := h
    have eb := sm_body F m.2 s0 s1 s3 (some (.val (.int m.1))) p (by omega)
    rw [List.map_cons]
    unfold loop visit
    rw [eg]
    simp only [eb]
    refine sm_loop s0 s1 s3 p ms _ _ _ ?_
    by_cases e : m.2 ∈ F
    · rw [if_pos e]
      omega
    · rw [if_neg e, List.length_append, List.length_singleton]
      omega
theorem len_bk (b : Bk) : (b.map stD).length = b.length := by simp
theorem at_bk {b : Bk} {i : Nat} (h : i < b.length) : (b.map stD)[i]? = some (stD (stOf b i)) := by
  simp [stOf, List.getD_eq_getElem?_getD, List.getElem?_eq_getElem h]
theorem getD_lt {n : Nat} {F : List Nat} (h : Met n F) {i : Nat} (hi : i < F.length) : F.getD i 0 < n := by
  rw [List.getD_eq_getElem?_getD, List.getElem?_eq_getElem hi]
  exact h.lt _ (List.getElem_mem hi)
theorem ix_bk {b : Bk} {F : List Nat} (hm : Met b.length F) {i : Nat} (hi : i < F.length) (s1 s4 s5 : Option Sl) (p : Option Pl) :
    iSeq (eOp oIx (eV 0) (eOp oIx (eV 2) (eV 3))) ⟨[some (.val (bkD b)), s1, some (.own (intsD F)), some (.val (.int i)), s4, s5], p⟩ = .ok ((stOf b (F.getD i 0)).map mvD) ⟨[some (.val (bkD b)), s1, some (.own (intsD F)), some (.val (.int i)), s4, s5], p⟩ := by
  have x1 := ixN_nat (len := (intsD F).length) (i := i) (by rw [len_intsD]; exact hi)
  have x2 := at_intsD hi
  have x3 := ixN_nat (len := (b.map stD).length) (i := F.getD i 0) (by rw [len_bk]; exact getD_lt hm hi)
  have x4 := at_bk (getD_lt hm hi)
  simp only [iSeq, mBind, eOp, eV, look, oIx, bkD, x1, x2, x3, x4, List.getElem?_cons_zero, List.getElem?_cons_succ, Option.map_some, freeze, stD, mRet]
theorem st_len {b : Bk} (h : OkBk b) (k : Nat) : (stOf b k).length ≤ 5 := by
  unfold stOf
  by_cases e : k < b.length
  · rw [List.getD_eq_getElem?_getD, List.getElem?_eq_getElem e]
    exact (h.sts _ (List.getElem_mem e)).len
  · rw [List.getD_eq_getElem?_getD, List.getElem?_eq_none (by omega)]
    exact Nat.zero_le 5
theorem sm_while {b : Bk} (h : OkBk b) (s1 : Option Sl) (p : Option Pl) : ∀ (k fuel i : Nat) (F : List Nat) (s4 s5 : Option Sl), Met b.length F → i ≤ F.length → b.length + 1 ≤ i + k → k ≤ fuel →
    ∃ s3' s4' s5', whileN (tV (eOp oLt (eV 3) (eBu bLen [eV 2]))) b_states_met_2 fuel ⟨[some (.val (bkD b)), s1, some (.own (intsD F)), some (.val (.int i)), s4, s5], p⟩ = .nx ⟨[some (.val (bkD b)), s1, some (.own (intsD (bfs b k i F))), s3', s4', s5'], p⟩
  | 0, fuel, i, F, s4, s5, hm, hi, hk, hf => by
    have := met_len hm
    omega
  | k + 1, 0, i, F, s4, s5, hm, hi, hk, hf => absurd hf (Nat.not_succ_le_zero k)
  | k + 1, fuel + 1, i, F, s4, s5, hm, hi, hk, hf => by
    have ct : tV (eOp oLt (eV 3) (eBu bLen [eV 2])) ⟨[some (.val (bkD b)), s1, some (.own (intsD F)), some (.val (.int i)), s4, s5], p⟩ = .ok (decide (i < F.length)) ⟨[some (.val (bkD b)), s1, some (.own (intsD F)), some (.val (.int i)), s4, s5], p⟩ := by
      simp [tV, mBind, eOp, eV, eBu, evs, N4.settle, looks, look, bLen, len_intsD, oLt, mRet]
    unfold whileN bfs
    rw [ct]
    by_cases e : i < F.length
    · rw [if_pos e, decide_eq_true e]
      have l5 := st_len h (F.getD i 0)
      have lF := met_len hm
      have l8 := h.most
      obtain ⟨s4', s5', lp⟩ := sm_loop (some (.val (bkD b))) s1 (some (.val (.int i))) p (stOf b (F.getD i 0)) F s4 s5 (by unfold lineN; omega)
      have eb : b_states_met_2 ⟨[some (.val (bkD b)), s1, some (.own (intsD F)), some (.val (.int i)), s4, s5], p⟩ = .nx ⟨[some (.val (bkD b)), s1, some (.own (intsD (visit F (stOf b (F.getD i 0))))), some (.val (.int ((i + 1 : Nat) : Int))), s4', s5'], p⟩ := by
        unfold b_states_met_2 sFor
        rw [sSeq_nx ((sE_ok (ix_bk hm e s1 s4 s5 p)).trans lp)]
        simp [sSet, sE, eOp, mBind, eV, eC, mRet, look, oAdd, store, freeze, setSl]
      simp only [eb]
      have v := visit_met _ F hm (stOf_to h (F.getD i 0))
      exact sm_while h s1 p k fuel (i + 1) _ s4' s5' v.1 (by have := (visit_pre (stOf b (F.getD i 0)) F).length_le; omega) (by omega) (by omega)
    · rw [if_neg e, decide_eq_false e]
      exact ⟨_, _, _, rfl⟩
theorem states_met_ok {b : Bk} (h : OkBk b) (p : Option Pl) : sem_states_met [.val (bkD b), .val (.int 0)] p = .ok (.fresh (intsD (bfs b (b.length + 1) 0 [0]))) p := by
  have h1 := h.one
  have h8 := h.most
  obtain ⟨s3, s4, s5, lp⟩ := sm_while h (some (.val (.int 0))) p (b.length + 1) fuelN 0 [0] none none ⟨by simp, fun x hx => by simp at hx; omega⟩ (Nat.zero_le _) (by omega) (by unfold fuelN; omega)
  have e1 : sPars [2, 3] [eLst [eV 1], eC (.int 0)] ⟨[some (.val (bkD b)), some (.val (.int 0)), none, none, none, none], p⟩ = .nx ⟨[some (.val (bkD b)), some (.val (.int 0)), some (.own (intsD [0])), some (.val (.int (0 : Nat))), none, none], p⟩ := by
    simp [sPars, sE, prs, mBind, eLst, frzs, eV, freeze, mRet, lineN, own1, eC, putEvs, sSeq, putEv, setSl, sNil, intsD]
  show endOf (b_states_met ⟨[some (.val (bkD b)), some (.val (.int 0)), none, none, none, none], p⟩) = _
  unfold b_states_met sWhile
  rw [sSeq_nx e1, sSeq_nx lp]
  rfl
def AllMet (b : Bk) : Prop := ∀ k, k < b.length → k ∈ bfs b (b.length + 1) 0 [0]
theorem fs_loop {b : Bk} (G : List Nat) (p : Option Pl) : ∀ (k i : Nat) (s2 : Option Sl), (∀ j, i ≤ j → j < i + k → j ∈ G) →
    ∃ s2', loop (gN 2) b_first_stray_1 (intsN i k) ⟨[some (.val (bkD b)), some (.own (intsD G)), s2], p⟩ = .nx ⟨[some (.val (bkD b)), some (.own (intsD G)), s2'], p⟩
  | 0, i, s2, _ => ⟨s2, rfl⟩
  | k + 1, i, s2, h => by
    have eg : gN 2 (.int (i : Int)) ⟨[some (.val (bkD b)), some (.own (intsD G)), s2], p⟩ = some ⟨[some (.val (bkD b)), some (.own (intsD G)), some (.val (.int i))], p⟩ := rfl
    have hm : i ∈ G := h i (Nat.le_refl i) (by omega)
    have eb : b_first_stray_1 ⟨[some (.val (bkD b)), some (.own (intsD G)), some (.val (.int i))], p⟩ = .nx ⟨[some (.val (bkD b)), some (.own (intsD G)), some (.val (.int i))], p⟩ := by
      simp [b_first_stray_1, sIf, sE, tV, mBind, eOp, eV, look, in_intsD, hm, mRet, sNil]
    have en : intsN (i : Int) (k + 1) = .int (i : Int) :: intsN ((i + 1 : Nat) : Int) k := by simp [intsN]
    rw [en]
    unfold loop
    rw [eg]
    simp only [eb]
    exact fs_loop G p k (i + 1) _ fun j h1 h2 => h j (by omega) (by omega)
theorem first_stray_ok {b : Bk} (h : OkBk b) (ha : AllMet b) (p : Option Pl) : sem_first_stray [.val (bkD b)] p = .ok (.val .none) p := by
  have sm := states_met_ok h p
  have h8 := h.most
  obtain ⟨s2, lp⟩ := fs_loop (b := b) (bfs b (b.length + 1) 0 [0]) p b.length 0 none (fun j _ h2 => ha j (by omega))
  have lp : loop (gN 2) b_first_stray_1 (intsN 0 b.length) _ = _ := lp
  have e1 : sSet 1 (eCall sem_states_met [eV 0, eC (.int 0)]) ⟨[some (.val (bkD b)), none, none], p⟩ = .nx ⟨[some (.val (bkD b)), some (.own (intsD (bfs b (b.length + 1) 0 [0]))), none], p⟩ := by
    simp [sSet, sE, eCall, args, mBind, argOf, freeze, eV, eC, mRet, sm, store, setSl]
  have hr : N4.iRng1 [eBu bLen [eV 0]] ⟨[some (.val (bkD b)), some (.own (intsD (bfs b (b.length + 1) 0 [0]))), none], p⟩ = .ok (intsN 0 b.length) ⟨[some (.val (bkD b)), some (.own (intsD (bfs b (b.length + 1) 0 [0]))), none], p⟩ := by
    have := rng_len (i := 0) (s := ⟨[some (.val (bkD b)), some (.own (intsD (bfs b (b.length + 1) 0 [0]))), none], p⟩) (d := bkD b) (xs := b.map stD) rfl (.inl rfl) (by rw [len_bk]; omega)
    rw [len_bk] at this
    exact this
  show endOf (b_first_stray ⟨[some (.val (bkD b)), none, none], p⟩) = _
  unfold b_first_stray sFor
  rw [sSeq_nx e1, sSeq_nx ((sE_ok hr).trans lp)]
  rfl
theorem check_forms_ok {b : Bk} (h : OkBk b) (p : Option Pl) : sem_check_forms [.val (bkD b)] p = .ok (.val .none) p := by
  have t := wrong_form_ok (bkD b) (dict_bk b) p
  rw [wfR_ok h] at t
  show endOf (b_check_forms ⟨[some (.val (bkD b)), none], p⟩) = _
  simp [b_check_forms, sSeq, sSet, sE, eCall, args, mBind, argOf, freeze, eV, eC, mRet, t, store, setSl, sIf, tV, eOp, look, oIsNotB, oIsNot, isNone, sNil, endOf]
theorem made_book_ok {b : Bk} (h : OkBk b) (ha : AllMet b) (p : Option Pl) : sem_made_book [.val (bkD b)] p = .ok (.val (bkD b)) p := by
  have t := check_forms_ok h p
  have t2 := first_stray_ok h ha p
  show endOf (b_made_book ⟨[some (.val (bkD b)), none], p⟩) = _
  simp [b_made_book, sSeq, sExpr, sSet, sE, eCall, args, mBind, argOf, freeze, eV, eC, mRet, t, t2, store, setSl, sIf, tV, eOp, look, oIsNotB, oIsNot, isNone, sNil, sRet, endOf]
end K02
end
section
set_option Elab.async false
set_option linter.all false
set_option autoImplicit false
set_option maxRecDepth 100000
set_option maxHeartbeats 4000000
namespace K02
open PySem PySem.Spec PyProof.Rows N4
def msgB (d : PyData) (m : Nat × Nat) : Bool := match d with
  | .int z => decide ((m.1 : Int) = z)
  | _ => false
def nextS (b : Bk) (k : Nat) (d : PyData) : Option Nat := ((stOf b k).find? (msgB d)).map (·.2)
def optD : Option Nat → PyData
  | some k => .int k
  | none => .none
theorem nextS_lt {b : Bk} (h : OkBk b) {k t : Nat} {d : PyData} (e : nextS b k d = some t) : t < b.length := by
  unfold nextS at e
  cases hf : (stOf b k).find? (msgB d) with
  | none => rw [hf] at e; cases e
  | some m =>
    rw [hf] at e
    cases e
    exact stOf_to h k m (List.mem_of_find?_eq_some hf)
theorem oIsB_none (d : PyData) : oIsB d .none = some (.val (.bool (isNone d))) := by cases d <;> rfl
theorem oIsNotB_none (d : PyData) : oIsNotB d .none = some (.val (.bool (!isNone d))) := by cases d <;> rfl
theorem eqv_str (a b : PySem.Str) : PyData.eqv (.str a) (.str b) = decide (a = b) := by
  by_cases e : a = b <;> simp [PyData.eqv, e]
theorem shal_str {a : PySem.Str} (h : PyData.strOk a = true) : shal (.str a) = true := by
  unfold shal SeqAt.shaped
  simp [PyData.canLay0, PyData.depth, h]
theorem eLC_ok {own : List Nat} {it : M (List D)} {g : Tg} {c : M Bool} {e : M Ev} {s s1 s2 : N4.St} {ds xs : List D} (hi : it s = .ok ds s1) (hl : lcGo own g c e ds [] s1 = .ok xs s2) : eLC own it g c e s = .ok (.fresh xs) (keepS s1 own s2) := by
  unfold eLC
  rw [mBind_ok hi]
  simp only [hl]
theorem oEq_str {a b : PySem.Str} (ha : PyData.strOk a = true) (hb : PyData.strOk b = true) : oEq (.str a) (.str b) = some (.val (.bool (decide (a = b)))) := by
  show (if (shal (.str a) && shal (.str b)) = true then some (Ev.val (PyData.bool (PyData.eqv (.str a) (.str b)))) else none) = _
  rw [eqv_str, shal_str ha, shal_str hb]
  rfl
theorem oNe_str {a b : PySem.Str} (ha : PyData.strOk a = true) (hb : PyData.strOk b = true) : oNe (.str a) (.str b) = some (.val (.bool (!decide (a = b)))) := by
  show (if (shal (.str a) && shal (.str b)) = true then some (Ev.val (PyData.bool (!PyData.eqv (.str a) (.str b)))) else none) = _
  rw [eqv_str, shal_str ha, shal_str hb]
  rfl
theorem st_most {b : Bk} (h : OkBk b) (k : Nat) : ∀ m ∈ stOf b k, m.1 ≤ 99 := by
  intro m hm
  unfold stOf at hm
  by_cases e : k < b.length
  · rw [List.getD_eq_getElem?_getD, List.getElem?_eq_getElem e] at hm
    exact (h.sts _ (List.getElem_mem e)).most m hm
  · rw [List.getD_eq_getElem?_getD, List.getElem?_eq_none (by omega)] at hm
    exact nomatch hm
theorem eq_nil (F : List Nat) : oEq (.list (intsD F)) (.list []) = some (.val (.bool F.isEmpty)) := by
  show (if (shal (.list (intsD F)) && shal (.list [])) = true then some (Ev.val (PyData.bool (PyData.eqv (.list (intsD F)) (.list [])))) else none) = _
  rw [shal_intsD, intsD_eq, eqv_nil]
  cases F <;> rfl
theorem op_repr {f : D → D → Option Ev} {A B : M Ev} {s : N4.St} {x y : PyData} {u v : PySem.Str} {r : Bool} (hA : A s = .ok (.val x) s) (hB : B s = .ok (.val y) s) (rx : bRepr [x] = some (.val (.str u))) (ry : bRepr [y] = some (.val (.str v))) (q : f (.str u) (.str v) = some (.val (.bool r))) :
    eOp f (eBu bRepr [A]) (eBu bRepr [B]) s = .ok (.val (.bool r)) s := by
  simp [eOp, eBu, evs, mBind, hA, hB, mRet, N4.settle, looks, look, rx, ry, q]
theorem tV_ok {A : M Ev} {s s1 : N4.St} {r : Bool} (h : A s = .ok (.val (.bool r)) s1) : tV A s = .ok r s1 := by
  simp [tV, mBind, h, mRet]
end K02
end
section
set_option Elab.async false
set_option linter.all false
set_option autoImplicit false
set_option maxRecDepth 100000
set_option maxHeartbeats 4000000
namespace K02
open PySem PySem.Spec PyProof.Rows N4
theorem strOk_app {a b : PySem.Str} (ha : PyData.strOk a = true) (hb : PyData.strOk b = true) : PyData.strOk (a ++ b) = true := by
  unfold PyData.strOk at *
  show (a.cps ++ b.cps).all _ = true
  rw [Array.all_append, ha, hb]
  rfl
theorem len_app (a b : PySem.Str) : (a ++ b).length = a.length + b.length := Array.size_append
theorem strOk_join {sep : PySem.Str} (hs : PyData.strOk sep = true) : ∀ ts : List PySem.Str, (∀ t ∈ ts, PyData.strOk t = true) → PyData.strOk (PySem.Str.join sep ts) = true
  | [], _ => by
    show PyData.strOk PySem.Str.empty = true
    decide +kernel
  | [x], h => h x (List.mem_cons_self ..)
  | x :: y :: r, h => strOk_app (strOk_app (h x (List.mem_cons_self ..)) hs) (strOk_join hs (y :: r) fun t ht => h t (List.mem_cons_of_mem _ ht))
theorem len_join {sep : PySem.Str} {B : Nat} : ∀ ts : List PySem.Str, (∀ t ∈ ts, t.length ≤ B) → (PySem.Str.join sep ts).length ≤ ts.length * (B + sep.length)
  | [], _ => Nat.zero_le _
  | [x], h => by
    have := h x (List.mem_cons_self ..)
    show x.length ≤ 1 * (B + sep.length)
    omega
  | x :: y :: r, h => by
    have h1 := h x (List.mem_cons_self ..)
    have h2 := len_join (sep := sep) (B := B) (y :: r) fun t ht => h t (List.mem_cons_of_mem _ ht)
    show (x ++ sep ++ PySem.Str.join sep (y :: r)).length ≤ _
    rw [len_app, len_app]
    rw [List.length_cons, Nat.succ_mul]
    omega
structure Nc (L k : Nat) (d : PyData) : Prop where
  len : d.shown.length ≤ L
  sh : d.showable = true
  lay : d.canLay0 = true
  dep : d.depth ≤ k
  ok : PyData.strOk d.shown = true
theorem Nc.mono {L k L' k' : Nat} {d : PyData} (h : Nc L k d) (a : L ≤ L') (b : k ≤ k') : Nc L' k' d := ⟨Nat.le_trans h.len a, h.sh, h.lay, Nat.le_trans h.dep b, h.ok⟩
theorem nc_all {L k : Nat} : ∀ xs : List PyData, (∀ d ∈ xs, Nc L k d) → (∀ t ∈ PyData.shownAll xs, t.length ≤ L ∧ PyData.strOk t = true) ∧ PyData.showableAll xs = true ∧ PyData.canLayAll0 xs = true ∧ PyData.depthAll xs ≤ k ∧ (PyData.shownAll xs).length = xs.length
  | [], _ => ⟨fun t ht => by simp [PyData.shownAll] at ht, rfl, rfl, Nat.zero_le _, rfl⟩
  | d :: xs, h => by
    have h1 := h d (List.mem_cons_self ..)
    have h2 := nc_all xs fun x hx => h x (List.mem_cons_of_mem _ hx)
    refine ⟨fun t ht => ?_, ?_, ?_, ?_, ?_⟩
    · simp only [PyData.shownAll, List.mem_cons] at ht
      rcases ht with rfl | ht
      · exact ⟨h1.len, h1.ok⟩
      · exact h2.1 t ht
    · simp only [PyData.showableAll, h1.sh, h2.2.1, Bool.and_self]
    · simp only [PyData.canLayAll0, h1.lay, h2.2.2.1, Bool.and_self]
    · simp only [PyData.depthAll]
      have := h1.dep
      have := h2.2.2.2.1
      omega
    · simp only [PyData.shownAll, List.length_cons, h2.2.2.2.2]
theorem nc_tuple {L k : Nat} {xs : List PyData} (h : ∀ d ∈ xs, Nc L k d) : Nc (3 + xs.length * (L + 2)) (k + 1) (.tuple xs) := by
  obtain ⟨h1, h2, h3, h4, h5⟩ := nc_all xs h
  have j1 := len_join (sep := ", ") (B := L) (PyData.shownAll xs) fun t ht => (h1 t ht).1
  have j2 := strOk_join (sep := ", ") (by decide +kernel) (PyData.shownAll xs) fun t ht => (h1 t ht).2
  have e0 : (", " : PySem.Str).length = 2 := by decide +kernel
  rw [h5, e0] at j1
  have e1 : ("(" : PySem.Str).length = 1 := by decide +kernel
  have e2 : (")" : PySem.Str).length = 1 := by decide +kernel
  have e3 : (",)" : PySem.Str).length = 2 := by decide +kernel
  refine ⟨?_, by simpa only [PyData.showable] using h2, by simpa only [PyData.canLay0] using h3, by simp only [PyData.depth]; omega, ?_⟩
  · simp only [PyData.shown]
    unfold tupleText
    rw [len_app, len_app, e1]
    by_cases c : ((PyData.shownAll xs).length == 1) = true
    · rw [if_pos c, e3]
      omega
    · rw [if_neg c, e2]
      omega
  · simp only [PyData.shown]
    unfold tupleText
    refine strOk_app (strOk_app (by decide +kernel) j2) ?_
    by_cases c : ((PyData.shownAll xs).length == 1) = true
    · rw [if_pos c]
      decide +kernel
    · rw [if_neg c]
      decide +kernel
theorem nc_repr {L k : Nat} {d : PyData} (h : Nc L k d) (a : L ≤ lineN) (b : k ≤ 64) : bRepr [d] = some (.val (.str d.shown)) := by
  have h1 : d.shown.length ≤ lineN := Nat.le_trans h.len a
  have h2 : shal d = true := by
    unfold shal SeqAt.shaped
    rw [h.lay, decide_eq_true (Nat.le_trans h.dep b)]
    rfl
  simp [bRepr, h.sh, h1, h2]
theorem nc_bool (b : Bool) : Nc 5 0 (.bool b) := by cases b <;> exact ⟨by decide +kernel, rfl, by decide +kernel, Nat.le_refl 0, by decide +kernel⟩
end K02
end
section
set_option Elab.async false
set_option linter.all false
set_option autoImplicit false
set_option maxRecDepth 100000
set_option maxHeartbeats 4000000
namespace K02
open PySem PySem.Spec PyProof.Rows N4
theorem bfs_idle (b : Bk) : ∀ (k i : Nat) (F : List Nat), F.length ≤ i → bfs b k i F = F
  | 0, _, _, _ => rfl
  | k + 1, i, F, h => by
    unfold bfs
    rw [if_neg (by omega)]
theorem bfs_stop (b : Bk) (m : Nat) : ∀ (k i : Nat) (F : List Nat), (bfs b k i F).length ≤ i + k → bfs b (k + m) i F = bfs b k i F
  | 0, i, F, h => bfs_idle b _ i F h
  | k + 1, i, F, h => by
    rw [Nat.add_right_comm]
    unfold bfs at h ⊢
    by_cases e : i < F.length
    · rw [if_pos e] at h ⊢
      rw [if_pos e]
      exact bfs_stop b m k (i + 1) _ (by omega)
    · rw [if_neg e, if_neg e]
theorem bfs_less (b : Bk) : ∀ (j k i : Nat) (F : List Nat), (bfs b k i F).length ≤ i + j → j ≤ k → bfs b j i F = bfs b k i F
  | 0, k, i, F, h, _ => (bfs_idle b k i F (Nat.le_trans (bfs_pre b k i F).length_le h)).symm
  | j + 1, 0, i, F, h, hk => absurd hk (Nat.not_succ_le_zero j)
  | j + 1, k + 1, i, F, h, hk => by
    unfold bfs at h ⊢
    by_cases e : i < F.length
    · rw [if_pos e] at h ⊢
      rw [if_pos e]
      exact bfs_less b j k (i + 1) _ (by omega) (by omega)
    · rw [if_neg e, if_neg e]
def metOf (b : Bk) : List Nat := bfs b b.length 0 [0]
theorem metOf_met {b : Bk} (h : OkBk b) : Met b.length (metOf b) := bfs_met (stOf_to h) _ _ _ ⟨by simp, fun x hx => by have := h.one; simp at hx; omega⟩
theorem metOf_closed {b : Bk} (h : OkBk b) : ∀ s ∈ metOf b, ∀ m ∈ stOf b s, m.2 ∈ metOf b := bfs_closed (stOf_to h) _ _ _ ⟨by simp, fun x hx => by have := h.one; simp at hx; omega⟩ (by omega) fun j hj => absurd hj (Nat.not_lt_zero j)
theorem ok_renum {b : Bk} (h : OkBk b) : OkBk (renum (metOf b) b) := by
  have hm := metOf_met h
  have hl := met_len hm
  have h8 := h.most
  have e : (renum (metOf b) b).length = (metOf b).length := by simp [renum]
  have p1 : 1 ≤ (metOf b).length := (bfs_pre b b.length 0 [0]).length_le
  refine ⟨by omega, by omega, fun ms hms => ?_⟩
  rw [e]
  simp only [renum, List.mem_map] at hms
  obtain ⟨s, hs, rfl⟩ := hms
  have hst : stOf b s ∈ b := by
    have := hm.lt s hs
    unfold stOf
    rw [List.getD_eq_getElem?_getD, List.getElem?_eq_getElem this]
    exact List.getElem_mem this
  have o := h.sts _ hst
  refine ⟨by rw [List.length_map]; exact o.len, ?_, ?_, ?_⟩
  · rw [List.map_map]
    exact o.rise
  · intro m hm'
    obtain ⟨m0, h0, rfl⟩ := List.mem_map.mp hm'
    exact o.most m0 h0
  · intro m hm'
    obtain ⟨m0, h0, rfl⟩ := List.mem_map.mp hm'
    exact List.idxOf_lt_length_of_mem (metOf_closed h s hs m0 h0)
theorem allMet_renum {b : Bk} (h : OkBk b) : AllMet (renum (metOf b) b) := by
  have hm := metOf_met h
  have hl := met_len hm
  have e : (renum (metOf b) b).length = (metOf b).length := by simp [renum]
  have e1 : bfs b (metOf b).length 0 [0] = metOf b := bfs_less b _ _ 0 [0] (by rw [Nat.zero_add]; exact Nat.le_refl _) hl
  have s := bfs_sim (G := metOf b) (b := b) hm.nd (metOf b).length 0 [0] (by rw [e1]; exact List.prefix_refl _)
  rw [e1] at s
  have s : bfs (renum (metOf b) b) (metOf b).length 0 [0] = List.range (metOf b).length := s
  intro k hk
  rw [e] at hk ⊢
  rw [bfs_stop _ 1 _ _ _ (by rw [s, List.length_range]; omega), s]
  exact List.mem_range.mpr hk
def rsD (ms : List (Nat × Nat)) : PyData := .list (ms.map mvD)
def rbD (b : Bk) : PyData := .list (b.map rsD)
theorem mt_body (F : List Nat) (t : Nat) (s0 s2 s3 s5 : Option Sl) (p : Option Pl) (h : F.length < lineN) : b__law_book_meeting_1 ⟨[s0, some (.own (intsD F)), s2, s3, some (.val (.int t)), s5], p⟩ = .nx ⟨[s0, some (.own (intsD (if t ∈ F then F else F ++ [t]))), s2, s3, some (.val (.int t)), s5], p⟩ := by
  by_cases e : t ∈ F
  · simp [b__law_book_meeting_1, sIf, sE, tV, mBind, eOp, eV, look, in_intsD, e, mRet, sNil]
  · simp [b__law_book_meeting_1, sIf, sE, tV, mBind, eOp, eV, look, in_intsD, e, mRet, sApp, onOwn, freeze, len_intsD, h, setSl, app_intsD]
theorem mt_visit (s0 s2 s5 : Option Sl) (p : Option Pl) : ∀ (ms : List (Nat × Nat)) (F : List Nat) (s3 s4 : Option Sl), F.length + ms.length ≤ lineN →
    ∃ s3' s4', loop (gT [gN 3, gN 4]) b__law_book_meeting_1 (ms.map mvD) ⟨[s0, some (.own (intsD F)), s2, s3, s4, s5], p⟩ = .nx ⟨[s0, some (.own (intsD (visit F ms))), s2, s3', s4', s5], p⟩
  | [], F, s3, s4, _ => ⟨s3, s4, rfl⟩
  | m :: ms, F, s3, s4, h => by
    have eg : gT [gN 3, gN 4] (mvD m) ⟨[s0, some (.own (intsD F)), s2, s3, s4, s5], p⟩ = some ⟨[s0, some (.own (intsD F)), s2, some (.val (.int m.1)), some (.val (.int m.2)), s5], p⟩ := rfl
    have h : F.length + (ms.length + 1) ≤ lineN := h
    have eb := mt_body F m.2 s0 s2 (some (.val (.int m.1))) s5 p (by omega)
    rw [List.map_cons]
    unfold loop visit
    rw [eg]
    simp only [eb]
    refine mt_visit s0 s2 s5 p ms _ _ _ ?_
    by_cases e : m.2 ∈ F
    · rw [if_pos e]
      omega
    · rw [if_neg e, List.length_append, List.length_singleton]
      omega
theorem len_rb (b : Bk) : (b.map rsD).length = b.length := by simp
theorem at_rb {b : Bk} {i : Nat} (h : i < b.length) : (b.map rsD)[i]? = some (rsD (stOf b i)) := by
  simp [stOf, List.getD_eq_getElem?_getD, List.getElem?_eq_getElem h]
theorem mt_loop {b : Bk} (h : OkBk b) (s5 : Option Sl) (p : Option Pl) : ∀ (k i : Nat) (F : List Nat) (s2 s3 s4 : Option Sl), Met b.length F → i ≤ F.length →
    ∃ s2' s3' s4', loop (gN 2) b__law_book_meeting_2 (intsN i k) ⟨[some (.val (rbD b)), some (.own (intsD F)), s2, s3, s4, s5], p⟩ = .nx ⟨[some (.val (rbD b)), some (.own (intsD (bfs b k i F))), s2', s3', s4', s5], p⟩
  | 0, i, F, s2, s3, s4, hm, hi => ⟨s2, s3, s4, rfl⟩
  | k + 1, i, F, s2, s3, s4, hm, hi => by
    have eg : gN 2 (.int (i : Int)) ⟨[some (.val (rbD b)), some (.own (intsD F)), s2, s3, s4, s5], p⟩ = some ⟨[some (.val (rbD b)), some (.own (intsD F)), some (.val (.int i)), s3, s4, s5], p⟩ := rfl
    have en : intsN (i : Int) (k + 1) = .int (i : Int) :: intsN ((i + 1 : Nat) : Int) k := by simp [intsN]
    have et : tV (eOp oEq (eV 2) (eBu bLen [eV 1])) ⟨[some (.val (rbD b)), some (.own (intsD F)), some (.val (.int i)), s3, s4, s5], p⟩ = .ok (decide ((i : Int) = F.length)) ⟨[some (.val (rbD b)), some (.own (intsD F)), some (.val (.int i)), s3, s4, s5], p⟩ := by
      simp [tV, mBind, eOp, eV, eBu, evs, N4.settle, looks, look, bLen, len_intsD, oEq, shal_int, eqv_int, mRet]
    rw [en]
    unfold loop
    rw [eg]
    unfold bfs
    by_cases e : i < F.length
    · have ne : ¬ (i : Int) = F.length := by omega
      rw [decide_eq_false ne] at et
      have e1 : sIf (tV (eOp oEq (eV 2) (eBu bLen [eV 1]))) sBrk sNil ⟨[some (.val (rbD b)), some (.own (intsD F)), some (.val (.int i)), s3, s4, s5], p⟩ = .nx ⟨[some (.val (rbD b)), some (.own (intsD F)), some (.val (.int i)), s3, s4, s5], p⟩ := by
        unfold sIf
        rw [sE_ok et]
        rfl
      have x1 := ixN_nat (len := (intsD F).length) (i := i) (by rw [len_intsD]; exact e)
      have x2 := at_intsD e
      have x3 := ixN_nat (len := (b.map rsD).length) (i := F.getD i 0) (by rw [len_rb]; exact getD_lt hm e)
      have x4 := at_rb (getD_lt hm e)
      have e2 : iSeq (eOp oIx (eV 0) (eOp oIx (eV 1) (eV 2))) ⟨[some (.val (rbD b)), some (.own (intsD F)), some (.val (.int i)), s3, s4, s5], p⟩ = .ok ((stOf b (F.getD i 0)).map mvD) ⟨[some (.val (rbD b)), some (.own (intsD F)), some (.val (.int i)), s3, s4, s5], p⟩ := by
        simp only [iSeq, mBind, eOp, eV, look, oIx, rbD, x1, x2, x3, x4, List.getElem?_cons_zero, List.getElem?_cons_succ, Option.map_some, freeze, rsD, mRet]
      have l5 := st_len h (F.getD i 0)
      have lF := met_len hm
      have l8 := h.most
      obtain ⟨s3', s4', lp⟩ := mt_visit (some (.val (rbD b))) (some (.val (.int i))) s5 p (stOf b (F.getD i 0)) F s3 s4 (by unfold lineN; omega)
      have eb : b__law_book_meeting_2 ⟨[some (.val (rbD b)), some (.own (intsD F)), some (.val (.int i)), s3, s4, s5], p⟩ = .nx ⟨[some (.val (rbD b)), some (.own (intsD (visit F (stOf b (F.getD i 0))))), some (.val (.int i)), s3', s4', s5], p⟩ := by
        unfold b__law_book_meeting_2 sFor
        rw [sSeq_nx e1, sE_ok e2]
        exact lp
      simp only [eb]
      rw [if_pos e]
      have v := visit_met _ F hm (stOf_to h (F.getD i 0))
      exact mt_loop h s5 p k (i + 1) _ _ _ _ v.1 (by have := (visit_pre (stOf b (F.getD i 0)) F).length_le; omega)
    · have ne : (i : Int) = F.length := by omega
      rw [decide_eq_true ne] at et
      have eb : b__law_book_meeting_2 ⟨[some (.val (rbD b)), some (.own (intsD F)), some (.val (.int i)), s3, s4, s5], p⟩ = .brk ⟨[some (.val (rbD b)), some (.own (intsD F)), some (.val (.int i)), s3, s4, s5], p⟩ := by
        have e1 : sIf (tV (eOp oEq (eV 2) (eBu bLen [eV 1]))) sBrk sNil ⟨[some (.val (rbD b)), some (.own (intsD F)), some (.val (.int i)), s3, s4, s5], p⟩ = .brk ⟨[some (.val (rbD b)), some (.own (intsD F)), some (.val (.int i)), s3, s4, s5], p⟩ := by
          unfold sIf
          rw [sE_ok et]
          rfl
        unfold b__law_book_meeting_2 sSeq
        rw [e1]
      simp only [eb]
      rw [if_neg e]
      exact ⟨_, _, _, rfl⟩
theorem idx_intsD : ∀ (G : List Nat) (t : Nat), t ∈ G → N4.idxOf (.int t) (intsD G) = some (G.idxOf t)
  | [], t, h => nomatch h
  | x :: G, t, h => by
    show (if PyData.eqv (.int x) (.int t) then some 0 else (N4.idxOf (.int t) (intsD G)).map (· + 1)) = _
    rw [eqv_int]
    by_cases e : x = t
    · subst e
      simp
    · have e1 : ¬ (x : Int) = t := by omega
      have hm : t ∈ G := by
        rcases List.mem_cons.mp h with rfl | h
        · exact absurd rfl e
        · exact h
      rw [idx_intsD G t hm, decide_eq_false e1]
      have e2 : (x == t) = false := by simp [e]
      simp [List.idxOf_cons, e2]
theorem bIndex_ok {G : List Nat} {t : Nat} (h : t ∈ G) : bIndex (.list (intsD G)) [.int t] = some (.val (.int (G.idxOf t : Nat))) := by
  show (if (shal (.int t) && shal (.list (intsD G))) = true then (N4.idxOf (.int t) (intsD G)).map fun j => Ev.val (PyData.int (j : Nat)) else none) = _
  rw [shal_intsD, idx_intsD G t h]
  rfl
def mvI (G : List Nat) (m : Nat × Nat) : Nat × Nat := (m.1, G.idxOf m.2)
theorem mi_lc {G : List Nat} (s0 s2 s5 : Option Sl) (p : Option Pl) : ∀ (ms : List (Nat × Nat)) (acc : List PyData) (s3 s4 : Option Sl), (∀ m ∈ ms, m.2 ∈ G) → acc.length + ms.length ≤ lineN →
    ∃ s3' s4', lcGo [3, 4] (gT [gN 3, gN 4]) (mRet true) (eTup [eV 3, eLm bIndex (eV 1) [eV 4]]) (ms.map mvD) acc ⟨[s0, some (.val (.list (intsD G))), s2, s3, s4, s5], p⟩ = .ok (acc ++ (ms.map (mvI G)).map mvD) ⟨[s0, some (.val (.list (intsD G))), s2, s3', s4', s5], p⟩
  | [], acc, s3, s4, _, _ => ⟨s3, s4, by simp [lcGo]⟩
  | m :: ms, acc, s3, s4, hm, hl => by
    have hl : acc.length + (ms.length + 1) ≤ lineN := hl
    have eg : gT [gN 3, gN 4] (mvD m) (wipeS ⟨[s0, some (.val (.list (intsD G))), s2, s3, s4, s5], p⟩ [3, 4]) = some ⟨[s0, some (.val (.list (intsD G))), s2, some (.val (.int m.1)), some (.val (.int m.2)), s5], p⟩ := rfl
    have bx := bIndex_ok (hm m (List.mem_cons_self ..))
    have ex : mBind (eTup [eV 3, eLm bIndex (eV 1) [eV 4]]) freeze ⟨[s0, some (.val (.list (intsD G))), s2, some (.val (.int m.1)), some (.val (.int m.2)), s5], p⟩ = .ok (mvD (mvI G m)) ⟨[s0, some (.val (.list (intsD G))), s2, some (.val (.int m.1)), some (.val (.int m.2)), s5], p⟩ := by
      simp [mBind, eTup, frzs, eV, freeze, eLm, look, evs, mRet, N4.settle, looks, bx, lineN, mvD, mvI]
    rw [List.map_cons]
    unfold lcGo
    rw [eg]
    simp only [mRet] at ex ⊢
    simp only [ex]
    rw [if_pos (by omega)]
    obtain ⟨s3', s4', ih⟩ := mi_lc s0 s2 s5 p ms (acc ++ [mvD (mvI G m)]) (some (.val (.int m.1))) (some (.val (.int m.2))) (fun x hx => hm x (List.mem_cons_of_mem _ hx)) (by rw [List.length_append, List.length_singleton]; omega)
    refine ⟨s3', s4', ih.trans ?_⟩
    simp
theorem keep34 (s0 s1 s2 s3 s4 s5 s3' s4' : Option Sl) (p : Option Pl) : ∃ a c, keepS ⟨[s0, s1, s2, s3, s4, s5], p⟩ [3, 4] ⟨[s0, s1, s2, s3', s4', s5], p⟩ = ⟨[s0, s1, s2, a, c, s5], p⟩ := by
  have k4 : ∀ s : N4.St, s.sl = [s0, s1, s2, s3, s4, s5] → ∀ a, ∃ c, keepS s [4] ⟨[s0, s1, s2, a, s4', s5], p⟩ = ⟨[s0, s1, s2, a, c, s5], p⟩ := fun s hs a => by
    rcases s4 with _ | y
    · exact ⟨none, by simp [keepS, hs, setSl]⟩
    · cases y with
      | val d => exact ⟨some (.val d), by simp [keepS, hs, setSl]⟩
      | _ => exact ⟨none, by simp [keepS, hs, setSl]⟩
  rcases s3 with _ | x
  · obtain ⟨c, e⟩ := k4 ⟨_, p⟩ rfl none
    exact ⟨_, c, e⟩
  · cases x with
    | val d =>
      obtain ⟨c, e⟩ := k4 ⟨_, p⟩ rfl (some (.val d))
      exact ⟨_, c, e⟩
    | _ =>
      obtain ⟨c, e⟩ := k4 ⟨_, p⟩ rfl none
      exact ⟨_, c, e⟩
theorem eBu1 {f : List D → Option Ev} {A : M Ev} {s s1 : N4.St} {e r : Ev} {d : PyData} (h : A s = .ok e s1) (hl : look s1 (N4.settle e) = some d) (hf : f [d] = some r) : eBu f [A] s = .ok r s1 := by
  simp [eBu, evs, mBind, h, mRet, looks, hl, hf]
theorem mo_lc {b : Bk} (h : OkBk b) {G : List Nat} (hc : ∀ s ∈ G, ∀ m ∈ stOf b s, m.2 ∈ G) (hb : ∀ s ∈ G, s < b.length) (s2 : Option Sl) (p : Option Pl) : ∀ (ss : List Nat) (acc : List PyData) (s3 s4 s5 : Option Sl), (∀ s ∈ ss, s ∈ G) → acc.length + ss.length ≤ lineN →
    ∃ s3' s4' s5', lcGo [5] (gN 5) (mRet true) (eBu bTuple [eLC [3, 4] (iSeq (eOp oIx (eV 0) (eV 5))) (gT [gN 3, gN 4]) (mRet true) (eTup [eV 3, eLm bIndex (eV 1) [eV 4]])]) (intsD ss) acc ⟨[some (.val (rbD b)), some (.val (.list (intsD G))), s2, s3, s4, s5], p⟩ =
      .ok (acc ++ ss.map fun s => stD ((stOf b s).map (mvI G))) ⟨[some (.val (rbD b)), some (.val (.list (intsD G))), s2, s3', s4', s5'], p⟩
  | [], acc, s3, s4, s5, _, _ => ⟨s3, s4, s5, by simp [lcGo, intsD]⟩
  | t :: ss, acc, s3, s4, s5, hs, hl => by
    have hl : acc.length + (ss.length + 1) ≤ lineN := hl
    have ht := hs t (List.mem_cons_self ..)
    have eg : gN 5 (.int (t : Int)) (wipeS ⟨[some (.val (rbD b)), some (.val (.list (intsD G))), s2, s3, s4, s5], p⟩ [5]) = some ⟨[some (.val (rbD b)), some (.val (.list (intsD G))), s2, s3, s4, some (.val (.int t))], p⟩ := rfl
    have x3 := ixN_nat (len := (b.map rsD).length) (i := t) (by rw [len_rb]; exact hb t ht)
    have x4 := at_rb (hb t ht)
    have e2 : iSeq (eOp oIx (eV 0) (eV 5)) ⟨[some (.val (rbD b)), some (.val (.list (intsD G))), s2, s3, s4, some (.val (.int t))], p⟩ = .ok ((stOf b t).map mvD) ⟨[some (.val (rbD b)), some (.val (.list (intsD G))), s2, s3, s4, some (.val (.int t))], p⟩ := by
      simp only [iSeq, mBind, eOp, eV, look, oIx, rbD, x3, x4, List.getElem?_cons_zero, List.getElem?_cons_succ, Option.map_some, freeze, rsD, mRet]
    have l5 := st_len h t
    obtain ⟨s3', s4', lc⟩ := mi_lc (G := G) (some (.val (rbD b))) s2 (some (.val (.int t))) p (stOf b t) [] s3 s4 (hc t ht) (by simp [lineN]; omega)
    obtain ⟨a, c, kp⟩ := keep34 (some (.val (rbD b))) (some (.val (.list (intsD G)))) s2 s3 s4 (some (.val (.int t))) s3' s4' p
    have el := eLC_ok (own := [3, 4]) e2 lc
    rw [kp, List.nil_append] at el
    have ex : mBind (eBu bTuple [eLC [3, 4] (iSeq (eOp oIx (eV 0) (eV 5))) (gT [gN 3, gN 4]) (mRet true) (eTup [eV 3, eLm bIndex (eV 1) [eV 4]])]) freeze ⟨[some (.val (rbD b)), some (.val (.list (intsD G))), s2, s3, s4, some (.val (.int t))], p⟩ = .ok (stD ((stOf b t).map (mvI G))) ⟨[some (.val (rbD b)), some (.val (.list (intsD G))), s2, a, c, some (.val (.int t))], p⟩ := by
      have e3 := eBu1 (f := bTuple) (d := .list (((stOf b t).map (mvI G)).map mvD)) (r := .val (stD ((stOf b t).map (mvI G)))) el rfl rfl
      rw [mBind_ok e3]
      rfl
    have en : intsD (t :: ss) = .int (t : Int) :: intsD ss := rfl
    rw [en]
    unfold lcGo
    rw [eg]
    simp only [mRet] at ex ⊢
    simp only [ex]
    rw [if_pos (by omega)]
    obtain ⟨s3'', s4'', s5'', ih⟩ := mo_lc h hc hb s2 p ss (acc ++ [stD ((stOf b t).map (mvI G))]) a c (some (.val (.int t))) (fun x hx => hs x (List.mem_cons_of_mem _ hx)) (by rw [List.length_append, List.length_singleton]; omega)
    refine ⟨s3'', s4'', s5'', ih.trans ?_⟩
    simp
end K02
end
section
set_option Elab.async false
set_option linter.all false
set_option autoImplicit false
set_option maxRecDepth 100000
set_option maxHeartbeats 4000000
namespace K02
open PySem PySem.Spec PyProof.Rows N4
theorem rng_lenL {i : Nat} {s : N4.St} {xs : List D} (h : s.sl[i]? = some (some (.val (.list xs)))) (b : xs.length < 1000000) : N4.iRng1 [eBu bLen [eV i]] s = .ok (intsN 0 xs.length) s := rng_len h (.inr rfl) b
theorem keepS_pl (s0 : N4.St) : ∀ (is : List Nat) (s : N4.St), (keepS s0 is s).pl = s.pl
  | [], s => rfl
  | i :: is, s => by
    unfold keepS
    split
    · exact keepS_pl s0 is _
    · exact keepS_pl s0 is _
theorem meeting_ok {b : Bk} (h : OkBk b) (p : Option Pl) : sem__law_book_meeting [.val (rbD b)] p = .ok (.val (bkD (renum (metOf b) b))) p := by
  have h1 := h.one
  have h8 := h.most
  have hm := metOf_met h
  have hl := met_len hm
  have e1 : sSet 1 (eLst [eC (.int 0)]) ⟨[some (.val (rbD b)), none, none, none, none, none], p⟩ = .nx ⟨[some (.val (rbD b)), some (.own (intsD [0])), none, none, none, none], p⟩ := by
    simp [sSet, sE, eLst, frzs, mBind, eC, mRet, freeze, lineN, store, setSl, intsD]
  have hr : N4.iRng1 [eBu bLen [eV 0]] ⟨[some (.val (rbD b)), some (.own (intsD [0])), none, none, none, none], p⟩ = .ok (intsN 0 b.length) ⟨[some (.val (rbD b)), some (.own (intsD [0])), none, none, none, none], p⟩ := by
    have := rng_lenL (i := 0) (s := ⟨[some (.val (rbD b)), some (.own (intsD [0])), none, none, none, none], p⟩) (xs := b.map rsD) rfl (by rw [len_rb]; omega)
    rw [len_rb] at this
    exact this
  obtain ⟨s2, s3, s4, lp⟩ := mt_loop h none p b.length 0 [0] none none none ⟨by simp, fun x hx => by simp at hx; omega⟩ (Nat.zero_le _)
  have lp : loop (gN 2) b__law_book_meeting_2 (intsN 0 b.length) _ = _ := lp
  obtain ⟨a3, a4, a5, lc⟩ := mo_lc h (G := metOf b) (metOf_closed h) hm.lt s2 p (metOf b) [] s3 s4 none (fun s hs => hs) (by simp [lineN]; omega)
  have e3 : iSeq (eV 1) ⟨[some (.val (rbD b)), some (.own (intsD (metOf b))), s2, s3, s4, none], p⟩ = .ok (intsD (metOf b)) ⟨[some (.val (rbD b)), some (.val (.list (intsD (metOf b)))), s2, s3, s4, none], p⟩ := rfl
  have el := eLC_ok (own := [5]) e3 lc
  have e4 := eBu1 (f := bTuple) (d := .list ((metOf b).map fun s => stD ((stOf b s).map (mvI (metOf b))))) (r := .val (bkD (renum (metOf b) b))) el rfl (by
    unfold bkD renum
    rw [List.map_map]
    rfl)
  have eM : sem__law_book_meeting [.val (rbD b)] p = endOf (b__law_book_meeting ⟨[some (.val (rbD b)), none, none, none, none, none], p⟩) := by
    unfold sem__law_book_meeting mkFn
    exact if_pos rfl
  rw [eM]
  unfold b__law_book_meeting sFor sRet
  refine (congrArg endOf (sSeq_nx e1)).trans ?_
  refine (congrArg endOf (sSeq_nx ((sE_ok hr).trans lp))).trans ?_
  refine (congrArg endOf (sE_ok e4)).trans ?_
  show FOut.ok (.val (bkD (renum (metOf b) b))) (keepS _ [5] _).pl = _
  rw [keepS_pl]
theorem drawN (p : Pl) (many : Nat) (h1 : 0 < many) (h2 : many < 1073741824) (hi : Inv0 p) : ∃ (r : Nat) (p' : Pl), sem__law_draw [.pool, .val (.int many)] (some p) = .ok (.val (.int r)) (some p') ∧ Inv0 p' ∧ r < many := by
  obtain ⟨r, p', e, i, a, b⟩ := draw_ok p many (by omega) (by omega) hi
  refine ⟨r.toNat, p', ?_, i, by omega⟩
  rw [e, Int.toNat_of_nonneg a]
theorem pick_ok (p : Pl) (xs : List PyData) (h1 : 0 < xs.length) (h2 : xs.length < 1073741824) (hi : Inv0 p) : ∃ (d : PyData) (p' : Pl), (∀ t, t = .list xs ∨ t = .tuple xs → sem__law_pick [.pool, .val t] (some p) = .ok (.val d) (some p')) ∧ Inv0 p' ∧ d ∈ xs := by
  obtain ⟨r, p', e, i, hr⟩ := drawN p xs.length h1 h2 hi
  refine ⟨xs[r], p', fun t ht => ?_, i, List.getElem_mem hr⟩
  have ix := ixN_nat hr
  have em : xs[r]? = some xs[r] := List.getElem?_eq_getElem hr
  show endOf (b__law_pick ⟨[some .pool, some (.val t)], some p⟩) = _
  rcases ht with rfl | rfl <;> simp [b__law_pick, sRet, sE, eOp, eV, mBind, eCall, args, argOf, freeze, eBu, evs, N4.settle, looks, look, bLen, mRet, e, oIx, ix, em, endOf]
end K02
end
section
set_option Elab.async false
set_option linter.all false
set_option autoImplicit false
set_option maxRecDepth 100000
set_option maxHeartbeats 4000000
namespace K02
open PySem PySem.Spec PyProof.Rows N4
theorem erase_perm {α : Type} : ∀ (A : List α) (r : Nat) (h : r < A.length), (A.eraseIdx r ++ [A[r]]).Perm A
  | [], r, h => absurd h (Nat.not_lt_zero r)
  | x :: A, 0, h => (List.perm_append_singleton x A)
  | x :: A, r + 1, h => (erase_perm A r (Nat.lt_of_succ_lt_succ h)).cons x
theorem intsD_erase : ∀ (A : List Nat) (r : Nat), (intsD A).eraseIdx r = intsD (A.eraseIdx r)
  | [], r => rfl
  | x :: A, 0 => rfl
  | x :: A, r + 1 => by
    show PyData.int x :: (intsD A).eraseIdx r = PyData.int x :: intsD (A.eraseIdx r)
    rw [intsD_erase A r]
def mgIx : M Ev := eIf (tV (eOp oLt (eV 2) (eC (.int 3)))) (eCall sem__law_draw [eV 0, eBu bLen [eV 4]]) (eOp oSub (eOp oSub (eBu bLen [eV 4]) (eC (.int 1))) (eCall sem__law_draw [eV 0, eC (.int 3)]))
theorem mgIx_ok (w : Nat) (A : List Nat) (s1 s3 s5 s6 : Option Sl) (p : Pl) (hi : Inv0 p) (h1 : 0 < A.length) (h3 : ¬ w < 3 → 3 ≤ A.length) (h2 : A.length < 1000000) :
    ∃ (r : Nat) (p' : Pl), mgIx ⟨[some .pool, s1, some (.val (.int w)), s3, some (.own (intsD A)), s5, s6], some p⟩ = .ok (.val (.int r)) ⟨[some .pool, s1, some (.val (.int w)), s3, some (.own (intsD A)), s5, s6], some p'⟩ ∧ Inv0 p' ∧ r < A.length := by
  by_cases e : w < 3
  · obtain ⟨r, p', e1, i1, hr⟩ := drawN p A.length h1 (by omega) hi
    have e0 : (w : Int) < 3 := by omega
    exact ⟨r, p', by simp [mgIx, eIf, tV, mBind, eOp, eV, look, eC, mRet, oLt, e0, eCall, args, argOf, freeze, eBu, evs, N4.settle, looks, bLen, len_intsD, e1], i1, hr⟩
  · obtain ⟨r, p', e1, i1, hr⟩ := drawN p 3 (by decide) (by decide) hi
    have e0 : ¬ (w : Int) < 3 := by omega
    have := h3 e
    have e1 : sem__law_draw [.pool, .val (.int 3)] (some p) = .ok (.val (.int r)) (some p') := e1
    have ez : (A.length : Int) - 1 - r = ((A.length - 1 - r : Nat) : Int) := by omega
    exact ⟨A.length - 1 - r, p', by simp [mgIx, eIf, tV, mBind, eOp, eV, look, eC, mRet, oLt, e0, eCall, args, argOf, freeze, eBu, evs, N4.settle, looks, bLen, len_intsD, e1, oSub, ez], i1, by omega⟩
theorem mg_body (w : Nat) (A B : List Nat) (s1 s3 s6 : Option Sl) (p : Pl) (hi : Inv0 p) (h1 : 0 < A.length) (h3 : ¬ w < 3 → 3 ≤ A.length) (h2 : A.length < 1000000) (h4 : B.length < 1000) :
    ∃ (r : Nat) (p' : Pl) (hr : r < A.length), b__law_book_messages_1 ⟨[some .pool, s1, some (.val (.int w)), s3, some (.own (intsD A)), some (.own (intsD B)), s6], some p⟩ = .nx ⟨[some .pool, s1, some (.val (.int w)), s3, some (.own (intsD (A.eraseIdx r))), some (.own (intsD (B ++ [A[r]]))), s6], some p'⟩ ∧ Inv0 p' := by
  obtain ⟨r, p', e1, i1, hr⟩ := mgIx_ok w A s1 s3 (some (.own (intsD B))) s6 p hi h1 h3 h2
  refine ⟨r, p', hr, ?_, i1⟩
  have ix := ixN_nat (len := (intsD A).length) (i := r) (by rw [len_intsD]; exact hr)
  have em : (intsD A)[r]? = some (.int (A[r] : Nat)) := by
    rw [at_intsD hr, List.getD_eq_getElem?_getD, List.getElem?_eq_getElem hr]
    rfl
  have c1 : -boundN ≤ (r : Int) ∧ (r : Int) < boundN := by unfold boundN; omega
  have ep : ePopAt 4 mgIx ⟨[some .pool, s1, some (.val (.int w)), s3, some (.own (intsD A)), some (.own (intsD B)), s6], some p⟩ = .ok (.val (.int (A[r] : Nat))) ⟨[some .pool, s1, some (.val (.int w)), s3, some (.own (intsD (A.eraseIdx r))), some (.own (intsD B)), s6], some p'⟩ := by
    unfold ePopAt ofOwn
    simp only [List.getElem?_cons_zero, List.getElem?_cons_succ]
    rw [mBind_ok e1]
    simp only [List.getElem?_cons_zero, List.getElem?_cons_succ]
    rw [if_pos c1, ix]
    simp only [em, intsD_erase]
    rfl
  have hl : B.length < lineN := by unfold lineN; omega
  show sApp 5 (ePopAt 4 mgIx) _ = _
  unfold sApp onOwn
  simp only [List.getElem?_cons_zero, List.getElem?_cons_succ]
  rw [sE_ok ep]
  simp [sE, freeze, len_intsD, hl, setSl, app_intsD]
theorem mg_loop (w : Nat) (s1 s3 : Option Sl) : ∀ (k i : Nat) (A B : List Nat) (s6 : Option Sl) (p : Pl), Inv0 p → k ≤ A.length → (¬ w < 3 → k + 2 ≤ A.length) → A.length < 1000000 → B.length + k < 1000 →
    ∃ (A' B' : List Nat) (p' : Pl) (s6' : Option Sl), loop (gN 6) b__law_book_messages_1 (intsN i k) ⟨[some .pool, s1, some (.val (.int w)), s3, some (.own (intsD A)), some (.own (intsD B)), s6], some p⟩ = .nx ⟨[some .pool, s1, some (.val (.int w)), s3, some (.own (intsD A')), some (.own (intsD B')), s6'], some p'⟩ ∧ Inv0 p' ∧ (A' ++ B').Perm (A ++ B) ∧ B'.length = B.length + k
  | 0, i, A, B, s6, p, hi, _, _, _, _ => ⟨A, B, p, s6, rfl, hi, List.Perm.refl _, rfl⟩
  | k + 1, i, A, B, s6, p, hi, h1, h3, h2, h4 => by
    have eg : gN 6 (.int (i : Int)) ⟨[some .pool, s1, some (.val (.int w)), s3, some (.own (intsD A)), some (.own (intsD B)), s6], some p⟩ = some ⟨[some .pool, s1, some (.val (.int w)), s3, some (.own (intsD A)), some (.own (intsD B)), some (.val (.int i))], some p⟩ := rfl
    obtain ⟨r, p1, hr, eb, i1⟩ := mg_body w A B s1 s3 (some (.val (.int i))) p hi (by omega) (fun e => by have := h3 e; omega) h2 (by omega)
    have en : intsN (i : Int) (k + 1) = .int (i : Int) :: intsN ((i + 1 : Nat) : Int) k := by simp [intsN]
    have el : (A.eraseIdx r).length = A.length - 1 := List.length_eraseIdx_of_lt hr
    obtain ⟨A', B', p', s6', e, i2, hp, hl⟩ := mg_loop w s1 s3 k (i + 1) (A.eraseIdx r) (B ++ [A[r]]) (some (.val (.int i))) p1 i1 (by omega) (fun e => by have := h3 e; omega) (by omega) (by rw [List.length_append, List.length_singleton]; omega)
    refine ⟨A', B', p', s6', ?_, i2, ?_, ?_⟩
    · rw [en]
      unfold loop
      rw [eg]
      simp only [eb]
      exact e
    · refine hp.trans ?_
      have h1 : (A.eraseIdx r ++ (B ++ [A[r]])).Perm (A.eraseIdx r ++ ([A[r]] ++ B)) := List.Perm.append_left _ List.perm_append_comm
      rw [← List.append_assoc (A.eraseIdx r) [A[r]] B] at h1
      exact h1.trans (List.Perm.append_right B (erase_perm A r hr))
    · rw [hl, List.length_append, List.length_singleton]
      omega
theorem toIs_intsD (F : List Nat) : toIs (intsD F) = some (F.map fun k : Nat => (k : Int)) := by
  induction F with
  | nil => rfl
  | cons x r ih =>
    show (match toI (.int x), toIs (intsD r) with
      | some i, some is => some (i :: is)
      | _, _ => none) = _
    rw [ih]
    rfl
theorem sorted_ok (B : List Nat) (hn : B.Nodup) : ∃ ms : List Nat, bSorted [.list (intsD B)] = some (.fresh (intsD ms)) ∧ ms.Pairwise (· < ·) ∧ ms.Perm B := by
  have h1 : (sortN (B.map fun k : Nat => (k : Int))).Perm (B.map fun k : Nat => (k : Int)) := sortN_perm _
  have h2 := sortN_rises (B.map fun k : Nat => (k : Int))
  have hpos : ∀ z ∈ sortN (B.map fun k : Nat => (k : Int)), 0 ≤ z := fun z hz => by
    obtain ⟨k, _, rfl⟩ := List.mem_map.mp (h1.mem_iff.mp hz)
    omega
  have e : ((sortN (B.map fun k : Nat => (k : Int))).map Int.toNat).map (fun k : Nat => (k : Int)) = sortN (B.map fun k : Nat => (k : Int)) := by
    rw [List.map_map]
    conv => rhs; rw [← List.map_id (sortN _)]
    exact List.map_congr_left fun z hz => Int.toNat_of_nonneg (hpos z hz)
  have hp : ((sortN (B.map fun k : Nat => (k : Int))).map Int.toNat).Perm B := by
    have := h1.map Int.toNat
    rw [List.map_map] at this
    have e2 : (Int.toNat ∘ fun k : Nat => (k : Int)) = id := rfl
    rw [e2, List.map_id] at this
    exact this
  refine ⟨(sortN (B.map fun k : Nat => (k : Int))).map Int.toNat, ?_, ?_, hp⟩
  · show (toIs (intsD B)).map (fun ns => Ev.fresh ((sortN ns).map .int)) = _
    rw [toIs_intsD, intsD_eq, e]
    rfl
  · have hn2 := hp.nodup_iff.mpr hn
    rw [List.pairwise_map]
    rw [List.Nodup, List.pairwise_map] at hn2
    refine (h2.and hn2).imp_of_mem fun {a c} ha hc hh => ?_
    have := hpos a ha
    have := hpos c hc
    have := hh.1
    have := hh.2
    omega
theorem intsN_range (n : Nat) : intsN 0 n = intsD (List.range n) := by
  rw [intsN_map]
  unfold intsD
  exact List.map_congr_left fun k _ => by simp
theorem mg_size (many w : Nat) (h5 : many ≤ 5) (hw : w < 4) (p1 : Pl) : ∃ N : Nat, many ≤ N ∧ N ≤ 100 ∧ (¬ w < 3 → many + 2 ≤ N) ∧ sSet 3 (eOp oIx (eLst [eV 1, eV 1, eBu bMin2 [eOp oAdd (eV 1) (eC (.int 2)), eC (.int 6)], eC (.int 100)]) (eV 2)) ⟨[some .pool, some (.val (.int many)), some (.val (.int w)), none, none, none, none], some p1⟩ = .nx ⟨[some .pool, some (.val (.int many)), some (.val (.int w)), some (.val (.int N)), none, none, none], some p1⟩ := by
  have gen : ∀ (w' : Nat) (N : Nat), w' < 4 → [PyData.int (many : Nat), .int (many : Nat), .int (if (6 : Int) < (many : Int) + 2 then 6 else (many : Int) + 2), .int 100][w']? = some (.int (N : Int)) → sSet 3 (eOp oIx (eLst [eV 1, eV 1, eBu bMin2 [eOp oAdd (eV 1) (eC (.int 2)), eC (.int 6)], eC (.int 100)]) (eV 2)) ⟨[some .pool, some (.val (.int many)), some (.val (.int w')), none, none, none, none], some p1⟩ = .nx ⟨[some .pool, some (.val (.int many)), some (.val (.int w')), some (.val (.int N)), none, none, none], some p1⟩ := fun w' N hw' hx => by
    have ix := ixN_nat (len := 4) hw'
    simp [sSet, sE, eOp, eLst, frzs, mBind, eV, eC, mRet, freeze, eBu, evs, N4.settle, looks, look, oAdd, bMin2, lineN, oIx, ix, hx, store, setSl]
  match w, hw with
  | 0, h => exact ⟨many, Nat.le_refl _, by omega, fun e => absurd (by decide) e, gen 0 many h rfl⟩
  | 1, h => exact ⟨many, Nat.le_refl _, by omega, fun e => absurd (by decide) e, gen 1 many h rfl⟩
  | 2, h => 
    refine ⟨if 6 < many + 2 then 6 else many + 2, by split <;> omega, by split <;> omega, fun e => absurd (by decide) e, gen 2 _ h ?_⟩
    show some (PyData.int (if (6 : Int) < (many : Int) + 2 then 6 else (many : Int) + 2)) = _
    congr 2
    by_cases c : 6 < many + 2
    · rw [if_pos c, if_pos (by omega)]
      rfl
    · rw [if_neg c, if_neg (by omega)]
      rfl
  | 3, h => exact ⟨100, by omega, by omega, fun _ => by omega, gen 3 100 h rfl⟩
theorem rng1N {as : List (M Ev)} {s s1 : N4.St} {n : Nat} (h : evs as s = .ok [.val (.int n)] s1) (b2 : n < 1000000) : N4.iRng1 as s = .ok (intsN 0 n) s1 := by
  have := rng1_ok h (by omega) (by omega)
  rw [Int.toNat_natCast] at this
  exact this
theorem prs_cons {a : M Ev} {as : List (M Ev)} {s s1 s2 s3 : N4.St} {x y : Ev} {xs : List Ev} (h : a s = .ok x s1) (h1 : own1 x s1 = .ok y s2) (h2 : prs as s2 = .ok xs s3) : prs (a :: as) s = .ok (y :: xs) s3 := by
  show mBind a (fun x => mBind (own1 x) fun x => mBind (prs as) fun xs => mRet (x :: xs)) s = _
  rw [mBind_ok h, mBind_ok h1, mBind_ok h2]
  rfl
theorem eLst_nil (s : N4.St) : eLst [] s = .ok (.fresh []) s := by
  unfold eLst frzs
  rw [mBind_ok (m := mRet []) rfl]
  exact congrFun (if_pos (by unfold lineN; simp)) _
theorem frzs_cons {a : M Ev} {as : List (M Ev)} {s s1 s2 s3 : N4.St} {x : Ev} {d : PyData} {ds : List PyData} (h : a s = .ok x s1) (h1 : freeze x s1 = .ok d s2) (h2 : frzs as s2 = .ok ds s3) : frzs (a :: as) s = .ok (d :: ds) s3 := by
  show mBind a (fun x => mBind (freeze x) fun d => mBind (frzs as) fun ds => mRet (d :: ds)) s = _
  rw [mBind_ok h, mBind_ok h1, mBind_ok h2]
  rfl
theorem eLst_ok {as : List (M Ev)} {s s1 : N4.St} {ds : List PyData} (h : frzs as s = .ok ds s1) (hl : ds.length ≤ 1000) : eLst as s = .ok (.fresh ds) s1 := by
  unfold eLst
  rw [mBind_ok h]
  exact congrFun (if_pos (by unfold lineN; omega)) _
theorem eTup_ok {as : List (M Ev)} {s s1 : N4.St} {ds : List PyData} (h : frzs as s = .ok ds s1) (hl : ds.length ≤ 1000) : eTup as s = .ok (.val (.tuple ds)) s1 := by
  unfold eTup
  rw [mBind_ok h]
  exact congrFun (if_pos (by unfold lineN; omega)) _
theorem pars_ok {is : List Nat} {as : List (M Ev)} {s s1 : N4.St} {es : List Ev} (h : prs as s = .ok es s1) (hl : es.length = is.length) : sPars is as s = putEvs is es s1 := by
  unfold sPars
  rw [sE_ok h, if_pos hl]
theorem messages_ok (many : Nat) (h5 : many ≤ 5) (p : Pl) (hi : Inv0 p) : ∃ (ms : List Nat) (p' : Pl), sem__law_book_messages [.pool, .val (.int many)] (some p) = .ok (.fresh (intsD ms)) (some p') ∧ Inv0 p' ∧ ms.Pairwise (· < ·) ∧ (∀ m ∈ ms, m ≤ 99) ∧ ms.length = many := by
  obtain ⟨w, p1, ew, i1, hw⟩ := drawN p 4 (by decide) (by decide) hi
  have ew : sem__law_draw [.pool, .val (.int 4)] (some p) = .ok (.val (.int w)) (some p1) := ew
  have e1 : sSet 2 (eCall sem__law_draw [eV 0, eC (.int 4)]) ⟨[some .pool, some (.val (.int many)), none, none, none, none, none], some p⟩ = .nx ⟨[some .pool, some (.val (.int many)), some (.val (.int w)), none, none, none, none], some p1⟩ := by
    simp [sSet, sE, eCall, args, argOf, mBind, eV, eC, mRet, freeze, ew, store, setSl]
  obtain ⟨N, hN1, hN2, hN3, e2⟩ := mg_size many w h5 hw p1
  have e3 : sPars [4, 5] [eLrng (eV 3), eLst []] ⟨[some .pool, some (.val (.int many)), some (.val (.int w)), some (.val (.int N)), none, none, none], some p1⟩ = .nx ⟨[some .pool, some (.val (.int many)), some (.val (.int w)), some (.val (.int N)), some (.own (intsD (List.range N))), some (.own (intsD [])), none], some p1⟩ := by
    have c : -boundN ≤ (N : Int) ∧ (N : Int) < boundN ∧ (N : Int) ≤ 16777216 := by unfold boundN; omega
    have er : eLrng (eV 3) ⟨[some .pool, some (.val (.int many)), some (.val (.int w)), some (.val (.int N)), none, none, none], some p1⟩ = .ok (.fresh (intsD (List.range N))) ⟨[some .pool, some (.val (.int many)), some (.val (.int w)), some (.val (.int N)), none, none, none], some p1⟩ := by
      unfold eLrng
      have e0 : eV 3 ⟨[some .pool, some (.val (.int many)), some (.val (.int w)), some (.val (.int N)), none, none, none], some p1⟩ = .ok (.val (.int N)) ⟨[some .pool, some (.val (.int many)), some (.val (.int w)), some (.val (.int N)), none, none, none], some p1⟩ := rfl
      rw [mBind_ok e0]
      simp only []
      rw [if_pos c, Int.toNat_natCast, intsN_range]
      rfl
    exact (pars_ok (prs_cons er rfl (prs_cons (eLst_nil _) rfl rfl)) rfl).trans rfl
  have hr : N4.iRng1 [eV 1] ⟨[some .pool, some (.val (.int many)), some (.val (.int w)), some (.val (.int N)), some (.own (intsD (List.range N))), some (.own (intsD [])), none], some p1⟩ = .ok (intsN 0 many) ⟨[some .pool, some (.val (.int many)), some (.val (.int w)), some (.val (.int N)), some (.own (intsD (List.range N))), some (.own (intsD [])), none], some p1⟩ :=
    rng1N (n := many) rfl (by omega)
  obtain ⟨A', B', p2, s6', lp, i2, hp, hl⟩ := mg_loop w (some (.val (.int many))) (some (.val (.int N))) many 0 (List.range N) [] none p1 i1 (by rw [List.length_range]; exact hN1) (by rw [List.length_range]; exact hN3) (by rw [List.length_range]; omega) (by simp; omega)
  rw [List.append_nil] at hp
  have hnd : (A' ++ B').Nodup := hp.nodup_iff.mpr List.nodup_range
  have hB : B'.Nodup := (List.nodup_append.mp hnd).2.1
  obtain ⟨ms, es, hrise, hpm⟩ := sorted_ok B' hB
  refine ⟨ms, p2, ?_, i2, hrise, fun m hm => ?_, by rw [hpm.length_eq, hl]; simp⟩
  · have eM : sem__law_book_messages [.pool, .val (.int many)] (some p) = endOf (b__law_book_messages ⟨[some .pool, some (.val (.int many)), none, none, none, none, none], some p⟩) := by
      unfold sem__law_book_messages mkFn
      exact if_pos rfl
    rw [eM]
    unfold b__law_book_messages sFor sRet
    refine (congrArg endOf (sSeq_nx e1)).trans ?_
    refine (congrArg endOf (sSeq_nx e2)).trans ?_
    refine (congrArg endOf (sSeq_nx e3)).trans ?_
    refine (congrArg endOf (sSeq_nx ((sE_ok hr).trans lp))).trans ?_
    have e5 : eBu bSorted [eV 5] ⟨[some .pool, some (.val (.int many)), some (.val (.int w)), some (.val (.int N)), some (.own (intsD A')), some (.own (intsD B')), s6'], some p2⟩ = .ok (.fresh (intsD ms)) ⟨[some .pool, some (.val (.int many)), some (.val (.int w)), some (.val (.int N)), some (.own (intsD A')), some (.own (intsD B')), s6'], some p2⟩ := eBu1 (e := .slot 5) (d := .list (intsD B')) rfl rfl es
    refine (congrArg endOf (sE_ok e5)).trans ?_
    rfl
  · have h1 : m ∈ B' := hpm.mem_iff.mp hm
    have h2 : m ∈ List.range N := hp.mem_iff.mp (List.mem_append_right _ h1)
    have := List.mem_range.mp h2
    omega
end K02
end
section
set_option Elab.async false
set_option linter.all false
set_option autoImplicit false
set_option maxRecDepth 100000
set_option maxHeartbeats 4000000
namespace K02
open PySem PySem.Spec PyProof.Rows N4
def Sh (k : Nat) (d : PyData) : Prop := d.canLay0 = true ∧ d.depth ≤ k
theorem sh_shal {k : Nat} {d : PyData} (h : Sh k d) (hk : k ≤ 64) : shal d = true := by
  unfold shal SeqAt.shaped
  rw [h.1, Bool.true_and]
  exact decide_eq_true (by have := h.2; omega)
theorem sh_all {k : Nat} : ∀ xs : List PyData, (∀ d ∈ xs, Sh k d) → PyData.canLayAll0 xs = true ∧ PyData.depthAll xs ≤ k
  | [], _ => ⟨rfl, Nat.zero_le _⟩
  | d :: ds, h => by
    have a := h d (List.mem_cons_self ..)
    have b := sh_all ds fun x hx => h x (List.mem_cons_of_mem _ hx)
    refine ⟨by simp only [PyData.canLayAll0, a.1, b.1, Bool.and_self], ?_⟩
    have := a.2
    have := b.2
    simp only [PyData.depthAll]
    omega
theorem sh_list {k : Nat} {xs : List PyData} (h : ∀ d ∈ xs, Sh k d) : Sh (k + 1) (.list xs) := by
  have := sh_all xs h
  refine ⟨by simp only [PyData.canLay0, this.1], ?_⟩
  have := this.2
  simp only [PyData.depth]
  omega
theorem sh_tuple {k : Nat} {xs : List PyData} (h : ∀ d ∈ xs, Sh k d) : Sh (k + 1) (.tuple xs) := by
  have := sh_all xs h
  refine ⟨by simp only [PyData.canLay0, this.1], ?_⟩
  have := this.2
  simp only [PyData.depth]
  omega
theorem sh_int (z : Int) : Sh 0 (.int z) := ⟨rfl, Nat.le_refl 0⟩
theorem sh_mono {k l : Nat} {d : PyData} (h : Sh k d) (hl : k ≤ l) : Sh l d := ⟨h.1, Nat.le_trans h.2 hl⟩
theorem sh_mv (m : Nat × Nat) : Sh 1 (mvD m) := sh_tuple fun d hd => by
  rcases List.mem_cons.mp hd with rfl | hd
  · exact sh_int _
  · rcases List.mem_cons.mp hd with rfl | hd
    · exact sh_int _
    · nomatch hd
theorem sh_mvs (T : List (Nat × Nat)) : Sh 2 (.list (T.map mvD)) := sh_list fun d hd => by
  obtain ⟨m, _, rfl⟩ := List.mem_map.mp hd
  exact sh_mv m
theorem ne_nil (T : List (Nat × Nat)) : oNe (.list (T.map mvD)) (.list []) = some (.val (.bool (!T.isEmpty))) := by
  show (if (shal (.list (T.map mvD)) && shal (.list [])) = true then some (Ev.val (PyData.bool (!PyData.eqv (.list (T.map mvD)) (.list [])))) else none) = _
  rw [sh_shal (sh_mvs T) (by decide)]
  cases T <;> rfl
theorem draw_e {sl : List (Option Sl)} {p : Pl} {X : M Ev} {many : Nat} (h0 : sl[0]? = some (some .pool)) (hX : X ⟨sl, some p⟩ = .ok (.val (.int many)) ⟨sl, some p⟩) (h1 : 0 < many) (h2 : many < 1073741824) (hi : Inv0 p) :
    ∃ (r : Nat) (p' : Pl), eCall sem__law_draw [eV 0, X] ⟨sl, some p⟩ = .ok (.val (.int r)) ⟨sl, some p'⟩ ∧ Inv0 p' ∧ r < many := by
  obtain ⟨r, p', e, i, hr⟩ := drawN p many h1 h2 hi
  refine ⟨r, p', ?_, i, hr⟩
  have e0 : eV 0 ⟨sl, some p⟩ = .ok .pool ⟨sl, some p⟩ := by simp [eV, h0]
  have ea : args [eV 0, X] ⟨sl, some p⟩ = .ok [.pool, .val (.int many)] ⟨sl, some p⟩ := by
    unfold args
    rw [mBind_ok e0]
    show mBind (mRet _) _ _ = _
    unfold args
    simp [mBind, mRet, hX, argOf, freeze, args]
  unfold eCall
  rw [mBind_ok ea]
  simp only [e]
theorem pick_e {sl : List (Option Sl)} {p p0 : Pl} {X : M Ev} {e : Ev} {t : PyData} {xs : List PyData} (h0 : sl[0]? = some (some .pool)) (hX : X ⟨sl, some p0⟩ = .ok e ⟨sl, some p⟩) (he : argOf e ⟨sl, some p⟩ = .ok (.val t) ⟨sl, some p⟩) (ht : t = .list xs ∨ t = .tuple xs) (h1 : 0 < xs.length) (h2 : xs.length < 1073741824) (hi : Inv0 p) :
    ∃ (d : PyData) (p' : Pl), eCall sem__law_pick [eV 0, X] ⟨sl, some p0⟩ = .ok (.val d) ⟨sl, some p'⟩ ∧ Inv0 p' ∧ d ∈ xs := by
  obtain ⟨d, p', e2, i, hd⟩ := pick_ok p xs h1 h2 hi
  refine ⟨d, p', ?_, i, hd⟩
  have e0 : eV 0 ⟨sl, some p0⟩ = .ok .pool ⟨sl, some p0⟩ := by simp [eV, h0]
  have ea : args [eV 0, X] ⟨sl, some p0⟩ = .ok [.pool, .val t] ⟨sl, some p⟩ := by
    unfold args
    rw [mBind_ok e0]
    show mBind (mRet _) _ _ = _
    unfold args
    simp [mBind, mRet, hX, he, args]
  unfold eCall
  rw [mBind_ok ea]
  simp only [e2 t ht]
theorem op_ok {f : D → D → Option Ev} {A B : M Ev} {s s1 s2 : N4.St} {x y r : Ev} {d e : PyData} (ha : A s = .ok x s1) (hb : B s1 = .ok y s2) (lx : look s2 x = some d) (ly : look s2 y = some e) (hf : f d e = some r) : eOp f A B s = .ok r s2 := by
  unfold eOp
  rw [mBind_ok ha, mBind_ok hb]
  simp only [lx, ly, hf]
theorem set_val {i : Nat} {A : M Ev} {s s1 : N4.St} {d : PyData} (h : A s = .ok (.val d) s1) (hi : i < s1.sl.length) : sSet i A s = .nx (setSl s1 i (some (.val d))) := by
  unfold sSet
  rw [sE_ok h]
  exact if_pos hi
theorem if_true {c : M Bool} {a b : SM} {s s1 : N4.St} (h : c s = .ok true s1) : sIf c a b s = a s1 := by
  unfold sIf
  rw [sE_ok h]
  rfl
theorem if_false {c : M Bool} {a b : SM} {s s1 : N4.St} (h : c s = .ok false s1) : sIf c a b s = b s1 := by
  unfold sIf
  rw [sE_ok h]
  rfl
theorem dr_body1 (n w i m : Nat) (T : List (Nat × Nat)) (s1 s2 s5 s7 s10 s11 : Option Sl) (p : Pl) (hi : Inv0 p) (h1 : i < n) (hn : n ≤ 8) (hT : T.length < 1000) :
    ∃ (t : Nat) (p' : Pl), b__law_book_drawn_1 ⟨[some .pool, s1, s2, some (.val (.int n)), some (.val (.int w)), s5, some (.val (.int i)), s7, some (.own (T.map mvD)), some (.val (.int m)), s10, s11], some p⟩ =
      .nx ⟨[some .pool, s1, s2, some (.val (.int n)), some (.val (.int w)), s5, some (.val (.int i)), s7, some (.own ((T ++ [(m, t)]).map mvD)), some (.val (.int m)), some (.val (.int t)), s11], some p'⟩ ∧ Inv0 p' ∧ t < n := by
  obtain ⟨r, p1, e1, i1, hr⟩ := draw_e (sl := [some .pool, s1, s2, some (.val (.int n)), some (.val (.int w)), s5, some (.val (.int i)), s7, some (.own (T.map mvD)), some (.val (.int m)), s10, s11]) (p := p) (X := eV 3) (many := n) rfl rfl (by omega) (by omega) hi
  have e1 := set_val (i := 10) e1 (by simp)
  have app : ∀ (t : Nat) (q : Pl), sApp 8 (eTup [eV 9, eV 10]) ⟨[some .pool, s1, s2, some (.val (.int n)), some (.val (.int w)), s5, some (.val (.int i)), s7, some (.own (T.map mvD)), some (.val (.int m)), some (.val (.int t)), s11], some q⟩ = .nx ⟨[some .pool, s1, s2, some (.val (.int n)), some (.val (.int w)), s5, some (.val (.int i)), s7, some (.own ((T ++ [(m, t)]).map mvD)), some (.val (.int m)), some (.val (.int t)), s11], some q⟩ := fun t q => by
    have hl : T.length < lineN := by unfold lineN; omega
    simp [sApp, onOwn, sE, eTup, frzs, eV, mBind, freeze, mRet, lineN, setSl, hl, mvD]
    unfold lineN at hl
    exact hl
  by_cases c : 3 < w ∧ i + 1 < n
  · have e2 : N4.tAnd (tV (eOp oGt (eV 4) (eC (.int 3)))) (tV (eOp oLt (eV 6) (eOp oSub (eV 3) (eC (.int 1))))) ⟨[some .pool, s1, s2, some (.val (.int n)), some (.val (.int w)), s5, some (.val (.int i)), s7, some (.own (T.map mvD)), some (.val (.int m)), some (.val (.int r)), s11], some p1⟩ = .ok true ⟨[some .pool, s1, s2, some (.val (.int n)), some (.val (.int w)), s5, some (.val (.int i)), s7, some (.own (T.map mvD)), some (.val (.int m)), some (.val (.int r)), s11], some p1⟩ := by
      have c1 : (3 : Int) < w := by omega
      have c2 : (i : Int) < (n : Int) - 1 := by omega
      simp [N4.tAnd, tV, mBind, eOp, eV, eC, mRet, look, oGt, oLt, oSub, c1, c2]
    obtain ⟨r2, p2, e3, i2, hr2⟩ := draw_e (sl := [some .pool, s1, s2, some (.val (.int n)), some (.val (.int w)), s5, some (.val (.int i)), s7, some (.own (T.map mvD)), some (.val (.int m)), some (.val (.int r)), s11]) (p := p1) (X := eOp oSub (eOp oSub (eV 3) (eC (.int 1))) (eV 6)) (many := n - 1 - i) rfl (by
      have : (n : Int) - 1 - i = ((n - 1 - i : Nat) : Int) := by omega
      simp [mBind, eOp, eV, eC, mRet, look, oSub, this]) (by omega) (by omega) i1
    have e4 : eOp oAdd (eOp oAdd (eV 6) (eC (.int 1))) (eCall sem__law_draw [eV 0, eOp oSub (eOp oSub (eV 3) (eC (.int 1))) (eV 6)]) ⟨[some .pool, s1, s2, some (.val (.int n)), some (.val (.int w)), s5, some (.val (.int i)), s7, some (.own (T.map mvD)), some (.val (.int m)), some (.val (.int r)), s11], some p1⟩ = .ok (.val (.int (i + 1 + r2 : Nat))) ⟨[some .pool, s1, s2, some (.val (.int n)), some (.val (.int w)), s5, some (.val (.int i)), s7, some (.own (T.map mvD)), some (.val (.int m)), some (.val (.int r)), s11], some p2⟩ := by
      have a1 : eOp oAdd (eV 6) (eC (.int 1)) ⟨[some .pool, s1, s2, some (.val (.int n)), some (.val (.int w)), s5, some (.val (.int i)), s7, some (.own (T.map mvD)), some (.val (.int m)), some (.val (.int r)), s11], some p1⟩ = .ok (.val (.int ((i : Int) + 1))) ⟨[some .pool, s1, s2, some (.val (.int n)), some (.val (.int w)), s5, some (.val (.int i)), s7, some (.own (T.map mvD)), some (.val (.int m)), some (.val (.int r)), s11], some p1⟩ := rfl
      exact op_ok a1 e3 rfl rfl (by simp [oAdd])
    have e4 := set_val (i := 10) e4 (by simp)
    refine ⟨i + 1 + r2, p2, ?_, i2, by omega⟩
    unfold b__law_book_drawn_1
    refine (sSeq_nx e1).trans ((sSeq_nx ((if_true e2).trans e4)).trans ?_)
    exact app _ _
  · have e2 : N4.tAnd (tV (eOp oGt (eV 4) (eC (.int 3)))) (tV (eOp oLt (eV 6) (eOp oSub (eV 3) (eC (.int 1))))) ⟨[some .pool, s1, s2, some (.val (.int n)), some (.val (.int w)), s5, some (.val (.int i)), s7, some (.own (T.map mvD)), some (.val (.int m)), some (.val (.int r)), s11], some p1⟩ = .ok false ⟨[some .pool, s1, s2, some (.val (.int n)), some (.val (.int w)), s5, some (.val (.int i)), s7, some (.own (T.map mvD)), some (.val (.int m)), some (.val (.int r)), s11], some p1⟩ := by
      by_cases c1 : 3 < w
      · have c0 : (3 : Int) < w := by omega
        have c2 : ¬ (i : Int) < (n : Int) - 1 := by omega
        simp [N4.tAnd, tV, mBind, eOp, eV, eC, mRet, look, oGt, oLt, oSub, c0, c2]
      · have c0 : ¬ (3 : Int) < w := by omega
        simp [N4.tAnd, tV, mBind, eOp, eV, eC, mRet, look, oGt, c0]
    refine ⟨r, p1, ?_, i1, hr⟩
    unfold b__law_book_drawn_1
    refine (sSeq_nx e1).trans ((sSeq_nx ((if_false e2).trans rfl)).trans ?_)
    exact app _ _
theorem dr_loop1 (n w i : Nat) (s1 s2 s5 s7 s11 : Option Sl) (h1 : i < n) (hn : n ≤ 8) : ∀ (ms : List Nat) (T : List (Nat × Nat)) (s9 s10 : Option Sl) (p : Pl), Inv0 p → T.length + ms.length < 1000 → (∀ m ∈ T, m.2 < n) →
    ∃ (T' : List (Nat × Nat)) (s9' s10' : Option Sl) (p' : Pl), loop (gN 9) b__law_book_drawn_1 (intsD ms) ⟨[some .pool, s1, s2, some (.val (.int n)), some (.val (.int w)), s5, some (.val (.int i)), s7, some (.own (T.map mvD)), s9, s10, s11], some p⟩ =
      .nx ⟨[some .pool, s1, s2, some (.val (.int n)), some (.val (.int w)), s5, some (.val (.int i)), s7, some (.own (T'.map mvD)), s9', s10', s11], some p'⟩ ∧ Inv0 p' ∧ (∀ m ∈ T', m.2 < n) ∧ T'.map (·.1) = T.map (·.1) ++ ms
  | [], T, s9, s10, p, hi, _, ht => ⟨T, s9, s10, p, rfl, hi, ht, by simp⟩
  | m :: ms, T, s9, s10, p, hi, hl, ht => by
    have hl : T.length + (ms.length + 1) < 1000 := hl
    have eg : gN 9 (.int (m : Int)) ⟨[some .pool, s1, s2, some (.val (.int n)), some (.val (.int w)), s5, some (.val (.int i)), s7, some (.own (T.map mvD)), s9, s10, s11], some p⟩ = some ⟨[some .pool, s1, s2, some (.val (.int n)), some (.val (.int w)), s5, some (.val (.int i)), s7, some (.own (T.map mvD)), some (.val (.int m)), s10, s11], some p⟩ := rfl
    obtain ⟨t, p1, eb, i1, hlt⟩ := dr_body1 n w i m T s1 s2 s5 s7 s10 s11 p hi h1 hn (by omega)
    obtain ⟨T', s9', s10', p', e, i2, h2, h3⟩ := dr_loop1 n w i s1 s2 s5 s7 s11 h1 hn ms (T ++ [(m, t)]) (some (.val (.int m))) (some (.val (.int t))) p1 i1 (by rw [List.length_append, List.length_singleton]; omega) (fun x hx => by
      rcases List.mem_append.mp hx with hx | hx
      · exact ht x hx
      · rw [List.mem_singleton.mp hx]
        exact hlt)
    refine ⟨T', s9', s10', p', ?_, i2, h2, by rw [h3]; simp⟩
    have en : intsD (m :: ms) = .int (m : Int) :: intsD ms := rfl
    rw [en]
    unfold loop
    rw [eg]
    simp only [eb]
    exact e
theorem tNot_ok {A : M Bool} {s s1 : N4.St} {r : Bool} (h : A s = .ok r s1) : N4.tNot A s = .ok (!r) s1 := by
  unfold N4.tNot
  rw [mBind_ok h]
  rfl
theorem tOr_false {A B : M Bool} {s s1 s2 : N4.St} (h : A s = .ok false s1) (h2 : B s1 = .ok false s2) : N4.tOr A B s = .ok false s2 := by
  unfold N4.tOr
  rw [mBind_ok h]
  exact h2
theorem eAnd_true {A B : M Ev} {s s1 : N4.St} {o : Out Ev} (h : A s = .ok (.val (.bool true)) s1) (h2 : B s1 = o) : eAnd A B s = o := by
  unfold eAnd
  rw [mBind_ok h]
  exact h2
theorem args_cons {a : M Ev} {as : List (M Ev)} {s s1 s2 s3 : N4.St} {x : Ev} {d : Sl} {ds : List Sl} (h : a s = .ok x s1) (h1 : argOf x s1 = .ok d s2) (h2 : args as s2 = .ok ds s3) : args (a :: as) s = .ok (d :: ds) s3 := by
  show mBind a (fun x => mBind (argOf x) fun d => mBind (args as) fun ds => mRet (d :: ds)) s = _
  rw [mBind_ok h, mBind_ok h1, mBind_ok h2]
  rfl
theorem call_err {F : Fn} {as : List (M Ev)} {s s1 : N4.St} {ds : List Sl} {c : String} {x : PyData} {q : Option Pl} (ha : args as s = .ok ds s1) (hF : F ds s1.pl = .err c x q) : eCall F as s = .err c x { s1 with pl := q } := by
  unfold eCall
  rw [mBind_ok ha]
  simp only [hF]
theorem args2 {A B : M Ev} {s : N4.St} {d e : PyData} (hA : A s = .ok (.val d) s) (hB : B s = .ok (.val e) s) : args [A, B] s = .ok [.val d, .val e] s := by
  have hn : args [] s = .ok [] s := rfl
  have e1 : argOf (.val d) s = .ok (.val d) s := rfl
  have e2 : argOf (.val e) s = .ok (.val e) s := rfl
  exact args_cons hA e1 (args_cons hB e2 hn)
theorem frzs2 {A B : M Ev} {s s1 s2 : N4.St} {d e : PyData} (hA : A s = .ok (.val d) s1) (hB : B s1 = .ok (.val e) s2) : frzs [A, B] s = .ok [d, e] s2 := by
  have hn : frzs [] s2 = .ok [] s2 := rfl
  have e1 : freeze (.val d) s1 = .ok d s1 := rfl
  have e2 : freeze (.val e) s2 = .ok e s2 := rfl
  exact frzs_cons hA e1 (frzs_cons hB e2 hn)
theorem eV_ok {i : Nat} {d : PyData} {s : N4.St} (h : s.sl[i]? = some (some (.val d))) : eV i s = .ok (.val d) s := by
  simp [eV, h]
theorem add_tup {A B : M Ev} {s s1 s2 : N4.St} {X Y : List PyData} (ha : A s = .ok (.val (.tuple X)) s1) (hb : B s1 = .ok (.val (.tuple Y)) s2) (h : X.length + Y.length ≤ lineN) : eOp oAdd A B s = .ok (.val (.tuple (X ++ Y))) s2 := by
  have eo : oAdd (.tuple X) (.tuple Y) = some (.val (.tuple (X ++ Y))) := by
    unfold oAdd
    exact if_pos h
  unfold eOp
  rw [mBind_ok ha, mBind_ok hb]
  simp only [look, eo]
theorem tup1 {A : M Ev} {s s1 : N4.St} {d : PyData} (h : A s = .ok (.val d) s1) : eTup [A] s = .ok (.val (.tuple [d])) s1 := by
  unfold eTup frzs
  have e : mBind A (fun x => mBind (freeze x) fun d => mBind (frzs []) fun ds => mRet (d :: ds)) s = .ok [d] s1 := by
    rw [mBind_ok h]
    rfl
  rw [mBind_ok e]
  exact congrFun (if_pos (by unfold lineN; simp)) _
theorem tEqI {i : Nat} {sl : List (Option Sl)} {p : Option Pl} {w : Nat} (h : sl[i]? = some (some (.val (.int w)))) (c : Nat) : tV (eOp oEq (eV i) (eC (.int c))) ⟨sl, p⟩ = .ok (decide (w = c)) ⟨sl, p⟩ := by
  have : decide ((w : Int) = (c : Int)) = decide (w = c) := by
    by_cases e : w = c
    · simp [e]
    · have : ¬ (w : Int) = c := by omega
      simp [e, this]
  simp [tV, mBind, eOp, eV, h, eC, mRet, look, oEq, shal_int, eqv_int, this]
theorem tLtI {i : Nat} {sl : List (Option Sl)} {p : Option Pl} {w : Nat} (h : sl[i]? = some (some (.val (.int w)))) (c : Nat) : tV (eOp oLt (eV i) (eC (.int c))) ⟨sl, p⟩ = .ok (decide (w < c)) ⟨sl, p⟩ := by
  have : decide ((w : Int) < (c : Int)) = decide (w < c) := by
    by_cases e : w < c
    · have : (w : Int) < c := by omega
      simp [e, this]
    · have : ¬ (w : Int) < c := by omega
      simp [e, this]
  simp [tV, mBind, eOp, eV, h, eC, mRet, look, oLt, this]
theorem cut_len (xs : List PyData) (lo hi : Option Int) : (cutN xs lo hi).length ≤ xs.length := by
  unfold cutN
  rw [List.length_take, List.length_drop]
  omega
theorem cut_mem {xs : List PyData} {lo hi : Option Int} {d : PyData} (h : d ∈ cutN xs lo hi) : d ∈ xs := List.mem_of_mem_drop (List.mem_of_mem_take h)
theorem call_ok {F : Fn} {as : List (M Ev)} {s s1 : N4.St} {ds : List Sl} {r : Ev} {q : Option Pl} (ha : args as s = .ok ds s1) (hF : F ds s1.pl = .ok r q) : eCall F as s = .ok r { s1 with pl := q } := by
  unfold eCall
  rw [mBind_ok ha]
  simp only [hF]
end K02
end
section
set_option Elab.async false
set_option linter.all false
set_option autoImplicit false
set_option maxRecDepth 100000
set_option maxHeartbeats 4000000
namespace K02
open PySem PySem.Spec PyProof.Rows N4
def drPut : SM := sIf (N4.tAnd (tV (eOp oGt (eV 4) (eC (.int 1)))) (tV (eOp oNe (eV 8) (eLst [])))) (sSeq (sSet 11 (eCall sem__law_draw [eV 0, eBu bLen [eV 8]]))
    (sPut 8 (eV 11) (eTup [eOp oIx (eOp oIx (eV 8) (eV 11)) (eC (.int 0)), eIf (tV (eOp oLt (eV 4) (eC (.int 4)))) (eOp oMod (eBu bInt [eOp oAdd (eV 6) (eC (.int 1))]) (eV 3)) (eBu bMin2 [eOp oAdd (eV 6) (eC (.int 1)), eOp oSub (eV 3) (eC (.int 1))])]))) (sNil)
theorem dr_put (n w i : Nat) (T : List (Nat × Nat)) (s1 s2 s5 s7 s9 s10 s11 : Option Sl) (p : Pl) (hi : Inv0 p) (h1 : i < n) (hn : n ≤ 8) (hl : T.length ≤ 5) (ht : ∀ m ∈ T, m.2 < n) :
    ∃ (T' : List (Nat × Nat)) (s11' : Option Sl) (p' : Pl), drPut ⟨[some .pool, s1, s2, some (.val (.int n)), some (.val (.int w)), s5, some (.val (.int i)), s7, some (.own (T.map mvD)), s9, s10, s11], some p⟩ =
      .nx ⟨[some .pool, s1, s2, some (.val (.int n)), some (.val (.int w)), s5, some (.val (.int i)), s7, some (.own (T'.map mvD)), s9, s10, s11'], some p'⟩ ∧ Inv0 p' ∧ (∀ m ∈ T', m.2 < n) ∧ T'.map (·.1) = T.map (·.1) := by
  by_cases c : 1 < w ∧ T ≠ []
  · have c1 : (1 : Int) < w := by omega
    have c2 : T.isEmpty = false := by
      cases T with
      | nil => exact absurd rfl c.2
      | cons a b => rfl
    have c3 : 0 < T.length := by
      cases T with
      | nil => exact absurd rfl c.2
      | cons a b => exact Nat.succ_pos _
    have e1 : N4.tAnd (tV (eOp oGt (eV 4) (eC (.int 1)))) (tV (eOp oNe (eV 8) (eLst []))) ⟨[some .pool, s1, s2, some (.val (.int n)), some (.val (.int w)), s5, some (.val (.int i)), s7, some (.own (T.map mvD)), s9, s10, s11], some p⟩ = .ok true ⟨[some .pool, s1, s2, some (.val (.int n)), some (.val (.int w)), s5, some (.val (.int i)), s7, some (.own (T.map mvD)), s9, s10, s11], some p⟩ := by
      simp [N4.tAnd, tV, mBind, eOp, eV, eC, mRet, look, oGt, c1, eLst, frzs, lineN, ne_nil, c2]
    obtain ⟨r, p1, e2, i1, hr⟩ := draw_e (sl := [some .pool, s1, s2, some (.val (.int n)), some (.val (.int w)), s5, some (.val (.int i)), s7, some (.own (T.map mvD)), s9, s10, s11]) (p := p) (X := eBu bLen [eV 8]) (many := T.length) rfl (by
      simp [eBu, evs, mBind, eV, mRet, N4.settle, looks, look, bLen]) c3 (by omega) hi
    have e2 := set_val (i := 11) e2 (by simp)
    have ix := ixN_nat (len := (T.map mvD).length) (i := r) (by rw [List.length_map]; exact hr)
    have em : (T.map mvD)[r]? = some (mvD T[r]) := by simp [List.getElem?_eq_getElem hr]
    have ep : ∃ v : Nat, v < n ∧ eIf (tV (eOp oLt (eV 4) (eC (.int 4)))) (eOp oMod (eBu bInt [eOp oAdd (eV 6) (eC (.int 1))]) (eV 3)) (eBu bMin2 [eOp oAdd (eV 6) (eC (.int 1)), eOp oSub (eV 3) (eC (.int 1))]) ⟨[some .pool, s1, s2, some (.val (.int n)), some (.val (.int w)), s5, some (.val (.int i)), s7, some (.own (T.map mvD)), s9, s10, some (.val (.int r))], some p1⟩ = .ok (.val (.int v)) ⟨[some .pool, s1, s2, some (.val (.int n)), some (.val (.int w)), s5, some (.val (.int i)), s7, some (.own (T.map mvD)), s9, s10, some (.val (.int r))], some p1⟩ := by
      by_cases c4 : w < 4
      · have c5 : (w : Int) < 4 := by omega
        have c6 : (0 : Int) < n := by omega
        have c66 : 0 < n := by omega
        refine ⟨(i + 1) % n, Nat.mod_lt _ (by omega), ?_⟩
        simp [eIf, tV, mBind, eOp, eV, eC, mRet, look, oLt, c5, eBu, evs, oAdd, N4.settle, looks, bInt, oMod, c6, c66]
      · have c5 : ¬ (w : Int) < 4 := by omega
        refine ⟨if n - 1 < i + 1 then n - 1 else i + 1, by split <;> omega, ?_⟩
        by_cases c6 : n - 1 < i + 1
        · have c7 : (n : Int) - 1 < (i : Int) + 1 := by omega
          have c8 : ((n - 1 : Nat) : Int) = (n : Int) - 1 := by omega
          simp [eIf, tV, mBind, eOp, eV, eC, mRet, look, oLt, c5, eBu, evs, oAdd, oSub, N4.settle, looks, bMin2, c6, c7, c8]
        · have c7 : ¬ (n : Int) - 1 < (i : Int) + 1 := by omega
          simp [eIf, tV, mBind, eOp, eV, eC, mRet, look, oLt, c5, eBu, evs, oAdd, oSub, N4.settle, looks, bMin2, c6, c7]
    obtain ⟨v, hv, ev⟩ := ep
    have et : eTup [eOp oIx (eOp oIx (eV 8) (eV 11)) (eC (.int 0)), eIf (tV (eOp oLt (eV 4) (eC (.int 4)))) (eOp oMod (eBu bInt [eOp oAdd (eV 6) (eC (.int 1))]) (eV 3)) (eBu bMin2 [eOp oAdd (eV 6) (eC (.int 1)), eOp oSub (eV 3) (eC (.int 1))])] ⟨[some .pool, s1, s2, some (.val (.int n)), some (.val (.int w)), s5, some (.val (.int i)), s7, some (.own (T.map mvD)), s9, s10, some (.val (.int r))], some p1⟩ = .ok (.val (mvD (T[r].1, v))) ⟨[some .pool, s1, s2, some (.val (.int n)), some (.val (.int w)), s5, some (.val (.int i)), s7, some (.own (T.map mvD)), s9, s10, some (.val (.int r))], some p1⟩ := by
      have ea : eOp oIx (eOp oIx (eV 8) (eV 11)) (eC (.int 0)) ⟨[some .pool, s1, s2, some (.val (.int n)), some (.val (.int w)), s5, some (.val (.int i)), s7, some (.own (T.map mvD)), s9, s10, some (.val (.int r))], some p1⟩ = .ok (.val (.int (T[r].1 : Nat))) ⟨[some .pool, s1, s2, some (.val (.int n)), some (.val (.int w)), s5, some (.val (.int i)), s7, some (.own (T.map mvD)), s9, s10, some (.val (.int r))], some p1⟩ := by
        have e0 : oIx (mvD T[r]) (.int 0) = some (.val (.int (T[r].1 : Nat))) := rfl
        have e00 : oIx (.list (T.map mvD)) (.int r) = some (.val (mvD T[r])) := by
          simp only [oIx, ix, em, Option.map_some]
        simp only [eOp, mBind, eV, eC, mRet, look, List.getElem?_cons_zero, List.getElem?_cons_succ, e00, e0]
      unfold eTup frzs
      unfold frzs
      unfold frzs
      simp only [mBind, ea, ev, freeze, mRet, List.length_cons, List.length_nil, lineN]
      rfl
    refine ⟨T.set r (T[r].1, v), some (.val (.int r)), p1, ?_, i1, fun m hm => ?_, ?_⟩
    · unfold drPut
      refine ((if_true e1).trans (sSeq_nx e2)).trans ?_
      unfold sPut
      refine (sE_ok et).trans ?_
      refine (sE_ok (m := freeze _) rfl).trans ?_
      unfold onOwn
      simp only [List.getElem?_cons_zero, List.getElem?_cons_succ, setSl, List.set_cons_succ, List.set_cons_zero]
      simp only [sE, eV, List.getElem?_cons_zero, List.getElem?_cons_succ, ix, List.map_set, setSl, List.set_cons_succ, List.set_cons_zero]
    · rcases List.mem_or_eq_of_mem_set hm with hm | rfl
      · exact ht m hm
      · exact hv
    · rw [List.map_set]
      have : (T.map (·.1))[r]'(by rw [List.length_map]; exact hr) = T[r].1 := by simp
      rw [← this, List.set_getElem_self]
  · have e1 : N4.tAnd (tV (eOp oGt (eV 4) (eC (.int 1)))) (tV (eOp oNe (eV 8) (eLst []))) ⟨[some .pool, s1, s2, some (.val (.int n)), some (.val (.int w)), s5, some (.val (.int i)), s7, some (.own (T.map mvD)), s9, s10, s11], some p⟩ = .ok false ⟨[some .pool, s1, s2, some (.val (.int n)), some (.val (.int w)), s5, some (.val (.int i)), s7, some (.own (T.map mvD)), s9, s10, s11], some p⟩ := by
      by_cases c1 : 1 < w
      · have c0 : (1 : Int) < w := by omega
        have c2 : T.isEmpty = true := by
          cases T with
          | nil => rfl
          | cons a b => exact absurd ⟨c1, by simp⟩ c
        simp [N4.tAnd, tV, mBind, eOp, eV, eC, mRet, look, oGt, c0, eLst, frzs, lineN, ne_nil, c2]
      · have c0 : ¬ (1 : Int) < w := by omega
        simp [N4.tAnd, tV, mBind, eOp, eV, eC, mRet, look, oGt, c0]
    exact ⟨T, s11, p, if_false e1, hi, ht, rfl⟩
theorem dr_count (n w i M : Nat) (hM : M ≤ 5) (s1 s5 s7 s8 s9 s10 s11 : Option Sl) (p : Pl) (hi : Inv0 p) :
    ∃ (c : Nat) (p' : Pl), sSet 7 (eCall sem__law_pick [eV 0, eLst [eC (.int 1), eC (.int 1), eC (.int 2), eC (.int 2), eBu bMin2 [eC (.int 2), eV 2], eCall sem__law_draw [eV 0, eOp oAdd (eV 2) (eC (.int 1))]]]) ⟨[some .pool, s1, some (.val (.int M)), some (.val (.int n)), some (.val (.int w)), s5, some (.val (.int i)), s7, s8, s9, s10, s11], some p⟩ =
      .nx ⟨[some .pool, s1, some (.val (.int M)), some (.val (.int n)), some (.val (.int w)), s5, some (.val (.int i)), some (.val (.int c)), s8, s9, s10, s11], some p'⟩ ∧ Inv0 p' ∧ c ≤ 5 := by
  obtain ⟨r, p1, e1, i1, hr⟩ := draw_e (sl := [some .pool, s1, some (.val (.int M)), some (.val (.int n)), some (.val (.int w)), s5, some (.val (.int i)), s7, s8, s9, s10, s11]) (p := p) (X := eOp oAdd (eV 2) (eC (.int 1))) (many := M + 1) rfl (op_ok (x := .val (.int M)) (y := .val (.int 1)) rfl rfl rfl rfl (by simp [oAdd])) (by omega) (by omega) hi
  have e0 : ∃ m : Nat, m ≤ 5 ∧ eBu bMin2 [eC (.int 2), eV 2] ⟨[some .pool, s1, some (.val (.int M)), some (.val (.int n)), some (.val (.int w)), s5, some (.val (.int i)), s7, s8, s9, s10, s11], some p⟩ = .ok (.val (.int m)) ⟨[some .pool, s1, some (.val (.int M)), some (.val (.int n)), some (.val (.int w)), s5, some (.val (.int i)), s7, s8, s9, s10, s11], some p⟩ := by
    by_cases c : M < 2
    · have c2 : (M : Int) < 2 := by omega
      exact ⟨M, hM, by simp [eBu, evs, mBind, eC, mRet, N4.settle, eV, looks, look, bMin2, c2]⟩
    · have c2 : ¬ (M : Int) < 2 := by omega
      exact ⟨2, by decide, by simp [eBu, evs, mBind, eC, mRet, N4.settle, eV, looks, look, bMin2, c2]⟩
  obtain ⟨m, hm, e0⟩ := e0
  have e2 : eLst [eC (.int 1), eC (.int 1), eC (.int 2), eC (.int 2), eBu bMin2 [eC (.int 2), eV 2], eCall sem__law_draw [eV 0, eOp oAdd (eV 2) (eC (.int 1))]] ⟨[some .pool, s1, some (.val (.int M)), some (.val (.int n)), some (.val (.int w)), s5, some (.val (.int i)), s7, s8, s9, s10, s11], some p⟩ = .ok (.fresh [.int 1, .int 1, .int 2, .int 2, .int m, .int r]) ⟨[some .pool, s1, some (.val (.int M)), some (.val (.int n)), some (.val (.int w)), s5, some (.val (.int i)), s7, s8, s9, s10, s11], some p1⟩ := by
    exact eLst_ok (frzs_cons (d := .int 1) rfl rfl (frzs_cons (d := .int 1) rfl rfl (frzs_cons (d := .int 2) rfl rfl (frzs_cons (d := .int 2) rfl rfl (frzs_cons e0 rfl (frzs_cons e1 rfl rfl)))))) (by simp)
  obtain ⟨d, p2, e3, i2, hd⟩ := pick_e (sl := [some .pool, s1, some (.val (.int M)), some (.val (.int n)), some (.val (.int w)), s5, some (.val (.int i)), s7, s8, s9, s10, s11]) rfl e2 rfl (.inl rfl) (by simp) (by simp) i1
  have hd2 : ∃ c : Nat, c ≤ 5 ∧ d = .int c := by
    simp only [List.mem_cons, List.not_mem_nil, or_false] at hd
    rcases hd with rfl | rfl | rfl | rfl | rfl | rfl
    · exact ⟨1, by decide, rfl⟩
    · exact ⟨1, by decide, rfl⟩
    · exact ⟨2, by decide, rfl⟩
    · exact ⟨2, by decide, rfl⟩
    · exact ⟨m, hm, rfl⟩
    · exact ⟨r, by omega, rfl⟩
  obtain ⟨c, hc, rfl⟩ := hd2
  exact ⟨c, p2, set_val (i := 7) e3 (by simp), i2, hc⟩
theorem dr_none (n w i c : Nat) (h1 : i < n) (s1 s2 s5 s8 s9 s10 s11 : Option Sl) (p : Pl) (hc : c ≤ 5) :
    ∃ (c' : Nat), sIf (N4.tAnd (tV (eOp oGt (eV 4) (eC (.int 3)))) (tV (eOp oEq (eV 6) (eOp oSub (eV 3) (eC (.int 1)))))) (sSet 7 (eC (.int 0))) (sNil) ⟨[some .pool, s1, s2, some (.val (.int n)), some (.val (.int w)), s5, some (.val (.int i)), some (.val (.int c)), s8, s9, s10, s11], some p⟩ =
      .nx ⟨[some .pool, s1, s2, some (.val (.int n)), some (.val (.int w)), s5, some (.val (.int i)), some (.val (.int c')), s8, s9, s10, s11], some p⟩ ∧ c' ≤ 5 := by
  have e1 : N4.tAnd (tV (eOp oGt (eV 4) (eC (.int 3)))) (tV (eOp oEq (eV 6) (eOp oSub (eV 3) (eC (.int 1))))) ⟨[some .pool, s1, s2, some (.val (.int n)), some (.val (.int w)), s5, some (.val (.int i)), some (.val (.int c)), s8, s9, s10, s11], some p⟩ = .ok (decide ((3 : Int) < w) && decide ((i : Int) = (n : Int) - 1)) ⟨[some .pool, s1, s2, some (.val (.int n)), some (.val (.int w)), s5, some (.val (.int i)), some (.val (.int c)), s8, s9, s10, s11], some p⟩ := by
    by_cases c0 : (3 : Int) < w
    · simp [N4.tAnd, tV, mBind, eOp, eV, eC, mRet, look, oGt, oEq, oSub, shal_int, eqv_int, c0]
    · simp [N4.tAnd, tV, mBind, eOp, eV, eC, mRet, look, oGt, c0]
  cases hb : (decide ((3 : Int) < w) && decide ((i : Int) = (n : Int) - 1)) with
  | true =>
    rw [hb] at e1
    exact ⟨0, (if_true e1).trans (set_val (A := eC (.int 0)) (d := .int 0) rfl (by simp)), by omega⟩
  | false =>
    rw [hb] at e1
    exact ⟨c, (if_false e1).trans rfl, hc⟩
theorem dr_body2 (n w i M : Nat) (hM : M ≤ 5) (B : Bk) (s1 s7 s8 s9 s10 s11 : Option Sl) (p : Pl) (hi : Inv0 p) (h1 : i < n) (hn : n ≤ 8) (hB : B.length < 1000) :
    ∃ (T : List (Nat × Nat)) (s7' s8' s9' s10' s11' : Option Sl) (p' : Pl), b__law_book_drawn_2 ⟨[some .pool, s1, some (.val (.int M)), some (.val (.int n)), some (.val (.int w)), some (.own (B.map rsD)), some (.val (.int i)), s7, s8, s9, s10, s11], some p⟩ =
      .nx ⟨[some .pool, s1, some (.val (.int M)), some (.val (.int n)), some (.val (.int w)), some (.own ((B ++ [T]).map rsD)), some (.val (.int i)), s7', s8', s9', s10', s11'], some p'⟩ ∧ Inv0 p' ∧ OkSt n T := by
  obtain ⟨c, p1, e1, i1, hc⟩ := dr_count n w i M hM s1 (some (.own (B.map rsD))) s7 s8 s9 s10 s11 p hi
  obtain ⟨c', e2, hc'⟩ := dr_none n w i c h1 s1 (some (.val (.int M))) (some (.own (B.map rsD))) s8 s9 s10 s11 p1 hc
  have e3 : sSet 8 (eLst []) ⟨[some .pool, s1, some (.val (.int M)), some (.val (.int n)), some (.val (.int w)), some (.own (B.map rsD)), some (.val (.int i)), some (.val (.int c')), s8, s9, s10, s11], some p1⟩ = .nx ⟨[some .pool, s1, some (.val (.int M)), some (.val (.int n)), some (.val (.int w)), some (.own (B.map rsD)), some (.val (.int i)), some (.val (.int c')), some (.own (([] : List (Nat × Nat)).map mvD)), s9, s10, s11], some p1⟩ := by
    simp [sSet, sE, eLst, frzs, mBind, mRet, lineN, store, setSl]
  have e0 : ∃ q : Nat, q ≤ 5 ∧ eBu bMin2 [eV 7, eV 2] ⟨[some .pool, s1, some (.val (.int M)), some (.val (.int n)), some (.val (.int w)), some (.own (B.map rsD)), some (.val (.int i)), some (.val (.int c')), some (.own (([] : List (Nat × Nat)).map mvD)), s9, s10, s11], some p1⟩ = .ok (.val (.int q)) ⟨[some .pool, s1, some (.val (.int M)), some (.val (.int n)), some (.val (.int w)), some (.own (B.map rsD)), some (.val (.int i)), some (.val (.int c')), some (.own (([] : List (Nat × Nat)).map mvD)), s9, s10, s11], some p1⟩ := by
    by_cases c : M < c'
    · have c2 : (M : Int) < c' := by omega
      exact ⟨M, hM, by simp [eBu, evs, mBind, mRet, N4.settle, eV, looks, look, bMin2, c2]⟩
    · have c2 : ¬ (M : Int) < c' := by omega
      exact ⟨c', hc', by simp [eBu, evs, mBind, mRet, N4.settle, eV, looks, look, bMin2, c2]⟩
  obtain ⟨q, hq, e0⟩ := e0
  obtain ⟨ms, p2, e4, i2, hr, hm, hl⟩ := messages_ok q hq p1 i1
  have e5 : iSeq (eCall sem__law_book_messages [eV 0, eBu bMin2 [eV 7, eV 2]]) ⟨[some .pool, s1, some (.val (.int M)), some (.val (.int n)), some (.val (.int w)), some (.own (B.map rsD)), some (.val (.int i)), some (.val (.int c')), some (.own (([] : List (Nat × Nat)).map mvD)), s9, s10, s11], some p1⟩ = .ok (intsD ms) ⟨[some .pool, s1, some (.val (.int M)), some (.val (.int n)), some (.val (.int w)), some (.own (B.map rsD)), some (.val (.int i)), some (.val (.int c')), some (.own (([] : List (Nat × Nat)).map mvD)), s9, s10, s11], some p2⟩ := by
    have hn : args [] ⟨[some .pool, s1, some (.val (.int M)), some (.val (.int n)), some (.val (.int w)), some (.own (B.map rsD)), some (.val (.int i)), some (.val (.int c')), some (.own (([] : List (Nat × Nat)).map mvD)), s9, s10, s11], some p1⟩ = .ok [] ⟨[some .pool, s1, some (.val (.int M)), some (.val (.int n)), some (.val (.int w)), some (.own (B.map rsD)), some (.val (.int i)), some (.val (.int c')), some (.own (([] : List (Nat × Nat)).map mvD)), s9, s10, s11], some p1⟩ := rfl
    have ea : args [eV 0, eBu bMin2 [eV 7, eV 2]] ⟨[some .pool, s1, some (.val (.int M)), some (.val (.int n)), some (.val (.int w)), some (.own (B.map rsD)), some (.val (.int i)), some (.val (.int c')), some (.own (([] : List (Nat × Nat)).map mvD)), s9, s10, s11], some p1⟩ = .ok [.pool, .val (.int q)] ⟨[some .pool, s1, some (.val (.int M)), some (.val (.int n)), some (.val (.int w)), some (.own (B.map rsD)), some (.val (.int i)), some (.val (.int c')), some (.own (([] : List (Nat × Nat)).map mvD)), s9, s10, s11], some p1⟩ := args_cons (a := eV 0) (x := .pool) (s1 := ⟨[some .pool, s1, some (.val (.int M)), some (.val (.int n)), some (.val (.int w)), some (.own (B.map rsD)), some (.val (.int i)), some (.val (.int c')), some (.own (([] : List (Nat × Nat)).map mvD)), s9, s10, s11], some p1⟩) (s2 := ⟨[some .pool, s1, some (.val (.int M)), some (.val (.int n)), some (.val (.int w)), some (.own (B.map rsD)), some (.val (.int i)), some (.val (.int c')), some (.own (([] : List (Nat × Nat)).map mvD)), s9, s10, s11], some p1⟩) rfl rfl (args_cons e0 rfl hn)
    have ec := call_ok ea e4
    unfold iSeq
    rw [mBind_ok ec]
    rfl
  obtain ⟨T, s9', s10', p3, lp, i3, ht, hT⟩ := dr_loop1 n w i s1 (some (.val (.int M))) (some (.own (B.map rsD))) (some (.val (.int c'))) s11 h1 hn ms [] s9 s10 p2 i2 (by rw [hl]; simp; omega) (fun m hm => nomatch hm)
  have hT : T.map (·.1) = ms := hT
  have hTl : T.length = q := by rw [← hl, ← hT, List.length_map]
  obtain ⟨T', s11', p4, e6, i4, ht', hT'⟩ := dr_put n w i T s1 (some (.val (.int M))) (some (.own (B.map rsD))) (some (.val (.int c'))) s9' s10' s11 p3 i3 h1 hn (by omega) ht
  have hTl' : T'.length = q := by
    have := congrArg List.length hT'
    rw [List.length_map, List.length_map] at this
    omega
  have e7 : sApp 5 (eV 8) ⟨[some .pool, s1, some (.val (.int M)), some (.val (.int n)), some (.val (.int w)), some (.own (B.map rsD)), some (.val (.int i)), some (.val (.int c')), some (.own (T'.map mvD)), s9', s10', s11'], some p4⟩ = .nx ⟨[some .pool, s1, some (.val (.int M)), some (.val (.int n)), some (.val (.int w)), some (.own ((B ++ [T']).map rsD)), some (.val (.int i)), some (.val (.int c')), some (.val (.list (T'.map mvD))), s9', s10', s11'], some p4⟩ := by
    have hl : (B.map rsD).length < lineN := by
      rw [List.length_map]
      unfold lineN
      omega
    unfold sApp onOwn
    simp only [List.getElem?_cons_zero, List.getElem?_cons_succ, sE, eV, freeze, setSl, List.set_cons_succ, List.set_cons_zero]
    rw [if_pos hl, List.map_append]
    rfl
  refine ⟨T', some (.val (.int c')), some (.val (.list (T'.map mvD))), s9', s10', s11', p4, ?_, i4, ⟨by omega, by rw [hT', hT]; exact hr, fun m hx => ?_, ht'⟩⟩
  · unfold b__law_book_drawn_2 sFor
    refine (sSeq_nx e1).trans ((sSeq_nx e2).trans ((sSeq_nx e3).trans ?_))
    refine (sSeq_nx ((sE_ok e5).trans lp)).trans ?_
    exact (sSeq_nx e6).trans e7
  · have : m.1 ∈ T'.map (·.1) := List.mem_map_of_mem hx
    rw [hT', hT] at this
    exact hm _ this
theorem dr_loop2 (n w M : Nat) (hM : M ≤ 5) (s1 : Option Sl) (hn : n ≤ 8) : ∀ (k i : Nat) (B : Bk) (s6 s7 s8 s9 s10 s11 : Option Sl) (p : Pl), Inv0 p → i + k = n → B.length = i → (∀ T ∈ B, OkSt n T) →
    ∃ (B' : Bk) (s6' s7' s8' s9' s10' s11' : Option Sl) (p' : Pl), loop (gN 6) b__law_book_drawn_2 (intsN i k) ⟨[some .pool, s1, some (.val (.int M)), some (.val (.int n)), some (.val (.int w)), some (.own (B.map rsD)), s6, s7, s8, s9, s10, s11], some p⟩ =
      .nx ⟨[some .pool, s1, some (.val (.int M)), some (.val (.int n)), some (.val (.int w)), some (.own (B'.map rsD)), s6', s7', s8', s9', s10', s11'], some p'⟩ ∧ Inv0 p' ∧ B'.length = n ∧ ∀ T ∈ B', OkSt n T
  | 0, i, B, s6, s7, s8, s9, s10, s11, p, hi, hk, hB, ht => ⟨B, s6, s7, s8, s9, s10, s11, p, rfl, hi, by omega, ht⟩
  | k + 1, i, B, s6, s7, s8, s9, s10, s11, p, hi, hk, hB, ht => by
    have eg : gN 6 (.int (i : Int)) ⟨[some .pool, s1, some (.val (.int M)), some (.val (.int n)), some (.val (.int w)), some (.own (B.map rsD)), s6, s7, s8, s9, s10, s11], some p⟩ = some ⟨[some .pool, s1, some (.val (.int M)), some (.val (.int n)), some (.val (.int w)), some (.own (B.map rsD)), some (.val (.int i)), s7, s8, s9, s10, s11], some p⟩ := rfl
    obtain ⟨T, s7', s8', s9', s10', s11', p1, eb, i1, hT⟩ := dr_body2 n w i M hM B s1 s7 s8 s9 s10 s11 p hi (by omega) hn (by omega)
    obtain ⟨B', t6, t7, t8, t9, t10, t11, p', e, i2, h2, h3⟩ := dr_loop2 n w M hM s1 hn k (i + 1) (B ++ [T]) (some (.val (.int i))) s7' s8' s9' s10' s11' p1 i1 (by omega) (by rw [List.length_append, List.length_singleton, hB]) (fun x hx => by
      rcases List.mem_append.mp hx with hx | hx
      · exact ht x hx
      · rw [List.mem_singleton.mp hx]
        exact hT)
    refine ⟨B', t6, t7, t8, t9, t10, t11, p', ?_, i2, h2, h3⟩
    have en : intsN (i : Int) (k + 1) = .int (i : Int) :: intsN ((i + 1 : Nat) : Int) k := by simp [intsN]
    rw [en]
    unfold loop
    rw [eg]
    simp only [eb]
    exact e
theorem meet_e {sl : List (Option Sl)} {i : Nat} {b : Bk} (h : OkBk b) (hs : sl[i]? = some (some (.own (b.map rsD)))) (p : Option Pl) : ∃ s' : N4.St, eCall sem__law_book_meeting [eV i] ⟨sl, p⟩ = .ok (.val (bkD (renum (metOf b) b))) s' ∧ s'.pl = p := by
  have e1 : eV i ⟨sl, p⟩ = .ok (.slot i) ⟨sl, p⟩ := by simp [eV, hs]
  have e2 : freeze (.slot i) ⟨sl, p⟩ = .ok (rbD b) (setSl ⟨sl, p⟩ i (some (.val (rbD b)))) := by simp [freeze, hs, rbD]
  have e3 : argOf (.slot i) ⟨sl, p⟩ = .ok (.val (rbD b)) (setSl ⟨sl, p⟩ i (some (.val (rbD b)))) := by
    exact (mBind_ok e2).trans rfl
  have ea : args [eV i] ⟨sl, p⟩ = .ok [.val (rbD b)] (setSl ⟨sl, p⟩ i (some (.val (rbD b)))) := by
    unfold args
    rw [mBind_ok e1, mBind_ok e3]
    rfl
  have em := meeting_ok h p
  refine ⟨setSl ⟨sl, p⟩ i (some (.val (rbD b))), ?_, rfl⟩
  exact call_ok ea em
theorem drawn_ok (S M : Nat) (hS : 0 < S) (hS8 : S ≤ 8) (hM : M ≤ 5) (p : Pl) (hi : Inv0 p) : ∃ (b : Bk) (p' : Pl), sem__law_book_drawn [.pool, .val (.int S), .val (.int M)] (some p) = .ok (.val (bkD b)) (some p') ∧ Inv0 p' ∧ OkBk b ∧ AllMet b := by
  obtain ⟨r1, p1, e1, i1, h1⟩ := draw_e (sl := [some .pool, some (.val (.int S)), some (.val (.int M)), none, none, none, none, none, none, none, none, none]) (p := p) (X := eV 1) (many := S) rfl rfl hS (by omega) hi
  obtain ⟨r2, p2, e2, i2, h2⟩ := draw_e (sl := [some .pool, some (.val (.int S)), some (.val (.int M)), none, none, none, none, none, none, none, none, none]) (p := p1) (X := eC (.int 6)) (many := 6) rfl rfl (by decide) (by decide) i1
  have ez : (1 : Int) + (r1 : Int) = ((1 + r1 : Nat) : Int) := by omega
  have e3 : sPars [3, 4, 5] [eOp oAdd (eC (.int 1)) (eCall sem__law_draw [eV 0, eV 1]), eCall sem__law_draw [eV 0, eC (.int 6)], eLst []] ⟨[some .pool, some (.val (.int S)), some (.val (.int M)), none, none, none, none, none, none, none, none, none], some p⟩ = .nx ⟨[some .pool, some (.val (.int S)), some (.val (.int M)), some (.val (.int (1 + r1 : Nat))), some (.val (.int r2)), some (.own (([] : Bk).map rsD)), none, none, none, none, none, none], some p2⟩ := by
    have ea : eOp oAdd (eC (.int 1)) (eCall sem__law_draw [eV 0, eV 1]) ⟨[some .pool, some (.val (.int S)), some (.val (.int M)), none, none, none, none, none, none, none, none, none], some p⟩ = .ok (.val (.int (1 + r1 : Nat))) ⟨[some .pool, some (.val (.int S)), some (.val (.int M)), none, none, none, none, none, none, none, none, none], some p1⟩ := by
      exact op_ok (x := .val (.int 1)) rfl e1 rfl rfl (by rw [← ez]; rfl)
    exact (pars_ok (prs_cons ea rfl (prs_cons e2 rfl (prs_cons (eLst_nil _) rfl rfl))) rfl).trans rfl
  obtain ⟨B, s6, s7, s8, s9, s10, s11, p3, lp, i3, hl, hB⟩ := dr_loop2 (1 + r1) r2 M hM (some (.val (.int S))) (by omega) (1 + r1) 0 [] none none none none none none p2 i2 (by omega) rfl (fun T hT => nomatch hT)
  have hr : N4.iRng1 [eV 3] ⟨[some .pool, some (.val (.int S)), some (.val (.int M)), some (.val (.int (1 + r1 : Nat))), some (.val (.int r2)), some (.own (([] : Bk).map rsD)), none, none, none, none, none, none], some p2⟩ = .ok (intsN 0 (1 + r1)) ⟨[some .pool, some (.val (.int S)), some (.val (.int M)), some (.val (.int (1 + r1 : Nat))), some (.val (.int r2)), some (.own (([] : Bk).map rsD)), none, none, none, none, none, none], some p2⟩ := rng1N rfl (by omega)
  have lp : loop (gN 6) b__law_book_drawn_2 (intsN 0 (1 + r1)) _ = _ := lp
  have hb : OkBk B := ⟨by omega, by omega, fun T hT => by rw [hl]; exact hB T hT⟩
  obtain ⟨sE, ec, epl⟩ := meet_e (i := 5) (sl := [some .pool, some (.val (.int S)), some (.val (.int M)), some (.val (.int (1 + r1 : Nat))), some (.val (.int r2)), some (.own (B.map rsD)), s6, s7, s8, s9, s10, s11]) hb rfl (some p3)
  refine ⟨renum (metOf B) B, p3, ?_, i3, ok_renum hb, allMet_renum hb⟩
  have eM : sem__law_book_drawn [.pool, .val (.int S), .val (.int M)] (some p) = endOf (b__law_book_drawn ⟨[some .pool, some (.val (.int S)), some (.val (.int M)), none, none, none, none, none, none, none, none, none], some p⟩) := by
    unfold sem__law_book_drawn mkFn
    exact if_pos rfl
  rw [eM]
  unfold b__law_book_drawn sFor sRet
  refine (congrArg endOf (sSeq_nx e3)).trans ?_
  refine (congrArg endOf (sSeq_nx ((sE_ok hr).trans lp))).trans ?_
  refine (congrArg endOf (sE_ok ec)).trans ?_
  show FOut.ok _ sE.pl = _
  rw [epl]
end K02
end
section
set_option Elab.async false
set_option linter.all false
set_option autoImplicit false
set_option maxRecDepth 100000
set_option maxHeartbeats 4000000
namespace K02
open PySem PySem.Spec PyProof.Rows N4
theorem lc_all {α : Type} {own : List Nat} {g : Tg} {c : M Bool} {e : M Ev} {f v : α → PyData} {q : α → Bool} {I : N4.St → Prop} : ∀ (as : List α) (acc : List PyData) (s : N4.St), I s → acc.length + as.length ≤ lineN →
    (∀ a ∈ as, ∀ s, I s → ∃ s1 s2, g (f a) (wipeS s own) = some s1 ∧ c s1 = .ok (q a) s2 ∧ (q a = false → I s2) ∧ (q a = true → ∃ s3, mBind e freeze s2 = .ok (v a) s3 ∧ I s3)) →
    ∃ s', lcGo own g c e (as.map f) acc s = .ok (acc ++ (as.filter q).map v) s' ∧ I s'
  | [], acc, s, hI, _, _ => ⟨s, by simp [lcGo], hI⟩
  | a :: as, acc, s, hI, hl, step => by
    have hl : acc.length + (as.length + 1) ≤ lineN := hl
    obtain ⟨s1, s2, e1, e2, h0, h1⟩ := step a (List.mem_cons_self ..) s hI
    rw [List.map_cons]
    unfold lcGo
    rw [e1]
    cases hq : q a with
    | false =>
      rw [hq] at e2
      simp only [e2]
      obtain ⟨s', e3, h3⟩ := lc_all as acc s2 (h0 hq) (by omega) fun x hx => step x (List.mem_cons_of_mem _ hx)
      refine ⟨s', ?_, h3⟩
      rw [e3, List.filter_cons_of_neg (by rw [hq]; decide)]
    | true =>
      rw [hq] at e2
      obtain ⟨s3, e4, h4⟩ := h1 hq
      simp only [e2, e4]
      rw [if_pos (by omega)]
      obtain ⟨s', e3, h3⟩ := lc_all as (acc ++ [v a]) s3 h4 (by rw [List.length_append, List.length_singleton]; omega) fun x hx => step x (List.mem_cons_of_mem _ hx)
      refine ⟨s', ?_, h3⟩
      rw [e3, List.filter_cons_of_pos hq]
      simp
theorem eLC_all {α : Type} {own : List Nat} {it : M (List D)} {g : Tg} {c : M Bool} {e : M Ev} {f v : α → PyData} {q : α → Bool} {I : N4.St → Prop} {as : List α} {s s0 s1 : N4.St} (hi : it s = .ok (as.map f) s0) (hI : I s0) (hl : as.length ≤ lineN)
    (step : ∀ a ∈ as, ∀ s, I s → ∃ s1 s2, g (f a) (wipeS s own) = some s1 ∧ c s1 = .ok (q a) s2 ∧ (q a = false → I s2) ∧ (q a = true → ∃ s3, mBind e freeze s2 = .ok (v a) s3 ∧ I s3)) (hk : ∀ t, I t → keepS s0 own t = s1) :
    eLC own it g c e s = .ok (.fresh ((as.filter q).map v)) s1 := by
  obtain ⟨s', e3, h3⟩ := lc_all as [] s0 hI (by simpa using hl) step
  rw [List.nil_append] at e3
  rw [eLC_ok hi e3, hk s' h3]
theorem filter_true {α : Type} (as : List α) : as.filter (fun _ => true) = as := List.filter_eq_self.mpr fun _ _ => rfl
def castL (G : List Nat) : List Int := G.map fun k : Nat => (k : Int)
def sortNat (G : List Nat) : List Nat := (sortD (castL G)).map Int.toNat
def srt (G : List Nat) : List Nat := (sortN (castL G)).map Int.toNat
theorem cast_back {l : List Int} (h : ∀ z ∈ l, 0 ≤ z) : castL (l.map Int.toNat) = l := by
  unfold castL
  rw [List.map_map]
  conv => rhs; rw [← List.map_id l]
  exact List.map_congr_left fun z hz => Int.toNat_of_nonneg (h z hz)
theorem castL_pos {G : List Nat} : ∀ z ∈ castL G, 0 ≤ z := fun z hz => by
  obtain ⟨k, _, rfl⟩ := List.mem_map.mp hz
  omega
theorem sortNat_cast (G : List Nat) : castL (sortNat G) = sortD (castL G) := cast_back fun z hz => castL_pos z (mem_sortD.mp hz)
theorem srt_cast (G : List Nat) : castL (srt G) = sortN (castL G) := cast_back fun z hz => castL_pos z ((sortN_perm _).mem_iff.mp hz)
theorem mem_cast {G : List Nat} {k : Nat} : (k : Int) ∈ castL G ↔ k ∈ G := by
  constructor
  · intro h
    obtain ⟨j, hj, e⟩ := List.mem_map.mp h
    have : j = k := by omega
    rw [← this]
    exact hj
  · exact fun h => List.mem_map.mpr ⟨k, h, rfl⟩
theorem mem_sortNat {G : List Nat} {k : Nat} : k ∈ sortNat G ↔ k ∈ G := by rw [← mem_cast, sortNat_cast, mem_sortD, mem_cast]
theorem mem_srt {G : List Nat} {k : Nat} : k ∈ srt G ↔ k ∈ G := by rw [← mem_cast, srt_cast, (sortN_perm _).mem_iff, mem_cast]
theorem cast_pair {G : List Nat} : (castL G).Pairwise (· < ·) ↔ G.Pairwise (· < ·) := by
  unfold castL
  rw [List.pairwise_map]
  constructor
  · exact fun h => h.imp fun {a c} hh => by omega
  · exact fun h => h.imp fun {a c} hh => by omega
theorem sortNat_rise (G : List Nat) : (sortNat G).Pairwise (· < ·) := by
  rw [← cast_pair, sortNat_cast]
  exact sortD_strict _
theorem rise_nodup {G : List Nat} (h : G.Pairwise (· < ·)) : G.Nodup := h.imp fun {a c} hh => by omega
theorem rise_eq {F G : List Nat} (h1 : F.Pairwise (· < ·)) (h2 : G.Pairwise (· < ·)) (h : ∀ k, k ∈ F ↔ k ∈ G) : F = G := by
  have e : castL F = castL G := strict_eq (cast_pair.mpr h1) (cast_pair.mpr h2) fun z => by
    constructor
    · intro hz
      obtain ⟨k, hk, rfl⟩ := List.mem_map.mp hz
      exact mem_cast.mpr ((h k).mp hk)
    · intro hz
      obtain ⟨k, hk, rfl⟩ := List.mem_map.mp hz
      exact mem_cast.mpr ((h k).mpr hk)
  have e2 := congrArg (List.map Int.toNat) e
  unfold castL at e2
  rw [List.map_map, List.map_map] at e2
  have e3 : (Int.toNat ∘ fun k : Nat => (k : Int)) = id := rfl
  rw [e3, List.map_id, List.map_id] at e2
  exact e2
theorem srt_rise {G : List Nat} (h : G.Nodup) : (srt G).Pairwise (· < ·) := by
  have h1 := sortN_perm (castL G)
  have h2 := sortN_rises (castL G)
  rw [← cast_pair, srt_cast]
  have hn : (castL G).Nodup := by
    unfold castL
    rw [List.Nodup, List.pairwise_map]
    exact h.imp fun {a c} hh e => hh (by omega)
  have h3 := h1.nodup_iff.mpr hn
  exact (h2.and h3).imp fun {a c} hh => by
    have := hh.1
    have := hh.2
    omega
theorem srt_eq {G : List Nat} (h : G.Nodup) : srt G = sortNat G := rise_eq (srt_rise h) (sortNat_rise G) fun k => mem_srt.trans mem_sortNat.symm
theorem sortNat_congr {F G : List Nat} (h : ∀ k, k ∈ F ↔ k ∈ G) : sortNat F = sortNat G := rise_eq (sortNat_rise F) (sortNat_rise G) fun k => mem_sortNat.trans ((h k).trans mem_sortNat.symm)
theorem met_sort {n : Nat} {G : List Nat} (h : ∀ k ∈ G, k < n) : Met n (sortNat G) := ⟨rise_nodup (sortNat_rise G), fun k hk => h k (mem_sortNat.mp hk)⟩
theorem toIs_cast (F : List Nat) : toIs (intsD F) = some (castL F) := toIs_intsD F
theorem castD (F : List Nat) : (castL F).map .int = intsD F := (intsD_eq F).symm
theorem oSort_ok {n : Nat} {G : List Nat} (h : ∀ k ∈ G, k < n) (hn : n < 64) (hl : G.length < 4000) : oSortSet (.list (intsD G)) = some (.fresh (intsD (sortNat G))) := by
  have ht := toIs_cast G
  have h1 : (castL G).length < 4000 := by unfold castL; rw [List.length_map]; exact hl
  have h2 : (sortD (castL G)).length < 64 := by
    have e := congrArg List.length (sortNat_cast G)
    unfold castL at e
    rw [List.length_map] at e
    have := met_len (met_sort h)
    unfold castL
    omega
  unfold oSortSet
  simp only [ht]
  rw [if_pos ⟨h1, h2⟩, ← sortNat_cast, castD]
theorem bSorted_ok (G : List Nat) : bSorted [.list (intsD G)] = some (.fresh (intsD (srt G))) := by
  have ht := toIs_cast G
  show (toIs (intsD G)).map (fun ns => Ev.fresh ((sortN ns).map .int)) = _
  rw [ht]
  show some (Ev.fresh ((sortN (castL G)).map .int)) = _
  rw [← srt_cast, castD]
def succsL (b : Bk) (F : List Nat) : List Nat := (F.map fun s => (stOf b s).map (·.2)).flatten
def rnds (b : Bk) : Nat → List Nat → List Nat → List Nat × List Nat
  | 0, F, A => (F, A)
  | k + 1, F, A => rnds b k (F ++ A.filter fun s => !decide (s ∈ F)) (sortNat (succsL b A))
theorem mem_succs {b : Bk} {F : List Nat} {t : Nat} : t ∈ succsL b F ↔ ∃ s ∈ F, ∃ m ∈ stOf b s, m.2 = t := by
  unfold succsL
  simp only [List.mem_flatten, List.mem_map]
  constructor
  · rintro ⟨l, ⟨s, hs, rfl⟩, ht⟩
    obtain ⟨m, hm, rfl⟩ := List.mem_map.mp ht
    exact ⟨s, hs, m, hm, rfl⟩
  · rintro ⟨s, hs, m, hm, rfl⟩
    exact ⟨_, ⟨s, hs, rfl⟩, List.mem_map.mpr ⟨m, hm, rfl⟩⟩
theorem to_lt {b : Bk} (h : OkBk b) (k : Nat) : ∀ m ∈ stOf b k, m.2 < b.length := fun m hm => by
  unfold stOf at hm
  by_cases e : k < b.length
  · rw [List.getD_eq_getElem?_getD, List.getElem?_eq_getElem e] at hm
    exact (h.sts _ (List.getElem_mem e)).to m hm
  · rw [List.getD_eq_getElem?_getD, List.getElem?_eq_none (by omega)] at hm
    exact nomatch hm
theorem succs_lt {b : Bk} (h : OkBk b) (F : List Nat) : ∀ t ∈ succsL b F, t < b.length := fun t ht => by
  obtain ⟨s, _, m, hm, rfl⟩ := mem_succs.mp ht
  exact to_lt h s m hm
theorem succs_len {b : Bk} (h : OkBk b) : ∀ F : List Nat, (succsL b F).length ≤ 5 * F.length
  | [] => Nat.le_refl 0
  | s :: F => by
    have ih := succs_len h F
    have h5 := st_len h s
    show ((stOf b s).map (·.2) ++ succsL b F).length ≤ 5 * (F.length + 1)
    rw [List.length_append, List.length_map]
    omega
theorem rnd_met {n : Nat} {F A : List Nat} (hF : Met n F) (hA : Met n A) : Met n (F ++ A.filter fun s => !decide (s ∈ F)) := by
  refine ⟨List.nodup_append.mpr ⟨hF.nd, hA.nd.filter _, fun x hx y hy e => ?_⟩, fun x hx => ?_⟩
  · subst e
    have := (List.mem_filter.mp hy).2
    simp [hx] at this
  · rcases List.mem_append.mp hx with hx | hx
    · exact hF.lt x hx
    · exact hA.lt x (List.mem_filter.mp hx).1
end K02
end
section
set_option Elab.async false
set_option linter.all false
set_option autoImplicit false
set_option maxRecDepth 100000
set_option maxHeartbeats 4000000
namespace K02
open PySem PySem.Spec PyProof.Rows N4
theorem eBu2 {f : List D → Option Ev} {A B : M Ev} {s s1 s2 : N4.St} {x y r : Ev} {d e : PyData} (ha : A s = .ok x s1) (hb : B s1 = .ok y s2) (lx : look s2 (N4.settle x) = some d) (ly : look s2 (N4.settle y) = some e) (hf : f [d, e] = some r) : eBu f [A, B] s = .ok r s2 := by
  have e0 : evs [] s2 = .ok [] s2 := rfl
  have e1 : evs [B] s1 = .ok [N4.settle y] s2 := by
    show mBind B (fun x => mBind (evs []) fun xs => mRet (N4.settle x :: xs)) s1 = _
    rw [mBind_ok hb, mBind_ok e0]
    rfl
  have e2 : evs [A, B] s = .ok [N4.settle x, N4.settle y] s2 := by
    show mBind A (fun x => mBind (evs [B]) fun xs => mRet (N4.settle x :: xs)) s = _
    rw [mBind_ok ha, mBind_ok e1]
    rfl
  unfold eBu
  rw [mBind_ok e2]
  simp only [looks, lx, ly, hf]
theorem met_one {n t : Nat} (h : t < n) : Met n [t] := ⟨by simp, fun x hx => by rw [List.mem_singleton.mp hx]; exact h⟩
theorem met_nil {n : Nat} : Met n [] := ⟨by simp, fun x hx => nomatch hx⟩
def ldR (b : Bk) (k t : Nat) : List Nat := srt (rnds b k [] [t]).1
end K02
end
section
set_option Elab.async false
set_option linter.all false
set_option autoImplicit false
set_option maxRecDepth 100000
set_option maxHeartbeats 4000000
namespace K02
open PySem PySem.Spec PyProof.Rows N4
def stp (b : Bk) (x : List Nat × List Nat) : List Nat × List Nat := (x.1 ++ x.2.filter fun s => !decide (s ∈ x.1), sortNat (succsL b x.2))
def rd (b : Bk) (t : Nat) : Nat → List Nat × List Nat
  | 0 => ([], [t])
  | k + 1 => stp b (rd b t k)
theorem rnds_stp (b : Bk) : ∀ (k : Nat) (F A : List Nat), rnds b (k + 1) F A = stp b (rnds b k F A)
  | 0, F, A => rfl
  | k + 1, F, A => rnds_stp b k _ _
theorem rnds_rd (b : Bk) (t : Nat) : ∀ k, rnds b k [] [t] = rd b t k
  | 0 => rfl
  | k + 1 => by rw [rnds_stp, rnds_rd b t k]; rfl
theorem mem_stp {b : Bk} {x : List Nat × List Nat} {s : Nat} : s ∈ (stp b x).1 ↔ s ∈ x.1 ∨ s ∈ x.2 := by
  unfold stp
  rw [List.mem_append, List.mem_filter]
  by_cases h : s ∈ x.1 <;> simp [h]
theorem rd_met {b : Bk} (h : OkBk b) {t : Nat} (ht : t < b.length) : ∀ k, Met b.length (rd b t k).1 ∧ Met b.length (rd b t k).2
  | 0 => ⟨met_nil, met_one ht⟩
  | k + 1 => ⟨rnd_met (rd_met h ht k).1 (rd_met h ht k).2, met_sort (succs_lt h _)⟩
theorem rd_closed (b : Bk) (t : Nat) : ∀ k, ∀ s ∈ (rd b t k).1, ∀ m ∈ stOf b s, m.2 ∈ (rd b t (k + 1)).1
  | 0, s, hs, m, hm => nomatch hs
  | k + 1, s, hs, m, hm => by
    rcases mem_stp.mp hs with hs | hs
    · exact mem_stp.mpr (.inl (rd_closed b t k s hs m hm))
    · exact mem_stp.mpr (.inr (mem_sortNat.mpr (mem_succs.mpr ⟨s, hs, m, hm, rfl⟩)))
def Still (x : List Nat × List Nat) : Prop := ∀ s ∈ x.2, s ∈ x.1
theorem still_fst {b : Bk} {x : List Nat × List Nat} (h : Still x) : (stp b x).1 = x.1 := by
  have : (x.2.filter fun s => !decide (s ∈ x.1)) = [] := List.filter_eq_nil_iff.mpr fun s hs => by simp [h s hs]
  unfold stp
  rw [this, List.append_nil]
theorem still_next {b : Bk} {t k : Nat} (h : Still (rd b t k)) : Still (rd b t (k + 1)) := fun s hs => by
  obtain ⟨r, hr, m, hm, rfl⟩ := mem_succs.mp (mem_sortNat.mp hs)
  exact rd_closed b t k r (h r hr) m hm
theorem still_or {b : Bk} {t : Nat} : ∀ k, Still (rd b t k) ∨ k + 1 ≤ (rd b t (k + 1)).1.length
  | 0 => .inr (by simp [rd, stp])
  | k + 1 => by
    rcases still_or (b := b) (t := t) k with h | h
    · exact .inl (still_next h)
    · by_cases e : Still (rd b t (k + 1))
      · exact .inl e
      · refine .inr ?_
        have : ∃ s ∈ (rd b t (k + 1)).2, s ∉ (rd b t (k + 1)).1 := by
          refine Classical.byContradiction fun hn => e fun s hs => Classical.byContradiction fun hh => hn ⟨s, hs, hh⟩
        obtain ⟨s, hs, hn⟩ := this
        have hp : 0 < ((rd b t (k + 1)).2.filter fun s => !decide (s ∈ (rd b t (k + 1)).1)).length := List.length_pos_of_mem (List.mem_filter.mpr ⟨hs, by simp [hn]⟩)
        show k + 1 + 1 ≤ (stp b (rd b t (k + 1))).1.length
        unfold stp
        rw [List.length_append]
        omega
theorem still_n {b : Bk} (h : OkBk b) {t : Nat} (ht : t < b.length) : Still (rd b t b.length) := by
  rcases still_or (b := b) (t := t) b.length with e | e
  · exact e
  · have := met_len (rd_met h ht (b.length + 1)).1
    omega
theorem rd_more {b : Bk} {t n : Nat} (h : Still (rd b t n)) : ∀ j, Still (rd b t (n + j)) ∧ (rd b t (n + j)).1 = (rd b t n).1
  | 0 => ⟨h, rfl⟩
  | j + 1 => by
    obtain ⟨a, c⟩ := rd_more h j
    exact ⟨still_next a, (still_fst a).trans c⟩
theorem ldR_rd (b : Bk) (k t : Nat) : ldR b k t = sortNat (rd b t k).1 ∨ True := .inr trivial
theorem ldR_eq {b : Bk} (h : OkBk b) {t : Nat} (ht : t < b.length) (k : Nat) : ldR b k t = sortNat (rd b t k).1 := by
  unfold ldR
  rw [rnds_rd, srt_eq (rd_met h ht k).1.nd]
theorem ldR_stab {b : Bk} (h : OkBk b) {t : Nat} (ht : t < b.length) {k : Nat} (hk : b.length ≤ k) : ldR b k t = ldR b b.length t := by
  rw [ldR_eq h ht, ldR_eq h ht]
  obtain ⟨j, rfl⟩ : ∃ j, k = b.length + j := ⟨k - b.length, by omega⟩
  rw [(rd_more (still_n h ht) j).2]
theorem ldR_min {b : Bk} (h : OkBk b) {t : Nat} (ht : t < b.length) (k : Nat) : ldR b (min k b.length) t = ldR b k t := by
  rcases Nat.le_total k b.length with e | e
  · rw [Nat.min_eq_left e]
  · rw [Nat.min_eq_right e, ldR_stab h ht e]
theorem ldR_lt {b : Bk} (h : OkBk b) {t : Nat} (ht : t < b.length) (k : Nat) : Met b.length (ldR b k t) := by
  rw [ldR_eq h ht]
  exact met_sort (rd_met h ht k).1.lt
def frkL (b : Bk) : List Nat := (List.range b.length).filter fun k => decide (1 < (stOf b k).length)
theorem nums_range : ∀ (ss : Bk) (i : Nat), nums i (ss.map stD) = (List.range ss.length).map fun k => .tuple [.int (i + k : Nat), stD (stOf ss k)]
  | [], i => rfl
  | s :: ss, i => by
    rw [List.map_cons, List.length_cons, List.range_succ_eq_map, List.map_cons, List.map_map]
    show PyData.tuple [.int (i : Nat), stD s] :: nums (i + 1) (ss.map stD) = _
    rw [nums_range ss (i + 1)]
    congr 1
    refine List.map_congr_left fun k _ => ?_
    have e1 : i + 1 + k = i + (k + 1) := by omega
    have e2 : stOf (s :: ss) (k + 1) = stOf ss k := by simp [stOf]
    show PyData.tuple [.int (i + 1 + k : Nat), stD (stOf ss k)] = PyData.tuple [.int (i + (k + 1) : Nat), stD (stOf (s :: ss) (k + 1))]
    rw [e1, e2]
theorem frk_lc {b : Bk} (h : OkBk b) (p : Option Pl) : eLC [1, 2] (iEnum (eV 0)) (gT [gN 1, gN 2]) (tV (eOp oGt (eBu bLen [eV 2]) (eC (.int 1)))) (eV 1) ⟨[some (.val (bkD b)), none, none], p⟩ = .ok (.fresh (intsD (frkL b))) ⟨[some (.val (bkD b)), none, none], p⟩ := by
  have h8 := h.most
  have e2 : iEnum (eV 0) ⟨[some (.val (bkD b)), none, none], p⟩ = .ok ((List.range b.length).map fun k => .tuple [.int (0 + k : Nat), stD (stOf b k)]) ⟨[some (.val (bkD b)), none, none], p⟩ := by
    rw [← nums_range b 0]
    rfl
  have el := eLC_all (own := [1, 2]) (g := gT [gN 1, gN 2]) (c := tV (eOp oGt (eBu bLen [eV 2]) (eC (.int 1)))) (e := eV 1) (v := fun k : Nat => .int (0 + k : Nat)) (q := fun k => decide (1 < (stOf b k).length)) (I := fun t => ∃ x y, t = ⟨[some (.val (bkD b)), x, y], p⟩)
    (s1 := ⟨[some (.val (bkD b)), none, none], p⟩) e2 ⟨_, _, rfl⟩ (by rw [List.length_range]; unfold lineN; omega) (fun k _ t ⟨x, y, et⟩ => by
      subst et
      have el : eBu bLen [eV 2] ⟨[some (.val (bkD b)), some (.val (.int (0 + k : Nat))), some (.val (stD (stOf b k)))], p⟩ = .ok (.val (.int (stOf b k).length)) ⟨[some (.val (bkD b)), some (.val (.int (0 + k : Nat))), some (.val (stD (stOf b k)))], p⟩ := eBu1 (e := .val (stD (stOf b k))) (d := stD (stOf b k)) rfl rfl (by
        unfold stD
        simp [bLen])
      have eg : oGt (.int (stOf b k).length) (.int 1) = some (.val (.bool (decide (1 < (stOf b k).length)))) := by
        have : decide ((1 : Int) < ((stOf b k).length : Int)) = decide (1 < (stOf b k).length) := by
          by_cases c : 1 < (stOf b k).length
          · rw [decide_eq_true c, decide_eq_true (by omega)]
          · rw [decide_eq_false c, decide_eq_false (by omega)]
        show some (Ev.val (PyData.bool (decide ((1 : Int) < ((stOf b k).length : Int))))) = _
        rw [this]
      exact ⟨⟨[some (.val (bkD b)), some (.val (.int (0 + k : Nat))), some (.val (stD (stOf b k)))], p⟩, _, rfl, tV_ok (op_ok (y := .val (.int 1)) el rfl rfl rfl eg), fun _ => ⟨_, _, rfl⟩, fun _ => ⟨_, rfl, _, _, rfl⟩⟩) (fun t ⟨x, y, et⟩ => by subst et; rfl)
  rw [el]
  unfold frkL intsD
  congr 2
  exact List.map_congr_left fun k _ => by rw [Nat.zero_add]
theorem small_all : ((List.range 101).all fun k => decide ((PyData.int (k : Nat)).shown.length ≤ 21) && (PyData.int (k : Nat)).showable && PyData.strOk (PyData.int (k : Nat)).shown) = true := by decide +kernel
theorem nc_small {k : Nat} (hk : k ≤ 100) : Nc 21 0 (.int k) := by
  have h := List.all_eq_true.mp small_all k (List.mem_range.mpr (by omega))
  simp only [Bool.and_eq_true, decide_eq_true_eq] at h
  exact ⟨h.1.1, h.1.2, rfl, Nat.le_refl 0, h.2⟩
theorem nc_nats {G : List Nat} (h : ∀ k ∈ G, k ≤ 100) (hl : G.length ≤ 10) : Nc 1000 2 (.tuple (intsD G)) := by
  have := nc_tuple (L := 21) (k := 0) (xs := intsD G) fun d hd => by
    obtain ⟨k, hk, rfl⟩ := List.mem_map.mp hd
    exact nc_small (h k hk)
  rw [len_intsD] at this
  exact this.mono (by omega) (by omega)
theorem ne_same {A B : M Ev} {s s1 s2 : N4.St} {x : PyData} {L k : Nat} (hA : A s = .ok (.val x) s1) (hB : B s1 = .ok (.val x) s2) (hx : Nc L k x) (hL : L ≤ lineN) (hk : k ≤ 64) : tV (eOp oNe (eBu bRepr [A]) (eBu bRepr [B])) s = .ok false s2 := by
  have r := nc_repr hx hL hk
  have a1 := eBu1 (f := bRepr) hA rfl r
  have a2 := eBu1 (f := bRepr) hB rfl r
  have ho := oNe_str hx.ok hx.ok
  have e : (!decide (x.shown = x.shown)) = false := by simp
  rw [e] at ho
  exact tV_ok (op_ok a1 a2 rfl rfl ho)
end K02
end
section
set_option Elab.async false
set_option linter.all false
set_option autoImplicit false
set_option maxRecDepth 100000
set_option maxHeartbeats 4000000
namespace K02
open PySem PySem.Spec PyProof.Rows N4
theorem oAdd_l {xs ys : List PyData} (h : xs.length + ys.length ≤ lineN) : oAdd (.list xs) (.list ys) = some (.fresh (xs ++ ys)) := if_pos h
theorem oAdd_t {xs ys : List PyData} (h : xs.length + ys.length ≤ lineN) : oAdd (.tuple xs) (.tuple ys) = some (.val (.tuple (xs ++ ys))) := if_pos h
theorem pick_one : ∀ (ms : List (Nat × Nat)), (ms.map (·.1)).Pairwise (· < ·) → ∀ m ∈ ms, ms.filter (fun x => decide (x.1 = m.1)) = [m]
  | [], _, m, hm => nomatch hm
  | x :: ms, hp, m, hm => by
    have hp : (∀ a ∈ ms.map (·.1), x.1 < a) ∧ (ms.map (·.1)).Pairwise (· < ·) := by simpa only [List.map_cons, List.pairwise_cons] using hp
    rcases List.mem_cons.mp hm with rfl | hm
    · rw [List.filter_cons_of_pos (by simp)]
      congr 1
      exact List.filter_eq_nil_iff.mpr fun y hy => by
        have := hp.1 y.1 (List.mem_map_of_mem hy)
        simp
        omega
    · have := hp.1 m.1 (List.mem_map_of_mem hm)
      rw [List.filter_cons_of_neg (by simp; omega)]
      exact pick_one ms hp.2 m hm
theorem st_rise {b : Bk} (h : OkBk b) (k : Nat) : ((stOf b k).map (·.1)).Pairwise (· < ·) := by
  unfold stOf
  by_cases e : k < b.length
  · rw [List.getD_eq_getElem?_getD, List.getElem?_eq_getElem e]
    exact (h.sts _ (List.getElem_mem e)).rise
  · rw [List.getD_eq_getElem?_getD, List.getElem?_eq_none (by omega)]
    exact .nil
theorem sE_err {α : Type} {m : M α} {k : α → SM} {s s1 : N4.St} {c : String} {x : PyData} (h : m s = .err c x s1) : sE m k s = .err c x s1 := by
  unfold sE
  rw [h]
theorem sSeq_err {a b : SM} {s s1 : N4.St} {c : String} {x : PyData} (h : a s = .err c x s1) : sSeq a b s = .err c x s1 := by
  unfold sSeq
  rw [h]
theorem expr_ok {A : M Ev} {s s1 : N4.St} {x : Ev} (h : A s = .ok x s1) : sExpr A s = .nx s1 := by
  unfold sExpr
  rw [sE_ok h]
theorem expr_err {A : M Ev} {s s1 : N4.St} {c : String} {x : PyData} (h : A s = .err c x s1) : sExpr A s = .err c x s1 := sE_err h
theorem raise_ok {A : M Ev} {s s1 : N4.St} {c : String} {x : PyData} (h : A s = .ok (.val x) s1) : sRaise c A s = .err c x s1 := by
  unfold sRaise
  rw [sE_ok h, sE_ok (m := freeze (.val x)) rfl]
theorem mBind_err {α β : Type} {m : M α} {k : α → M β} {s s1 : N4.St} {c : String} {x : PyData} (h : m s = .err c x s1) : mBind m k s = .err c x s1 := by
  unfold mBind
  rw [h]
theorem args3 {A B C : M Ev} {s : N4.St} {d e f : PyData} (hA : A s = .ok (.val d) s) (hB : B s = .ok (.val e) s) (hC : C s = .ok (.val f) s) : args [A, B, C] s = .ok [.val d, .val e, .val f] s := by
  have e1 : argOf (.val d) s = .ok (.val d) s := rfl
  exact args_cons hA e1 (args2 hB hC)
theorem args4 {A B C E : M Ev} {s : N4.St} {d e f g : PyData} (hA : A s = .ok (.val d) s) (hB : B s = .ok (.val e) s) (hC : C s = .ok (.val f) s) (hE : E s = .ok (.val g) s) : args [A, B, C, E] s = .ok [.val d, .val e, .val f, .val g] s := by
  have e1 : argOf (.val d) s = .ok (.val d) s := rfl
  exact args_cons hA e1 (args3 hB hC hE)
theorem args1 {A : M Ev} {s : N4.St} {d : PyData} (hA : A s = .ok (.val d) s) : args [A] s = .ok [.val d] s := by
  have e1 : argOf (.val d) s = .ok (.val d) s := rfl
  have hn : args [] s = .ok [] s := rfl
  exact args_cons hA e1 hn
theorem len_e {b : Bk} {i : Nat} {s : N4.St} (h : s.sl[i]? = some (some (.val (bkD b)))) : eBu bLen [eV i] s = .ok (.val (.int b.length)) s := eBu1 (e := .val (bkD b)) (d := bkD b) (eV_ok h) rfl (by
  unfold bkD
  simp [bLen])
theorem tOr_yes {A B : M Bool} {s s1 : N4.St} (h : A s = .ok true s1) : N4.tOr A B s = .ok true s1 := by
  unfold N4.tOr
  rw [mBind_ok h]
  rfl
theorem tOr_nx {A B : M Bool} {s s1 : N4.St} (h : A s = .ok false s1) : N4.tOr A B s = B s1 := by
  unfold N4.tOr
  rw [mBind_ok h]
  rfl
theorem tAnd_no {A B : M Bool} {s s1 : N4.St} (h : A s = .ok false s1) : N4.tAnd A B s = .ok false s1 := by
  unfold N4.tAnd
  rw [mBind_ok h]
  rfl
theorem tAnd_nx {A B : M Bool} {s s1 : N4.St} (h : A s = .ok true s1) : N4.tAnd A B s = B s1 := by
  unfold N4.tAnd
  rw [mBind_ok h]
  rfl
def manyB : PyData → Bool
  | .int z => decide (0 ≤ z)
  | _ => false
theorem btw_nat {b : Bk} {k : Nat} (hk : k < b.length) : btwB (.int k) 0 ((b.length : Int) - 1) = true := by
  simp [btwB]
  omega
theorem frzs_nil (s : N4.St) : frzs [] s = .ok [] s := rfl
theorem frzs_v {a : M Ev} {as : List (M Ev)} {s s1 s2 : N4.St} {d : PyData} {ds : List PyData} (h : a s = .ok (.val d) s1) (h2 : frzs as s1 = .ok ds s2) : frzs (a :: as) s = .ok (d :: ds) s2 := by
  have e : freeze (.val d) s1 = .ok d s1 := rfl
  exact frzs_cons h e h2
theorem min_z {n : Nat} (z : Nat) : (if (n : Int) < (z : Int) then (n : Int) else (z : Int)) = ((min z n : Nat) : Int) := by
  split <;> omega
end K02
end
section
set_option Elab.async false
set_option linter.all false
set_option autoImplicit false
set_option maxRecDepth 100000
set_option maxHeartbeats 4000000
namespace K02
open PySem PySem.Spec PyProof.Rows N4
theorem nc_m1 : Nc 100 5 (.int (-1)) := ⟨by decide +kernel, by decide +kernel, by decide +kernel, by decide +kernel, by decide +kernel⟩
theorem nc_k {k : Nat} (h : k ≤ 100) : Nc 100 5 (.int k) := (nc_small h).mono (by omega) (by omega)
theorem put_ok {i j : Nat} {A E : M Ev} {s s1 s2 : N4.St} {d : PyData} {z : Int} {xs xs2 : List PyData} (hE : E s = .ok (.val d) s1) (h1 : s1.sl[i]? = some (some (.own xs))) (hA : A s1 = .ok (.val (.int z)) s2) (h2 : s2.sl[i]? = some (some (.own xs2))) (hj : N4.ixN xs2.length z = some j) : sPut i A E s = .nx (setSl s2 i (some (.own (xs2.set j d)))) := by
  unfold sPut
  rw [sE_ok hE, sE_ok (m := freeze (.val d)) rfl]
  unfold onOwn
  simp only [h1]
  rw [sE_ok hA]
  simp only [h2, hj]
theorem app_ok {i : Nat} {E : M Ev} {s s1 : N4.St} {d : PyData} {xs xs0 : List PyData} (h0 : s.sl[i]? = some (some (.own xs0))) (hE : E s = .ok (.val d) s1) (h1 : s1.sl[i]? = some (some (.own xs))) (hl : xs.length < 1000) : sApp i E s = .nx (setSl s1 i (some (.own (xs ++ [d])))) := by
  unfold sApp onOwn
  simp only [h0]
  rw [sE_ok hE, sE_ok (m := freeze (.val d)) rfl]
  simp only [h1]
  exact if_pos (by unfold lineN; omega)
theorem ixN_m1 {n : Nat} (h : 1 ≤ n) : N4.ixN n (-1) = some (n - 1) := by
  unfold N4.ixN
  rw [if_neg (by decide), if_pos (by omega)]
  congr 1
  omega
theorem tup_v {as : List (M Ev)} {s s1 : N4.St} {ds : List PyData} (h : frzs as s = .ok ds s1) (hl : ds.length ≤ 1000) : eTup as s = .ok (.val (.tuple ds)) s1 := eTup_ok h hl
theorem c_e (d : PyData) (s : N4.St) : eC d s = .ok (.val d) s := rfl
theorem neg1_e (s : N4.St) : eUn oNeg (eC (.int 1)) s = .ok (.val (.int (-1))) s := rfl
theorem p2_e {A B : M Ev} {s : N4.St} {d e : PyData} (hA : A s = .ok (.val d) s) (hB : B s = .ok (.val e) s) : eTup [A, B] s = .ok (.val (.tuple [d, e])) s := eTup_ok (frzs2 hA hB) (by simp)
theorem rep_eq (n : Nat) (d : PyData) : repN n [d] = List.replicate n d := by
  unfold repN
  induction n with
  | zero => rfl
  | succ n ih =>
    rw [List.replicate_succ, List.flatten_cons, ih, List.replicate_succ]
    rfl
theorem times_ok (n : Nat) (d : PyData) (h2 : 2 ≤ n) (hn : n ≤ 1000000) : oTimes (.tuple [d]) (.int n) = some (.val (.tuple (List.replicate n d))) := by
  have c : (2 : Int) ≤ (n : Int) ∧ (n : Int) < boundN ∧ 0 < [d].length ∧ [d].length * (n : Int).toNat ≤ lineN := by
    refine ⟨by omega, by unfold boundN; omega, by simp, ?_⟩
    rw [Int.toNat_natCast, List.length_singleton]
    unfold lineN
    omega
  rw [← rep_eq]
  exact if_pos c
theorem setOwn {i : Nat} {A : M Ev} {s s1 : N4.St} {xs : List PyData} (h : A s = .ok (.fresh xs) s1) (hi : i < s1.sl.length) : sSet i A s = .nx (setSl s1 i (some (.own xs))) := by
  unfold sSet
  rw [sE_ok h]
  exact if_pos hi
theorem pOf_ok {A : M Ev} {s s1 : N4.St} {k : Int} (h : A s = .ok (.val (.int k)) s1) : pOf (some A) s = .ok (some k) s1 := by
  show mBind A _ s = _
  rw [mBind_ok h]
  rfl
theorem loop_cons {g : Tg} {b : SM} {d : PyData} {ds : List PyData} {s s1 s2 : N4.St} (h : g d s = some s1) (h2 : b s1 = .nx s2) : loop g b (d :: ds) s = loop g b ds s2 := by
  rw [loop, h]
  simp only [h2]
theorem eAnd_no {A B : M Ev} {s s1 : N4.St} (h : A s = .ok (.val (.bool false)) s1) : eAnd A B s = .ok (.val (.bool false)) s1 := by
  unfold eAnd
  rw [mBind_ok h]
  rfl
theorem eAnd_yes {A B : M Ev} {s s1 : N4.St} (h : A s = .ok (.val (.bool true)) s1) : eAnd A B s = B s1 := by
  unfold eAnd
  rw [mBind_ok h]
  rfl
def winB : PyData → Bool
  | .int z => decide (1 ≤ z)
  | _ => false
end K02
end
section
set_option Elab.async false
set_option linter.all false
set_option autoImplicit false
set_option maxRecDepth 100000
set_option maxHeartbeats 4000000
namespace K02
open PySem PySem.Spec PyProof.Rows N4
theorem handle_no {h : ClS} {r : List ClS} {cl : String} {x : PyData} {s : N4.St} (e : h.hit cl = some false) : handle (h :: r) cl x s = handle r cl x s := by
  unfold handle
  rw [e]
  cases r <;> rfl
theorem handle_yes {h : ClS} {r : List ClS} {cl : String} {x : PyData} {s : N4.St} {i : Nat} (e : h.hit cl = some true) (e2 : h.slot = some i) (hi : i < s.sl.length) : handle (h :: r) cl x s = quitO i (h.su cl (enterS i x s)) := by
  unfold handle
  rw [e]
  simp only [e2, if_pos hi]
theorem oAdd_s {x y : PySem.Str} (h : x.length + y.length ≤ lineN) : oAdd (.str x) (.str y) = some (.val (.str (x ++ y))) := if_pos h
theorem cl_ret {pre : PySem.Str} {x : PyData} (p : Option Pl) (h : bRepr [x] = some (.val (.str x.shown))) (hl : pre.length + x.shown.length ≤ lineN) :
    quitO 1 (sRet (eOp oAdd (eC (.str pre)) (eBu bRepr [eWhat 1])) (enterS 1 x ⟨[none, none], p⟩)) = .ret (.val (.str (pre ++ x.shown))) ⟨[none, none], p⟩ := by
  have e1 : eWhat 1 (enterS 1 x ⟨[none, none], p⟩) = .ok (.val x) (enterS 1 x ⟨[none, none], p⟩) := rfl
  have e2 := eBu1 (f := bRepr) e1 rfl h
  have e3 := op_ok (f := oAdd) (A := eC (.str pre)) (x := .val (.str pre)) rfl e2 rfl rfl (oAdd_s hl)
  unfold sRet
  rw [sE_ok e3]
  rfl
def errL : List (String × PySem.Str) := [("BadBook", "BadBook "), ("Stray", "Stray ")]
theorem err_len : ∀ c ∈ errL, c.2.length ≤ 20 ∧ PyData.strOk c.2 = true := by
  intro c hc
  unfold errL at hc
  simp only [List.mem_cons, List.not_mem_nil, or_false] at hc
  rcases hc with rfl | rfl <;> exact ⟨by decide +kernel, by decide +kernel⟩
theorem ne_str {A B : M Ev} {s s1 s2 : N4.St} {t : PySem.Str} (hA : A s = .ok (.val (.str t)) s1) (hB : B s1 = .ok (.val (.str t)) s2) (ht : PyData.strOk t = true) : tV (eOp oNe A B) s = .ok false s2 := by
  have ho := oNe_str ht ht
  have e : (!decide (t = t)) = false := by simp
  rw [e] at ho
  exact tV_ok (op_ok hA hB rfl rfl ho)
theorem pre_ok {cl : String} {pre : PySem.Str} {x : PyData} {L k : Nat} (hc : (cl, pre) ∈ errL) (hx : Nc L k x) : PyData.strOk (pre ++ x.shown) = true := strOk_app (err_len _ hc).2 hx.ok
theorem pre_e {cl : String} {pre : PySem.Str} {A : M Ev} {s s1 : N4.St} {x : PyData} {L k : Nat} (hc : (cl, pre) ∈ errL) (hA : A s = .ok (.val x) s1) (hx : Nc L k x) (hL : L ≤ 1000) (hk : k ≤ 64) : eOp oAdd (eC (.str pre)) (eBu bRepr [A]) s = .ok (.val (.str (pre ++ x.shown))) s1 := by
  have e2 := eBu1 (f := bRepr) hA rfl (nc_repr hx (by unfold lineN; omega) hk)
  exact op_ok (x := .val (.str pre)) rfl e2 rfl rfl (oAdd_s (by
    have h1 : pre.length ≤ 20 := (err_len _ hc).1
    have := hx.len
    unfold lineN
    omega))
end K02
end
section
set_option Elab.async false
set_option linter.all false
set_option autoImplicit false
set_option maxRecDepth 100000
set_option maxHeartbeats 4000000
namespace K02
open PySem PySem.Spec PyProof.Rows N4
theorem made_eM (t : PyData) (p : Option Pl) : sem_made_book [.val t] p = endOf (b_made_book ⟨[some (.val t), none], p⟩) := by
  unfold sem_made_book mkFn
  exact if_pos rfl
theorem form_err {t w : PyData} (hd : t.hasDict = false) (h : wfR t = w) (hw : isNone w = false) (p : Option Pl) : sem_made_book [.val t] p = .err "BadBook" w p := by
  have hf := wrong_form_ok t hd p
  rw [h] at hf
  have eM : sem_check_forms [.val t] p = endOf (b_check_forms ⟨[some (.val t), none], p⟩) := by
    unfold sem_check_forms mkFn
    exact if_pos rfl
  have ea := args1 (eV_ok (i := 0) (d := t) (s := ⟨[some (.val t), none], p⟩) rfl)
  have e1 := set_val (i := 1) (call_ok ea hf) (by simp)
  have et : tV (eOp oIsNotB (eV 1) (eC .none)) ⟨[some (.val t), some (.val w)], p⟩ = .ok true ⟨[some (.val t), some (.val w)], p⟩ := by
    have ho := oIsNotB_none w
    rw [hw] at ho
    exact tV_ok (op_ok (y := .val .none) (eV_ok (i := 1) (d := w) rfl) rfl rfl rfl ho)
  have hc : sem_check_forms [.val t] p = .err "BadBook" w p := by
    rw [eM]
    unfold b_check_forms
    exact (congrArg endOf ((sSeq_nx e1).trans ((if_true et).trans (raise_ok (eV_ok (i := 1) (d := w) rfl))))).trans rfl
  rw [made_eM]
  unfold b_made_book
  exact (congrArg endOf (sSeq_err (expr_err (call_err ea hc)))).trans rfl
theorem fbGo_first {n : Int} : ∀ (ys : List PyData) (i j : Nat), (∀ q d, q < j → ys[q]? = some d → sfB d n = true) → (∃ d, ys[j]? = some d ∧ sfB d n = false) → fbGo n i ys = some (i + j)
  | [], i, j, _, ⟨d, e, _⟩ => by simp at e
  | y :: ys, i, 0, _, ⟨d, e, hd⟩ => by
    have e : y = d := Option.some.inj e
    subst e
    unfold fbGo
    rw [hd]
    rfl
  | y :: ys, i, j + 1, h, ⟨d, e, hd⟩ => by
    have hy := h 0 y (by omega) rfl
    unfold fbGo
    rw [hy, if_pos rfl, fbGo_first ys (i + 1) j (fun q d hq e => h (q + 1) d (by omega) e) ⟨d, e, hd⟩]
    congr 1
    omega
theorem wfR_first {ys : List PyData} {j : Nat} (h8 : ys.length ≤ 8) (h : ∀ q d, q < j → ys[q]? = some d → sfB d ys.length = true) (hj : ∃ d, ys[j]? = some d ∧ sfB d ys.length = false) : wfR (.tuple ys) = .int j := by
  have h1 : 1 ≤ ys.length := by
    obtain ⟨d, e, _⟩ := hj
    cases ys with
    | nil => simp at e
    | cons a b => simp
  have e := fbGo_first ys 0 j h hj
  show (if 1 ≤ ys.length ∧ ys.length ≤ 8 then (match fbGo ys.length 0 ys with
    | some j => PyData.int (j : Nat)
    | none => .none) else .int (-1)) = _
  rw [if_pos ⟨h1, h8⟩, e, Nat.zero_add]
def badL (n : Nat) : List PyData := [.none, .int 5, .tuple [.tuple [.int 0]], .tuple [.tuple [.int 0, .int 0, .int 0]], .tuple [.int 0, .int 0], .tuple [.tuple [.int 100, .int 0]], .tuple [.tuple [.int (-1), .int 0]], .tuple [.tuple [.bool true, .int 0]], .tuple [.tuple [.int 0, .int n]], .tuple [.tuple [.int 0, .int (-1)]]]
def badL2 : List PyData := [.tuple [.tuple [.int 0, .bool false]], .tuple [.tuple [.int 1, .int 0], .tuple [.int 0, .int 0]], .tuple [.tuple [.int 0, .int 0], .tuple [.int 0, .int 0]], .tuple ((List.range 6).map fun k => .tuple [.int (k : Nat), .int 0]), .tuple [.none]]
theorem bad_all : ((List.range 9).all fun n => (badL n ++ badL2).all fun d => !sfB d n && !d.hasDict) = true := by decide +kernel
theorem bad_it {n : Nat} (hn : n ≤ 8) {d : PyData} (hd : d ∈ badL n ++ badL2) : sfB d n = false ∧ d.hasDict = false := by
  have h := List.all_eq_true.mp (List.all_eq_true.mp bad_all n (List.mem_range.mpr (by omega))) d hd
  simp only [Bool.and_eq_true, Bool.not_eq_true'] at h
  exact h
theorem dict_all {xs : List PyData} (h : ∀ d ∈ xs, d.hasDict = false) : PyData.hasDictAll xs = false := by
  induction xs with
  | nil => rfl
  | cons m r ih => simp [PyData.hasDictAll, h m (List.mem_cons_self ..), ih fun d hd => h d (List.mem_cons_of_mem _ hd)]
theorem dict_tuple {xs : List PyData} (h : ∀ d ∈ xs, d.hasDict = false) : (PyData.tuple xs).hasDict = false := dict_all h
theorem bent_err {b : Bk} (h : OkBk b) {a : Nat} (ha : a < b.length) {d : PyData} (hd : d ∈ badL b.length ++ badL2) (p : Option Pl) :
    sem_made_book [.val (.tuple (((b.map stD).set (b.length - 1) .none).set a d))] p = .err "BadBook" (.int a) p := by
  have h8 := h.most
  have hb := bad_it h8 hd
  have hl : (((b.map stD).set (b.length - 1) .none).set a d).length = b.length := by simp
  refine form_err (dict_tuple fun x hx => ?_) (wfR_first (by omega) (fun q x hq e => ?_) ⟨d, ?_, ?_⟩) rfl p
  · rcases List.mem_or_eq_of_mem_set hx with hx | rfl
    · rcases List.mem_or_eq_of_mem_set hx with hx | rfl
      · obtain ⟨ms, _, rfl⟩ := List.mem_map.mp hx
        exact dict_st ms
      · rfl
    · exact hb.2
  · rw [hl]
    rw [List.getElem?_set_ne (by omega), List.getElem?_set_ne (by omega)] at e
    rw [List.getElem?_map] at e
    cases hq2 : b[q]? with
    | none => rw [hq2] at e; cases e
    | some ms =>
      rw [hq2] at e
      cases e
      exact sfB_ok (h.sts ms (List.mem_of_getElem? hq2))
  · rw [List.getElem?_set_self (by simp; exact ha)]
  · rw [hl]
    exact hb.1
theorem stOf_app {b : Bk} {ms : List (Nat × Nat)} {k : Nat} (hk : k < b.length) : stOf (b ++ [ms]) k = stOf b k := by
  unfold stOf
  rw [List.getD_eq_getElem?_getD, List.getD_eq_getElem?_getD, List.getElem?_append_left hk]
theorem bfs_app {b : Bk} (h : OkBk b) {ms : List (Nat × Nat)} : ∀ (k i : Nat) (F : List Nat), Met b.length F → bfs (b ++ [ms]) k i F = bfs b k i F
  | 0, i, F, hF => rfl
  | k + 1, i, F, hF => by
    unfold bfs
    by_cases e : i < F.length
    · rw [if_pos e, if_pos e, stOf_app (getD_lt hF e)]
      exact bfs_app h k (i + 1) _ (visit_met _ F hF (to_lt h _)).1
    · rw [if_neg e, if_neg e]
theorem fs_loop2 {t : PyData} (G : List Nat) (p : Option Pl) : ∀ (k i : Nat) (s2 : Option Sl), (∀ j, i ≤ j → j < i + k → j ∈ G) → i + k ∉ G →
    ∃ s', loop (gN 2) b_first_stray_1 (intsN i (k + 1)) ⟨[some (.val t), some (.own (intsD G)), s2], p⟩ = .ret (.val (.int (i + k : Nat))) s' ∧ s'.pl = p
  | 0, i, s2, _, hn => by
    have eg : gN 2 (.int (i : Int)) ⟨[some (.val t), some (.own (intsD G)), s2], p⟩ = some ⟨[some (.val t), some (.own (intsD G)), some (.val (.int i))], p⟩ := rfl
    have hn : i ∉ G := hn
    have eb : b_first_stray_1 ⟨[some (.val t), some (.own (intsD G)), some (.val (.int i))], p⟩ = .ret (.val (.int i)) ⟨[some (.val t), some (.own (intsD G)), some (.val (.int i))], p⟩ := by
      simp [b_first_stray_1, sIf, sE, tV, mBind, eOp, eV, look, in_intsD, hn, mRet, sRet]
    have en : intsN (i : Int) (0 + 1) = .int (i : Int) :: intsN ((i + 1 : Nat) : Int) 0 := by simp [intsN]
    rw [en]
    unfold loop
    rw [eg]
    simp only [eb]
    exact ⟨_, rfl, rfl⟩
  | k + 1, i, s2, h, hn => by
    have eg : gN 2 (.int (i : Int)) ⟨[some (.val t), some (.own (intsD G)), s2], p⟩ = some ⟨[some (.val t), some (.own (intsD G)), some (.val (.int i))], p⟩ := rfl
    have hm : i ∈ G := h i (Nat.le_refl i) (by omega)
    have eb : b_first_stray_1 ⟨[some (.val t), some (.own (intsD G)), some (.val (.int i))], p⟩ = .nx ⟨[some (.val t), some (.own (intsD G)), some (.val (.int i))], p⟩ := by
      simp [b_first_stray_1, sIf, sE, tV, mBind, eOp, eV, look, in_intsD, hm, mRet, sNil]
    have en : intsN (i : Int) (k + 1 + 1) = .int (i : Int) :: intsN ((i + 1 : Nat) : Int) (k + 1) := by simp [intsN]
    obtain ⟨s', e, ep⟩ := fs_loop2 (t := t) G p k (i + 1) (some (.val (.int i))) (fun j h1 h2 => h j (by omega) (by omega)) (by rw [show i + 1 + k = i + (k + 1) by omega]; exact hn)
    rw [en]
    unfold loop
    rw [eg]
    simp only [eb]
    refine ⟨s', ?_, ep⟩
    rw [show i + 1 + k = i + (k + 1) by omega] at e
    exact e
theorem stray_err {b : Bk} (h : OkBk b) (ha : AllMet b) {ms : List (Nat × Nat)} (h' : OkBk (b ++ [ms])) (p : Option Pl) : sem_made_book [.val (bkD (b ++ [ms]))] p = .err "Stray" (.int b.length) p := by
  have hl : (b ++ [ms]).length = b.length + 1 := by simp
  have h1 := h.one
  have h8 := h'.most
  have hm0 : Met b.length [0] := met_one h1
  have hm := bfs_met (b := b) (to_lt h) (b.length + 1) 0 [0] hm0
  have hlm := met_len hm
  have hG : bfs (b ++ [ms]) ((b ++ [ms]).length + 1) 0 [0] = bfs b (b.length + 1) 0 [0] := by
    rw [hl, bfs_app h _ _ _ hm0]
    exact bfs_stop b 1 (b.length + 1) 0 [0] (by omega)
  have sm := states_met_ok h' p
  rw [hG] at sm
  obtain ⟨s', lp, ep⟩ := fs_loop2 (t := bkD (b ++ [ms])) (bfs b (b.length + 1) 0 [0]) p b.length 0 none (fun j _ h2 => ha j (by omega)) (fun hn => by have := hm.lt _ hn; omega)
  rw [Nat.zero_add] at lp
  have lp : loop (gN 2) b_first_stray_1 (intsN 0 (b.length + 1)) _ = _ := lp
  have e1 : sSet 1 (eCall sem_states_met [eV 0, eC (.int 0)]) ⟨[some (.val (bkD (b ++ [ms]))), none, none], p⟩ = .nx ⟨[some (.val (bkD (b ++ [ms]))), some (.own (intsD (bfs b (b.length + 1) 0 [0]))), none], p⟩ := by
    have ec := call_ok (args2 (eV_ok (i := 0) (d := bkD (b ++ [ms])) (s := ⟨[some (.val (bkD (b ++ [ms]))), none, none], p⟩) rfl) (B := eC (.int 0)) (e := .int 0) rfl) sm
    unfold sSet
    rw [sE_ok ec]
    rfl
  have hr : N4.iRng1 [eBu bLen [eV 0]] ⟨[some (.val (bkD (b ++ [ms]))), some (.own (intsD (bfs b (b.length + 1) 0 [0]))), none], p⟩ = .ok (intsN 0 (b.length + 1)) ⟨[some (.val (bkD (b ++ [ms]))), some (.own (intsD (bfs b (b.length + 1) 0 [0]))), none], p⟩ := by
    have e := len_e (b := b ++ [ms]) (i := 0) (s := ⟨[some (.val (bkD (b ++ [ms]))), some (.own (intsD (bfs b (b.length + 1) 0 [0]))), none], p⟩) rfl
    rw [hl] at e
    exact rng1N (by
      unfold evs
      rw [mBind_ok e]
      rfl) (by omega)
  have hs : sem_first_stray [.val (bkD (b ++ [ms]))] p = .ok (.val (.int b.length)) p := by
    have eM : sem_first_stray [.val (bkD (b ++ [ms]))] p = endOf (b_first_stray ⟨[some (.val (bkD (b ++ [ms]))), none, none], p⟩) := by
      unfold sem_first_stray mkFn
      exact if_pos rfl
    rw [eM]
    unfold b_first_stray sFor
    refine (congrArg endOf ((sSeq_nx e1).trans (sSeq_ret ((sE_ok hr).trans lp)))).trans ?_
    show FOut.ok _ s'.pl = _
    rw [ep]
  have ea := args1 (eV_ok (i := 0) (d := bkD (b ++ [ms])) (s := ⟨[some (.val (bkD (b ++ [ms]))), none], p⟩) rfl)
  have x1 := expr_ok (call_ok ea (check_forms_ok h' p))
  have x2 := set_val (i := 1) (call_ok ea hs) (by simp)
  have et : tV (eOp oIsNotB (eV 1) (eC .none)) ⟨[some (.val (bkD (b ++ [ms]))), some (.val (.int b.length))], p⟩ = .ok true ⟨[some (.val (bkD (b ++ [ms]))), some (.val (.int b.length))], p⟩ := tV_ok (op_ok (x := .val (.int b.length)) (y := .val .none) rfl rfl rfl rfl rfl)
  rw [made_eM]
  unfold b_made_book
  exact (congrArg endOf ((sSeq_nx x1).trans ((sSeq_nx x2).trans (sSeq_err ((if_true et).trans (raise_ok (eV_ok (i := 1) (d := .int b.length) rfl))))))).trans rfl
theorem ok_more {b : Bk} (h : OkBk b) (h7 : b.length < 8) {ms : List (Nat × Nat)} (hm : OkSt (b.length + 1) ms) : OkBk (b ++ [ms]) := by
  have hl : (b ++ [ms]).length = b.length + 1 := by simp
  refine ⟨by omega, by omega, fun x hx => ?_⟩
  rw [hl]
  rcases List.mem_append.mp hx with hx | hx
  · have := h.sts x hx
    exact ⟨this.len, this.rise, this.most, fun m hm => by have := this.to m hm; omega⟩
  · rw [List.mem_singleton.mp hx]
    exact hm
theorem two_err {b : Bk} (h : OkBk b) (h7 : b.length < 7) (p : Option Pl) : sem_made_book [.val (.tuple (b.map stD ++ [stD [], .none]))] p = .err "BadBook" (.int (b.length + 1 : Nat)) p := by
  have hl : (b.map stD ++ [stD [], PyData.none]).length = b.length + 2 := by simp
  refine form_err (dict_tuple fun x hx => ?_) (wfR_first (by omega) (fun q x hq e => ?_) ⟨.none, ?_, rfl⟩) rfl p
  · rcases List.mem_append.mp hx with hx | hx
    · obtain ⟨ms, _, rfl⟩ := List.mem_map.mp hx
      exact dict_st ms
    · simp only [List.mem_cons, List.not_mem_nil, or_false] at hx
      rcases hx with rfl | rfl
      · exact dict_st []
      · rfl
  · rw [hl]
    rcases Nat.lt_or_ge q b.length with c | c
    · rw [List.getElem?_append_left (by simp; exact c), List.getElem?_map] at e
      cases hq2 : b[q]? with
      | none => rw [hq2] at e; cases e
      | some ms =>
        rw [hq2] at e
        cases e
        have := h.sts ms (List.mem_of_getElem? hq2)
        exact sfB_ok (n := b.length + 2) ⟨this.len, this.rise, this.most, fun m hm => by have := this.to m hm; omega⟩
    · have hq : q = b.length := by omega
      subst hq
      rw [List.getElem?_append_right (by simp)] at e
      simp at e
      subst e
      exact sfB_ok (n := b.length + 2) (ms := []) ⟨by simp, List.Pairwise.nil, (fun m hm => nomatch hm), (fun m hm => nomatch hm)⟩
  · rw [List.getElem?_append_right (by simp)]
    simp
end K02
end
section
set_option Elab.async false
set_option linter.all false
set_option autoImplicit false
set_option maxRecDepth 100000
set_option maxHeartbeats 2000000
/-! Rules for reckoning on states that are written out: ⟨slots, pool⟩; each rule's questions are asked in the order of the reckoning. -/
namespace N4.V
open PySem
/-- what holds of an end -/
def WP (o : SOut) (Q : SOut → Prop) : Prop := Q o
/-- one turn of a loop: on, out, or ended -/
def Turn (I A : St → Prop) (Q : SOut → Prop) : SOut → Prop
  | .nx s => I s
  | .cnt s => I s
  | .brk s => A s
  | .ret e s => Q (.ret e s)
  | .err c x s => Q (.err c x s)
  | .bad => False
/-- the ends that a turn may come to -/
structure TurnK (I A : St → Prop) (Q T : SOut → Prop) : Prop where
  nx : ∀ s, I s → T (.nx s)
  cnt : ∀ s, I s → T (.cnt s)
  brk : ∀ s, A s → T (.brk s)
  ret : ∀ e s, Q (.ret e s) → T (.ret e s)
  err : ∀ c x s, Q (.err c x s) → T (.err c x s)
theorem turnK (I A : St → Prop) (Q : SOut → Prop) : TurnK I A Q (Turn I A Q) := ⟨fun _ => id, fun _ => id, fun _ => id, fun _ _ => id, fun _ _ _ => id⟩
/-- behind a loop -/
def After (A : St → Prop) (Q : SOut → Prop) : SOut → Prop
  | .nx s => A s
  | .ret e s => Q (.ret e s)
  | .err c x s => Q (.err c x s)
  | _ => False
def tAndK (r : Bool) (B : M Bool) : M Bool := if r then B else mRet false
def tOrK (r : Bool) (B : M Bool) : M Bool := if r then mRet true else B
def eIfK (r : Bool) (A B : M Ev) : M Ev := if r then A else B
def eAndK (r : Bool) (B : M Ev) : M Ev := if r then B else mRet (.val (.bool false))
def eOrK (r : Bool) (B : M Ev) : M Ev := if r then mRet (.val (.bool true)) else B
def sIfK (r : Bool) (a b : SM) : SM := if r then a else b
section
variable {sl sl' sl0 : List (Option Sl)} {p p0 q : Option Pl} {s s1 s2 s3 : St} {i : Nat} {d : D} {xs ds : List D} {A B C : M Ev} {x y r : Ev}
/-! names -/
theorem v_c (d : D) (s : St) : eC d s = .ok (.val d) s := rfl
theorem v_v (h : sl[i]? = some (some (.val d))) : eV i ⟨sl, p⟩ = .ok (.val d) ⟨sl, p⟩ := by simp only [eV, h]
theorem v_o (h : sl[i]? = some (some (.own xs))) : eV i ⟨sl, p⟩ = .ok (.slot i) ⟨sl, p⟩ := by simp only [eV, h]
theorem v_p (h : sl[i]? = some (some .pool)) : eV i ⟨sl, p⟩ = .ok .pool ⟨sl, p⟩ := by simp only [eV, h]
/-! values as data -/
theorem z_v (d : D) (s : St) : freeze (.val d) s = .ok d s := rfl
theorem z_f (xs : List D) (s : St) : freeze (.fresh xs) s = .ok (.list xs) s := rfl
theorem z_s (h : sl[i]? = some (some (.own xs))) (hs : sl.set i (some (.val (.list xs))) = sl') : freeze (.slot i) ⟨sl, p⟩ = .ok (.list xs) ⟨sl', p⟩ := by
  subst hs
  simp only [freeze, h]
  rfl
theorem ao_v (d : D) (s : St) : argOf (.val d) s = .ok (.val d) s := rfl
theorem ao_f (xs : List D) (s : St) : argOf (.fresh xs) s = .ok (.val (.list xs)) s := rfl
theorem ao_p (s : St) : argOf .pool s = .ok .pool s := rfl
theorem ao_s (h : sl[i]? = some (some (.own xs))) (hs : sl.set i (some (.val (.list xs))) = sl') : argOf (.slot i) ⟨sl, p⟩ = .ok (.val (.list xs)) ⟨sl', p⟩ := (mBind_ok (z_s h hs)).trans rfl
theorem w1_v (d : D) (s : St) : own1 (.val d) s = .ok (.val d) s := rfl
theorem w1_f (xs : List D) (s : St) : own1 (.fresh xs) s = .ok (.fresh xs) s := rfl
theorem w1_s (h : sl[i]? = some (some (.own xs))) (hs : sl.set i (some (.val (.list xs))) = sl') : own1 (.slot i) ⟨sl, p⟩ = .ok (.val (.list xs)) ⟨sl', p⟩ := (mBind_ok (z_s h hs)).trans rfl
/-! operators -/
theorem v_op {f : D → D → Option Ev} {d e : D} (ha : A s = .ok x s1) (hb : B s1 = .ok y s2) (lx : look s2 x = some d) (ly : look s2 y = some e) (hf : f d e = some r) : eOp f A B s = .ok r s2 := by
  unfold eOp
  rw [mBind_ok ha, mBind_ok hb]
  simp only [lx, ly, hf]
theorem v_un {f : D → Option Ev} (ha : A s = .ok x s1) (lx : look s1 x = some d) (hf : f d = some r) : eUn f A s = .ok r s1 := by
  unfold eUn
  rw [mBind_ok ha]
  simp only [lx, hf]
theorem v_b1 {f : List D → Option Ev} (ha : A s = .ok x s1) (lx : look s1 (settle x) = some d) (hf : f [d] = some r) : eBu f [A] s = .ok r s1 := by
  unfold eBu
  simp only [evs, mBind, ha, mRet, looks, lx, hf]
theorem v_b2 {f : List D → Option Ev} {d e : D} (ha : A s = .ok x s1) (hb : B s1 = .ok y s2) (lx : look s2 (settle x) = some d) (ly : look s2 (settle y) = some e) (hf : f [d, e] = some r) : eBu f [A, B] s = .ok r s2 := by
  unfold eBu
  simp only [evs, mBind, ha, hb, mRet, looks, lx, ly, hf]
theorem v_ch {f g : D → D → Option Ev} {z : Ev} {d e d2 e2 : D} {b : Bool} (ha : A s = .ok x s1) (hb : B s1 = .ok y s2) (lx : look s2 x = some d) (ly : look s2 y = some e) (hf : f d e = some (.val (.bool b))) (hc : b = true → C s2 = .ok z s3 ∧ look s3 y = some e2 ∧ look s3 z = some d2 ∧ g e2 d2 = some r) (h0 : b = false → s3 = s2 ∧ r = .val (.bool false)) : eChain f g A B C s = .ok r s3 := by
  unfold eChain
  rw [mBind_ok ha, mBind_ok hb]
  cases b with
  | true =>
    obtain ⟨c1, c2, c3, c4⟩ := hc rfl
    simp only [lx, ly, hf]
    rw [mBind_ok c1]
    simp only [c2, c3, c4]
  | false =>
    obtain ⟨rfl, rfl⟩ := h0 rfl
    simp only [lx, ly, hf]
/-! tests -/
theorem t_v {b : Bool} (h : A s = .ok (.val (.bool b)) s1) : tV A s = .ok b s1 := by
  unfold tV
  rw [mBind_ok h]
  rfl
theorem t_not {a : M Bool} {b : Bool} (h : a s = .ok b s1) : N4.tNot a s = .ok (!b) s1 := by
  unfold N4.tNot
  rw [mBind_ok h]
  rfl
theorem t_and {a c : M Bool} {b : Bool} {o : Out Bool} (h : a s = .ok b s1) (h2 : tAndK b c s1 = o) : N4.tAnd a c s = o := by
  unfold N4.tAnd
  rw [mBind_ok h]
  exact h2
theorem t_or {a c : M Bool} {b : Bool} {o : Out Bool} (h : a s = .ok b s1) (h2 : tOrK b c s1 = o) : N4.tOr a c s = o := by
  unfold N4.tOr
  rw [mBind_ok h]
  exact h2
theorem ak_f {c : M Bool} {b : Bool} (h : b = false) : tAndK b c s = .ok false s := by subst h; rfl
theorem ak_t {c : M Bool} {b : Bool} {o : Out Bool} (h : b = true) (h2 : c s = o) : tAndK b c s = o := by subst h; exact h2
theorem ak_g {c : M Bool} {b e : Bool} (h2 : c s = .ok e s) : tAndK b c s = .ok (b && e) s := by cases b; rfl; exact h2
theorem ok_t {c : M Bool} {b : Bool} (h : b = true) : tOrK b c s = .ok true s := by subst h; rfl
theorem ok_f {c : M Bool} {b : Bool} {o : Out Bool} (h : b = false) (h2 : c s = o) : tOrK b c s = o := by subst h; exact h2
theorem ok_g {c : M Bool} {b e : Bool} (h2 : c s = .ok e s) : tOrK b c s = .ok (b || e) s := by cases b; exact h2; rfl
theorem v_if {c : M Bool} {b : Bool} {o : Out Ev} (h : c s = .ok b s1) (h2 : eIfK b A B s1 = o) : eIf c A B s = o := by
  unfold eIf
  rw [mBind_ok h]
  cases b <;> exact h2
theorem ik_t {b : Bool} {o : Out Ev} (h : b = true) (h2 : A s = o) : eIfK b A B s = o := by subst h; exact h2
theorem ik_f {b : Bool} {o : Out Ev} (h : b = false) (h2 : B s = o) : eIfK b A B s = o := by subst h; exact h2
theorem v_not {b : Bool} (h : A s = .ok (.val (.bool b)) s1) : eNot A s = .ok (.val (.bool !b)) s1 := by
  unfold eNot
  rw [mBind_ok h]
  rfl
theorem v_and {b : Bool} {o : Out Ev} (h : A s = .ok (.val (.bool b)) s1) (h2 : eAndK b B s1 = o) : eAnd A B s = o := by
  unfold eAnd
  rw [mBind_ok h]
  cases b <;> exact h2
theorem v_or {b : Bool} {o : Out Ev} (h : A s = .ok (.val (.bool b)) s1) (h2 : eOrK b B s1 = o) : eOr A B s = o := by
  unfold eOr
  rw [mBind_ok h]
  cases b <;> exact h2
theorem vk_f {b : Bool} (h : b = false) : eAndK b B s = .ok (.val (.bool false)) s := by subst h; rfl
theorem vk_t {b : Bool} {o : Out Ev} (h : b = true) (h2 : B s = o) : eAndK b B s = o := by subst h; exact h2
theorem vk_g {b e : Bool} (h2 : B s = .ok (.val (.bool e)) s) : eAndK b B s = .ok (.val (.bool (b && e))) s := by cases b; rfl; exact h2
theorem vo_t {b : Bool} (h : b = true) : eOrK b B s = .ok (.val (.bool true)) s := by subst h; rfl
theorem vo_f {b : Bool} {o : Out Ev} (h : b = false) (h2 : B s = o) : eOrK b B s = o := by subst h; exact h2
theorem vo_g {b e : Bool} (h2 : B s = .ok (.val (.bool e)) s) : eOrK b B s = .ok (.val (.bool (b || e))) s := by cases b; exact h2; rfl
/-! rows of values -/
theorem a_nil (s : St) : args [] s = .ok [] s := rfl
theorem a_cons {as : List (M Ev)} {e : Sl} {es : List Sl} (h : A s = .ok x s1) (h1 : argOf x s1 = .ok e s2) (h2 : args as s2 = .ok es s3) : args (A :: as) s = .ok (e :: es) s3 := by
  unfold args
  rw [mBind_ok h, mBind_ok h1, mBind_ok h2]
  rfl
theorem f_nil (s : St) : frzs [] s = .ok [] s := rfl
theorem f_cons {as : List (M Ev)} (h : A s = .ok x s1) (h1 : freeze x s1 = .ok d s2) (h2 : frzs as s2 = .ok ds s3) : frzs (A :: as) s = .ok (d :: ds) s3 := by
  unfold frzs
  rw [mBind_ok h, mBind_ok h1, mBind_ok h2]
  rfl
theorem r_nil (s : St) : prs [] s = .ok [] s := rfl
theorem r_cons {as : List (M Ev)} {es : List Ev} (h : A s = .ok x s1) (h1 : own1 x s1 = .ok y s2) (h2 : prs as s2 = .ok es s3) : prs (A :: as) s = .ok (y :: es) s3 := by
  unfold prs
  rw [mBind_ok h, mBind_ok h1, mBind_ok h2]
  rfl
theorem v_tup {as : List (M Ev)} (h : frzs as s = .ok ds s1) (hl : ds.length ≤ 1000) : eTup as s = .ok (.val (.tuple ds)) s1 := by
  unfold eTup
  rw [mBind_ok h, if_pos (by unfold lineN; omega)]
  rfl
theorem v_lst {as : List (M Ev)} (h : frzs as s = .ok ds s1) (hl : ds.length ≤ 1000) : eLst as s = .ok (.fresh ds) s1 := by
  unfold eLst
  rw [mBind_ok h, if_pos (by unfold lineN; omega)]
  rfl
theorem v_call {F : Fn} {as : List (M Ev)} {es : List Sl} (ha : args as s = .ok es ⟨sl, p⟩) (hF : F es p = .ok r q) : eCall F as s = .ok r ⟨sl, q⟩ := by
  unfold eCall
  rw [mBind_ok ha]
  simp only [hF]
theorem v_callE {F : Fn} {as : List (M Ev)} {es : List Sl} {c : String} (ha : args as s = .ok es ⟨sl, p⟩) (hF : F es p = .err c d q) : eCall F as s = .err c d ⟨sl, q⟩ := by
  unfold eCall
  rw [mBind_ok ha]
  simp only [hF]
/-! what is walked -/
theorem w_tup (h : A s = .ok (.val d) s1) (hd : d = .tuple ds) : iSeq A s = .ok ds s1 := by
  subst hd
  unfold iSeq
  rw [mBind_ok h]
  rfl
theorem w_lst (h : A s = .ok (.val d) s1) (hd : d = .list ds) : iSeq A s = .ok ds s1 := by
  subst hd
  unfold iSeq
  rw [mBind_ok h]
  rfl
theorem w_fr (h : A s = .ok (.fresh ds) s1) : iSeq A s = .ok ds s1 := by
  unfold iSeq
  rw [mBind_ok h]
  rfl
theorem w_sl (h : A s = .ok (.slot i) ⟨sl, p⟩) (hx : sl[i]? = some (some (.own ds))) (hs : sl.set i (some (.val (.list ds))) = sl') : iSeq A s = .ok ds ⟨sl', p⟩ := by
  unfold iSeq
  rw [mBind_ok h, mBind_ok (z_s hx hs)]
  rfl
theorem nums_map {α : Type} (f : α → D) : ∀ (as : List α) (k : Nat), nums k (as.map f) = (as.zipIdx k).map fun a => .tuple [.int a.2, f a.1]
  | [], _ => rfl
  | a :: as, k => by
    show PyData.tuple [.int k, f a] :: nums (k + 1) (as.map f) = _
    rw [nums_map f as (k + 1)]
    rfl
theorem w_enum {α : Type} {f : α → D} {as : List α} (h : iSeq A s = .ok (as.map f) s1) : iEnum A s = .ok ((as.zipIdx 0).map fun a => .tuple [.int a.2, f a.1]) s1 := by
  unfold iEnum
  rw [mBind_ok h, nums_map]
  rfl
theorem zips_map {α β : Type} (f : α → D) (g : β → D) : ∀ (as : List α) (bs : List β), zips (as.map f) (bs.map g) = (as.zip bs).map fun a => .tuple [f a.1, g a.2]
  | [], bs => by cases bs <;> rfl
  | a :: as, [] => rfl
  | a :: as, b :: bs => by
    show PyData.tuple [f a, g b] :: zips (as.map f) (bs.map g) = _
    rw [zips_map f g as bs]
    rfl
theorem w_zip {α β : Type} {f : α → D} {g : β → D} {as : List α} {bs : List β} (h : iSeq A s = .ok (as.map f) s1) (h2 : iSeq B s1 = .ok (bs.map g) s2) : iZip A B s = .ok ((as.zip bs).map fun a => .tuple [f a.1, g a.2]) s2 := by
  unfold iZip
  rw [mBind_ok h, mBind_ok h2, zips_map]
  rfl
theorem intsN_rng (lo n : Nat) : intsN lo n = (List.range n).map fun k : Nat => .int ((lo + k : Nat) : Int) := by
  induction n generalizing lo with
  | zero => rfl
  | succ n ih =>
    rw [List.range_succ_eq_map, List.map_cons, List.map_map]
    show PyData.int lo :: intsN ((lo : Int) + 1) n = _
    have e : (lo : Int) + 1 = ((lo + 1 : Nat) : Int) := by omega
    rw [e, ih (lo + 1)]
    have f : (fun k : Nat => PyData.int ((lo + 1 + k : Nat) : Int)) = (fun k : Nat => PyData.int ((lo + k : Nat) : Int)) ∘ Nat.succ := by
      funext k
      show _ = PyData.int ((lo + (k + 1) : Nat) : Int)
      rw [show lo + 1 + k = lo + (k + 1) from by omega]
    rw [f]
    rfl
theorem w_rng {n : Nat} (h : A s = .ok (.val d) s1) (hd : d = .int (n : Int)) (b : n < 1000000) : iRng1 [A] s = .ok ((List.range n).map fun k : Nat => .int (k : Int)) s1 := by
  subst hd
  have e : intsN 0 n = (List.range n).map fun k : Nat => .int (k : Int) := by
    have := intsN_rng 0 n
    simpa using this
  unfold iRng1
  have h1 : evs [A] s = .ok [.val (.int (n : Int))] s1 := by simp only [evs, mBind, h, mRet, N4.settle]
  rw [mBind_ok h1]
  have c1 : -boundN ≤ (n : Int) := by unfold boundN; omega
  have c2 : (n : Int) < boundN := by unfold boundN; omega
  show (if -boundN ≤ (n : Int) ∧ (n : Int) < boundN then mRet (intsN 0 (n : Int).toNat) else mBad) s1 = _
  rw [if_pos ⟨c1, c2⟩, Int.toNat_natCast, e]
  rfl
theorem w_rng2 {lo hi : Nat} {d e : D} (h : A s = .ok (.val d) s1) (h2 : B s1 = .ok (.val e) s2) (hd : d = .int (lo : Int)) (he : e = .int (hi : Int)) (b : lo < 1000000) (c : hi < 1000000) : iRng2 [A, B] s = .ok ((List.range (hi - lo)).map fun k : Nat => .int ((lo + k : Nat) : Int)) s2 := by
  subst hd he
  unfold iRng2
  have h1 : evs [A, B] s = .ok [.val (.int (lo : Int)), .val (.int (hi : Int))] s2 := by simp only [evs, mBind, h, h2, mRet, N4.settle]
  rw [mBind_ok h1]
  have c1 : -boundN ≤ (lo : Int) := by unfold boundN; omega
  have c2 : (lo : Int) < boundN := by unfold boundN; omega
  have c3 : -boundN ≤ (hi : Int) := by unfold boundN; omega
  have c4 : (hi : Int) < boundN := by unfold boundN; omega
  show (if -boundN ≤ (lo : Int) ∧ (lo : Int) < boundN ∧ -boundN ≤ (hi : Int) ∧ (hi : Int) < boundN then mRet (intsN (lo : Int) ((hi : Int) - (lo : Int)).toNat) else mBad) s2 = _
  rw [if_pos ⟨c1, c2, c3, c4⟩, show ((hi : Int) - (lo : Int)).toNat = hi - lo from by omega, intsN_rng]
  rfl
/-! statements -/
variable {Q : SOut → Prop} {a b : SM} {is : List Nat}
theorem q_seq (h : WP (a s) fun o => match o with | .nx s1 => WP (b s1) Q | .ret e s1 => Q (.ret e s1) | .brk s1 => Q (.brk s1) | .cnt s1 => Q (.cnt s1) | .err c x s1 => Q (.err c x s1) | .bad => Q .bad) : WP (sSeq a b s) Q := by
  unfold WP at *
  unfold sSeq
  revert h
  cases a s <;> exact id
theorem q_one (h : a s = .nx s1) (h2 : WP (b s1) Q) : WP (sSeq a b s) Q := by
  unfold WP at *
  unfold sSeq
  rw [h]
  exact h2
theorem q_nil (h : Q (.nx s)) : WP (sNil s) Q := h
theorem q_eq {o : SOut} (h : a s = o) (h2 : Q o) : WP (a s) Q := by
  unfold WP
  rw [h]
  exact h2
theorem q_ret (h : A s = .ok x s1) (h2 : Q (.ret x s1)) : WP (sRet A s) Q := by
  unfold WP sRet sE
  rw [h]
  exact h2
theorem q_retN (h2 : Q (.ret (.val .none) s)) : WP (sRetN s) Q := h2
theorem q_retE {c : String} (h : A s = .err c d s1) (h2 : Q (.err c d s1)) : WP (sRet A s) Q := by
  unfold WP sRet sE
  rw [h]
  exact h2
theorem q_exprE {c : String} (h : A s = .err c d s1) : sExpr A s = .err c d s1 := by
  unfold sExpr sE
  rw [h]
theorem q_setE {c : String} (h : A s = .err c d s1) : sSet i A s = .err c d s1 := by
  unfold sSet sE
  rw [h]
theorem q_seqE {c : String} (h : a s = .err c d s1) (h2 : Q (.err c d s1)) : WP (sSeq a b s) Q := by
  unfold WP sSeq
  rw [h]
  exact h2
theorem q_seqR (h : a s = .ret x s1) (h2 : Q (.ret x s1)) : WP (sSeq a b s) Q := by
  unfold WP sSeq
  rw [h]
  exact h2
theorem q_seqB (h : a s = .brk s1) (h2 : Q (.brk s1)) : WP (sSeq a b s) Q := by
  unfold WP sSeq
  rw [h]
  exact h2
theorem q_seqC (h : a s = .cnt s1) (h2 : Q (.cnt s1)) : WP (sSeq a b s) Q := by
  unfold WP sSeq
  rw [h]
  exact h2
theorem q_raise {c : String} (h : A s = .ok x s1) (hz : freeze x s1 = .ok d s2) (h2 : Q (.err c d s2)) : WP (sRaise c A s) Q := by
  unfold WP sRaise sE
  rw [h]
  simp only [sE, hz]
  exact h2
theorem q_raise' {c : String} (h : A s = .ok x s1) (hz : freeze x s1 = .ok d s2) : sRaise c A s = .err c d s2 := by
  unfold sRaise sE
  rw [h]
  simp only [sE, hz]
theorem q_brk (h : Q (.brk s)) : WP (sBrk s) Q := h
theorem q_cnt (h : Q (.cnt s)) : WP (sCnt s) Q := h
theorem q_if {c : M Bool} {r : Bool} (h : c s = .ok r s1) (h2 : WP (sIfK r a b s1) Q) : WP (sIf c a b s) Q := by
  unfold WP sIf sE at *
  rw [h]
  revert h2
  cases r <;> exact id
theorem q_ift {r : Bool} (h : r = true) (h2 : WP (a s) Q) : WP (sIfK r a b s) Q := by subst h; exact h2
theorem q_iff {r : Bool} (h : r = false) (h2 : WP (b s) Q) : WP (sIfK r a b s) Q := by subst h; exact h2
theorem q_ifc {P : Prop} [Decidable P] (h1 : P → WP (a s) Q) (h2 : ¬P → WP (b s) Q) : WP (sIfK (decide P) a b s) Q := by
  by_cases h : P
  · rw [decide_eq_true h]; exact h1 h
  · rw [decide_eq_false h]; exact h2 h
theorem q_ifb {r : Bool} (h1 : r = true → WP (a s) Q) (h2 : r = false → WP (b s) Q) : WP (sIfK r a b s) Q := by
  cases r
  · exact h2 rfl
  · exact h1 rfl
theorem q_set {o : SOut} (h : A s = .ok x s1) (h2 : store i x s1 = o) : sSet i A s = o := by
  unfold sSet sE
  rw [h]
  exact h2
theorem st_v (hi : i < sl.length) (hs : sl.set i (some (.val d)) = sl') : store i (.val d) ⟨sl, p⟩ = .nx ⟨sl', p⟩ := by
  subst hs
  show (if i < sl.length then _ else _) = _
  rw [if_pos hi]
  rfl
theorem st_f (hi : i < sl.length) (hs : sl.set i (some (.own xs)) = sl') : store i (.fresh xs) ⟨sl, p⟩ = .nx ⟨sl', p⟩ := by
  subst hs
  show (if i < sl.length then _ else _) = _
  rw [if_pos hi]
  rfl
theorem st_s {j : Nat} (h : sl0[j]? = some (some (.own xs))) (hs0 : sl0.set j (some (.val (.list xs))) = sl) (hi : i < sl.length) (hs : sl.set i (some (.val (.list xs))) = sl') : store i (.slot j) ⟨sl0, p⟩ = .nx ⟨sl', p⟩ := by
  subst hs
  show sE (freeze (.slot j)) _ _ = _
  unfold sE
  rw [z_s h hs0]
  show (if i < sl.length then _ else _) = _
  rw [if_pos hi]
  rfl
theorem q_expr (h : A s = .ok x s1) : sExpr A s = .nx s1 := by
  unfold sExpr sE
  rw [h]
theorem q_pars {as : List (M Ev)} {es : List Ev} {o : SOut} (h : prs as s = .ok es s1) (hl : es.length = is.length) (h2 : putEvs is es s1 = o) : sPars is as s = o := by
  unfold sPars sE
  rw [h]
  simp only [hl, if_true]
  exact h2
theorem pt_nil (s : St) : putEvs [] [] s = .nx s := rfl
theorem pt_v {es : List Ev} {o : SOut} (hi : i < sl.length) (hs : sl.set i (some (.val d)) = sl') (h2 : putEvs is es ⟨sl', p⟩ = o) : putEvs (i :: is) (.val d :: es) ⟨sl, p⟩ = o := by
  subst hs
  show sSeq (putEv i (.val d)) (putEvs is es) ⟨sl, p⟩ = o
  unfold sSeq putEv
  simp only [hi, if_true]
  exact h2
theorem pt_f {es : List Ev} {o : SOut} (hi : i < sl.length) (hs : sl.set i (some (.own xs)) = sl') (h2 : putEvs is es ⟨sl', p⟩ = o) : putEvs (i :: is) (.fresh xs :: es) ⟨sl, p⟩ = o := by
  subst hs
  show sSeq (putEv i (.fresh xs)) (putEvs is es) ⟨sl, p⟩ = o
  unfold sSeq putEv
  simp only [hi, if_true]
  exact h2
theorem q_app {xs0 : List D} (h0 : sl0[i]? = some (some (.own xs0))) (hE : A ⟨sl0, p0⟩ = .ok x s1) (hz : freeze x s1 = .ok d ⟨sl, p⟩) (h1 : sl[i]? = some (some (.own xs))) (hl : xs.length < lineN) (hs : sl.set i (some (.own (xs ++ [d]))) = sl') : sApp i A ⟨sl0, p0⟩ = .nx ⟨sl', p⟩ := by
  subst hs
  unfold sApp onOwn sE
  simp only [h0, hE, hz, sE, onOwn, h1, hl, if_true]
  rfl
theorem q_ext {xs0 ys : List D} (h0 : sl0[i]? = some (some (.own xs0))) (hE : A ⟨sl0, p0⟩ = .ok x s1) (hz : freeze x s1 = .ok (.list ys) ⟨sl, p⟩) (h1 : sl[i]? = some (some (.own xs))) (hl : xs.length + ys.length ≤ lineN) (hs : sl.set i (some (.own (xs ++ ys))) = sl') : sExt i A ⟨sl0, p0⟩ = .nx ⟨sl', p⟩ := by
  subst hs
  unfold sExt onOwn sE
  simp only [h0, hE, hz, sE, onOwn, h1, hl, if_true]
  rfl
theorem q_put {j : Nat} {k : Int} {xs0 : List D} {d2 : D} (hE : B s = .ok x s1) (hz : freeze x s1 = .ok d ⟨sl0, p0⟩) (h0 : sl0[i]? = some (some (.own xs0))) (hA : A ⟨sl0, p0⟩ = .ok (.val d2) ⟨sl, p⟩) (hk : d2 = .int k) (h1 : sl[i]? = some (some (.own xs))) (hj : ixN xs.length k = some j) (hs : sl.set i (some (.own (xs.set j d))) = sl') : sPut i A B s = .nx ⟨sl', p⟩ := by
  subst hs hk
  unfold sPut onOwn sE
  simp only [hE, hz, sE, onOwn, h0, hA, h1, hj]
  rfl
theorem v_pop {k : Nat} (h : sl[i]? = some (some (.own xs))) (hk : xs.length - 1 = k) (hd : xs[k]? = some d) (hs : sl.set i (some (.own xs.dropLast)) = sl') : ePop i ⟨sl, p⟩ = .ok (.val d) ⟨sl', p⟩ := by
  subst hs hk
  unfold ePop ofOwn
  simp only [h, hd]
  rfl
theorem q_tgt {g : Tg} (h : A s = .ok x s1) (hz : freeze x s1 = .ok d s2) (hg : g d s2 = some s3) : sTgt g A s = .nx s3 := by
  unfold sTgt sE
  simp only [h, sE, hz, hg]
/-! targets -/
theorem tg_n (hi : i < sl.length) (hs : sl.set i (some (.val d)) = sl') : gN i d ⟨sl, p⟩ = some ⟨sl', p⟩ := by
  subst hs
  show (if i < sl.length then _ else _) = _
  rw [if_pos hi]
  rfl
theorem tg_t {gs : List Tg} {o : Option St} (hd : d = .tuple ds) (h : gAll gs ds s = o) : gT gs d s = o := by
  subst hd
  exact h
theorem tg_l {gs : List Tg} {o : Option St} (hd : d = .list ds) (h : gAll gs ds s = o) : gL gs d s = o := by
  subst hd
  exact h
theorem ga_nil (s : St) : gAll [] [] s = some s := rfl
theorem ga_cons {g : Tg} {gs : List Tg} {o : Option St} (h : g d s = some s1) (h2 : gAll gs ds s1 = o) : gAll (g :: gs) (d :: ds) s = o := by
  show (match g d s with | some s1 => gAll gs ds s1 | none => none) = o
  rw [h]
  exact h2
/-! loops -/
theorem loop_wp {α : Type} {g : Tg} {f : α → D} {I : List α → List α → St → Prop} {A : St → Prop} : ∀ (as dn : List α) (s : St), I dn as s →
    (∀ (dn : List α) (a : α) (rest : List α) (s : St), I dn (a :: rest) s → ∃ s1, g (f a) s = some s1 ∧ WP (b s1) (Turn (I (dn ++ [a]) rest) A Q)) →
    (∀ s', I (dn ++ as) [] s' → A s') → WP (loop g b (as.map f) s) (After A Q)
  | [], dn, s, h, _, h2 => h2 s (by rw [List.append_nil]; exact h)
  | a :: as, dn, s, h, st, h2 => by
    obtain ⟨s1, e1, w⟩ := st dn a as s h
    rw [List.map_cons]
    unfold WP at *
    unfold loop
    rw [e1]
    simp only []
    cases e2 : b s1 with
    | nx s2 =>
      rw [e2] at w
      exact loop_wp as (dn ++ [a]) s2 w st (by rw [List.append_assoc]; exact h2)
    | cnt s2 =>
      rw [e2] at w
      exact loop_wp as (dn ++ [a]) s2 w st (by rw [List.append_assoc]; exact h2)
    | brk s2 => rw [e2] at w; exact w
    | ret e s2 => rw [e2] at w; exact w
    | err c x s2 => rw [e2] at w; exact w
    | bad => rw [e2] at w; exact w.elim
/-- for: I done rest state -/
theorem q_for {α : Type} {it : M (List D)} {g : Tg} {f : α → D} {as : List α} {ds : List D} {rest : SM} (I : List α → List α → St → Prop) (hi : it s = .ok ds s1) (hd : ds = as.map f) (h0 : I [] as s1)
    (st : ∀ (dn : List α) (x : α) (tl : List α) (s : St), I dn (x :: tl) s → ∃ s1, g (f x) s = some s1 ∧ ∀ T, TurnK (I (dn ++ [x]) tl) (fun s => WP (rest s) Q) Q T → WP (b s1) T)
    (h2 : ∀ s', I as [] s' → WP (rest s') Q) : WP (sSeq (sFor it g b) rest s) Q := by
  subst hd
  have h := loop_wp (Q := Q) (A := fun s => WP (rest s) Q) as [] s1 h0 (fun dn x tl s hI => by
    obtain ⟨s1, e1, w⟩ := st dn x tl s hI
    exact ⟨s1, e1, w _ (turnK _ _ _)⟩) h2
  unfold WP at *
  unfold sSeq sFor sE
  rw [hi]
  simp only []
  revert h
  cases loop g b (as.map f) s1 with
  | bad => exact fun h => h.elim
  | brk s2 => exact fun h => h.elim
  | cnt s2 => exact fun h => h.elim
  | nx s2 => exact id
  | ret e s2 => exact id
  | err c x s2 => exact id
/-- for over numbers from 0 on -/
theorem q_forR {it : M (List D)} {g : Tg} {f : Nat → D} {n : Nat} {ds : List D} {rest : SM} (I : Nat → St → Prop) (hi : it s = .ok ds s1) (hd : ds = (List.range n).map f) (h0 : I 0 s1)
    (st : ∀ (k : Nat) (s : St), k < n → I k s → ∃ s1, g (f k) s = some s1 ∧ ∀ T, TurnK (I (k + 1)) (fun s => WP (rest s) Q) Q T → WP (b s1) T)
    (h2 : ∀ s', I n s' → WP (rest s') Q) : WP (sSeq (sFor it g b) rest s) Q := by
  refine q_for (fun dn tl s => dn ++ tl = List.range n ∧ I dn.length s) hi hd ⟨rfl, h0⟩ ?_ ?_
  · rintro dn k tl s ⟨e, hI⟩
    have hk : k = dn.length := by
      have := congrArg (fun l => l[dn.length]?) e
      simp only [List.getElem?_append_right (Nat.le_refl _), Nat.sub_self, List.getElem?_cons_zero] at this
      obtain ⟨_, e⟩ := List.getElem?_eq_some_iff.mp this.symm
      rw [List.getElem_range] at e
      exact e.symm
    subst hk
    have hlt : dn.length < n := by
      have := congrArg List.length e
      simp at this
      omega
    obtain ⟨s1, e1, w⟩ := st dn.length s hlt hI
    exact ⟨s1, e1, fun T hT => w T ⟨fun s h => hT.nx s ⟨by rw [List.append_assoc]; exact e, by rw [List.length_append]; exact h⟩, fun s h => hT.cnt s ⟨by rw [List.append_assoc]; exact e, by rw [List.length_append]; exact h⟩, hT.brk, hT.ret, hT.err⟩⟩
  · rintro s' ⟨e, hI⟩
    rw [List.length_range] at hI
    exact h2 s' hI
/-- while: I (a bound of the turns) state -/
theorem while_wp {c : M Bool} {I : Nat → St → Prop} {A : St → Prop} : ∀ (n fuel : Nat) (s : St), n < fuel → I n s →
    (∀ (n : Nat) (s : St), I n s → ∃ (r : Bool) (s1 : St), c s = .ok r s1 ∧ (r = false → A s1) ∧ (r = true → WP (b s1) (Turn (fun s2 => ∃ m, m < n ∧ I m s2) A Q))) → WP (whileN c b fuel s) (After A Q)
  | n, 0, s, h, _, _ => absurd h (Nat.not_lt_zero n)
  | n, fuel + 1, s, h, hI, st => by
    obtain ⟨r, s1, e1, w0, w1⟩ := st n s hI
    unfold WP whileN
    rw [e1]
    cases r with
    | false => exact w0 rfl
    | true =>
      have w := w1 rfl
      unfold WP at w
      simp only []
      cases e2 : b s1 with
      | nx s2 =>
        rw [e2] at w
        obtain ⟨m, hm, w⟩ := w
        exact while_wp m fuel s2 (by omega) w st
      | cnt s2 =>
        rw [e2] at w
        obtain ⟨m, hm, w⟩ := w
        exact while_wp m fuel s2 (by omega) w st
      | brk s2 => rw [e2] at w; exact w
      | ret e s2 => rw [e2] at w; exact w
      | err c x s2 => rw [e2] at w; exact w
      | bad => rw [e2] at w; exact w.elim
theorem q_while {c : M Bool} {rest : SM} (I : Nat → St → Prop) (n : Nat) (hn : n < 1000000000) (h0 : I n s)
    (st : ∀ (n : Nat) (s : St), I n s → ∃ (r : Bool) (s1 : St), c s = .ok r s1 ∧ (r = false → WP (rest s1) Q) ∧ (r = true → ∀ T, TurnK (fun s2 => ∃ m, m < n ∧ I m s2) (fun s => WP (rest s) Q) Q T → WP (b s1) T)) : WP (sSeq (sWhile c b) rest s) Q := by
  have h := while_wp (Q := Q) (A := fun s => WP (rest s) Q) n fuelN s hn h0 fun n s hI => by
    obtain ⟨r, s1, e1, w0, w1⟩ := st n s hI
    exact ⟨r, s1, e1, w0, fun hr => w1 hr _ (turnK _ _ _)⟩
  unfold WP at *
  unfold sSeq sWhile
  revert h
  cases whileN c b fuelN s with
  | bad => exact fun h => h.elim
  | brk s2 => exact fun h => h.elim
  | cnt s2 => exact fun h => h.elim
  | nx s2 => exact id
  | ret e s2 => exact id
  | err c x s2 => exact id
theorem q_last (h : WP (sSeq a sNil s) Q) : WP (a s) Q := by
  unfold WP sSeq sNil at *
  revert h
  cases a s <;> exact id
theorem q_ifSeq {c : M Bool} {a1 a2 : SM} {r : Bool} (h : c s = .ok r s1) (h2 : WP (sSeq (sIfK r a1 a2) b s1) Q) : WP (sSeq (sIf c a1 a2) b s) Q := by
  unfold WP sSeq sIf sE at *
  rw [h]
  revert h2
  cases r <;> exact id
theorem q_ifcS {a1 a2 : SM} {P : Prop} [Decidable P] (h1 : P → WP (sSeq a1 b s) Q) (h2 : ¬P → WP (sSeq a2 b s) Q) : WP (sSeq (sIfK (decide P) a1 a2) b s) Q := by
  by_cases h : P
  · rw [decide_eq_true h]; exact h1 h
  · rw [decide_eq_false h]; exact h2 h
theorem q_iftS {a1 a2 : SM} {r : Bool} (h : r = true) (h2 : WP (sSeq a1 b s) Q) : WP (sSeq (sIfK r a1 a2) b s) Q := by subst h; exact h2
theorem q_iffS {a1 a2 : SM} {r : Bool} (h : r = false) (h2 : WP (sSeq a2 b s) Q) : WP (sSeq (sIfK r a1 a2) b s) Q := by subst h; exact h2
theorem q_ifbS {a1 a2 : SM} {r : Bool} (h1 : r = true → WP (sSeq a1 b s) Q) (h2 : r = false → WP (sSeq a2 b s) Q) : WP (sSeq (sIfK r a1 a2) b s) Q := by
  cases r
  · exact h2 rfl
  · exact h1 rfl
theorem q_assoc {c : SM} (h : WP (sSeq a (sSeq b c) s) Q) : WP (sSeq (sSeq a b) c s) Q := by
  unfold WP sSeq at *
  revert h
  cases a s <;> exact id
theorem q_retS (h : A s = .ok x s1) (h2 : Q (.ret x s1)) : WP (sSeq (sRet A) b s) Q := by
  unfold WP sSeq sRet sE
  rw [h]
  exact h2
theorem q_retNS (h2 : Q (.ret (.val .none) s)) : WP (sSeq sRetN b s) Q := h2
theorem q_brkS (h2 : Q (.brk s)) : WP (sSeq sBrk b s) Q := h2
theorem q_cntS (h2 : Q (.cnt s)) : WP (sSeq sCnt b s) Q := h2
theorem q_raiseS {c : String} (h : A s = .ok x s1) (hz : freeze x s1 = .ok d s2) (h2 : Q (.err c d s2)) : WP (sSeq (sRaise c A) b s) Q := by
  unfold WP sSeq
  rw [q_raise' h hz]
  exact h2
theorem q_nilS (h : WP (b s) Q) : WP (sSeq sNil b s) Q := h
/-! comprehensions -/
theorem wipe_pl : ∀ (own : List Nat) (s : St), (wipeS s own).pl = s.pl
  | [], s => rfl
  | i :: is, s => (wipe_pl is _).trans rfl
theorem wipe_get : ∀ (own : List Nat) (s : St) (j : Nat), (wipeS s own).sl[j]? = if j ∈ own then (s.sl[j]?).map (fun _ => none) else s.sl[j]?
  | [], s, j => by simp [wipeS]
  | i :: is, s, j => by
    show (wipeS (setSl s i none) is).sl[j]? = _
    rw [wipe_get is]
    have e : (setSl s i none).sl[j]? = if i = j then (s.sl[j]?).map (fun _ => none) else s.sl[j]? := by
      show (s.sl.set i none)[j]? = _
      rw [List.getElem?_set]
      by_cases h : i = j
      · subst h
        rw [if_pos rfl, if_pos rfl]
        by_cases h2 : i < s.sl.length
        · rw [if_pos h2, List.getElem?_eq_getElem h2]
          rfl
        · rw [if_neg h2, List.getElem?_eq_none (l := s.sl) (by omega)]
          rfl
      · rw [if_neg h, if_neg h]
    rw [e]
    by_cases h1 : i = j
    · subst h1
      by_cases h2 : i ∈ is
      · rw [if_pos h2, if_pos (List.mem_cons_self ..), if_pos rfl]
        cases s.sl[i]? <;> rfl
      · rw [if_neg h2, if_pos (List.mem_cons_self ..), if_pos rfl]
    · by_cases h2 : j ∈ is
      · rw [if_pos h2, if_neg h1, if_pos (List.mem_cons_of_mem _ h2)]
      · rw [if_neg h2, if_neg h1, if_neg (fun q => by
          rcases List.mem_cons.mp q with q | q
          · exact h1 q.symm
          · exact h2 q)]
theorem keep_pl (s0 : St) : ∀ (own : List Nat) (s : St), (keepS s0 own s).pl = s.pl
  | [], s => rfl
  | i :: is, s => by
    unfold keepS
    split <;> exact (keep_pl s0 is _).trans rfl
def keepV : Option (Option Sl) → Option Sl
  | some (some (.val d)) => some (.val d)
  | _ => none
theorem keep_get (s0 : St) : ∀ (own : List Nat) (s : St) (j : Nat), (keepS s0 own s).sl[j]? = if j ∈ own then (s.sl[j]?).map (fun _ => keepV s0.sl[j]?) else s.sl[j]?
  | [], s, j => by simp [keepS]
  | i :: is, s, j => by
    have hk : keepS s0 (i :: is) s = keepS s0 is (setSl s i (keepV s0.sl[i]?)) := by
      conv => lhs; unfold keepS
      cases s0.sl[i]? with
      | none => rfl
      | some x =>
        cases x with
        | none => rfl
        | some y => cases y <;> rfl
    rw [hk, keep_get s0 is]
    have e : (setSl s i (keepV s0.sl[i]?)).sl[j]? = if i = j then (s.sl[j]?).map (fun _ => keepV s0.sl[j]?) else s.sl[j]? := by
      show (s.sl.set i _)[j]? = _
      rw [List.getElem?_set]
      by_cases h : i = j
      · subst h
        rw [if_pos rfl, if_pos rfl]
        by_cases h2 : i < s.sl.length
        · rw [if_pos h2, List.getElem?_eq_getElem h2]
          rfl
        · rw [if_neg h2, List.getElem?_eq_none (l := s.sl) (by omega)]
          rfl
      · rw [if_neg h, if_neg h]
    rw [e]
    by_cases h1 : i = j
    · subst h1
      by_cases h2 : i ∈ is
      · rw [if_pos h2, if_pos (List.mem_cons_self ..), if_pos rfl]
        cases s.sl[i]? <;> rfl
      · rw [if_neg h2, if_pos (List.mem_cons_self ..), if_pos rfl]
    · by_cases h2 : j ∈ is
      · rw [if_pos h2, if_neg h1, if_pos (List.mem_cons_of_mem _ h2)]
      · rw [if_neg h2, if_neg h1, if_neg (fun q => by
          rcases List.mem_cons.mp q with q | q
          · exact h1 q.symm
          · exact h2 q)]
theorem keep_eq {own : List Nat} {s t : St} (h : wipeS t own = wipeS s own) (hk : ∀ j ∈ own, (s.sl[j]?).map (fun _ => keepV s.sl[j]?) = s.sl[j]?) : keepS s own t = s := by
  have hp : (keepS s own t).pl = s.pl := by
    rw [keep_pl]
    have := congrArg St.pl h
    rwa [wipe_pl, wipe_pl] at this
  have hs : (keepS s own t).sl = s.sl := by
    apply List.ext_getElem?
    intro j
    rw [keep_get]
    have g : (wipeS t own).sl[j]? = (wipeS s own).sl[j]? := by rw [h]
    rw [wipe_get, wipe_get] at g
    by_cases hj : j ∈ own
    · rw [if_pos hj, if_pos hj] at g
      rw [if_pos hj]
      have e := hk j hj
      revert g e
      cases t.sl[j]? <;> cases s.sl[j]? <;> intro g e
      · rfl
      · cases g
      · cases g
      · exact e
    · rw [if_neg hj, if_neg hj] at g
      rw [if_neg hj]
      exact g
  cases hh : keepS s own t with
  | mk a b =>
    rw [hh] at hp hs
    cases s
    cases hp
    cases hs
    rfl
def KeepOk (sl : List (Option Sl)) : List Nat → Prop
  | [] => True
  | j :: js => (sl[j]?).map (fun _ => keepV sl[j]?) = sl[j]? ∧ KeepOk sl js
theorem keepOk_all {sl : List (Option Sl)} : ∀ {own : List Nat}, KeepOk sl own → ∀ j ∈ own, (sl[j]?).map (fun _ => keepV sl[j]?) = sl[j]?
  | [], _, j, hj => nomatch hj
  | i :: is, h, j, hj => by
    rcases List.mem_cons.mp hj with rfl | hj
    · exact h.1
    · exact keepOk_all h.2 j hj
/-- a comprehension without draws: its own slots alone change -/
theorem v_lc {α : Type} {own : List Nat} {it : M (List D)} {g : Tg} {c : M Bool} {e : M Ev} {f : α → D} (k : α → Bool) (v : α → D) {as : List α} {s0 : St} (hi : it s = .ok ds s1) (hd : ds = as.map f) (h0 : wipeS s1 own = s0)
    (hk : KeepOk s1.sl own) (hl : as.length ≤ 1000000)
    (st : ∀ a ∈ as, ∃ t1, g (f a) s0 = some t1 ∧ ∃ r t2, c t1 = .ok r t2 ∧ r = k a ∧ (k a = false → wipeS t2 own = s0) ∧ (k a = true → ∃ x t3, e t2 = .ok x t3 ∧ ∃ d t4, freeze x t3 = .ok d t4 ∧ d = v a ∧ wipeS t4 own = s0)) : eLC own it g c e s = .ok (.fresh ((as.filter k).map v)) s1 := by
  subst hd
  have go : ∀ (as : List α) (acc : List D) (t : St), wipeS t own = s0 → acc.length + as.length ≤ 1000000 →
      (∀ a ∈ as, ∃ t1, g (f a) s0 = some t1 ∧ ∃ r t2, c t1 = .ok r t2 ∧ r = k a ∧ (k a = false → wipeS t2 own = s0) ∧ (k a = true → ∃ x t3, e t2 = .ok x t3 ∧ ∃ d t4, freeze x t3 = .ok d t4 ∧ d = v a ∧ wipeS t4 own = s0)) →
      ∃ t', lcGo own g c e (as.map f) acc t = .ok (acc ++ (as.filter k).map v) t' ∧ wipeS t' own = s0 := by
    intro as
    induction as with
    | nil => exact fun acc t ht _ _ => ⟨t, by simp [lcGo], ht⟩
    | cons a as ih =>
      intro acc t ht hl st
      obtain ⟨t1, g1, r, t2, c2, rfl, k0, k1⟩ := st a (List.mem_cons_self ..)
      have hl : acc.length + (as.length + 1) ≤ 1000000 := hl
      rw [List.map_cons]
      unfold lcGo
      rw [ht]
      simp only [g1, c2]
      cases hka : k a with
      | false =>
        obtain ⟨t', e1, e2⟩ := ih acc t2 (k0 hka) (by omega) fun b hb => st b (List.mem_cons_of_mem _ hb)
        refine ⟨t', ?_, e2⟩
        rw [List.filter_cons_of_neg (by rw [hka]; decide)]
        exact e1
      | true =>
        obtain ⟨x, t3, x3, d4, t4, z4, rfl, w4⟩ := k1 hka
        obtain ⟨t', e1, e2⟩ := ih (acc ++ [v a]) t4 w4 (by rw [List.length_append]; simp; omega) fun b hb => st b (List.mem_cons_of_mem _ hb)
        refine ⟨t', ?_, e2⟩
        rw [List.filter_cons_of_pos hka]
        simp only []
        rw [mBind_ok x3]
        simp only [z4]
        rw [if_pos (by unfold lineN; omega), e1, List.map_cons, List.append_assoc]
        rfl
  obtain ⟨t', e1, e2⟩ := go as [] s1 h0 (by simpa using hl) st
  unfold eLC
  rw [mBind_ok hi]
  simp only [e1]
  rw [keep_eq (by rw [e2, h0]) (keepOk_all hk)]
  rfl
/-- the same without a test -/
theorem v_lcm {α : Type} {own : List Nat} {it : M (List D)} {g : Tg} {e : M Ev} {f : α → D} (v : α → D) {as : List α} {s0 : St} (hi : it s = .ok ds s1) (hd : ds = as.map f) (h0 : wipeS s1 own = s0)
    (hk : KeepOk s1.sl own) (hl : as.length ≤ 1000000)
    (st : ∀ a ∈ as, ∃ t1, g (f a) s0 = some t1 ∧ ∃ x t3, e t1 = .ok x t3 ∧ ∃ d t4, freeze x t3 = .ok d t4 ∧ d = v a ∧ wipeS t4 own = s0) : eLC own it g (mRet true) e s = .ok (.fresh (as.map v)) s1 := by
  have h := v_lc (c := mRet true) (e := e) (g := g) (k := fun _ => true) (v := v) hi hd h0 hk hl fun a ha => by
    obtain ⟨t1, g1, x, t3, x3, d, t4, z4, w, w4⟩ := st a ha
    exact ⟨t1, g1, true, t1, rfl, rfl, (fun z => nomatch z), fun _ => ⟨x, t3, x3, d, t4, z4, w, w4⟩⟩
  rwa [List.filter_eq_self.mpr fun _ _ => rfl] at h
theorem v_lrng {n : Nat} (h : A s = .ok (.val d) s1) (hd : d = .int (n : Int)) (b : n < 1000000) : eLrng A s = .ok (.fresh ((List.range n).map fun k : Nat => .int (k : Int))) s1 := by
  subst hd
  have e : intsN 0 n = (List.range n).map fun k : Nat => .int (k : Int) := by
    have := intsN_rng 0 n
    simpa using this
  have c1 : -boundN ≤ (n : Int) := by unfold boundN; omega
  have c2 : (n : Int) < boundN := by unfold boundN; omega
  unfold eLrng
  rw [mBind_ok h]
  dsimp only
  rw [if_pos ⟨c1, c2, by omega⟩, Int.toNat_natCast, e]
  rfl
theorem toIs_map : ∀ l : List Int, toIs (l.map .int) = some l
  | [] => rfl
  | i :: l => by
    rw [List.map_cons]
    unfold toIs
    rw [toIs_map l]
    rfl
theorem o_sortset {l : List Int} (h : l.length < 4000) (h2 : (sortD l).length < 64) : oSortSet (.list (l.map .int)) = some (.fresh ((sortD l).map .int)) := by
  unfold oSortSet
  simp only [toIs_map]
  rw [if_pos ⟨h, h2⟩]
/-! slices, methods, any, the pool's cells -/
theorem po_n (s : St) : pOf none s = .ok none s := rfl
theorem po_s {k : Int} {d : D} (h : A s = .ok (.val d) s1) (hd : d = .int k) : pOf (some A) s = .ok (some k) s1 := by
  subst hd
  unfold pOf
  dsimp only
  rw [mBind_ok h]
  rfl
theorem v_sl {lo hi : Option (M Ev)} {l k : Option Int} (hA : A s = .ok x s1) (hl : pOf lo s1 = .ok l s2) (hh : pOf hi s2 = .ok k s3) (lx : look s3 x = some d) (hf : oSl l k d = some r) : eSl A lo hi s = .ok r s3 := by
  unfold eSl
  rw [mBind_ok hA, mBind_ok hl, mBind_ok hh]
  simp only [lx, hf]
theorem cut_to (xs : List D) (k : Nat) : cutN xs none (some (k : Int)) = xs.take k := by
  unfold cutN
  rw [HT.sIx_nat, HT.sIx_none]
  simp only [List.drop_zero, Nat.sub_zero]
  by_cases h : k ≤ xs.length
  · rw [Nat.min_eq_left h]
  · rw [Nat.min_eq_right (by omega), List.take_of_length_le (Nat.le_refl _), List.take_of_length_le (by omega)]
theorem cut_from (xs : List D) (k : Nat) : cutN xs (some (k : Int)) none = xs.drop k := by
  unfold cutN
  rw [HT.sIx_nat, HT.sIx_none]
  by_cases h : k ≤ xs.length
  · rw [Nat.min_eq_left h]
    exact List.take_of_length_le (by rw [List.length_drop]; omega)
  · rw [Nat.min_eq_right (by omega), Nat.sub_self, List.take_zero, List.drop_eq_nil_of_le (by omega)]
theorem cut_all (xs : List D) : cutN xs none none = xs := by
  unfold cutN
  rw [HT.sIx_none, HT.sIx_none]
  simp
theorem cut_mid (xs : List D) (a b : Nat) (hb : b ≤ xs.length) : cutN xs (some (a : Int)) (some (b : Int)) = (xs.drop a).take (b - a) := by
  unfold cutN
  rw [HT.sIx_nat, HT.sIx_nat, Nat.min_eq_left hb]
  by_cases h : a ≤ xs.length
  · rw [Nat.min_eq_left h]
  · rw [Nat.min_eq_right (by omega), List.drop_eq_nil_of_le (Nat.le_refl _), List.drop_eq_nil_of_le (by omega)]
    simp
theorem v_lm {f : D → List D → Option Ev} {e : D} {xs0 : List D} (hA : A s = .ok x s1) (l0 : look s1 x = some (.list xs0)) (hB : B s1 = .ok y s2) (lx : look s2 x = some d) (ly : look s2 (settle y) = some e) (hf : f d [e] = some r) : eLm f A [B] s = .ok r s2 := by
  unfold eLm
  rw [mBind_ok hA]
  simp only [l0, evs, mBind, hB, mRet, looks, lx, ly, hf]
theorem v_any {f : St → D → Option Bool} {bs : List Bool} (h : A s = .ok x s1) (hz : freeze x s1 = .ok d s2) (hd : d = .list ds) (hb : bools (f s2) ds = some bs) : eAny f A s = .ok (.val (.bool (bs.any id))) s2 := by
  subst hd
  unfold eAny
  rw [mBind_ok h, mBind_ok hz]
  simp only [hb]
theorem bools_map {α : Type} {f : D → Option Bool} {g : α → D} {q : α → Bool} : ∀ as : List α, (∀ a ∈ as, f (g a) = some (q a)) → bools f (as.map g) = some (as.map q)
  | [], _ => rfl
  | a :: as, h => by
    rw [List.map_cons]
    unfold bools
    rw [h a (List.mem_cons_self ..), bools_map as fun b hb => h b (List.mem_cons_of_mem _ hb)]
    rfl
theorem v_p0 {a b : Int} {l : List Int} (h : sl[i]? = some (some .pool)) : eP0 i ⟨sl, some (a, b, l)⟩ = .ok (.val (.int a)) ⟨sl, some (a, b, l)⟩ := by
  unfold eP0 poolAt
  simp only [h]
  rfl
/-! operators on numbers -/
theorem o_ltN (a c : Nat) : oLt (.int a) (.int c) = some (.val (.bool (decide (a < c)))) := by
  show some (Ev.val (PyData.bool (decide ((a : Int) < c)))) = _
  rw [show decide ((a : Int) < c) = decide (a < c) from decide_eq_decide.mpr Int.ofNat_lt]
theorem o_leN (a c : Nat) : oLe (.int a) (.int c) = some (.val (.bool (decide (a ≤ c)))) := by
  show some (Ev.val (PyData.bool (decide ((a : Int) ≤ c)))) = _
  rw [show decide ((a : Int) ≤ c) = decide (a ≤ c) from decide_eq_decide.mpr Int.ofNat_le]
theorem o_leN_t {a c : Int} (h : a ≤ c) : oLe (.int a) (.int c) = some (.val (.bool true)) := by
  show some (Ev.val (PyData.bool (decide (a ≤ c)))) = _
  rw [decide_eq_true h]
theorem o_gtN (a c : Nat) : oGt (.int a) (.int c) = some (.val (.bool (decide (c < a)))) := by
  show some (Ev.val (PyData.bool (decide ((c : Int) < a)))) = _
  rw [show decide ((c : Int) < a) = decide (c < a) from decide_eq_decide.mpr Int.ofNat_lt]
theorem o_geN (a c : Nat) : oGe (.int a) (.int c) = some (.val (.bool (decide (c ≤ a)))) := by
  show some (Ev.val (PyData.bool (decide ((c : Int) ≤ a)))) = _
  rw [show decide ((c : Int) ≤ a) = decide (c ≤ a) from decide_eq_decide.mpr Int.ofNat_le]

theorem e_int (i j : Int) : PyData.eqv (.int i) (.int j) = decide (i = j) := by
  simp only [PyData.eqv]
  rfl
theorem o_eqI (i j : Int) : oEq (.int i) (.int j) = some (.val (.bool (decide (i = j)))) := by
  have h : (shal (.int i) && shal (.int j)) = true := rfl
  unfold oEq
  rw [if_pos h, e_int]
theorem o_neI (i j : Int) : oNe (.int i) (.int j) = some (.val (.bool (!decide (i = j)))) := by
  have h : (shal (.int i) && shal (.int j)) = true := rfl
  unfold oNe
  rw [if_pos h, e_int]
theorem o_eqB (i j : Bool) : oEq (.bool i) (.bool j) = some (.val (.bool (i == j))) := by
  have h : (shal (.bool i) && shal (.bool j)) = true := rfl
  unfold oEq
  rw [if_pos h]
  cases i <;> cases j <;> rfl
theorem o_neB (i j : Bool) : oNe (.bool i) (.bool j) = some (.val (.bool (i != j))) := by
  have h : (shal (.bool i) && shal (.bool j)) = true := rfl
  unfold oNe
  rw [if_pos h]
  cases i <;> cases j <;> rfl
theorem o_isN (d : D) : oIsB d .none = some (.val (.bool (isNone d))) := by cases d <;> rfl
theorem o_isntN (d : D) : oIsNotB d .none = some (.val (.bool (!isNone d))) := by cases d <;> rfl
theorem o_isN_n : oIsB .none .none = some (.val (.bool true)) := rfl
theorem o_isN_i (i : Int) : oIsB (.int i) .none = some (.val (.bool false)) := rfl
theorem o_isN_t (l : List D) : oIsB (.tuple l) .none = some (.val (.bool false)) := rfl
theorem o_isN_l (l : List D) : oIsB (.list l) .none = some (.val (.bool false)) := rfl
theorem o_isN_b (b : Bool) : oIsB (.bool b) .none = some (.val (.bool false)) := rfl
theorem o_isN_s (b : PySem.Str) : oIsB (.str b) .none = some (.val (.bool false)) := rfl
theorem o_inN_n : oIsNotB .none .none = some (.val (.bool false)) := rfl
theorem o_inN_i (i : Int) : oIsNotB (.int i) .none = some (.val (.bool true)) := rfl
theorem o_inN_t (l : List D) : oIsNotB (.tuple l) .none = some (.val (.bool true)) := rfl
theorem o_inN_l (l : List D) : oIsNotB (.list l) .none = some (.val (.bool true)) := rfl
theorem o_inN_b (b : Bool) : oIsNotB (.bool b) .none = some (.val (.bool true)) := rfl
theorem o_inN_s (b : PySem.Str) : oIsNotB (.str b) .none = some (.val (.bool true)) := rfl
/-! a def -/
theorem fn_wp {np nn : Nat} {as : List Sl} {R : FOut → Prop} (hl : as.length = np) (hs : as.map some ++ List.replicate (nn - np) none = sl) (h : WP (b ⟨sl, p⟩) fun o => R (endOf o)) : R (mkFn np nn b as p) := by
  subst hs
  unfold mkFn
  rw [if_pos hl]
  exact h
theorem fn_eq {np nn : Nat} {as : List Sl} {r : FOut} (hl : as.length = np) (hs : as.map some ++ List.replicate (nn - np) none = sl) (h : WP (b ⟨sl, p⟩) fun o => endOf o = r) : mkFn np nn b as p = r := fn_wp (R := fun x => x = r) hl hs h
end
theorem keepS_sl (s0 s0' : St) (h : s0.sl = s0'.sl) : ∀ (own : List Nat) (s : St), keepS s0 own s = keepS s0' own s
  | [], s => rfl
  | i :: is, s => by
    unfold keepS
    rw [h]
    split
    · exact keepS_sl s0 s0' h is _
    · exact keepS_sl s0 s0' h is _
/-- a comprehension whose turns draw from the pool -/
theorem v_lcP {α β : Type} {own : List Nat} {it : M (List D)} {g : Tg} {e : M Ev} {f : α → D} {ds : List D} {s : St} (v : α → β → D) (Y : β → Prop) (P : Option Pl → Prop) {as : List α} {sl sl0 : List (Option Sl)} {p : Option Pl} (hi : it s = .ok ds ⟨sl, p⟩) (hd : ds = as.map f) (h0 : ∀ q, wipeS ⟨sl, q⟩ own = ⟨sl0, q⟩)
    (hk : KeepOk sl own) (hl : as.length ≤ 1000000) (hp : P p)
    (st : ∀ a ∈ as, ∀ q, P q → ∃ t1, g (f a) ⟨sl0, q⟩ = some t1 ∧ ∃ x t3, e t1 = .ok x t3 ∧ ∃ d t4, freeze x t3 = .ok d t4 ∧ ∃ y, Y y ∧ d = v a y ∧ ∃ q', P q' ∧ wipeS t4 own = ⟨sl0, q'⟩) :
    ∃ (bs : List β) (q : Option Pl), P q ∧ bs.length = as.length ∧ (∀ y ∈ bs, Y y) ∧ eLC own it g (mRet true) e s = .ok (.fresh ((as.zip bs).map fun ab => v ab.1 ab.2)) ⟨sl, q⟩ := by
  subst hd
  have go : ∀ (as : List α) (acc : List D) (t : St) (q : Option Pl), P q → wipeS t own = ⟨sl0, q⟩ → acc.length + as.length ≤ 1000000 →
      (∀ a ∈ as, ∀ q, P q → ∃ t1, g (f a) ⟨sl0, q⟩ = some t1 ∧ ∃ x t3, e t1 = .ok x t3 ∧ ∃ d t4, freeze x t3 = .ok d t4 ∧ ∃ y, Y y ∧ d = v a y ∧ ∃ q', P q' ∧ wipeS t4 own = ⟨sl0, q'⟩) →
      ∃ (bs : List β) (q' : Option Pl) (t' : St), P q' ∧ bs.length = as.length ∧ (∀ y ∈ bs, Y y) ∧ lcGo own g (mRet true) e (as.map f) acc t = .ok (acc ++ (as.zip bs).map fun ab => v ab.1 ab.2) t' ∧ wipeS t' own = ⟨sl0, q'⟩ := by
    intro as
    induction as with
    | nil => exact fun acc t q hq ht _ _ => ⟨[], q, t, hq, rfl, fun y hy => (nomatch hy), by simp [lcGo], ht⟩
    | cons a as ih =>
      intro acc t q hq ht hl st
      obtain ⟨t1, g1, x, t3, x3, d4, t4, z4, y, hy, rfl, q', hq', w4⟩ := st a (List.mem_cons_self ..) q hq
      have hl : acc.length + (as.length + 1) ≤ 1000000 := hl
      rw [List.map_cons]
      obtain ⟨bs, q2, t', h1, h2, h3, h4, h5⟩ := ih (acc ++ [v a y]) t4 q' hq' w4 (by rw [List.length_append]; simp; omega) fun b hb => st b (List.mem_cons_of_mem _ hb)
      refine ⟨y :: bs, q2, t', h1, by rw [List.length_cons, List.length_cons, h2], fun z hz => ?_, ?_, h5⟩
      · rcases List.mem_cons.mp hz with rfl | hz
        · exact hy
        · exact h3 z hz
      · unfold lcGo
        rw [ht]
        simp only [g1, mRet]
        rw [mBind_ok x3]
        simp only [z4]
        rw [if_pos (by unfold lineN; omega), h4, List.zip_cons_cons, List.map_cons, List.append_assoc]
        rfl
  obtain ⟨bs, q, t', h1, h2, h3, h4, h5⟩ := go as [] ⟨sl, p⟩ p hp (h0 p) (by simpa using hl) st
  refine ⟨bs, q, h1, h2, h3, ?_⟩
  unfold eLC
  rw [mBind_ok hi]
  simp only [h4]
  rw [keepS_sl ⟨sl, p⟩ ⟨sl, q⟩ rfl, keep_eq (by rw [h5, h0]) (keepOk_all hk)]
  rfl
/-! dicts -/
section
variable {K E : M Ev} {s s1 s2 s3 : St} {x : Ev} {d e : D} {i : Nat} {j : Int} {kvs kvs0 kvs' : List (D × D)} {sl sl' : List (Option Sl)} {p : Option Pl}
theorem v_d1 (hk : K s = .ok (.val (.int j)) s1) (he : E s1 = .ok x s2) (hz : freeze x s2 = .ok d s3) : eD1 K E s = .ok (.obj (.dct [(.int j, d)])) s3 := by
  unfold eD1
  rw [mBind_ok hk, mBind_ok he, mBind_ok hz]
  rfl
theorem v_dget (h0 : dOf s i = some kvs0) (hk : K s = .ok (.val (.int j)) s1) (h1 : dOf s1 i = some kvs) (hv : dAt kvs j = some d) : eDGet i K s = .ok (.val d) s1 := by
  unfold eDGet hasD
  simp only [h0]
  rw [mBind_ok hk]
  simp only [h1, intEv, hv]
theorem v_din {r : Bool} (hk : K s = .ok (.val (.int j)) s1) (h1 : dOf s1 i = some kvs) (hv : (dAt kvs j).isSome = r) : eDIn false K i s = .ok (.val (.bool r)) s1 := by
  unfold eDIn
  rw [mBind_ok hk]
  simp only [h1, intEv, hv]
  rfl
theorem v_dnin {r : Bool} (hk : K s = .ok (.val (.int j)) s1) (h1 : dOf s1 i = some kvs) (hv : (dAt kvs j).isSome = r) : eDIn true K i s = .ok (.val (.bool (!r))) s1 := by
  unfold eDIn
  rw [mBind_ok hk]
  simp only [h1, intEv, hv]
  rfl
theorem v_dgetd (h0 : dOf s i = some kvs0) (hk : K s = .ok (.val (.int j)) s1) (he : E s1 = .ok x s2) (hz : freeze x s2 = .ok d s3) (h1 : dOf s3 i = some kvs) (hv : (dAt kvs j).getD d = e) : eDGetD i K E s = .ok (.val e) s3 := by
  unfold eDGetD hasD
  simp only [h0]
  rw [mBind_ok hk, mBind_ok he, mBind_ok hz]
  simp only [h1, intEv, hv]
theorem v_dlen {n : Nat} (h : sl[i]? = some (some (.obj (.dct kvs)))) (hl : kvs.length = n) : eDLen i ⟨sl, p⟩ = .ok (.val (.int n)) ⟨sl, p⟩ := by
  unfold eDLen
  simp only [h, hl]
theorem q_dput (he : E s = .ok x s1) (hz : freeze x s1 = .ok d s2) (h0 : dOf s2 i = some kvs0) (hk : K s2 = .ok (.val (.int j)) ⟨sl, p⟩) (h1 : sl[i]? = some (some (.obj (.dct kvs)))) (hl : kvs.length < lineN) (hp : dPut kvs j d = kvs') (hs : sl.set i (some (.obj (.dct kvs'))) = sl') : sDPutN i K E s = .nx ⟨sl', p⟩ := by
  subst hp hs
  unfold sDPutN sE hasD
  simp only [he, hz, sE, h0, hk, h1, intEv, hl, if_true]
  rfl
theorem w1_o (b : Ob) (s : St) : own1 (.obj b) s = .ok (.obj b) s := rfl
theorem pt_o {is : List Nat} {es : List Ev} {b : Ob} {o : SOut} (hi : i < sl.length) (hs : sl.set i (some (.obj b)) = sl') (h2 : putEvs is es ⟨sl', p⟩ = o) : putEvs (i :: is) (.obj b :: es) ⟨sl, p⟩ = o := by
  subst hs
  show sSeq (putEv i (.obj b)) (putEvs is es) ⟨sl, p⟩ = o
  unfold sSeq putEv
  simp only [hi, if_true]
  exact h2
theorem st_o {b : Ob} (hi : i < sl.length) (hs : sl.set i (some (.obj b)) = sl') : store i (.obj b) ⟨sl, p⟩ = .nx ⟨sl', p⟩ := by
  subst hs
  show (if i < sl.length then _ else _) = _
  rw [if_pos hi]
  rfl
theorem q_forD {g : Tg} {b rest : SM} {Q : SOut → Prop} {f : Nat → D} {n : Nat} (I : Nat → St → Prop) (h0 : sl[i]? = some (some (.obj (.dct kvs)))) (hd : kvs.map (·.1) = (List.range n).map f) (hI : I 0 ⟨sl.set i (some (.ro kvs)), p⟩)
    (st : ∀ (k : Nat) (s : St), k < n → I k s → ∃ s1, g (f k) s = some s1 ∧ ∃ s2, b s1 = .nx s2 ∧ I (k + 1) s2) (h2 : ∀ s', I n s' → WP (rest (offRo s')) Q) : WP (sSeq (sForD i g b) rest ⟨sl, p⟩) Q := by
  have go : ∀ (m k : Nat) (s : St), k + m = n → I k s → ∃ s', loop g b ((List.range' k m).map f) s = .nx s' ∧ I n s' := by
    intro m
    induction m with
    | zero => exact fun k s e h => ⟨s, rfl, by rw [← e]; exact h⟩
    | succ m ih =>
      intro k s e h
      obtain ⟨s1, g1, s2, b2, h3⟩ := st k s (by omega) h
      obtain ⟨s', e1, e2⟩ := ih (k + 1) s2 (by omega) h3
      refine ⟨s', ?_, e2⟩
      rw [List.range'_succ, List.map_cons]
      unfold loop
      simp only [g1, b2]
      exact e1
  obtain ⟨s', e1, e2⟩ := go n 0 _ (by omega) hI
  have e3 : sForD i g b ⟨sl, p⟩ = .nx (offRo s') := by
    unfold sForD
    simp only [h0]
    rw [hd, List.range_eq_range']
    show offOut (loop g b _ ⟨sl.set i (some (.ro kvs)), p⟩) = _
    rw [e1]
    rfl
  unfold WP sSeq
  rw [e3]
  exact h2 _ e2
end
end N4.V
end
section
set_option Elab.async false
set_option linter.all false
set_option autoImplicit false
set_option maxRecDepth 100000
set_option maxHeartbeats 4000000
namespace K02
open PySem PySem.Spec PyProof.Rows N4
local macro_rules | `(tactic| fold_lay) => `(tactic| first | (simp only [List.set_cons_succ, List.set_cons_zero]; done) | (simp only [List.set_cons_succ, List.set_cons_zero]; exact rfl) | exact rfl)
local macro_rules | `(tactic| pre_facts) => `(tactic| first | exact Nat.le_of_ble_eq_true rfl | with_reducible assumption | omega | (simp; done) | (simp; omega) | (unfold lineN; omega) | (simp [lineN]; omega))
local macro_rules | `(tactic| units_room) => `(tactic| first | with_reducible rfl | with_reducible assumption | (simp only [Bool.not_true, Bool.not_false, Bool.and_true, Bool.true_and, Bool.and_false, Bool.false_and, Bool.or_true, Bool.true_or, Bool.or_false, Bool.false_or, bne_self_eq_false, isaB, isaInt, isaBool, isaTuple, isaList, isaStr]; done) | (with_reducible apply decide_eq_true; omega) | (with_reducible apply decide_eq_false; omega) | (with_reducible apply decide_eq_true; with_reducible assumption) | (with_reducible apply decide_eq_false; with_reducible assumption) | (simp; done) | (simp; omega))
local macro_rules | `(tactic| got_up) => `(tactic| first | with_reducible assumption | with_reducible exact V.o_eqI _ _ | with_reducible exact V.o_neI _ _ | with_reducible exact V.o_eqB _ _ | with_reducible exact V.o_neB _ _ | with_reducible exact V.o_isN_n | with_reducible exact V.o_isN_i _ | with_reducible exact V.o_isN_t _ | with_reducible exact V.o_isN_l _ | with_reducible exact V.o_inN_n | with_reducible exact V.o_inN_i _ | with_reducible exact V.o_inN_t _ | with_reducible exact V.o_inN_l _ | with_reducible exact V.o_isN _ | with_reducible exact V.o_isntN _ | exact rfl)
local macro_rules | `(tactic| row_none_raised) => `(tactic| first | with_reducible assumption)
local macro_rules | `(tactic| pv_eval) => `(tactic| first
  | with_reducible assumption
  | with_reducible exact V.v_c _ _
  | ((with_reducible apply V.v_v); exact rfl)
  | ((with_reducible apply V.v_o); exact rfl)
  | ((with_reducible apply V.v_p); exact rfl)
  | ((with_reducible apply V.v_op); pv_eval; pv_eval; exact rfl; exact rfl; got_up)
  | ((with_reducible apply V.v_un); pv_eval; exact rfl; got_up)
  | ((with_reducible apply V.v_b1); pv_eval; exact rfl; got_up)
  | ((with_reducible apply V.v_b2); pv_eval; pv_eval; exact rfl; exact rfl; got_up)
  | ((with_reducible apply V.t_v); pv_eval)
  | ((with_reducible apply V.t_not); pv_eval)
  | ((with_reducible apply V.t_and); pv_eval; pv_eval)
  | ((with_reducible apply V.t_or); pv_eval; pv_eval)
  | ((with_reducible apply V.ak_f); units_room)
  | ((with_reducible apply V.ak_t); units_room; pv_eval)
  | ((with_reducible apply V.ak_g); pv_eval)
  | ((with_reducible apply V.ok_t); units_room)
  | ((with_reducible apply V.ok_f); units_room; pv_eval)
  | ((with_reducible apply V.ok_g); pv_eval)
  | ((with_reducible apply V.v_if); pv_eval; pv_eval)
  | ((with_reducible apply V.ik_t); units_room; pv_eval)
  | ((with_reducible apply V.ik_f); units_room; pv_eval)
  | ((with_reducible apply V.v_not); pv_eval)
  | ((with_reducible apply V.v_and); pv_eval; pv_eval)
  | ((with_reducible apply V.v_or); pv_eval; pv_eval)
  | ((with_reducible apply V.vk_f); units_room)
  | ((with_reducible apply V.vk_t); units_room; pv_eval)
  | ((with_reducible apply V.vk_g); pv_eval)
  | ((with_reducible apply V.vo_t); units_room)
  | ((with_reducible apply V.vo_f); units_room; pv_eval)
  | ((with_reducible apply V.vo_g); pv_eval)
  | with_reducible exact V.a_nil _
  | ((with_reducible apply V.a_cons); pv_eval; pv_eval; pv_eval)
  | with_reducible exact V.ao_v _ _
  | with_reducible exact V.ao_f _ _
  | with_reducible exact V.ao_p _
  | ((with_reducible apply V.ao_s); exact rfl; fold_lay)
  | with_reducible exact V.f_nil _
  | ((with_reducible apply V.f_cons); pv_eval; pv_eval; pv_eval)
  | with_reducible exact V.z_v _ _
  | with_reducible exact V.z_f _ _
  | ((with_reducible apply V.z_s); exact rfl; fold_lay)
  | with_reducible exact V.r_nil _
  | ((with_reducible apply V.r_cons); pv_eval; pv_eval; pv_eval)
  | with_reducible exact V.w1_v _ _
  | with_reducible exact V.w1_f _ _
  | with_reducible exact V.w1_o _ _
  | ((with_reducible apply V.w1_s); exact rfl; fold_lay)
  | ((with_reducible apply V.v_tup); pv_eval; pre_facts)
  | ((with_reducible apply V.v_lst); pv_eval; pre_facts)
  | ((with_reducible apply V.v_call); pv_eval; row_none_raised)
  | ((with_reducible apply V.w_tup); pv_eval; exact rfl)
  | ((with_reducible apply V.w_lst); pv_eval; exact rfl)
  | ((with_reducible apply V.w_fr); pv_eval)
  | ((with_reducible apply V.w_sl); pv_eval; exact rfl; fold_lay)
  | ((with_reducible apply V.w_enum); pv_eval)
  | ((with_reducible apply V.w_zip); pv_eval; pv_eval)
  | ((with_reducible apply V.w_rng); pv_eval; exact rfl; pre_facts)
  | ((with_reducible apply V.w_rng2); pv_eval; pv_eval; exact rfl; exact rfl; pre_facts; pre_facts)
  | ((with_reducible apply V.v_lrng); pv_eval; exact rfl; pre_facts)
  | with_reducible exact V.po_n _
  | ((with_reducible apply V.po_s); pv_eval; exact rfl)
  | ((with_reducible apply V.v_sl); pv_eval; pv_eval; pv_eval; exact rfl; got_up)
  | ((with_reducible apply V.v_lm); pv_eval; exact rfl; pv_eval; exact rfl; exact rfl; got_up)
  | ((with_reducible apply V.v_p0); exact rfl)
  | ((with_reducible apply V.v_pop); exact rfl; exact rfl; got_up; fold_lay)
  | ((with_reducible apply V.q_set); pv_eval; pv_eval)
  | ((with_reducible apply V.st_v); pre_facts; fold_lay)
  | ((with_reducible apply V.st_f); pre_facts; fold_lay)
  | ((with_reducible apply V.st_s); exact rfl; fold_lay; pre_facts; fold_lay)
  | ((with_reducible apply V.st_o); pre_facts; fold_lay)
  | ((with_reducible apply V.pt_o); pre_facts; fold_lay; pv_eval)
  | ((with_reducible apply V.v_d1); pv_eval; pv_eval; pv_eval)
  | ((with_reducible apply V.v_dget); exact rfl; pv_eval; exact rfl; got_up)
  | ((with_reducible apply V.v_din); pv_eval; exact rfl; got_up)
  | ((with_reducible apply V.v_dnin); pv_eval; exact rfl; got_up)
  | ((with_reducible apply V.v_dgetd); exact rfl; pv_eval; pv_eval; pv_eval; exact rfl; got_up)
  | ((with_reducible apply V.v_dlen); exact rfl; got_up)
  | ((with_reducible apply V.q_dput); pv_eval; pv_eval; exact rfl; pv_eval; exact rfl; pre_facts; got_up; fold_lay)
  | ((with_reducible apply V.q_expr); pv_eval)
  | ((with_reducible apply V.q_pars); pv_eval; exact rfl; pv_eval)
  | with_reducible exact V.pt_nil _
  | ((with_reducible apply V.pt_v); pre_facts; fold_lay; pv_eval)
  | ((with_reducible apply V.pt_f); pre_facts; fold_lay; pv_eval)
  | ((with_reducible apply V.q_app); exact rfl; pv_eval; pv_eval; exact rfl; pre_facts; fold_lay)
  | ((with_reducible apply V.q_ext); exact rfl; pv_eval; pv_eval; exact rfl; pre_facts; fold_lay)
  | ((with_reducible apply V.q_put); pv_eval; pv_eval; exact rfl; pv_eval; exact rfl; exact rfl; got_up; fold_lay)
  | ((with_reducible apply V.q_tgt); pv_eval; pv_eval; pv_eval)
  | ((with_reducible apply V.tg_n); pre_facts; fold_lay)
  | ((with_reducible apply V.tg_t); exact rfl; pv_eval)
  | ((with_reducible apply V.tg_l); exact rfl; pv_eval)
  | with_reducible exact V.ga_nil _
  | ((with_reducible apply V.ga_cons); pv_eval; pv_eval))
local macro_rules | `(tactic| fin_run) => `(tactic| first
  | ((with_reducible apply V.q_retS); pv_eval)
  | (with_reducible apply V.q_retNS)
  | (with_reducible apply V.q_brkS)
  | (with_reducible apply V.q_cntS)
  | ((with_reducible apply V.q_raiseS); pv_eval; pv_eval)
  | ((with_reducible apply V.q_iftS); units_room)
  | ((with_reducible apply V.q_iffS); units_room)
  | ((with_reducible apply V.q_ift); units_room)
  | ((with_reducible apply V.q_iff); units_room)
  | ((with_reducible apply V.q_one); pv_eval)
  | (with_reducible apply V.q_nilS)
  | (with_reducible apply V.q_assoc)
  | ((with_reducible apply V.q_ifSeq); pv_eval)
  | ((with_reducible apply V.q_if); pv_eval)
  | ((with_reducible apply V.q_ret); pv_eval)
  | (with_reducible apply V.q_retN)
  | ((with_reducible apply V.q_raise); pv_eval; pv_eval)
  | (with_reducible apply V.q_nil)
  | (with_reducible apply V.q_brk)
  | (with_reducible apply V.q_cnt)
  | ((with_reducible apply V.q_eq); pv_eval)
  | exact rfl)
local macro_rules | `(tactic| fold_depth) => `(tactic| first | (simp only [List.map_cons, List.map_nil, List.cons_append, List.nil_append, Nat.reduceSub, List.reduceReplicate, List.append_nil]; exact rfl) | exact rfl)
local macro_rules | `(tactic| top_args) => `(tactic| (pv_eval; exact rfl; (simp only [N4.wipeS, N4.setSl, List.set_cons_succ, List.set_cons_zero]; exact rfl); (repeat' (first | exact trivial | refine And.intro rfl ?_)); (first | pre_facts | skip)))
local macro_rules | `(tactic| reads_via) => `(tactic| (apply Eq.trans; pv_eval; exact rfl))
theorem ix_bk0 {b : Bk} {k : Nat} (h : k < b.length) : oIx (bkD b) (.int k) = some (.val (stD (stOf b k))) := by
  show (match N4.ixN (b.map stD).length k with | some j => ((b.map stD)[j]?).map Ev.val | none => none) = _
  rw [ixN_nat (by rw [len_bk]; exact h)]
  show ((b.map stD)[k]?).map Ev.val = _
  rw [at_bk h]
  rfl
theorem bk_range (b : Bk) : b.map stD = (List.range b.length).map fun k => stD (stOf b k) := by
  refine List.ext_getElem? fun i => ?_
  rcases Nat.lt_or_ge i b.length with h | h
  · rw [at_bk h, List.getElem?_map, List.getElem?_range h]
    rfl
  · rw [List.getElem?_eq_none (by rw [List.length_map]; exact h), List.getElem?_eq_none (by rw [List.length_map, List.length_range]; exact h)]
theorem zipIdx_range {α : Type} (d : α) (R : List α) : R.zipIdx 0 = (List.range R.length).map fun k => (R.getD k d, k) := by
  apply List.ext_getElem
  · simp
  · intro i h1 h2
    simp at h1
    simp [h1]
theorem ev3 {e : M Ev} {t1 t3 t4 s0 : N4.St} {own : List Nat} {x : Ev} {d v : PyData} (h : e t1 = .ok x t3) (hf : freeze x t3 = .ok d t4) (hd : d = v) (hw : wipeS t4 own = s0) : ∃ x t3, e t1 = .ok x t3 ∧ ∃ d t4, freeze x t3 = .ok d t4 ∧ d = v ∧ wipeS t4 own = s0 := ⟨_, _, h, _, _, hf, hd, hw⟩
theorem met_eq {b : Bk} (h : OkBk b) : bfs b (b.length + 1) 0 [0] = metOf b := bfs_stop b 1 b.length 0 [0] (by
  have := met_len (metOf_met h)
  unfold metOf at this
  omega)
theorem ints_app (F : List Nat) : intsD F = F.map fun k : Nat => (.int k : PyData) := rfl
/-- the book by the meeting of its states -/
def trim (b : Bk) : Bk := renum (metOf b) b
theorem trim_eq (b : Bk) : bkD (trim b) = .tuple ((metOf b).map fun s => stD ((stOf b s).map fun m => (m.1, (metOf b).idxOf m.2))) := by
  unfold trim renum bkD
  rw [List.map_map]
  rfl
theorem by_meeting_ok {b : Bk} (h : OkBk b) (p : Option Pl) : sem_by_meeting [.val (bkD b)] p = .ok (.val (bkD (trim b))) p := by
  have h8 := h.most
  have e1 := states_met_ok h p
  rw [met_eq h] at e1
  have hl := met_len (metOf_met h)
  unfold sem_by_meeting b_by_meeting
  refine V.fn_eq rfl (by fold_depth) ?_
  fin_run
  with_reducible apply V.q_ret
  · with_reducible apply V.v_b1
    · apply V.v_lcm (fun s : Nat => stD ((stOf b s).map fun m => (m.1, (metOf b).idxOf m.2))) (as := metOf b) (f := fun k : Nat => .int k)
      top_args
      intro s hs
      have hs' : s < b.length := (metOf_met h).lt s hs
      have e3 : oIx (bkD b) (.int (s : Nat)) = some (.val (.tuple ((stOf b s).map mvD))) := ix_bk0 hs'
      refine ⟨_, by pv_eval, ?_⟩
      with_reducible apply ev3
      · with_reducible apply V.v_b1
        · apply V.v_lcm (fun m : Nat × Nat => mvD (m.1, (metOf b).idxOf m.2)) (as := stOf b s) (f := mvD)
          top_args
          · have := st_len h s
            omega
          intro m hm
          have e4 := bIndex_ok (metOf_closed h s hs m hm)
          refine ⟨_, by pv_eval, _, _, by pv_eval, _, _, by pv_eval, ?_, ?_⟩ <;> exact rfl
        · exact rfl
        · exact rfl
      · pv_eval
      · show PyData.tuple _ = PyData.tuple _
        rw [List.map_map]
        rfl
      · exact rfl
    · exact rfl
    · exact rfl
  · rw [trim_eq]
    exact rfl
theorem trimmed_ok {b : Bk} (h : OkBk b) (p : Option Pl) : sem_trimmed [.val (bkD b)] p = .ok (.val (bkD (trim b))) p := by
  have e1 := check_forms_ok h p
  have e2 := by_meeting_ok h p
  unfold sem_trimmed b_trimmed
  refine V.fn_eq rfl (by fold_depth) ?_
  repeat fin_run
end K02
end
section
set_option Elab.async false
set_option linter.all false
set_option autoImplicit false
set_option maxRecDepth 100000
set_option maxHeartbeats 4000000
namespace K02
open PySem PySem.Spec PyProof.Rows N4
local macro_rules | `(tactic| fold_lay) => `(tactic| first | (simp only [List.set_cons_succ, List.set_cons_zero]; done) | (simp only [List.set_cons_succ, List.set_cons_zero]; exact rfl) | exact rfl)
local macro_rules | `(tactic| pre_facts) => `(tactic| first | exact Nat.le_of_ble_eq_true rfl | with_reducible assumption | omega | (simp; done) | (simp; omega) | (unfold lineN; omega) | (simp [lineN]; omega))
local macro_rules | `(tactic| units_room) => `(tactic| first | with_reducible rfl | with_reducible assumption | (simp only [Bool.not_true, Bool.not_false, Bool.and_true, Bool.true_and, Bool.and_false, Bool.false_and, Bool.or_true, Bool.true_or, Bool.or_false, Bool.false_or, bne_self_eq_false, isaB, isaInt, isaBool, isaTuple, isaList, isaStr]; done) | (with_reducible apply decide_eq_true; omega) | (with_reducible apply decide_eq_false; omega) | (with_reducible apply decide_eq_true; with_reducible assumption) | (with_reducible apply decide_eq_false; with_reducible assumption) | (simp; done) | (simp; omega))
local macro_rules | `(tactic| got_up) => `(tactic| first | with_reducible assumption | with_reducible exact V.o_eqI _ _ | with_reducible exact V.o_neI _ _ | with_reducible exact V.o_eqB _ _ | with_reducible exact V.o_neB _ _ | with_reducible exact V.o_isN_n | with_reducible exact V.o_isN_i _ | with_reducible exact V.o_isN_t _ | with_reducible exact V.o_isN_l _ | with_reducible exact V.o_inN_n | with_reducible exact V.o_inN_i _ | with_reducible exact V.o_inN_t _ | with_reducible exact V.o_inN_l _ | with_reducible exact V.o_isN _ | with_reducible exact V.o_isntN _ | exact rfl)
local macro_rules | `(tactic| row_none_raised) => `(tactic| first | with_reducible assumption)
local macro_rules | `(tactic| pv_eval) => `(tactic| first
  | with_reducible assumption
  | with_reducible exact V.v_c _ _
  | ((with_reducible apply V.v_v); exact rfl)
  | ((with_reducible apply V.v_o); exact rfl)
  | ((with_reducible apply V.v_p); exact rfl)
  | ((with_reducible apply V.v_op); pv_eval; pv_eval; exact rfl; exact rfl; got_up)
  | ((with_reducible apply V.v_un); pv_eval; exact rfl; got_up)
  | ((with_reducible apply V.v_b1); pv_eval; exact rfl; got_up)
  | ((with_reducible apply V.v_b2); pv_eval; pv_eval; exact rfl; exact rfl; got_up)
  | ((with_reducible apply V.t_v); pv_eval)
  | ((with_reducible apply V.t_not); pv_eval)
  | ((with_reducible apply V.t_and); pv_eval; pv_eval)
  | ((with_reducible apply V.t_or); pv_eval; pv_eval)
  | ((with_reducible apply V.ak_f); units_room)
  | ((with_reducible apply V.ak_t); units_room; pv_eval)
  | ((with_reducible apply V.ak_g); pv_eval)
  | ((with_reducible apply V.ok_t); units_room)
  | ((with_reducible apply V.ok_f); units_room; pv_eval)
  | ((with_reducible apply V.ok_g); pv_eval)
  | ((with_reducible apply V.v_if); pv_eval; pv_eval)
  | ((with_reducible apply V.ik_t); units_room; pv_eval)
  | ((with_reducible apply V.ik_f); units_room; pv_eval)
  | ((with_reducible apply V.v_not); pv_eval)
  | ((with_reducible apply V.v_and); pv_eval; pv_eval)
  | ((with_reducible apply V.v_or); pv_eval; pv_eval)
  | ((with_reducible apply V.vk_f); units_room)
  | ((with_reducible apply V.vk_t); units_room; pv_eval)
  | ((with_reducible apply V.vk_g); pv_eval)
  | ((with_reducible apply V.vo_t); units_room)
  | ((with_reducible apply V.vo_f); units_room; pv_eval)
  | ((with_reducible apply V.vo_g); pv_eval)
  | with_reducible exact V.a_nil _
  | ((with_reducible apply V.a_cons); pv_eval; pv_eval; pv_eval)
  | with_reducible exact V.ao_v _ _
  | with_reducible exact V.ao_f _ _
  | with_reducible exact V.ao_p _
  | ((with_reducible apply V.ao_s); exact rfl; fold_lay)
  | with_reducible exact V.f_nil _
  | ((with_reducible apply V.f_cons); pv_eval; pv_eval; pv_eval)
  | with_reducible exact V.z_v _ _
  | with_reducible exact V.z_f _ _
  | ((with_reducible apply V.z_s); exact rfl; fold_lay)
  | with_reducible exact V.r_nil _
  | ((with_reducible apply V.r_cons); pv_eval; pv_eval; pv_eval)
  | with_reducible exact V.w1_v _ _
  | with_reducible exact V.w1_f _ _
  | with_reducible exact V.w1_o _ _
  | ((with_reducible apply V.w1_s); exact rfl; fold_lay)
  | ((with_reducible apply V.v_tup); pv_eval; pre_facts)
  | ((with_reducible apply V.v_lst); pv_eval; pre_facts)
  | ((with_reducible apply V.v_call); pv_eval; row_none_raised)
  | ((with_reducible apply V.w_tup); pv_eval; exact rfl)
  | ((with_reducible apply V.w_lst); pv_eval; exact rfl)
  | ((with_reducible apply V.w_fr); pv_eval)
  | ((with_reducible apply V.w_sl); pv_eval; exact rfl; fold_lay)
  | ((with_reducible apply V.w_enum); pv_eval)
  | ((with_reducible apply V.w_zip); pv_eval; pv_eval)
  | ((with_reducible apply V.w_rng); pv_eval; exact rfl; pre_facts)
  | ((with_reducible apply V.w_rng2); pv_eval; pv_eval; exact rfl; exact rfl; pre_facts; pre_facts)
  | ((with_reducible apply V.v_lrng); pv_eval; exact rfl; pre_facts)
  | with_reducible exact V.po_n _
  | ((with_reducible apply V.po_s); pv_eval; exact rfl)
  | ((with_reducible apply V.v_sl); pv_eval; pv_eval; pv_eval; exact rfl; got_up)
  | ((with_reducible apply V.v_lm); pv_eval; exact rfl; pv_eval; exact rfl; exact rfl; got_up)
  | ((with_reducible apply V.v_p0); exact rfl)
  | ((with_reducible apply V.v_pop); exact rfl; exact rfl; got_up; fold_lay)
  | ((with_reducible apply V.q_set); pv_eval; pv_eval)
  | ((with_reducible apply V.st_v); pre_facts; fold_lay)
  | ((with_reducible apply V.st_f); pre_facts; fold_lay)
  | ((with_reducible apply V.st_s); exact rfl; fold_lay; pre_facts; fold_lay)
  | ((with_reducible apply V.st_o); pre_facts; fold_lay)
  | ((with_reducible apply V.pt_o); pre_facts; fold_lay; pv_eval)
  | ((with_reducible apply V.v_d1); pv_eval; pv_eval; pv_eval)
  | ((with_reducible apply V.v_dget); exact rfl; pv_eval; exact rfl; got_up)
  | ((with_reducible apply V.v_din); pv_eval; exact rfl; got_up)
  | ((with_reducible apply V.v_dnin); pv_eval; exact rfl; got_up)
  | ((with_reducible apply V.v_dgetd); exact rfl; pv_eval; pv_eval; pv_eval; exact rfl; got_up)
  | ((with_reducible apply V.v_dlen); exact rfl; got_up)
  | ((with_reducible apply V.q_dput); pv_eval; pv_eval; exact rfl; pv_eval; exact rfl; pre_facts; got_up; fold_lay)
  | ((with_reducible apply V.q_expr); pv_eval)
  | ((with_reducible apply V.q_pars); pv_eval; exact rfl; pv_eval)
  | with_reducible exact V.pt_nil _
  | ((with_reducible apply V.pt_v); pre_facts; fold_lay; pv_eval)
  | ((with_reducible apply V.pt_f); pre_facts; fold_lay; pv_eval)
  | ((with_reducible apply V.q_app); exact rfl; pv_eval; pv_eval; exact rfl; pre_facts; fold_lay)
  | ((with_reducible apply V.q_ext); exact rfl; pv_eval; pv_eval; exact rfl; pre_facts; fold_lay)
  | ((with_reducible apply V.q_put); pv_eval; pv_eval; exact rfl; pv_eval; exact rfl; exact rfl; got_up; fold_lay)
  | ((with_reducible apply V.q_tgt); pv_eval; pv_eval; pv_eval)
  | ((with_reducible apply V.tg_n); pre_facts; fold_lay)
  | ((with_reducible apply V.tg_t); exact rfl; pv_eval)
  | ((with_reducible apply V.tg_l); exact rfl; pv_eval)
  | with_reducible exact V.ga_nil _
  | ((with_reducible apply V.ga_cons); pv_eval; pv_eval))
local macro_rules | `(tactic| fin_run) => `(tactic| first
  | ((with_reducible apply V.q_retS); pv_eval)
  | (with_reducible apply V.q_retNS)
  | (with_reducible apply V.q_brkS)
  | (with_reducible apply V.q_cntS)
  | ((with_reducible apply V.q_raiseS); pv_eval; pv_eval)
  | ((with_reducible apply V.q_iftS); units_room)
  | ((with_reducible apply V.q_iffS); units_room)
  | ((with_reducible apply V.q_ift); units_room)
  | ((with_reducible apply V.q_iff); units_room)
  | ((with_reducible apply V.q_one); pv_eval)
  | (with_reducible apply V.q_nilS)
  | (with_reducible apply V.q_assoc)
  | ((with_reducible apply V.q_ifSeq); pv_eval)
  | ((with_reducible apply V.q_if); pv_eval)
  | ((with_reducible apply V.q_ret); pv_eval)
  | (with_reducible apply V.q_retN)
  | ((with_reducible apply V.q_raise); pv_eval; pv_eval)
  | (with_reducible apply V.q_nil)
  | (with_reducible apply V.q_brk)
  | (with_reducible apply V.q_cnt)
  | ((with_reducible apply V.q_eq); pv_eval)
  | exact rfl)
local macro_rules | `(tactic| fold_depth) => `(tactic| first | (simp only [List.map_cons, List.map_nil, List.cons_append, List.nil_append, Nat.reduceSub, List.reduceReplicate, List.append_nil]; exact rfl) | exact rfl)
local macro_rules | `(tactic| top_args) => `(tactic| (pv_eval; exact rfl; (simp only [N4.wipeS, N4.setSl, List.set_cons_succ, List.set_cons_zero]; exact rfl); (repeat' (first | exact trivial | refine And.intro rfl ?_)); (first | pre_facts | skip)))
local macro_rules | `(tactic| reads_via) => `(tactic| (apply Eq.trans; pv_eval; exact rfl))
/-! the rows of states as a dict of names -/
def dkv : Nat → List Nat → List (PyData × PyData)
  | _, [] => []
  | k, t :: F => (.int (t : Nat), .int (k : Nat)) :: dkv (k + 1) F
theorem isK_nat (t u : Nat) : isK (t : Nat) (.int (u : Nat)) = decide (u = t) := by
  show decide ((u : Int) = (t : Int)) = _
  exact decide_eq_decide.mpr (by omega)
theorem dkv_at : ∀ (F : List Nat) (k t : Nat), dAt (dkv k F) (t : Nat) = if t ∈ F then some (.int (k + F.idxOf t : Nat)) else none
  | [], k, t => rfl
  | u :: F, k, t => by
    unfold dkv dAt
    by_cases e : u = t
    · subst e
      rw [List.find?_cons_of_pos (by rw [isK_nat]; simp)]
      simp
    · rw [List.find?_cons_of_neg (by rw [isK_nat]; simp [e])]
      have ih := dkv_at F (k + 1) t
      unfold dAt at ih
      rw [ih, List.idxOf_cons, show (u == t) = false from by simp [e], cond_false]
      have e2 : ¬ t = u := fun z => e z.symm
      by_cases m : t ∈ F
      · rw [if_pos m, if_pos (List.mem_cons_of_mem _ m), show k + 1 + F.idxOf t = k + (F.idxOf t + 1) from by omega]
      · rw [if_neg m, if_neg (by simp [m, e2])]
theorem dkv_has (F : List Nat) (t : Nat) : (dAt (dkv 0 F) (t : Nat)).isSome = decide (t ∈ F) := by
  rw [dkv_at]
  by_cases m : t ∈ F
  · rw [if_pos m, decide_eq_true m]
    rfl
  · rw [if_neg m, decide_eq_false m]
    rfl
theorem dkv_get {F : List Nat} {t : Nat} (h : t ∈ F) : dAt (dkv 0 F) (t : Nat) = some (.int (F.idxOf t : Nat)) := by
  rw [dkv_at, if_pos h, Nat.zero_add]
theorem dkv_app : ∀ (F : List Nat) (k t : Nat), dkv k (F ++ [t]) = dkv k F ++ [(.int (t : Nat), .int (k + F.length : Nat))]
  | [], k, t => rfl
  | u :: F, k, t => by
    rw [List.cons_append]
    unfold dkv
    rw [dkv_app F (k + 1) t, List.cons_append, List.length_cons, show k + 1 + F.length = k + (F.length + 1) from by omega]
theorem dkv_len : ∀ (F : List Nat) (k : Nat), (dkv k F).length = F.length
  | [], _ => rfl
  | u :: F, k => by
    unfold dkv
    rw [List.length_cons, List.length_cons, dkv_len F (k + 1)]
theorem dkv_keys : ∀ (F : List Nat) (k : Nat), (dkv k F).map (·.1) = intsD F
  | [], _ => rfl
  | u :: F, k => by
    unfold dkv
    rw [List.map_cons, dkv_keys F (k + 1)]
    rfl
theorem dkv_put {F : List Nat} {t : Nat} (h : t ∉ F) : dPut (dkv 0 F) (t : Nat) (.int (F.length : Nat)) = dkv 0 (F ++ [t]) := by
  unfold dPut
  have e : ((dkv 0 F).any fun kv => isK (t : Nat) kv.1) = false := by
    rw [← Bool.not_eq_true, List.any_eq_true]
    rintro ⟨kv, m, hk⟩
    have m2 : kv.1 ∈ (dkv 0 F).map (·.1) := List.mem_map_of_mem m
    rw [dkv_keys] at m2
    obtain ⟨u, hu, e⟩ := List.mem_map.mp m2
    rw [← e, isK_nat] at hk
    exact h (of_decide_eq_true hk ▸ hu)
  rw [e, if_neg Bool.false_ne_true, dkv_app, Nat.zero_add]
/-! rows of states met -/
def vis (b : Bk) (F : List Nat) (L : List Nat) : List Nat := L.foldl (fun F s => visit F (stOf b s)) F
theorem vis_cons (b : Bk) (F : List Nat) (s : Nat) (L : List Nat) : vis b F (s :: L) = vis b (visit F (stOf b s)) L := rfl
theorem vis_snoc (b : Bk) (F : List Nat) (s : Nat) (L : List Nat) : vis b F (L ++ [s]) = visit (vis b F L) (stOf b s) := by
  unfold vis
  rw [List.foldl_append]
  rfl
theorem vis_pre (b : Bk) : ∀ (L F : List Nat), F <+: vis b F L
  | [], F => List.prefix_refl F
  | s :: L, F => (visit_pre _ F).trans (vis_pre b L _)
theorem vis_met {b : Bk} (h : OkBk b) : ∀ (L F : List Nat), Met b.length F → Met b.length (vis b F L)
  | [], F, hm => hm
  | s :: L, F, hm => vis_met h L _ (visit_met _ F hm (stOf_to h s)).1
theorem visit_snoc : ∀ (ms : List (Nat × Nat)) (F : List Nat) (m : Nat × Nat), visit F (ms ++ [m]) = if m.2 ∈ visit F ms then visit F ms else visit F ms ++ [m.2]
  | [], F, m => rfl
  | x :: ms, F, m => by
    rw [List.cons_append]
    unfold visit
    exact visit_snoc ms _ m
theorem bfs_vis (b : Bk) : ∀ (m i : Nat) (F : List Nat), i + m ≤ F.length → bfs b m i F = vis b F ((F.drop i).take m)
  | 0, i, F, _ => by
    rw [List.take_zero]
    rfl
  | m + 1, i, F, hl => by
    unfold bfs
    have hi : i < F.length := by omega
    have hp := visit_pre (stOf b (F.getD i 0)) F
    have hpl := hp.length_le
    rw [if_pos hi, bfs_vis b m (i + 1) _ (by omega), List.drop_eq_getElem_cons hi, List.take_succ_cons, vis_cons]
    have e1 : F.getD i 0 = F[i] := by simp [hi]
    rw [e1] at hp hpl ⊢
    obtain ⟨t, ht⟩ := hp
    rw [← ht, List.drop_append_of_le_length (by omega), List.take_append_of_le_length (by rw [List.length_drop]; omega)]
theorem bfs_step (b : Bk) (k : Nat) {i : Nat} {F : List Nat} (h : i < F.length) : bfs b (k + 1) i F = bfs b k (i + 1) (visit F (stOf b (F.getD i 0))) := if_pos h
theorem bfs_comp (b : Bk) : ∀ (k m i : Nat) (F : List Nat), bfs b (k + m) i F = bfs b m (i + k) (bfs b k i F)
  | 0, m, i, F => by
    rw [Nat.zero_add]
    rfl
  | k + 1, m, i, F => by
    by_cases e : i < F.length
    · rw [show k + 1 + m = (k + m) + 1 from by omega, bfs_step b (k + m) e, bfs_step b k e, bfs_comp b k m (i + 1) _, show i + 1 + k = i + (k + 1) from by omega]
    · rw [bfs_idle b _ i F (by omega), bfs_idle b (k + 1) i F (by omega), bfs_idle b m _ F (by omega)]
/-- a row of states: i of F are behind -/
structure Lv (b : Bk) (t i : Nat) (F : List Nat) : Prop where
  eq : F = bfs b i 0 [0]
  le : i ≤ F.length
  far : t ≤ i ∨ i = F.length
theorem lv_next {b : Bk} {t i : Nat} {F : List Nat} (h : Lv b t i F) : Lv b (t + 1) F.length (vis b F (F.drop i)) := by
  have e : vis b F (F.drop i) = bfs b F.length 0 [0] := by
    have e1 := bfs_vis b (F.length - i) i F (by have := h.le; omega)
    rw [List.take_of_length_le (by rw [List.length_drop]; exact Nat.le_refl _)] at e1
    rw [← e1]
    have e2 := bfs_comp b i (F.length - i) 0 [0]
    rw [← h.eq, Nat.zero_add] at e2
    rw [← e2, show i + (F.length - i) = F.length from by have := h.le; omega]
  refine ⟨e, (vis_pre b _ F).length_le, ?_⟩
  rcases Nat.lt_or_ge i F.length with hl | hl
  · rcases h.far with hf | hf
    · exact .inl (by omega)
    · omega
  · right
    have : F.drop i = [] := List.drop_eq_nil_of_le hl
    rw [this]
    rfl
theorem lv_end {b : Bk} (h : OkBk b) {i : Nat} {F : List Nat} (hL : Lv b b.length i F) (hm : Met b.length F) : F = metOf b := by
  have hl := met_len hm
  have hl2 := met_len (metOf_met h)
  unfold metOf at hl2 ⊢
  have hle := hL.le
  have he := hL.eq
  rcases hL.far with hf | hf
  · obtain ⟨m, rfl⟩ := Nat.le.dest hf
    rw [he, bfs_stop b m b.length 0 [0] (by omega)]
  · obtain ⟨m, e⟩ := Nat.le.dest (show i ≤ b.length from by omega)
    rw [← e, bfs_stop b m i 0 [0] (by rw [← he]; omega)]
    exact he
theorem lv_zero (b : Bk) : Lv b 0 0 [0] := ⟨rfl, Nat.zero_le _, .inl (Nat.le_refl 0)⟩
end K02
end
section
set_option Elab.async false
set_option linter.all false
set_option autoImplicit false
set_option maxRecDepth 100000
set_option maxHeartbeats 4000000
namespace K02
open PySem PySem.Spec PyProof.Rows N4
local macro_rules | `(tactic| fold_lay) => `(tactic| first | (simp only [List.set_cons_succ, List.set_cons_zero]; done) | (simp only [List.set_cons_succ, List.set_cons_zero]; exact rfl) | exact rfl)
local macro_rules | `(tactic| pre_facts) => `(tactic| first | exact Nat.le_of_ble_eq_true rfl | with_reducible assumption | omega | (simp; done) | (simp; omega) | (unfold lineN; omega) | (simp [lineN]; omega))
local macro_rules | `(tactic| units_room) => `(tactic| first | with_reducible rfl | with_reducible assumption | (simp only [Bool.not_true, Bool.not_false, Bool.and_true, Bool.true_and, Bool.and_false, Bool.false_and, Bool.or_true, Bool.true_or, Bool.or_false, Bool.false_or, bne_self_eq_false, isaB, isaInt, isaBool, isaTuple, isaList, isaStr]; done) | (with_reducible apply decide_eq_true; omega) | (with_reducible apply decide_eq_false; omega) | (with_reducible apply decide_eq_true; with_reducible assumption) | (with_reducible apply decide_eq_false; with_reducible assumption) | (simp; done) | (simp; omega))
local macro_rules | `(tactic| got_up) => `(tactic| first | with_reducible assumption | with_reducible exact V.o_eqI _ _ | with_reducible exact V.o_neI _ _ | with_reducible exact V.o_eqB _ _ | with_reducible exact V.o_neB _ _ | with_reducible exact V.o_isN_n | with_reducible exact V.o_isN_i _ | with_reducible exact V.o_isN_t _ | with_reducible exact V.o_isN_l _ | with_reducible exact V.o_inN_n | with_reducible exact V.o_inN_i _ | with_reducible exact V.o_inN_t _ | with_reducible exact V.o_inN_l _ | with_reducible exact V.o_isN _ | with_reducible exact V.o_isntN _ | exact rfl)
local macro_rules | `(tactic| row_none_raised) => `(tactic| first | with_reducible assumption)
local macro_rules | `(tactic| pv_eval) => `(tactic| first
  | with_reducible assumption
  | with_reducible exact V.v_c _ _
  | ((with_reducible apply V.v_v); exact rfl)
  | ((with_reducible apply V.v_o); exact rfl)
  | ((with_reducible apply V.v_p); exact rfl)
  | ((with_reducible apply V.v_op); pv_eval; pv_eval; exact rfl; exact rfl; got_up)
  | ((with_reducible apply V.v_un); pv_eval; exact rfl; got_up)
  | ((with_reducible apply V.v_b1); pv_eval; exact rfl; got_up)
  | ((with_reducible apply V.v_b2); pv_eval; pv_eval; exact rfl; exact rfl; got_up)
  | ((with_reducible apply V.t_v); pv_eval)
  | ((with_reducible apply V.t_not); pv_eval)
  | ((with_reducible apply V.t_and); pv_eval; pv_eval)
  | ((with_reducible apply V.t_or); pv_eval; pv_eval)
  | ((with_reducible apply V.ak_f); units_room)
  | ((with_reducible apply V.ak_t); units_room; pv_eval)
  | ((with_reducible apply V.ak_g); pv_eval)
  | ((with_reducible apply V.ok_t); units_room)
  | ((with_reducible apply V.ok_f); units_room; pv_eval)
  | ((with_reducible apply V.ok_g); pv_eval)
  | ((with_reducible apply V.v_if); pv_eval; pv_eval)
  | ((with_reducible apply V.ik_t); units_room; pv_eval)
  | ((with_reducible apply V.ik_f); units_room; pv_eval)
  | ((with_reducible apply V.v_not); pv_eval)
  | ((with_reducible apply V.v_and); pv_eval; pv_eval)
  | ((with_reducible apply V.v_or); pv_eval; pv_eval)
  | ((with_reducible apply V.vk_f); units_room)
  | ((with_reducible apply V.vk_t); units_room; pv_eval)
  | ((with_reducible apply V.vk_g); pv_eval)
  | ((with_reducible apply V.vo_t); units_room)
  | ((with_reducible apply V.vo_f); units_room; pv_eval)
  | ((with_reducible apply V.vo_g); pv_eval)
  | with_reducible exact V.a_nil _
  | ((with_reducible apply V.a_cons); pv_eval; pv_eval; pv_eval)
  | with_reducible exact V.ao_v _ _
  | with_reducible exact V.ao_f _ _
  | with_reducible exact V.ao_p _
  | ((with_reducible apply V.ao_s); exact rfl; fold_lay)
  | with_reducible exact V.f_nil _
  | ((with_reducible apply V.f_cons); pv_eval; pv_eval; pv_eval)
  | with_reducible exact V.z_v _ _
  | with_reducible exact V.z_f _ _
  | ((with_reducible apply V.z_s); exact rfl; fold_lay)
  | with_reducible exact V.r_nil _
  | ((with_reducible apply V.r_cons); pv_eval; pv_eval; pv_eval)
  | with_reducible exact V.w1_v _ _
  | with_reducible exact V.w1_f _ _
  | with_reducible exact V.w1_o _ _
  | ((with_reducible apply V.w1_s); exact rfl; fold_lay)
  | ((with_reducible apply V.v_tup); pv_eval; pre_facts)
  | ((with_reducible apply V.v_lst); pv_eval; pre_facts)
  | ((with_reducible apply V.v_call); pv_eval; row_none_raised)
  | ((with_reducible apply V.w_tup); pv_eval; exact rfl)
  | ((with_reducible apply V.w_lst); pv_eval; exact rfl)
  | ((with_reducible apply V.w_fr); pv_eval)
  | ((with_reducible apply V.w_sl); pv_eval; exact rfl; fold_lay)
  | ((with_reducible apply V.w_enum); pv_eval)
  | ((with_reducible apply V.w_zip); pv_eval; pv_eval)
  | ((with_reducible apply V.w_rng); pv_eval; exact rfl; pre_facts)
  | ((with_reducible apply V.w_rng2); pv_eval; pv_eval; exact rfl; exact rfl; pre_facts; pre_facts)
  | ((with_reducible apply V.v_lrng); pv_eval; exact rfl; pre_facts)
  | with_reducible exact V.po_n _
  | ((with_reducible apply V.po_s); pv_eval; exact rfl)
  | ((with_reducible apply V.v_sl); pv_eval; pv_eval; pv_eval; exact rfl; got_up)
  | ((with_reducible apply V.v_lm); pv_eval; exact rfl; pv_eval; exact rfl; exact rfl; got_up)
  | ((with_reducible apply V.v_p0); exact rfl)
  | ((with_reducible apply V.v_pop); exact rfl; exact rfl; got_up; fold_lay)
  | ((with_reducible apply V.q_set); pv_eval; pv_eval)
  | ((with_reducible apply V.st_v); pre_facts; fold_lay)
  | ((with_reducible apply V.st_f); pre_facts; fold_lay)
  | ((with_reducible apply V.st_s); exact rfl; fold_lay; pre_facts; fold_lay)
  | ((with_reducible apply V.st_o); pre_facts; fold_lay)
  | ((with_reducible apply V.pt_o); pre_facts; fold_lay; pv_eval)
  | ((with_reducible apply V.v_d1); pv_eval; pv_eval; pv_eval)
  | ((with_reducible apply V.v_dget); exact rfl; pv_eval; exact rfl; got_up)
  | ((with_reducible apply V.v_din); pv_eval; exact rfl; got_up)
  | ((with_reducible apply V.v_dnin); pv_eval; exact rfl; got_up)
  | ((with_reducible apply V.v_dgetd); exact rfl; pv_eval; pv_eval; pv_eval; exact rfl; got_up)
  | ((with_reducible apply V.v_dlen); exact rfl; got_up)
  | ((with_reducible apply V.q_dput); pv_eval; pv_eval; exact rfl; pv_eval; exact rfl; pre_facts; got_up; fold_lay)
  | ((with_reducible apply V.q_expr); pv_eval)
  | ((with_reducible apply V.q_pars); pv_eval; exact rfl; pv_eval)
  | with_reducible exact V.pt_nil _
  | ((with_reducible apply V.pt_v); pre_facts; fold_lay; pv_eval)
  | ((with_reducible apply V.pt_f); pre_facts; fold_lay; pv_eval)
  | ((with_reducible apply V.q_app); exact rfl; pv_eval; pv_eval; exact rfl; pre_facts; fold_lay)
  | ((with_reducible apply V.q_ext); exact rfl; pv_eval; pv_eval; exact rfl; pre_facts; fold_lay)
  | ((with_reducible apply V.q_put); pv_eval; pv_eval; exact rfl; pv_eval; exact rfl; exact rfl; got_up; fold_lay)
  | ((with_reducible apply V.q_tgt); pv_eval; pv_eval; pv_eval)
  | ((with_reducible apply V.tg_n); pre_facts; fold_lay)
  | ((with_reducible apply V.tg_t); exact rfl; pv_eval)
  | ((with_reducible apply V.tg_l); exact rfl; pv_eval)
  | with_reducible exact V.ga_nil _
  | ((with_reducible apply V.ga_cons); pv_eval; pv_eval))
local macro_rules | `(tactic| fin_run) => `(tactic| first
  | ((with_reducible apply V.q_retS); pv_eval)
  | (with_reducible apply V.q_retNS)
  | (with_reducible apply V.q_brkS)
  | (with_reducible apply V.q_cntS)
  | ((with_reducible apply V.q_raiseS); pv_eval; pv_eval)
  | ((with_reducible apply V.q_iftS); units_room)
  | ((with_reducible apply V.q_iffS); units_room)
  | ((with_reducible apply V.q_ift); units_room)
  | ((with_reducible apply V.q_iff); units_room)
  | ((with_reducible apply V.q_one); pv_eval)
  | (with_reducible apply V.q_nilS)
  | (with_reducible apply V.q_assoc)
  | ((with_reducible apply V.q_ifSeq); pv_eval)
  | ((with_reducible apply V.q_if); pv_eval)
  | ((with_reducible apply V.q_ret); pv_eval)
  | (with_reducible apply V.q_retN)
  | ((with_reducible apply V.q_raise); pv_eval; pv_eval)
  | (with_reducible apply V.q_nil)
  | (with_reducible apply V.q_brk)
  | (with_reducible apply V.q_cnt)
  | ((with_reducible apply V.q_eq); pv_eval)
  | exact rfl)
local macro_rules | `(tactic| fold_depth) => `(tactic| first | (simp only [List.map_cons, List.map_nil, List.cons_append, List.nil_append, Nat.reduceSub, List.reduceReplicate, List.append_nil]; exact rfl) | exact rfl)
local macro_rules | `(tactic| top_args) => `(tactic| (pv_eval; exact rfl; (simp only [N4.wipeS, N4.setSl, List.set_cons_succ, List.set_cons_zero]; exact rfl); (repeat' (first | exact trivial | refine And.intro rfl ?_)); (first | pre_facts | skip)))
local macro_rules | `(tactic| reads_via) => `(tactic| (apply Eq.trans; pv_eval; exact rfl))
theorem r1_ok (F A : List Nat) (t : Nat) (hF : F.length < lineN) (hA : A.length < lineN) (x0 x2 x3 x5 x6 x8 : Option Sl) (p : Option Pl) :
    b__law_by_rows_1 ⟨[x0, some (.obj (.dct (dkv 0 F))), x2, x3, some (.own (intsD A)), x5, x6, some (.val (.int (t : Nat))), x8], p⟩ =
    .nx ⟨[x0, some (.obj (.dct (dkv 0 (if t ∈ F then F else F ++ [t])))), x2, x3, some (.own (intsD (if t ∈ F then A else A ++ [t]))), x5, x6, some (.val (.int (t : Nat))), x8], p⟩ := by
  have hd := dkv_has F t
  have hk := dkv_len F 0
  have hk2 : (dkv 0 F).length < lineN := by rw [hk]; exact hF
  have hA2 : (intsD A).length < lineN := by rw [len_intsD]; exact hA
  unfold b__law_by_rows_1
  apply V.q_eq (Q := fun o => o = _) (h2 := rfl)
  by_cases m : t ∈ F
  · rw [decide_eq_true m] at hd
    rw [if_pos m, if_pos m]
    show V.WP _ (fun o => o = _)
    repeat fin_run
  · rw [decide_eq_false m] at hd
    rw [if_neg m, if_neg m, ← app_intsD]
    have hp := dkv_put m
    show V.WP _ (fun o => o = _)
    repeat fin_run
/-- a slot that a comprehension gives back as it was -/
def Vs (x : Option Sl) : Prop := V.keepV (some x) = x
theorem vs_none : Vs none := rfl
theorem vs_val (d : PyData) : Vs (some (.val d)) := rfl
theorem r2_ok {b : Bk} (h : OkBk b) {s : Nat} (hs : s < b.length) {F : List Nat} (hm : Met b.length F) {n : Nat} (hn : n ≤ F.length) (x2 x3 x6 x7 x8 : Option Sl) (p : Option Pl) (v6 : Vs x6) (v7 : Vs x7) :
    V.WP (b__law_by_rows_2 ⟨[some (.val (bkD b)), some (.obj (.dct (dkv 0 F))), x2, x3, some (.own (intsD (F.drop n))), some (.val (.int (s : Nat))), x6, x7, x8], p⟩) fun o => ∃ x6' x7', Vs x6' ∧ Vs x7' ∧ o =
    .nx ⟨[some (.val (bkD b)), some (.obj (.dct (dkv 0 (visit F (stOf b s))))), x2, x3, some (.own (intsD ((visit F (stOf b s)).drop n))), some (.val (.int (s : Nat))), x6', x7', x8], p⟩ := by
  have h8 := h.most
  have e3 : oIx (bkD b) (.int (s : Nat)) = some (.val (.tuple ((stOf b s).map mvD))) := ix_bk0 hs
  unfold b__law_by_rows_2
  with_reducible apply V.q_last
  apply V.q_for (as := stOf b s) (f := mvD) (fun dn tl σ => dn ++ tl = stOf b s ∧ ∃ x6 x7, Vs x6 ∧ Vs x7 ∧ σ = ⟨[some (.val (bkD b)), some (.obj (.dct (dkv 0 (visit F dn)))), x2, x3, some (.own (intsD ((visit F dn).drop n))), some (.val (.int (s : Nat))), x6, x7, x8], p⟩)
  · pv_eval
  · rfl
  · exact ⟨rfl, _, _, v6, v7, rfl⟩
  · rintro dn m tl σ ⟨e, x6, x7, _, _, rfl⟩
    refine ⟨_, by pv_eval, fun T hT => ?_⟩
    have hsub : ∀ m ∈ dn, m.2 < b.length := fun m hm => to_lt h s m (by rw [← e]; exact List.mem_append_left _ hm)
    have hme := (visit_met dn F hm hsub).1
    have hl := met_len hme
    have e1 := r1_ok (visit F dn) ((visit F dn).drop n) m.2 (by unfold lineN; omega) (by rw [List.length_drop]; unfold lineN; omega) (some (.val (bkD b))) x2 x3 (some (.val (.int (s : Nat)))) (some (.val (.int m.1))) x8 p
    refine V.q_eq e1 (hT.nx _ ⟨by rw [List.append_assoc]; exact e, some (.val (.int (m.1 : Nat))), some (.val (.int (m.2 : Nat))), vs_val _, vs_val _, ?_⟩)
    have hle := (visit_pre dn F).length_le
    rw [visit_snoc]
    by_cases q : m.2 ∈ visit F dn
    · rw [if_pos q, if_pos q]
    · rw [if_neg q, if_neg q, List.drop_append_of_le_length (by omega)]
  · rintro σ ⟨_, x6, x7, v6, v7, rfl⟩
    exact ⟨_, _, v6, v7, rfl⟩
theorem r3_ok {b : Bk} (h : OkBk b) {t i : Nat} {F : List Nat} (hm : Met b.length F) (x2 : Sl) (hx : x2 = .own (intsD (F.drop i)) ∨ x2 = .val (.list (intsD (F.drop i)))) (x3 x4 x5 x6 x7 x8 : Option Sl) (p : Option Pl) (v6 : Vs x6) (v7 : Vs x7) :
    V.WP (b__law_by_rows_3 ⟨[some (.val (bkD b)), some (.obj (.dct (dkv 0 F))), some x2, x3, x4, x5, x6, x7, x8], p⟩) fun o => ∃ x4' x5' x6' x7', Vs x6' ∧ Vs x7' ∧ o =
    .nx ⟨[some (.val (bkD b)), some (.obj (.dct (dkv 0 (vis b F (F.drop i))))), some (.val (.list (intsD ((vis b F (F.drop i)).drop F.length)))), x3, x4', x5', x6', x7', x8], p⟩ := by
  have h8 := h.most
  unfold b__law_by_rows_3
  have hit : N4.iSeq (eV 2) ⟨[some (.val (bkD b)), some (.obj (.dct (dkv 0 F))), some x2, x3, some (.own []), x5, x6, x7, x8], p⟩ = .ok (intsD (F.drop i)) ⟨[some (.val (bkD b)), some (.obj (.dct (dkv 0 F))), some (.val (.list (intsD (F.drop i)))), x3, some (.own []), x5, x6, x7, x8], p⟩ := by
    rcases hx with rfl | rfl
    · pv_eval
    · pv_eval
  fin_run
  apply V.q_for (as := F.drop i) (f := fun k : Nat => .int (k : Nat)) (fun dn tl σ => dn ++ tl = F.drop i ∧ ∃ x5 x6 x7, Vs x6 ∧ Vs x7 ∧ σ = ⟨[some (.val (bkD b)), some (.obj (.dct (dkv 0 (vis b F dn)))), some (.val (.list (intsD (F.drop i)))), x3, some (.own (intsD ((vis b F dn).drop F.length))), x5, x6, x7, x8], p⟩)
  · exact hit
  · rfl
  · refine ⟨rfl, x5, x6, x7, v6, v7, ?_⟩
    show _ = N4.St.mk [_, some (.obj (.dct (dkv 0 F))), _, _, some (.own (intsD (F.drop F.length))), _, _, _, _] p
    rw [List.drop_length]
    try exact rfl
  · rintro dn s tl σ ⟨e, x5, x6, x7, v6, v7, rfl⟩
    refine ⟨_, by pv_eval, fun T hT => ?_⟩
    have hs : s < b.length := hm.lt s (List.mem_of_mem_drop (by rw [← e]; simp))
    obtain ⟨x6', x7', w6, w7, e1⟩ := r2_ok h hs (vis_met h dn F hm) (vis_pre b dn F).length_le (some (.val (.list (intsD (F.drop i))))) x3 x6 x7 x8 p v6 v7
    refine V.q_eq e1 (hT.nx _ ⟨by rw [List.append_assoc]; exact e, some (.val (.int (s : Nat))), x6', x7', w6, w7, ?_⟩)
    rw [vis_snoc]
  · rintro σ ⟨_, x5, x6, x7, v6, v7, rfl⟩
    with_reducible apply V.q_eq
    · pv_eval
    · exact ⟨_, _, _, _, v6, v7, rfl⟩
end K02
end
section
set_option Elab.async false
set_option linter.all false
set_option autoImplicit false
set_option maxRecDepth 100000
set_option maxHeartbeats 4000000
namespace K02
open PySem PySem.Spec PyProof.Rows N4
local macro_rules | `(tactic| fold_lay) => `(tactic| first | (simp only [List.set_cons_succ, List.set_cons_zero]; done) | (simp only [List.set_cons_succ, List.set_cons_zero]; exact rfl) | exact rfl)
local macro_rules | `(tactic| pre_facts) => `(tactic| first | exact Nat.le_of_ble_eq_true rfl | with_reducible assumption | omega | (simp; done) | (simp; omega) | (unfold lineN; omega) | (simp [lineN]; omega))
local macro_rules | `(tactic| units_room) => `(tactic| first | with_reducible rfl | with_reducible assumption | (simp only [Bool.not_true, Bool.not_false, Bool.and_true, Bool.true_and, Bool.and_false, Bool.false_and, Bool.or_true, Bool.true_or, Bool.or_false, Bool.false_or, bne_self_eq_false, isaB, isaInt, isaBool, isaTuple, isaList, isaStr]; done) | (with_reducible apply decide_eq_true; omega) | (with_reducible apply decide_eq_false; omega) | (with_reducible apply decide_eq_true; with_reducible assumption) | (with_reducible apply decide_eq_false; with_reducible assumption) | (simp; done) | (simp; omega))
local macro_rules | `(tactic| got_up) => `(tactic| first | with_reducible assumption | with_reducible exact V.o_eqI _ _ | with_reducible exact V.o_neI _ _ | with_reducible exact V.o_eqB _ _ | with_reducible exact V.o_neB _ _ | with_reducible exact V.o_isN_n | with_reducible exact V.o_isN_i _ | with_reducible exact V.o_isN_t _ | with_reducible exact V.o_isN_l _ | with_reducible exact V.o_inN_n | with_reducible exact V.o_inN_i _ | with_reducible exact V.o_inN_t _ | with_reducible exact V.o_inN_l _ | with_reducible exact V.o_isN _ | with_reducible exact V.o_isntN _ | exact rfl)
local macro_rules | `(tactic| row_none_raised) => `(tactic| first | with_reducible assumption)
local macro_rules | `(tactic| pv_eval) => `(tactic| first
  | with_reducible assumption
  | with_reducible exact V.v_c _ _
  | ((with_reducible apply V.v_v); exact rfl)
  | ((with_reducible apply V.v_o); exact rfl)
  | ((with_reducible apply V.v_p); exact rfl)
  | ((with_reducible apply V.v_op); pv_eval; pv_eval; exact rfl; exact rfl; got_up)
  | ((with_reducible apply V.v_un); pv_eval; exact rfl; got_up)
  | ((with_reducible apply V.v_b1); pv_eval; exact rfl; got_up)
  | ((with_reducible apply V.v_b2); pv_eval; pv_eval; exact rfl; exact rfl; got_up)
  | ((with_reducible apply V.t_v); pv_eval)
  | ((with_reducible apply V.t_not); pv_eval)
  | ((with_reducible apply V.t_and); pv_eval; pv_eval)
  | ((with_reducible apply V.t_or); pv_eval; pv_eval)
  | ((with_reducible apply V.ak_f); units_room)
  | ((with_reducible apply V.ak_t); units_room; pv_eval)
  | ((with_reducible apply V.ak_g); pv_eval)
  | ((with_reducible apply V.ok_t); units_room)
  | ((with_reducible apply V.ok_f); units_room; pv_eval)
  | ((with_reducible apply V.ok_g); pv_eval)
  | ((with_reducible apply V.v_if); pv_eval; pv_eval)
  | ((with_reducible apply V.ik_t); units_room; pv_eval)
  | ((with_reducible apply V.ik_f); units_room; pv_eval)
  | ((with_reducible apply V.v_not); pv_eval)
  | ((with_reducible apply V.v_and); pv_eval; pv_eval)
  | ((with_reducible apply V.v_or); pv_eval; pv_eval)
  | ((with_reducible apply V.vk_f); units_room)
  | ((with_reducible apply V.vk_t); units_room; pv_eval)
  | ((with_reducible apply V.vk_g); pv_eval)
  | ((with_reducible apply V.vo_t); units_room)
  | ((with_reducible apply V.vo_f); units_room; pv_eval)
  | ((with_reducible apply V.vo_g); pv_eval)
  | with_reducible exact V.a_nil _
  | ((with_reducible apply V.a_cons); pv_eval; pv_eval; pv_eval)
  | with_reducible exact V.ao_v _ _
  | with_reducible exact V.ao_f _ _
  | with_reducible exact V.ao_p _
  | ((with_reducible apply V.ao_s); exact rfl; fold_lay)
  | with_reducible exact V.f_nil _
  | ((with_reducible apply V.f_cons); pv_eval; pv_eval; pv_eval)
  | with_reducible exact V.z_v _ _
  | with_reducible exact V.z_f _ _
  | ((with_reducible apply V.z_s); exact rfl; fold_lay)
  | with_reducible exact V.r_nil _
  | ((with_reducible apply V.r_cons); pv_eval; pv_eval; pv_eval)
  | with_reducible exact V.w1_v _ _
  | with_reducible exact V.w1_f _ _
  | with_reducible exact V.w1_o _ _
  | ((with_reducible apply V.w1_s); exact rfl; fold_lay)
  | ((with_reducible apply V.v_tup); pv_eval; pre_facts)
  | ((with_reducible apply V.v_lst); pv_eval; pre_facts)
  | ((with_reducible apply V.v_call); pv_eval; row_none_raised)
  | ((with_reducible apply V.w_tup); pv_eval; exact rfl)
  | ((with_reducible apply V.w_lst); pv_eval; exact rfl)
  | ((with_reducible apply V.w_fr); pv_eval)
  | ((with_reducible apply V.w_sl); pv_eval; exact rfl; fold_lay)
  | ((with_reducible apply V.w_enum); pv_eval)
  | ((with_reducible apply V.w_zip); pv_eval; pv_eval)
  | ((with_reducible apply V.w_rng); pv_eval; exact rfl; pre_facts)
  | ((with_reducible apply V.w_rng2); pv_eval; pv_eval; exact rfl; exact rfl; pre_facts; pre_facts)
  | ((with_reducible apply V.v_lrng); pv_eval; exact rfl; pre_facts)
  | with_reducible exact V.po_n _
  | ((with_reducible apply V.po_s); pv_eval; exact rfl)
  | ((with_reducible apply V.v_sl); pv_eval; pv_eval; pv_eval; exact rfl; got_up)
  | ((with_reducible apply V.v_lm); pv_eval; exact rfl; pv_eval; exact rfl; exact rfl; got_up)
  | ((with_reducible apply V.v_p0); exact rfl)
  | ((with_reducible apply V.v_pop); exact rfl; exact rfl; got_up; fold_lay)
  | ((with_reducible apply V.q_set); pv_eval; pv_eval)
  | ((with_reducible apply V.st_v); pre_facts; fold_lay)
  | ((with_reducible apply V.st_f); pre_facts; fold_lay)
  | ((with_reducible apply V.st_s); exact rfl; fold_lay; pre_facts; fold_lay)
  | ((with_reducible apply V.st_o); pre_facts; fold_lay)
  | ((with_reducible apply V.pt_o); pre_facts; fold_lay; pv_eval)
  | ((with_reducible apply V.v_d1); pv_eval; pv_eval; pv_eval)
  | ((with_reducible apply V.v_dget); exact rfl; pv_eval; exact rfl; got_up)
  | ((with_reducible apply V.v_din); pv_eval; exact rfl; got_up)
  | ((with_reducible apply V.v_dnin); pv_eval; exact rfl; got_up)
  | ((with_reducible apply V.v_dgetd); exact rfl; pv_eval; pv_eval; pv_eval; exact rfl; got_up)
  | ((with_reducible apply V.v_dlen); exact rfl; got_up)
  | ((with_reducible apply V.q_dput); pv_eval; pv_eval; exact rfl; pv_eval; exact rfl; pre_facts; got_up; fold_lay)
  | ((with_reducible apply V.q_expr); pv_eval)
  | ((with_reducible apply V.q_pars); pv_eval; exact rfl; pv_eval)
  | with_reducible exact V.pt_nil _
  | ((with_reducible apply V.pt_v); pre_facts; fold_lay; pv_eval)
  | ((with_reducible apply V.pt_f); pre_facts; fold_lay; pv_eval)
  | ((with_reducible apply V.q_app); exact rfl; pv_eval; pv_eval; exact rfl; pre_facts; fold_lay)
  | ((with_reducible apply V.q_ext); exact rfl; pv_eval; pv_eval; exact rfl; pre_facts; fold_lay)
  | ((with_reducible apply V.q_put); pv_eval; pv_eval; exact rfl; pv_eval; exact rfl; exact rfl; got_up; fold_lay)
  | ((with_reducible apply V.q_tgt); pv_eval; pv_eval; pv_eval)
  | ((with_reducible apply V.tg_n); pre_facts; fold_lay)
  | ((with_reducible apply V.tg_t); exact rfl; pv_eval)
  | ((with_reducible apply V.tg_l); exact rfl; pv_eval)
  | with_reducible exact V.ga_nil _
  | ((with_reducible apply V.ga_cons); pv_eval; pv_eval))
local macro_rules | `(tactic| fin_run) => `(tactic| first
  | ((with_reducible apply V.q_retS); pv_eval)
  | (with_reducible apply V.q_retNS)
  | (with_reducible apply V.q_brkS)
  | (with_reducible apply V.q_cntS)
  | ((with_reducible apply V.q_raiseS); pv_eval; pv_eval)
  | ((with_reducible apply V.q_iftS); units_room)
  | ((with_reducible apply V.q_iffS); units_room)
  | ((with_reducible apply V.q_ift); units_room)
  | ((with_reducible apply V.q_iff); units_room)
  | ((with_reducible apply V.q_one); pv_eval)
  | (with_reducible apply V.q_nilS)
  | (with_reducible apply V.q_assoc)
  | ((with_reducible apply V.q_ifSeq); pv_eval)
  | ((with_reducible apply V.q_if); pv_eval)
  | ((with_reducible apply V.q_ret); pv_eval)
  | (with_reducible apply V.q_retN)
  | ((with_reducible apply V.q_raise); pv_eval; pv_eval)
  | (with_reducible apply V.q_nil)
  | (with_reducible apply V.q_brk)
  | (with_reducible apply V.q_cnt)
  | ((with_reducible apply V.q_eq); pv_eval)
  | exact rfl)
local macro_rules | `(tactic| fold_depth) => `(tactic| first | (simp only [List.map_cons, List.map_nil, List.cons_append, List.nil_append, Nat.reduceSub, List.reduceReplicate, List.append_nil]; exact rfl) | exact rfl)
local macro_rules | `(tactic| top_args) => `(tactic| (pv_eval; exact rfl; (simp only [N4.wipeS, N4.setSl, List.set_cons_succ, List.set_cons_zero]; exact rfl); (repeat' (first | exact trivial | refine And.intro rfl ?_)); (first | pre_facts | skip)))
local macro_rules | `(tactic| reads_via) => `(tactic| (apply Eq.trans; pv_eval; exact rfl))
theorem bLen_bk (b : Bk) : bLen [bkD b] = some (.val (.int (b.length : Nat))) := by
  show some (Ev.val (.int ((b.map stD).length : Nat))) = _
  rw [len_bk]
theorem times_l (n : Nat) (d : PyData) (h : n ≤ 1000) : oTimes (.list [d]) (.int (n : Nat)) = some (.fresh (List.replicate n d)) := by
  rw [← rep_eq n d]
  unfold oTimes
  simp only []
  rw [if_pos ⟨by unfold boundN; omega, by unfold boundN; omega, by simp; unfold lineN; omega⟩]
  simp
theorem ints_rng (G : List Nat) : intsD G = (List.range G.length).map fun k => .int (G.getD k 0 : Nat) := by
  apply List.ext_getElem
  · simp [intsD]
  · intro i h1 h2
    simp [intsD] at h1 ⊢
    simp [h1]
/-- a row of the trimmed book -/
def trow (b : Bk) (G : List Nat) (k : Nat) : PyData := stD ((stOf b (G.getD k 0)).map fun m => (m.1, G.idxOf m.2))
def tfnd (b : Bk) (G : List Nat) (k : Nat) : List PyData := (List.range k).map (trow b G) ++ List.replicate (G.length - k) (.tuple [])
theorem tfnd_len {b : Bk} {G : List Nat} {k : Nat} (h : k ≤ G.length) : (tfnd b G k).length = G.length := by
  unfold tfnd
  simp
  omega
theorem tfnd_set {b : Bk} {G : List Nat} {k : Nat} (h : k < G.length) : (tfnd b G k).set k (trow b G k) = tfnd b G (k + 1) := by
  unfold tfnd
  rw [List.set_append_right _ _ (by simp), List.length_map, List.length_range, Nat.sub_self, List.range_succ, List.map_append, List.append_assoc]
  congr 1
  obtain ⟨m, e⟩ : ∃ m, G.length - k = m + 1 := ⟨G.length - k - 1, by omega⟩
  rw [e, show G.length - (k + 1) = m from by omega]
  rfl
theorem tfnd_all (b : Bk) (G : List Nat) : tfnd b G G.length = G.map fun s => stD ((stOf b s).map fun m => (m.1, G.idxOf m.2)) := by
  unfold tfnd
  rw [Nat.sub_self, List.replicate_zero, List.append_nil]
  apply List.ext_getElem
  · simp
  · intro i h1 h2
    simp at h1
    simp [trow, h1]
theorem tfnd_zero (b : Bk) (G : List Nat) : tfnd b G 0 = List.replicate G.length (.tuple []) := rfl
theorem r4_ok {b : Bk} (h : OkBk b) {k : Nat} (hk : k < (metOf b).length) (x2 x3 x4 : Option Sl) (p : Option Pl) (x6 x7 : Option Sl) (v6 : Vs x6) (v7 : Vs x7) :
    b__law_by_rows_4 ⟨[some (.val (bkD b)), some (.ro (dkv 0 (metOf b))), x2, x3, x4, some (.val (.int ((metOf b).getD k 0 : Nat))), x6, x7, some (.own (tfnd b (metOf b) k))], p⟩ =
      .nx ⟨[some (.val (bkD b)), some (.ro (dkv 0 (metOf b))), x2, x3, x4, some (.val (.int ((metOf b).getD k 0 : Nat))), x6, x7, some (.own (tfnd b (metOf b) (k + 1)))], p⟩ := by
  have h8 := h.most
  have hm := metOf_met h
  have hl := met_len hm
  have es : (metOf b).getD k 0 = (metOf b)[k] := by simp [hk]
  have hin : (metOf b).getD k 0 ∈ metOf b := by rw [es]; exact List.getElem_mem hk
  have hs : (metOf b).getD k 0 < b.length := hm.lt _ hin
  have e3 : oIx (bkD b) (.int ((metOf b).getD k 0 : Nat)) = some (.val (.tuple ((stOf b ((metOf b).getD k 0)).map mvD))) := ix_bk0 hs
  have eg : dAt (dkv 0 (metOf b)) ((metOf b).getD k 0 : Nat) = some (.int (k : Nat)) := by
    rw [dkv_get hin, es, hm.nd.idxOf_getElem k hk]
  have ej : N4.ixN (tfnd b (metOf b) k).length (k : Nat) = some k := ixN_nat (by rw [tfnd_len (by omega)]; exact hk)
  have hst := st_len h ((metOf b).getD k 0)
  · unfold b__law_by_rows_4
    apply V.q_put
    · with_reducible apply V.v_b1
      · apply V.v_lcm (fun m : Nat × Nat => mvD (m.1, (metOf b).idxOf m.2)) (as := stOf b ((metOf b).getD k 0)) (f := mvD)
        top_args
        · exact ⟨congrArg some v6, congrArg some v7, trivial⟩
        · omega
        intro m hm
        have e4 := dkv_get (metOf_closed h _ hin m hm)
        refine ⟨_, by pv_eval, ?_⟩
        with_reducible apply ev3
        · pv_eval
        · pv_eval
        · exact rfl
        · exact rfl
      · exact rfl
      · exact rfl
    · pv_eval
    · exact rfl
    · pv_eval
    · exact rfl
    · exact rfl
    · exact ej
    · simp only [List.set_cons_succ, List.set_cons_zero]
      rw [← tfnd_set hk]
      unfold trow stD
      rw [List.map_map]
      exact rfl
theorem by_rows_ok {b : Bk} (h : OkBk b) (p : Option Pl) : sem__law_by_rows [.val (bkD b)] p = .ok (.val (bkD (trim b))) p := by
  have h8 := h.most
  have h1 := h.one
  have hb := bLen_bk b
  have hm := metOf_met h
  have hl := met_len hm
  unfold sem__law_by_rows b__law_by_rows
  refine V.fn_eq rfl (by fold_depth) ?_
  fin_run
  apply V.q_forR (n := b.length) (f := fun k : Nat => .int (k : Nat)) (fun t σ => ∃ i F x2 x3 x4 x5 x6 x7, Lv b t i F ∧ Met b.length F ∧ (x2 = .own (intsD (F.drop i)) ∨ x2 = .val (.list (intsD (F.drop i)))) ∧ Vs x6 ∧ Vs x7 ∧ σ = ⟨[some (.val (bkD b)), some (.obj (.dct (dkv 0 F))), some x2, x3, x4, x5, x6, x7, none], p⟩)
  · pv_eval
  · rfl
  · exact ⟨0, [0], _, none, none, none, none, none, lv_zero b, ⟨by simp, fun x hx => by simp at hx; omega⟩, .inl rfl, vs_none, vs_none, rfl⟩
  · rintro t σ ht ⟨i, F, x2, x3, x4, x5, x6, x7, hL, hF, hx, v6, v7, rfl⟩
    refine ⟨_, by pv_eval, fun T hT => ?_⟩
    obtain ⟨x4', x5', x6', x7', w6, w7, e1⟩ := r3_ok (t := t) h hF x2 hx (some (.val (.int (t : Nat)))) x4 x5 x6 x7 none p v6 v7
    refine V.q_eq e1 (hT.nx _ ⟨F.length, vis b F (F.drop i), _, _, _, _, _, _, lv_next hL, vis_met h _ F hF, .inr rfl, w6, w7, rfl⟩)
  · rintro σ ⟨i, F, x2, x3, x4, x5, x6, x7, hL, hF, hx, v6, v7, rfl⟩
    have eF := lv_end h hL hF
    subst eF
    have hk := dkv_len (metOf b) 0
    have ht := times_l (metOf b).length (.tuple []) (by omega)
    fin_run
    apply V.q_forD (n := (metOf b).length) (f := fun k : Nat => .int ((metOf b).getD k 0 : Nat)) (fun k σ => ∃ x5, σ = ⟨[some (.val (bkD b)), some (.ro (dkv 0 (metOf b))), some x2, x3, x4, x5, x6, x7, some (.own (tfnd b (metOf b) k))], p⟩)
    · exact rfl
    · rw [dkv_keys]
      exact ints_rng _
    · exact ⟨_, rfl⟩
    · rintro k σ hk ⟨x5, rfl⟩
      exact ⟨_, by pv_eval, _, r4_ok h hk (some x2) x3 x4 p x6 x7 v6 v7, _, rfl⟩
    · rintro σ ⟨x5, rfl⟩
      rw [tfnd_all]
      show V.WP (sRet _ ⟨[_, _, _, _, _, _, _, _, some (.own _)], p⟩) _
      with_reducible apply V.q_ret
      · pv_eval
      · rw [trim_eq]
        exact rfl
end K02
end
section
set_option Elab.async false
set_option linter.all false
set_option autoImplicit false
set_option maxRecDepth 100000
set_option maxHeartbeats 4000000
namespace K02
open PySem PySem.Spec PyProof.Rows N4
local macro_rules | `(tactic| fold_lay) => `(tactic| first | (simp only [List.set_cons_succ, List.set_cons_zero]; done) | (simp only [List.set_cons_succ, List.set_cons_zero]; exact rfl) | exact rfl)
local macro_rules | `(tactic| pre_facts) => `(tactic| first | exact Nat.le_of_ble_eq_true rfl | with_reducible assumption | omega | (simp; done) | (simp; omega) | (unfold lineN; omega) | (simp [lineN]; omega))
local macro_rules | `(tactic| units_room) => `(tactic| first | with_reducible rfl | with_reducible assumption | (simp only [Bool.not_true, Bool.not_false, Bool.and_true, Bool.true_and, Bool.and_false, Bool.false_and, Bool.or_true, Bool.true_or, Bool.or_false, Bool.false_or, bne_self_eq_false, isaB, isaInt, isaBool, isaTuple, isaList, isaStr]; done) | (with_reducible apply decide_eq_true; omega) | (with_reducible apply decide_eq_false; omega) | (with_reducible apply decide_eq_true; with_reducible assumption) | (with_reducible apply decide_eq_false; with_reducible assumption) | (simp; done) | (simp; omega))
local macro_rules | `(tactic| got_up) => `(tactic| first | with_reducible assumption | with_reducible exact V.o_eqI _ _ | with_reducible exact V.o_neI _ _ | with_reducible exact V.o_eqB _ _ | with_reducible exact V.o_neB _ _ | with_reducible exact V.o_isN_n | with_reducible exact V.o_isN_i _ | with_reducible exact V.o_isN_t _ | with_reducible exact V.o_isN_l _ | with_reducible exact V.o_inN_n | with_reducible exact V.o_inN_i _ | with_reducible exact V.o_inN_t _ | with_reducible exact V.o_inN_l _ | with_reducible exact V.o_isN _ | with_reducible exact V.o_isntN _ | exact rfl)
local macro_rules | `(tactic| row_none_raised) => `(tactic| first | with_reducible assumption)
local macro_rules | `(tactic| pv_eval) => `(tactic| first
  | with_reducible assumption
  | with_reducible exact V.v_c _ _
  | ((with_reducible apply V.v_v); exact rfl)
  | ((with_reducible apply V.v_o); exact rfl)
  | ((with_reducible apply V.v_p); exact rfl)
  | ((with_reducible apply V.v_op); pv_eval; pv_eval; exact rfl; exact rfl; got_up)
  | ((with_reducible apply V.v_un); pv_eval; exact rfl; got_up)
  | ((with_reducible apply V.v_b1); pv_eval; exact rfl; got_up)
  | ((with_reducible apply V.v_b2); pv_eval; pv_eval; exact rfl; exact rfl; got_up)
  | ((with_reducible apply V.t_v); pv_eval)
  | ((with_reducible apply V.t_not); pv_eval)
  | ((with_reducible apply V.t_and); pv_eval; pv_eval)
  | ((with_reducible apply V.t_or); pv_eval; pv_eval)
  | ((with_reducible apply V.ak_f); units_room)
  | ((with_reducible apply V.ak_t); units_room; pv_eval)
  | ((with_reducible apply V.ak_g); pv_eval)
  | ((with_reducible apply V.ok_t); units_room)
  | ((with_reducible apply V.ok_f); units_room; pv_eval)
  | ((with_reducible apply V.ok_g); pv_eval)
  | ((with_reducible apply V.v_if); pv_eval; pv_eval)
  | ((with_reducible apply V.ik_t); units_room; pv_eval)
  | ((with_reducible apply V.ik_f); units_room; pv_eval)
  | ((with_reducible apply V.v_not); pv_eval)
  | ((with_reducible apply V.v_and); pv_eval; pv_eval)
  | ((with_reducible apply V.v_or); pv_eval; pv_eval)
  | ((with_reducible apply V.vk_f); units_room)
  | ((with_reducible apply V.vk_t); units_room; pv_eval)
  | ((with_reducible apply V.vk_g); pv_eval)
  | ((with_reducible apply V.vo_t); units_room)
  | ((with_reducible apply V.vo_f); units_room; pv_eval)
  | ((with_reducible apply V.vo_g); pv_eval)
  | with_reducible exact V.a_nil _
  | ((with_reducible apply V.a_cons); pv_eval; pv_eval; pv_eval)
  | with_reducible exact V.ao_v _ _
  | with_reducible exact V.ao_f _ _
  | with_reducible exact V.ao_p _
  | ((with_reducible apply V.ao_s); exact rfl; fold_lay)
  | with_reducible exact V.f_nil _
  | ((with_reducible apply V.f_cons); pv_eval; pv_eval; pv_eval)
  | with_reducible exact V.z_v _ _
  | with_reducible exact V.z_f _ _
  | ((with_reducible apply V.z_s); exact rfl; fold_lay)
  | with_reducible exact V.r_nil _
  | ((with_reducible apply V.r_cons); pv_eval; pv_eval; pv_eval)
  | with_reducible exact V.w1_v _ _
  | with_reducible exact V.w1_f _ _
  | with_reducible exact V.w1_o _ _
  | ((with_reducible apply V.w1_s); exact rfl; fold_lay)
  | ((with_reducible apply V.v_tup); pv_eval; pre_facts)
  | ((with_reducible apply V.v_lst); pv_eval; pre_facts)
  | ((with_reducible apply V.v_call); pv_eval; row_none_raised)
  | ((with_reducible apply V.w_tup); pv_eval; exact rfl)
  | ((with_reducible apply V.w_lst); pv_eval; exact rfl)
  | ((with_reducible apply V.w_fr); pv_eval)
  | ((with_reducible apply V.w_sl); pv_eval; exact rfl; fold_lay)
  | ((with_reducible apply V.w_enum); pv_eval)
  | ((with_reducible apply V.w_zip); pv_eval; pv_eval)
  | ((with_reducible apply V.w_rng); pv_eval; exact rfl; pre_facts)
  | ((with_reducible apply V.w_rng2); pv_eval; pv_eval; exact rfl; exact rfl; pre_facts; pre_facts)
  | ((with_reducible apply V.v_lrng); pv_eval; exact rfl; pre_facts)
  | with_reducible exact V.po_n _
  | ((with_reducible apply V.po_s); pv_eval; exact rfl)
  | ((with_reducible apply V.v_sl); pv_eval; pv_eval; pv_eval; exact rfl; got_up)
  | ((with_reducible apply V.v_lm); pv_eval; exact rfl; pv_eval; exact rfl; exact rfl; got_up)
  | ((with_reducible apply V.v_p0); exact rfl)
  | ((with_reducible apply V.v_pop); exact rfl; exact rfl; got_up; fold_lay)
  | ((with_reducible apply V.q_set); pv_eval; pv_eval)
  | ((with_reducible apply V.st_v); pre_facts; fold_lay)
  | ((with_reducible apply V.st_f); pre_facts; fold_lay)
  | ((with_reducible apply V.st_s); exact rfl; fold_lay; pre_facts; fold_lay)
  | ((with_reducible apply V.st_o); pre_facts; fold_lay)
  | ((with_reducible apply V.pt_o); pre_facts; fold_lay; pv_eval)
  | ((with_reducible apply V.v_d1); pv_eval; pv_eval; pv_eval)
  | ((with_reducible apply V.v_dget); exact rfl; pv_eval; exact rfl; got_up)
  | ((with_reducible apply V.v_din); pv_eval; exact rfl; got_up)
  | ((with_reducible apply V.v_dnin); pv_eval; exact rfl; got_up)
  | ((with_reducible apply V.v_dgetd); exact rfl; pv_eval; pv_eval; pv_eval; exact rfl; got_up)
  | ((with_reducible apply V.v_dlen); exact rfl; got_up)
  | ((with_reducible apply V.q_dput); pv_eval; pv_eval; exact rfl; pv_eval; exact rfl; pre_facts; got_up; fold_lay)
  | ((with_reducible apply V.q_expr); pv_eval)
  | ((with_reducible apply V.q_pars); pv_eval; exact rfl; pv_eval)
  | with_reducible exact V.pt_nil _
  | ((with_reducible apply V.pt_v); pre_facts; fold_lay; pv_eval)
  | ((with_reducible apply V.pt_f); pre_facts; fold_lay; pv_eval)
  | ((with_reducible apply V.q_app); exact rfl; pv_eval; pv_eval; exact rfl; pre_facts; fold_lay)
  | ((with_reducible apply V.q_ext); exact rfl; pv_eval; pv_eval; exact rfl; pre_facts; fold_lay)
  | ((with_reducible apply V.q_put); pv_eval; pv_eval; exact rfl; pv_eval; exact rfl; exact rfl; got_up; fold_lay)
  | ((with_reducible apply V.q_tgt); pv_eval; pv_eval; pv_eval)
  | ((with_reducible apply V.tg_n); pre_facts; fold_lay)
  | ((with_reducible apply V.tg_t); exact rfl; pv_eval)
  | ((with_reducible apply V.tg_l); exact rfl; pv_eval)
  | with_reducible exact V.ga_nil _
  | ((with_reducible apply V.ga_cons); pv_eval; pv_eval))
local macro_rules | `(tactic| fin_run) => `(tactic| first
  | ((with_reducible apply V.q_retS); pv_eval)
  | (with_reducible apply V.q_retNS)
  | (with_reducible apply V.q_brkS)
  | (with_reducible apply V.q_cntS)
  | ((with_reducible apply V.q_raiseS); pv_eval; pv_eval)
  | ((with_reducible apply V.q_iftS); units_room)
  | ((with_reducible apply V.q_iffS); units_room)
  | ((with_reducible apply V.q_ift); units_room)
  | ((with_reducible apply V.q_iff); units_room)
  | ((with_reducible apply V.q_one); pv_eval)
  | (with_reducible apply V.q_nilS)
  | (with_reducible apply V.q_assoc)
  | ((with_reducible apply V.q_ifSeq); pv_eval)
  | ((with_reducible apply V.q_if); pv_eval)
  | ((with_reducible apply V.q_ret); pv_eval)
  | (with_reducible apply V.q_retN)
  | ((with_reducible apply V.q_raise); pv_eval; pv_eval)
  | (with_reducible apply V.q_nil)
  | (with_reducible apply V.q_brk)
  | (with_reducible apply V.q_cnt)
  | ((with_reducible apply V.q_eq); pv_eval)
  | exact rfl)
local macro_rules | `(tactic| fold_depth) => `(tactic| first | (simp only [List.map_cons, List.map_nil, List.cons_append, List.nil_append, Nat.reduceSub, List.reduceReplicate, List.append_nil]; exact rfl) | exact rfl)
local macro_rules | `(tactic| top_args) => `(tactic| (pv_eval; exact rfl; (simp only [N4.wipeS, N4.setSl, List.set_cons_succ, List.set_cons_zero]; exact rfl); (repeat' (first | exact trivial | refine And.intro rfl ?_)); (first | pre_facts | skip)))
local macro_rules | `(tactic| reads_via) => `(tactic| (apply Eq.trans; pv_eval; exact rfl))
/-- the first state that is not met -/
def strayOf (b : Bk) : Option Nat := (List.range b.length).find? fun k => decide (k ∉ metOf b)
def strD : Option Nat → PyData
  | none => .none
  | some k => .int (k : Nat)
theorem stray_some {b : Bk} {k : Nat} (hk : k < b.length) (h : k ∉ metOf b) (hb : ∀ j, j < k → j ∈ metOf b) : strayOf b = some k := by
  unfold strayOf
  rw [List.find?_range_eq_some]
  exact ⟨by simpa using h, List.mem_range.mpr hk, fun j hj => by simpa using hb j hj⟩
theorem stray_none {b : Bk} (hb : ∀ j, j < b.length → j ∈ metOf b) : strayOf b = none := by
  unfold strayOf
  rw [List.find?_range_eq_none]
  exact fun j hj => by simpa using hb j hj
theorem notin_ints (F : List Nat) (t : Nat) : oNotIn (.int (t : Nat)) (.list (intsD F)) = some (.val (.bool (!decide (t ∈ F)))) := in_intsD F t
theorem first_stray_gen {b : Bk} (h : OkBk b) (p : Option Pl) : sem_first_stray [.val (bkD b)] p = .ok (.val (strD (strayOf b))) p := by
  have h8 := h.most
  have hb := bLen_bk b
  have e1 := states_met_ok h p
  rw [met_eq h] at e1
  unfold sem_first_stray b_first_stray
  refine V.fn_eq rfl (by fold_depth) ?_
  fin_run
  apply V.q_forR (n := b.length) (f := fun k : Nat => .int (k : Nat)) (fun k σ => (∀ j, j < k → j ∈ metOf b) ∧ ∃ x2, σ = ⟨[some (.val (bkD b)), some (.own (intsD (metOf b))), x2], p⟩)
  · pv_eval
  · rfl
  · exact ⟨fun j hj => absurd hj (Nat.not_lt_zero j), _, rfl⟩
  · rintro k σ hk ⟨hj, x2, rfl⟩
    refine ⟨_, by pv_eval, fun T hT => ?_⟩
    have ei := notin_ints (metOf b) k
    unfold b_first_stray_1
    by_cases m : k ∈ metOf b
    · rw [decide_eq_true m] at ei
      with_reducible apply V.q_if
      · pv_eval
      · with_reducible apply V.q_iff
        · rfl
        · exact hT.nx _ ⟨fun j hj2 => by
            rcases Nat.lt_or_ge j k with q | q
            · exact hj j q
            · rw [show j = k from by omega]; exact m, _, rfl⟩
    · rw [decide_eq_false m] at ei
      with_reducible apply V.q_if
      · pv_eval
      · with_reducible apply V.q_ift
        · rfl
        · with_reducible apply V.q_ret
          · pv_eval
          · refine hT.ret _ _ ?_
            rw [stray_some hk m hj]
            rfl
  · rintro σ ⟨hj, x2, rfl⟩
    rw [stray_none hj]
    repeat fin_run
theorem made_gen {b : Bk} (h : OkBk b) (p : Option Pl) : sem_made_book [.val (bkD b)] p = match strayOf b with | none => .ok (.val (bkD b)) p | some k => .err "Stray" (.int (k : Nat)) p := by
  have e1 := first_stray_gen h p
  have e2 := check_forms_ok h p
  unfold sem_made_book b_made_book
  cases c : strayOf b with
  | none =>
    rw [c] at e1
    refine V.fn_eq rfl (by fold_depth) ?_
    repeat fin_run
  | some k =>
    rw [c] at e1
    refine V.fn_eq rfl (by fold_depth) ?_
    repeat fin_run
theorem is_book_gen {b : Bk} (h : OkBk b) (p : Option Pl) : sem_is_book [.val (bkD b)] p = .ok (.val (.bool (strayOf b).isNone)) p := by
  have e1 := first_stray_gen h p
  have e2 := wrong_form_ok (bkD b) (dict_bk b) p
  rw [wfR_ok h] at e2
  unfold sem_is_book b_is_book
  cases c : strayOf b with
  | none =>
    rw [c] at e1
    refine V.fn_eq rfl (by fold_depth) ?_
    repeat fin_run
  | some k =>
    rw [c] at e1
    refine V.fn_eq rfl (by fold_depth) ?_
    repeat fin_run
/-! trimmed twice -/
theorem idx_range {n k : Nat} (h : k < n) : (List.range n).idxOf k = k := by
  have e : (List.range n)[k]'(by simpa using h) = k := by simp
  have := (List.nodup_range (n := n)).idxOf_getElem k (by simpa using h)
  rw [e] at this
  exact this
theorem renum_range {c : Bk} (h : ∀ k, ∀ m ∈ stOf c k, m.2 < c.length) : renum (List.range c.length) c = c := by
  unfold renum
  apply List.ext_getElem
  · simp
  · intro i h1 h2
    simp only [List.getElem_map, List.getElem_range]
    have e : stOf c i = c[i] := by
      unfold stOf
      simp [h2]
    rw [← e]
    conv => rhs; rw [← List.map_id (stOf c i)]
    refine List.map_congr_left fun m hm => ?_
    rw [idx_range (h i m hm)]
    rfl
theorem met_trim {b : Bk} (h : OkBk b) : metOf (trim b) = List.range (metOf b).length := by
  have hm := metOf_met h
  have hl := met_len hm
  have h1 : 1 ≤ b.length := h.one
  have e0 : bfs b (metOf b).length 0 [0] = metOf b := bfs_less b (metOf b).length b.length 0 [0] (by
    show (metOf b).length ≤ _
    omega) hl
  have hs := bfs_sim (G := metOf b) (b := b) hm.nd (metOf b).length 0 [0] (by rw [e0]; exact List.prefix_refl _)
  rw [e0] at hs
  have el : (trim b).length = (metOf b).length := by
    unfold trim renum
    rw [List.length_map]
  unfold metOf
  rw [el]
  exact hs
theorem trim_trim {b : Bk} (h : OkBk b) : trim (trim b) = trim b := by
  have hok : OkBk (trim b) := ok_renum h
  have el : (trim b).length = (metOf b).length := by
    unfold trim renum
    rw [List.length_map]
  have e : trim (trim b) = renum (List.range (trim b).length) (trim b) := by
    conv => lhs; unfold trim
    rw [show metOf (renum (metOf b) b) = List.range (trim b).length from by rw [el]; exact met_trim h]
    rfl
  rw [e]
  exact renum_range (stOf_to hok)
theorem stray_trim {b : Bk} (h : OkBk b) : strayOf (trim b) = none := stray_none fun j hj => by
  have el : (trim b).length = (metOf b).length := by
    unfold trim renum
    rw [List.length_map]
  rw [met_trim h, List.mem_range, ← el]
  exact hj
/-! what is heard -/
@[reducible] def toldD (d : PyData) : PyData := .tuple [.str "told", d]
@[reducible] def badD (c : PySem.Str) (x : PyData) : PyData := .tuple [.str c, x, .bool true]
theorem heard_told {act : N4.Act} {d : PyData} {p : Option Pl} (h : act p = .ok (.val d) p) : sem__law_heard act p = .ok (.val (toldD d)) p := by
  show endOf (b__law_heard act ⟨[some Sl.raw, none, none], p⟩) = _
  simp [b__law_heard, sSeq, sTry, sRet, sE, eTup, frzs, mBind, eC, mRet, freeze, eAct, h, lineN, endOf, toldD]
theorem heard_bad {act : N4.Act} {x : PyData} {p : Option Pl} (h : act p = .err "BadBook" x p) : sem__law_heard act p = .ok (.val (badD "BadBook" x)) p := by
  show endOf (b__law_heard act ⟨[some Sl.raw, none, none], p⟩) = _
  simp [b__law_heard, sSeq, sTry, sRet, sE, eTup, frzs, mBind, eC, mRet, freeze, eAct, h, lineN, endOf, badD, handle, enterS, quitO, quitS, noRaw, List.lookup, List.replicate, sSet, eWhat, eAnd, eIsE, boolOf, store, setSl, eV]
theorem heard_stray {act : N4.Act} {x : PyData} {p : Option Pl} (h : act p = .err "Stray" x p) : sem__law_heard act p = .ok (.val (badD "Stray" x)) p := by
  show endOf (b__law_heard act ⟨[some Sl.raw, none, none], p⟩) = _
  simp [b__law_heard, sSeq, sTry, sRet, sE, eTup, frzs, mBind, eC, mRet, freeze, eAct, h, lineN, endOf, badD, handle, enterS, quitO, quitS, noRaw, List.lookup, List.replicate, sSet, eWhat, eAnd, eIsE, boolOf, store, setSl, eV]
theorem eh_told {caps : List Nat} {lam : M Ev} {sl sl' : List (Option Sl)} {p : Option Pl} {s1 : N4.St} {d : PyData} (hf : frzSl caps ⟨sl, p⟩ = ⟨sl', p⟩) (h : lam ⟨sl'.map shutSl, p⟩ = .ok (.val d) s1) (hp : s1.pl = p) : eHeard caps sem__law_heard lam ⟨sl, p⟩ = .ok (.val (toldD d)) ⟨sl', p⟩ := by
  have ha : actOf lam sl' p = .ok (.val d) p := by
    unfold actOf
    rw [h]
    simp only [hp]
  have t := heard_told ha
  unfold eHeard
  rw [hf]
  simp only [t]
theorem eh_bad {caps : List Nat} {lam : M Ev} {sl sl' : List (Option Sl)} {p : Option Pl} {s1 : N4.St} {x : PyData} (hf : frzSl caps ⟨sl, p⟩ = ⟨sl', p⟩) (h : lam ⟨sl'.map shutSl, p⟩ = .err "BadBook" x s1) (hp : s1.pl = p) : eHeard caps sem__law_heard lam ⟨sl, p⟩ = .ok (.val (badD "BadBook" x)) ⟨sl', p⟩ := by
  have ha : actOf lam sl' p = .err "BadBook" x p := by
    unfold actOf
    rw [h]
    simp only [hp]
  have t := heard_bad ha
  unfold eHeard
  rw [hf]
  simp only [t]
theorem eh_stray {caps : List Nat} {lam : M Ev} {sl sl' : List (Option Sl)} {p : Option Pl} {s1 : N4.St} {x : PyData} (hf : frzSl caps ⟨sl, p⟩ = ⟨sl', p⟩) (h : lam ⟨sl'.map shutSl, p⟩ = .err "Stray" x s1) (hp : s1.pl = p) : eHeard caps sem__law_heard lam ⟨sl, p⟩ = .ok (.val (badD "Stray" x)) ⟨sl', p⟩ := by
  have ha : actOf lam sl' p = .err "Stray" x p := by
    unfold actOf
    rw [h]
    simp only [hp]
  have t := heard_stray ha
  unfold eHeard
  rw [hf]
  simp only [t]
end K02
end
section
set_option Elab.async false
set_option linter.all false
set_option autoImplicit false
set_option maxRecDepth 100000
set_option maxHeartbeats 4000000
namespace K02
open PySem PySem.Spec PyProof.Rows N4
local macro_rules | `(tactic| fold_lay) => `(tactic| first | (simp only [List.set_cons_succ, List.set_cons_zero]; done) | (simp only [List.set_cons_succ, List.set_cons_zero]; exact rfl) | exact rfl)
local macro_rules | `(tactic| pre_facts) => `(tactic| first | exact Nat.le_of_ble_eq_true rfl | with_reducible assumption | omega | (simp; done) | (simp; omega) | (unfold lineN; omega) | (simp [lineN]; omega))
local macro_rules | `(tactic| units_room) => `(tactic| first | with_reducible rfl | with_reducible assumption | (simp only [Bool.not_true, Bool.not_false, Bool.and_true, Bool.true_and, Bool.and_false, Bool.false_and, Bool.or_true, Bool.true_or, Bool.or_false, Bool.false_or, bne_self_eq_false, isaB, isaInt, isaBool, isaTuple, isaList, isaStr]; done) | (with_reducible apply decide_eq_true; omega) | (with_reducible apply decide_eq_false; omega) | (with_reducible apply decide_eq_true; with_reducible assumption) | (with_reducible apply decide_eq_false; with_reducible assumption) | (simp; done) | (simp; omega))
local macro_rules | `(tactic| got_up) => `(tactic| first | with_reducible assumption | with_reducible exact V.o_eqI _ _ | with_reducible exact V.o_neI _ _ | with_reducible exact V.o_eqB _ _ | with_reducible exact V.o_neB _ _ | with_reducible exact V.o_isN_n | with_reducible exact V.o_isN_i _ | with_reducible exact V.o_isN_t _ | with_reducible exact V.o_isN_l _ | with_reducible exact V.o_inN_n | with_reducible exact V.o_inN_i _ | with_reducible exact V.o_inN_t _ | with_reducible exact V.o_inN_l _ | with_reducible exact V.o_isN _ | with_reducible exact V.o_isntN _ | exact rfl)
local macro_rules | `(tactic| row_none_raised) => `(tactic| first | with_reducible assumption)
local macro_rules | `(tactic| pv_eval) => `(tactic| first
  | with_reducible assumption
  | with_reducible exact V.v_c _ _
  | ((with_reducible apply V.v_v); exact rfl)
  | ((with_reducible apply V.v_o); exact rfl)
  | ((with_reducible apply V.v_p); exact rfl)
  | ((with_reducible apply V.v_op); pv_eval; pv_eval; exact rfl; exact rfl; got_up)
  | ((with_reducible apply V.v_un); pv_eval; exact rfl; got_up)
  | ((with_reducible apply V.v_b1); pv_eval; exact rfl; got_up)
  | ((with_reducible apply V.v_b2); pv_eval; pv_eval; exact rfl; exact rfl; got_up)
  | ((with_reducible apply V.t_v); pv_eval)
  | ((with_reducible apply V.t_not); pv_eval)
  | ((with_reducible apply V.t_and); pv_eval; pv_eval)
  | ((with_reducible apply V.t_or); pv_eval; pv_eval)
  | ((with_reducible apply V.ak_f); units_room)
  | ((with_reducible apply V.ak_t); units_room; pv_eval)
  | ((with_reducible apply V.ak_g); pv_eval)
  | ((with_reducible apply V.ok_t); units_room)
  | ((with_reducible apply V.ok_f); units_room; pv_eval)
  | ((with_reducible apply V.ok_g); pv_eval)
  | ((with_reducible apply V.v_if); pv_eval; pv_eval)
  | ((with_reducible apply V.ik_t); units_room; pv_eval)
  | ((with_reducible apply V.ik_f); units_room; pv_eval)
  | ((with_reducible apply V.v_not); pv_eval)
  | ((with_reducible apply V.v_and); pv_eval; pv_eval)
  | ((with_reducible apply V.v_or); pv_eval; pv_eval)
  | ((with_reducible apply V.vk_f); units_room)
  | ((with_reducible apply V.vk_t); units_room; pv_eval)
  | ((with_reducible apply V.vk_g); pv_eval)
  | ((with_reducible apply V.vo_t); units_room)
  | ((with_reducible apply V.vo_f); units_room; pv_eval)
  | ((with_reducible apply V.vo_g); pv_eval)
  | with_reducible exact V.a_nil _
  | ((with_reducible apply V.a_cons); pv_eval; pv_eval; pv_eval)
  | with_reducible exact V.ao_v _ _
  | with_reducible exact V.ao_f _ _
  | with_reducible exact V.ao_p _
  | ((with_reducible apply V.ao_s); exact rfl; fold_lay)
  | with_reducible exact V.f_nil _
  | ((with_reducible apply V.f_cons); pv_eval; pv_eval; pv_eval)
  | with_reducible exact V.z_v _ _
  | with_reducible exact V.z_f _ _
  | ((with_reducible apply V.z_s); exact rfl; fold_lay)
  | with_reducible exact V.r_nil _
  | ((with_reducible apply V.r_cons); pv_eval; pv_eval; pv_eval)
  | with_reducible exact V.w1_v _ _
  | with_reducible exact V.w1_f _ _
  | with_reducible exact V.w1_o _ _
  | ((with_reducible apply V.w1_s); exact rfl; fold_lay)
  | ((with_reducible apply V.v_tup); pv_eval; pre_facts)
  | ((with_reducible apply V.v_lst); pv_eval; pre_facts)
  | ((with_reducible apply V.v_call); pv_eval; row_none_raised)
  | ((with_reducible apply V.w_tup); pv_eval; exact rfl)
  | ((with_reducible apply V.w_lst); pv_eval; exact rfl)
  | ((with_reducible apply V.w_fr); pv_eval)
  | ((with_reducible apply V.w_sl); pv_eval; exact rfl; fold_lay)
  | ((with_reducible apply V.w_enum); pv_eval)
  | ((with_reducible apply V.w_zip); pv_eval; pv_eval)
  | ((with_reducible apply V.w_rng); pv_eval; exact rfl; pre_facts)
  | ((with_reducible apply V.w_rng2); pv_eval; pv_eval; exact rfl; exact rfl; pre_facts; pre_facts)
  | ((with_reducible apply V.v_lrng); pv_eval; exact rfl; pre_facts)
  | with_reducible exact V.po_n _
  | ((with_reducible apply V.po_s); pv_eval; exact rfl)
  | ((with_reducible apply V.v_sl); pv_eval; pv_eval; pv_eval; exact rfl; got_up)
  | ((with_reducible apply V.v_lm); pv_eval; exact rfl; pv_eval; exact rfl; exact rfl; got_up)
  | ((with_reducible apply V.v_p0); exact rfl)
  | ((with_reducible apply V.v_pop); exact rfl; exact rfl; got_up; fold_lay)
  | ((with_reducible apply V.q_set); pv_eval; pv_eval)
  | ((with_reducible apply V.st_v); pre_facts; fold_lay)
  | ((with_reducible apply V.st_f); pre_facts; fold_lay)
  | ((with_reducible apply V.st_s); exact rfl; fold_lay; pre_facts; fold_lay)
  | ((with_reducible apply V.st_o); pre_facts; fold_lay)
  | ((with_reducible apply V.pt_o); pre_facts; fold_lay; pv_eval)
  | ((with_reducible apply V.v_d1); pv_eval; pv_eval; pv_eval)
  | ((with_reducible apply V.v_dget); exact rfl; pv_eval; exact rfl; got_up)
  | ((with_reducible apply V.v_din); pv_eval; exact rfl; got_up)
  | ((with_reducible apply V.v_dnin); pv_eval; exact rfl; got_up)
  | ((with_reducible apply V.v_dgetd); exact rfl; pv_eval; pv_eval; pv_eval; exact rfl; got_up)
  | ((with_reducible apply V.v_dlen); exact rfl; got_up)
  | ((with_reducible apply V.q_dput); pv_eval; pv_eval; exact rfl; pv_eval; exact rfl; pre_facts; got_up; fold_lay)
  | ((with_reducible apply V.q_expr); pv_eval)
  | ((with_reducible apply V.q_pars); pv_eval; exact rfl; pv_eval)
  | with_reducible exact V.pt_nil _
  | ((with_reducible apply V.pt_v); pre_facts; fold_lay; pv_eval)
  | ((with_reducible apply V.pt_f); pre_facts; fold_lay; pv_eval)
  | ((with_reducible apply V.q_app); exact rfl; pv_eval; pv_eval; exact rfl; pre_facts; fold_lay)
  | ((with_reducible apply V.q_ext); exact rfl; pv_eval; pv_eval; exact rfl; pre_facts; fold_lay)
  | ((with_reducible apply V.q_put); pv_eval; pv_eval; exact rfl; pv_eval; exact rfl; exact rfl; got_up; fold_lay)
  | ((with_reducible apply V.q_tgt); pv_eval; pv_eval; pv_eval)
  | ((with_reducible apply V.tg_n); pre_facts; fold_lay)
  | ((with_reducible apply V.tg_t); exact rfl; pv_eval)
  | ((with_reducible apply V.tg_l); exact rfl; pv_eval)
  | with_reducible exact V.ga_nil _
  | ((with_reducible apply V.ga_cons); pv_eval; pv_eval))
local macro_rules | `(tactic| fin_run) => `(tactic| first
  | ((with_reducible apply V.q_retS); pv_eval)
  | (with_reducible apply V.q_retNS)
  | (with_reducible apply V.q_brkS)
  | (with_reducible apply V.q_cntS)
  | ((with_reducible apply V.q_raiseS); pv_eval; pv_eval)
  | ((with_reducible apply V.q_iftS); units_room)
  | ((with_reducible apply V.q_iffS); units_room)
  | ((with_reducible apply V.q_ift); units_room)
  | ((with_reducible apply V.q_iff); units_room)
  | ((with_reducible apply V.q_one); pv_eval)
  | (with_reducible apply V.q_nilS)
  | (with_reducible apply V.q_assoc)
  | ((with_reducible apply V.q_ifSeq); pv_eval)
  | ((with_reducible apply V.q_if); pv_eval)
  | ((with_reducible apply V.q_ret); pv_eval)
  | (with_reducible apply V.q_retN)
  | ((with_reducible apply V.q_raise); pv_eval; pv_eval)
  | (with_reducible apply V.q_nil)
  | (with_reducible apply V.q_brk)
  | (with_reducible apply V.q_cnt)
  | ((with_reducible apply V.q_eq); pv_eval)
  | exact rfl)
local macro_rules | `(tactic| fold_depth) => `(tactic| first | (simp only [List.map_cons, List.map_nil, List.cons_append, List.nil_append, Nat.reduceSub, List.reduceReplicate, List.append_nil]; exact rfl) | exact rfl)
local macro_rules | `(tactic| top_args) => `(tactic| (pv_eval; exact rfl; (simp only [N4.wipeS, N4.setSl, List.set_cons_succ, List.set_cons_zero]; exact rfl); (repeat' (first | exact trivial | refine And.intro rfl ?_)); (first | pre_facts | skip)))
local macro_rules | `(tactic| reads_via) => `(tactic| (apply Eq.trans; pv_eval; exact rfl))
theorem nc2 {L k : Nat} {d : PyData} (h : Nc L k d) (a : L ≤ lineN) (b : k ≤ 64) : bRepr [d] = some (.val (.str d.shown)) ∧ oNe (.str d.shown) (.str d.shown) = some (.val (.bool false)) ∧ oEq (.str d.shown) (.str d.shown) = some (.val (.bool true)) := by
  refine ⟨nc_repr h a b, ?_, ?_⟩
  · rw [oNe_str h.ok h.ok, decide_eq_true rfl]
    rfl
  · rw [oEq_str h.ok h.ok, decide_eq_true rfl]
theorem nc_bk {b : Bk} (h : OkBk b) : Nc 2200 3 (bkD b) := by
  have h8 := h.most
  have h1 : ∀ k, ∀ m ∈ stOf b k, Nc 51 1 (mvD m) := fun k m hm => by
    have h2 := to_lt h k m hm
    have h3 : m.1 ≤ 99 := by
      unfold stOf at hm
      rcases Nat.lt_or_ge k b.length with q | q
      · have e : b.getD k [] = b[k] := by simp [q]
        rw [e] at hm
        exact (h.sts _ (List.getElem_mem q)).most m hm
      · have e : b.getD k [] = [] := by simp [q]
        rw [e] at hm
        exact absurd hm (by simp)
    exact (nc_tuple (L := 21) (k := 0) (xs := [.int m.1, .int m.2]) fun d hd => by
      rcases List.mem_cons.mp hd with rfl | hd
      · exact nc_small (by omega)
      · rw [List.mem_singleton.mp hd]
        exact nc_small (by omega)).mono (by simp) (by simp)
  have h2 : ∀ k, Nc 270 2 (stD (stOf b k)) := fun k => (nc_tuple (L := 51) (k := 1) (xs := (stOf b k).map mvD) fun d hd => by
    obtain ⟨m, hm, rfl⟩ := List.mem_map.mp hd
    exact h1 k m hm).mono (by have := st_len h k; simp; omega) (by simp)
  refine (nc_tuple (L := 270) (k := 2) (xs := b.map stD) fun d hd => ?_).mono (by rw [List.length_map]; omega) (Nat.le_refl 3)
  · rw [bk_range] at hd
    obtain ⟨k, hk, rfl⟩ := List.mem_map.mp hd
    exact h2 k
theorem nc_told {b : Bk} (h : OkBk b) : Nc 5000 4 (toldD (bkD b)) := (nc_tuple (L := 2200) (k := 3) (xs := [.str "told", bkD b]) fun d hd => by
  rcases List.mem_cons.mp hd with rfl | hd
  · exact ⟨by decide +kernel, by decide +kernel, by decide +kernel, by decide +kernel, by decide +kernel⟩
  · rw [List.mem_singleton.mp hd]
    exact nc_bk h).mono (by simp) (by simp)
theorem nc_badD {c : PySem.Str} {x : PyData} (hc : Nc 100 5 (.str c)) (hx : Nc 100 5 x) : Nc 1000 6 (badD c x) := (nc_tuple (L := 100) (k := 5) (xs := [.str c, x, .bool true]) fun d hd => by
  simp only [List.mem_cons, List.not_mem_nil, or_false] at hd
  rcases hd with rfl | rfl | rfl
  · exact hc
  · exact hx
  · exact (nc_bool true).mono (by omega) (by omega)).mono (by simp) (by simp)
theorem nc_sB : Nc 100 5 (.str "BadBook") := ⟨by decide +kernel, by decide +kernel, by decide +kernel, by decide +kernel, by decide +kernel⟩
theorem nc_sS : Nc 100 5 (.str "Stray") := ⟨by decide +kernel, by decide +kernel, by decide +kernel, by decide +kernel, by decide +kernel⟩
theorem eq_nilI (T : List Nat) : oEq (.list (intsD T)) (.list []) = some (.val (.bool T.isEmpty)) := by
  show (if (shal (.list (intsD T)) && shal (.list [])) = true then some (Ev.val (PyData.bool (PyData.eqv (.list (intsD T)) (.list [])))) else none) = _
  rw [shal_intsD]
  cases T with
  | nil => rfl
  | cons t T => rfl
theorem ix0_ints (k : Nat) (T : List Nat) : oIx (.list (intsD (k :: T))) (.int 0) = some (.val (.int (k : Nat))) := by
  show (match N4.ixN (intsD (k :: T)).length ((0 : Nat) : Int) with | some j => ((intsD (k :: T))[j]?).map Ev.val | none => none) = _
  rw [ixN_nat (by rw [len_intsD]; simp)]
  rfl
theorem right_ok {b : Bk} (h : OkBk b) {ks : List Nat} (hk : ks.head? = strayOf b) (p : Option Pl) : sem__law_trimmed_right [.val (bkD b), .val (.list (intsD ks))] p = .ok (.val (.bool true)) p := by
  have hok : OkBk (trim b) := ok_renum h
  have e1 := made_gen h p
  have e2 := is_book_gen h p
  have e3 := trimmed_ok h p
  have e4 := trimmed_ok hok p
  rw [trim_trim h] at e4
  have e5 := by_rows_ok h p
  have e6 := is_book_gen hok p
  rw [stray_trim h] at e6
  have e7 := eq_nilI ks
  obtain ⟨n1, n2, _⟩ := nc2 (nc_bk hok) (by unfold lineN; omega) (by omega)
  unfold sem__law_trimmed_right b__law_trimmed_right
  refine V.fn_eq rfl (by fold_depth) ?_
  cases ks with
  | nil =>
    have hs : strayOf b = none := hk.symm
    rw [hs] at e1 e2
    have e1 : sem_made_book [.val (bkD b)] p = .ok (.val (bkD b)) p := e1
    have e2 : sem_is_book [.val (bkD b)] p = .ok (.val (.bool true)) p := e2
    have e7 : oEq (.list (intsD [])) (.list []) = some (.val (.bool true)) := e7
    have eh : eHeard [0] sem__law_heard (eCall sem_made_book [eV 0]) ⟨[some (.val (bkD b)), some (.val (.list (intsD []))), some (.val (toldD (bkD b))), none], p⟩ = .ok (.val (toldD (bkD b))) ⟨[some (.val (bkD b)), some (.val (.list (intsD []))), some (.val (toldD (bkD b))), none], p⟩ := eh_told rfl (call_ok (args1 (eV_ok (i := 0) (d := bkD b) rfl)) e1) rfl
    obtain ⟨m1, m2, _⟩ := nc2 (nc_told h) (by unfold lineN; omega) (by omega)
    obtain ⟨m3, m4, _⟩ := nc2 (nc_bool true) (by unfold lineN; omega) (by omega)
    repeat fin_run
  | cons k ks =>
    have hs : strayOf b = some k := hk.symm
    rw [hs] at e1 e2
    have e1 : sem_made_book [.val (bkD b)] p = .err "Stray" (.int (k : Nat)) p := e1
    have e2 : sem_is_book [.val (bkD b)] p = .ok (.val (.bool false)) p := e2
    have e7 : oEq (.list (intsD (k :: ks))) (.list []) = some (.val (.bool false)) := e7
    have e8 := ix0_ints k ks
    have hk100 : k ≤ 100 := by
      have := List.mem_of_find?_eq_some hs
      rw [List.mem_range] at this
      have := h.most
      omega
    have eh : eHeard [0] sem__law_heard (eCall sem_made_book [eV 0]) ⟨[some (.val (bkD b)), some (.val (.list (intsD (k :: ks)))), some (.val (badD "Stray" (.int (k : Nat)))), none], p⟩ = .ok (.val (badD "Stray" (.int (k : Nat)))) ⟨[some (.val (bkD b)), some (.val (.list (intsD (k :: ks)))), some (.val (badD "Stray" (.int (k : Nat)))), none], p⟩ := eh_stray (s1 := ⟨_, p⟩) rfl (call_err (args1 (eV_ok (i := 0) (d := bkD b) rfl)) e1) rfl
    obtain ⟨m1, m2, _⟩ := nc2 (nc_badD nc_sS (nc_k hk100)) (by unfold lineN; omega) (by omega)
    obtain ⟨m3, m4, _⟩ := nc2 (nc_bool false) (by unfold lineN; omega) (by omega)
    repeat fin_run
end K02
end
section
set_option Elab.async false
set_option linter.all false
set_option autoImplicit false
set_option maxRecDepth 100000
set_option maxHeartbeats 4000000
namespace K02
open PySem PySem.Spec PyProof.Rows N4
theorem tn_body (A B : List Nat) (h0 : 0 < A.length) (h2 : A.length < 1000) (h4 : B.length < 1000) (s1 s4 : Option Sl) (p : Pl) (hi : Inv0 p) :
    ∃ (A' B' : List Nat) (p' : Pl), b__law_turned_1 ⟨[some .pool, s1, some (.own (intsD A)), some (.own (intsD B)), s4], some p⟩ = .nx ⟨[some .pool, s1, some (.own (intsD A')), some (.own (intsD B')), s4], some p'⟩ ∧ Inv0 p' ∧ (A' ++ B').Perm (A ++ B) ∧ A'.length = A.length - 1 ∧ B'.length = B.length + 1 := by
  obtain ⟨r, p', e1, i1, hr⟩ := draw_e (sl := [some .pool, s1, some (.own (intsD A)), some (.own (intsD B)), s4]) (p := p) (X := eBu bLen [eV 2]) (many := A.length) rfl (eBu1 (e := .slot 2) (d := .list (intsD A)) rfl rfl (by
    have := len_intsD A
    simp [bLen, this])) h0 (by omega) hi
  have ix := ixN_nat (len := (intsD A).length) (i := r) (by rw [len_intsD]; exact hr)
  have em : (intsD A)[r]? = some (.int (A[r] : Nat)) := by
    rw [at_intsD hr, List.getD_eq_getElem?_getD, List.getElem?_eq_getElem hr]
    rfl
  have c1 : -boundN ≤ (r : Int) ∧ (r : Int) < boundN := by unfold boundN; omega
  have ep : ePopAt 2 (eCall sem__law_draw [eV 0, eBu bLen [eV 2]]) ⟨[some .pool, s1, some (.own (intsD A)), some (.own (intsD B)), s4], some p⟩ = .ok (.val (.int (A[r] : Nat))) ⟨[some .pool, s1, some (.own (intsD (A.eraseIdx r))), some (.own (intsD B)), s4], some p'⟩ := by
    unfold ePopAt ofOwn
    simp only [List.getElem?_cons_zero, List.getElem?_cons_succ]
    rw [mBind_ok e1]
    simp only [List.getElem?_cons_zero, List.getElem?_cons_succ]
    rw [if_pos c1, ix]
    simp only [em, intsD_erase]
    rfl
  have ea := app_ok (i := 3) (xs0 := intsD B) (s := ⟨[some .pool, s1, some (.own (intsD A)), some (.own (intsD B)), s4], some p⟩) rfl ep (xs := intsD B) rfl (by rw [len_intsD]; omega)
  rw [app_intsD] at ea
  refine ⟨A.eraseIdx r, B ++ [A[r]], p', ea, i1, ?_, List.length_eraseIdx_of_lt hr, by rw [List.length_append]; rfl⟩
  refine (List.Perm.append_left _ List.perm_append_comm).trans ?_
  rw [← List.append_assoc]
  exact (erase_perm A r hr).append_right B
theorem tn_loop (s1 : Option Sl) : ∀ (k i : Nat) (A B : List Nat) (s4 : Option Sl) (p : Pl), Inv0 p → k ≤ A.length → A.length < 1000 → B.length + k < 1000 →
    ∃ (A' B' : List Nat) (p' : Pl) (s4' : Option Sl), loop (gN 4) b__law_turned_1 (intsN i k) ⟨[some .pool, s1, some (.own (intsD A)), some (.own (intsD B)), s4], some p⟩ = .nx ⟨[some .pool, s1, some (.own (intsD A')), some (.own (intsD B')), s4'], some p'⟩ ∧ Inv0 p' ∧ (A' ++ B').Perm (A ++ B) ∧ A'.length + k = A.length
  | 0, i, A, B, s4, p, hi, _, _, _ => ⟨A, B, p, s4, rfl, hi, List.Perm.refl _, rfl⟩
  | k + 1, i, A, B, s4, p, hi, hk, h2, h4 => by
    have eg : gN 4 (.int (i : Int)) ⟨[some .pool, s1, some (.own (intsD A)), some (.own (intsD B)), s4], some p⟩ = some ⟨[some .pool, s1, some (.own (intsD A)), some (.own (intsD B)), some (.val (.int i))], some p⟩ := rfl
    obtain ⟨A1, B1, p1, eb, i1, hP, lA, lB⟩ := tn_body A B (by omega) h2 (by omega) s1 (some (.val (.int i))) p hi
    obtain ⟨A', B', p', s4', e, i2, hP2, lA2⟩ := tn_loop s1 k (i + 1) A1 B1 (some (.val (.int i))) p1 i1 (by omega) (by omega) (by omega)
    refine ⟨A', B', p', s4', ?_, i2, hP2.trans hP, by omega⟩
    have en : intsN (i : Int) (k + 1) = .int (i : Int) :: intsN ((i + 1 : Nat) : Int) k := by simp [intsN]
    rw [en]
    unfold loop
    rw [eg]
    simp only [eb]
    exact e
theorem turned_ok (n : Nat) (hn : n ≤ 8) (p : Pl) (hi : Inv0 p) : ∃ (T : List Nat) (p' : Pl), sem__law_turned [.pool, .val (.int n)] (some p) = .ok (.fresh (intsD T)) (some p') ∧ Inv0 p' ∧ T.Perm (List.range n) := by
  have er : eLrng (eV 1) ⟨[some .pool, some (.val (.int n)), none, none, none], some p⟩ = .ok (.fresh (intsD (List.range n))) ⟨[some .pool, some (.val (.int n)), none, none, none], some p⟩ := by
    have c : -boundN ≤ (n : Int) ∧ (n : Int) < boundN ∧ (n : Int) ≤ 16777216 := by unfold boundN; omega
    have e0 : eV 1 ⟨[some .pool, some (.val (.int n)), none, none, none], some p⟩ = .ok (.val (.int n)) ⟨[some .pool, some (.val (.int n)), none, none, none], some p⟩ := rfl
    unfold eLrng
    rw [mBind_ok e0]
    simp only []
    rw [if_pos c, Int.toNat_natCast, intsN_range]
    rfl
  have o1 : own1 (.fresh (intsD (List.range n))) ⟨[some .pool, some (.val (.int n)), none, none, none], some p⟩ = .ok (.fresh (intsD (List.range n))) ⟨[some .pool, some (.val (.int n)), none, none, none], some p⟩ := rfl
  have e1 : sPars [2, 3] [eLrng (eV 1), eLst []] ⟨[some .pool, some (.val (.int n)), none, none, none], some p⟩ = .nx ⟨[some .pool, some (.val (.int n)), some (.own (intsD (List.range n))), some (.own (intsD [])), none], some p⟩ := (pars_ok (prs_cons er o1 (prs_cons (eLst_nil _) rfl rfl)) rfl).trans rfl
  have hr : N4.iRng1 [eV 1] ⟨[some .pool, some (.val (.int n)), some (.own (intsD (List.range n))), some (.own (intsD [])), none], some p⟩ = .ok (intsN 0 n) ⟨[some .pool, some (.val (.int n)), some (.own (intsD (List.range n))), some (.own (intsD [])), none], some p⟩ := rng1N rfl (by omega)
  obtain ⟨A', B', p', s4, lp, i1, hP, hl⟩ := tn_loop (some (.val (.int n))) n 0 (List.range n) [] none p hi (by rw [List.length_range]; exact Nat.le_refl _) (by rw [List.length_range]; omega) (by simp; omega)
  have lp : loop (gN 4) b__law_turned_1 (intsN 0 n) _ = _ := lp
  have hA : A' = [] := List.eq_nil_of_length_eq_zero (by rw [List.length_range] at hl; omega)
  subst hA
  rw [List.nil_append, List.append_nil] at hP
  refine ⟨B', p', ?_, i1, hP⟩
  have eM : sem__law_turned [.pool, .val (.int n)] (some p) = endOf (b__law_turned ⟨[some .pool, some (.val (.int n)), none, none, none], some p⟩) := by
    unfold sem__law_turned mkFn
    exact if_pos rfl
  rw [eM]
  unfold b__law_turned sFor sRet
  refine (congrArg endOf (sSeq_nx e1)).trans ?_
  refine (congrArg endOf (sSeq_nx ((sE_ok hr).trans lp))).trans ?_
  exact (congrArg endOf (sE_ok (m := eV 3) (a := .slot 3) rfl)).trans rfl
end K02
end
section
set_option Elab.async false
set_option linter.all false
set_option autoImplicit false
set_option maxRecDepth 100000
set_option maxHeartbeats 4000000
namespace K02
open PySem PySem.Spec PyProof.Rows N4
/-- b with other names of its states, and states beside -/
structure Pla (b : Bk) (o : List Nat) (t : Bk) : Prop where
  ok : OkBk t
  len : o.length = t.length
  perm : o.Perm (List.range t.length)
  zero : o.getD 0 0 = 0
  le : b.length ≤ t.length
  row : ∀ s, s < b.length → stOf t (o.getD s 0) = (stOf b s).map fun m => (m.1, o.getD m.2 0)
section
variable {b t : Bk} {o : List Nat}
theorem Pla.nd (h : Pla b o t) : o.Nodup := (h.perm.nodup_iff).mpr List.nodup_range
theorem getD_in {o : List Nat} {s : Nat} (h : s < o.length) : o.getD s 0 = o[s] := by simp [h]
theorem Pla.inj (h : Pla b o t) {x y : Nat} (hx : x < b.length) (hy : y < b.length) (e : o.getD x 0 = o.getD y 0) : x = y := by
  have h1 : x < o.length := by have := h.le; have := h.len; omega
  have h2 : y < o.length := by have := h.le; have := h.len; omega
  rw [getD_in h1, getD_in h2] at e
  have i1 := h.nd.idxOf_getElem x h1
  have i2 := h.nd.idxOf_getElem y h2
  rw [e, i2] at i1
  exact i1.symm
theorem visit_map {n : Nat} {f : Nat → Nat} (hf : ∀ x y, x < n → y < n → f x = f y → x = y) : ∀ (ms : List (Nat × Nat)) (F : List Nat), (∀ m ∈ ms, m.2 < n) → (∀ x ∈ F, x < n) → visit (F.map f) (ms.map fun m => (m.1, f m.2)) = (visit F ms).map f
  | [], F, _, _ => rfl
  | m :: ms, F, hm, hF => by
    have hm1 := hm m (List.mem_cons_self ..)
    have hms := fun m h => hm m (List.mem_cons_of_mem _ h)
    rw [List.map_cons]
    unfold visit
    have e : f m.2 ∈ F.map f ↔ m.2 ∈ F := ⟨fun h => by
      obtain ⟨x, hx, e⟩ := List.mem_map.mp h
      rw [← hf x m.2 (hF x hx) hm1 e]
      exact hx, fun h => List.mem_map_of_mem h⟩
    by_cases q : m.2 ∈ F
    · rw [if_pos q, if_pos (e.mpr q)]
      exact visit_map hf ms F hms hF
    · rw [if_neg q, if_neg (fun z => q (e.mp z))]
      have e2 : F.map f ++ [f m.2] = (F ++ [m.2]).map f := by simp
      show visit (F.map f ++ [f m.2]) _ = _
      rw [e2]
      exact visit_map hf ms (F ++ [m.2]) hms fun x hx => by
        rcases List.mem_append.mp hx with hx | hx
        · exact hF x hx
        · rw [List.mem_singleton.mp hx]
          exact hm1
theorem bfs_map (hb : OkBk b) (h : Pla b o t) : ∀ (k i : Nat) (F : List Nat), Met b.length F → bfs t k i (F.map fun s => o.getD s 0) = (bfs b k i F).map fun s => o.getD s 0
  | 0, i, F, _ => rfl
  | k + 1, i, F, hm => by
    by_cases q : i < F.length
    · rw [bfs_step b k q, bfs_step t k (by rw [List.length_map]; exact q)]
      have e1 : (F.map fun s => o.getD s 0).getD i 0 = o.getD (F.getD i 0) 0 := by simp [q]
      have hs : F.getD i 0 < b.length := getD_lt hm q
      rw [e1, h.row _ hs, visit_map (n := b.length) (f := fun s => o.getD s 0) (fun x y hx hy e => h.inj hx hy e) _ F (to_lt hb _) hm.lt]
      exact bfs_map hb h k (i + 1) _ (visit_met _ F hm (to_lt hb _)).1
    · rw [bfs_idle b (k + 1) i F (by omega), bfs_idle t (k + 1) i _ (by rw [List.length_map]; omega)]
theorem met_pla (hb : OkBk b) (h : Pla b o t) : metOf t = (metOf b).map fun s => o.getD s 0 := by
  have h1 := hb.one
  have e0 : metOf t = bfs t t.length 0 ([0].map fun s => o.getD s 0) := by
    show bfs t t.length 0 [0] = bfs t t.length 0 [o.getD 0 0]
    rw [h.zero]
  rw [e0, bfs_map hb h _ _ _ ⟨by simp, fun x hx => by simp at hx; omega⟩]
  obtain ⟨d, e⟩ := Nat.le.dest h.le
  have hl := met_len (metOf_met hb)
  unfold metOf at hl
  rw [← e, bfs_stop b d b.length 0 [0] (by omega)]
  rfl
theorem met_take (hb : OkBk b) (ha : AllMet b) (h : Pla b o t) (k : Nat) : k ∈ metOf t ↔ k ∈ o.take b.length := by
  have hle : b.length ≤ o.length := by have := h.le; have := h.len; omega
  rw [met_pla hb h, List.mem_map, List.mem_take_iff_getElem]
  constructor
  · rintro ⟨s, hs, rfl⟩
    have hs2 : s < b.length := (metOf_met hb).lt s hs
    exact ⟨s, by omega, (getD_in (by omega)).symm⟩
  · rintro ⟨s, hs, rfl⟩
    refine ⟨s, ?_, getD_in (by omega)⟩
    have := ha s (by omega)
    rw [met_eq hb] at this
    exact this
/-- the strays in order -/
theorem stray_pla (hb : OkBk b) (ha : AllMet b) (h : Pla b o t) {ks : List Nat} (hp : ks.Perm (o.drop b.length)) (hs : ks.Pairwise (· < ·)) : ks.head? = strayOf t := by
  have nd := h.nd
  rw [← List.take_append_drop b.length o] at nd
  have dj := (List.nodup_append.mp nd).2.2
  have inO : ∀ j, j < t.length → j ∈ o.take b.length ∨ j ∈ o.drop b.length := fun j hj => by
    have : j ∈ o := h.perm.mem_iff.mpr (List.mem_range.mpr hj)
    rw [← List.take_append_drop b.length o] at this
    exact List.mem_append.mp this
  cases ks with
  | nil =>
    refine (stray_none fun j hj => ?_).symm
    rw [met_take hb ha h]
    rcases inO j hj with q | q
    · exact q
    · exact absurd (hp.mem_iff.mpr q) (by simp)
  | cons k ks =>
    have hk : k ∈ o.drop b.length := hp.mem_iff.mp (List.mem_cons_self ..)
    have hko : k ∈ o := List.mem_of_mem_drop hk
    refine (stray_some (List.mem_range.mp (h.perm.mem_iff.mp hko)) ?_ fun j hj => ?_).symm
    · rw [met_take hb ha h]
      exact fun q => dj k q k hk rfl
    · rw [met_take hb ha h]
      have hkl := List.mem_range.mp (h.perm.mem_iff.mp hko)
      rcases inO j (by omega) with q | q
      · exact q
      · have := hp.mem_iff.mpr q
        rcases List.mem_cons.mp this with e | e
        · omega
        · have := (List.pairwise_cons.mp hs).1 j e
          omega
end
end K02
end
section
set_option Elab.async false
set_option linter.all false
set_option autoImplicit false
set_option maxRecDepth 100000
set_option maxHeartbeats 4000000
namespace K02
open PySem PySem.Spec PyProof.Rows N4
/-- names: 0 first, the others turned -/
def ordL (T : List Nat) : List Nat := 0 :: T.map (1 + ·)
theorem ord_perm {n : Nat} (h1 : 1 ≤ n) {T : List Nat} (h : T.Perm (List.range (n - 1))) : (ordL T).Perm (List.range n) := by
  obtain ⟨m, rfl⟩ : ∃ m, n = m + 1 := ⟨n - 1, by omega⟩
  rw [List.range_succ_eq_map]
  refine List.Perm.cons 0 ?_
  have := h.map (1 + ·)
  rw [Nat.add_sub_cancel] at this
  refine this.trans (List.Perm.of_eq ?_)
  exact List.map_congr_left fun x _ => by omega
def rowB (b : Bk) (o : List Nat) (s : Nat) : List (Nat × Nat) := (stOf b s).map fun m => (m.1, o.getD m.2 0)
/-- the rows written so far -/
structure Fnd (b : Bk) (o : List Nat) (n k : Nat) (L : Bk) : Prop where
  len : L.length = n
  sts : ∀ ms ∈ L, OkSt n ms
  row : ∀ s, s < k → s < b.length → stOf L (o.getD s 0) = rowB b o s
structure Ord (n : Nat) (o : List Nat) : Prop where
  perm : o.Perm (List.range n)
  zero : o.getD 0 0 = 0
section
variable {b : Bk} {o : List Nat} {n : Nat}
theorem Ord.len (h : Ord n o) : o.length = n := by
  have := h.perm.length_eq
  rw [List.length_range] at this
  exact this
theorem Ord.lt (h : Ord n o) {s : Nat} (hs : s < n) : o.getD s 0 < n := by
  have hl := h.len
  rw [getD_in (by omega)]
  exact List.mem_range.mp (h.perm.mem_iff.mp (List.getElem_mem _))
theorem Ord.inj (h : Ord n o) {x y : Nat} (hx : x < n) (hy : y < n) (e : o.getD x 0 = o.getD y 0) : x = y := by
  have hl := h.len
  have nd : o.Nodup := (h.perm.nodup_iff).mpr List.nodup_range
  have i1 := nd.idxOf_getElem x (by omega)
  have i2 := nd.idxOf_getElem y (by omega)
  rw [getD_in (by omega), getD_in (by omega)] at e
  rw [e, i2] at i1
  exact i1.symm
theorem ord_ok (h1 : 1 ≤ n) {T : List Nat} (h : T.Perm (List.range (n - 1))) : Ord n (ordL T) := ⟨ord_perm h1 h, rfl⟩
theorem st_in (hb : OkBk b) {s : Nat} (hs : s < b.length) : OkSt b.length (stOf b s) := by
  have e : stOf b s = b[s] := by
    unfold stOf
    simp [hs]
  rw [e]
  exact hb.sts _ (List.getElem_mem hs)
theorem row_ok (hb : OkBk b) (ho : Ord n o) (hn : b.length ≤ n) {s : Nat} (hs : s < b.length) : OkSt n (rowB b o s) := by
  have h := st_in hb hs
  unfold rowB
  refine ⟨by rw [List.length_map]; exact h.len, ?_, ?_, ?_⟩
  · rw [List.map_map]
    exact h.rise
  · intro m hm
    obtain ⟨m0, hm0, rfl⟩ := List.mem_map.mp hm
    exact h.most m0 hm0
  · intro m hm
    obtain ⟨m0, hm0, rfl⟩ := List.mem_map.mp hm
    exact ho.lt (by have := h.to m0 hm0; omega)
theorem okst_nil (n : Nat) : OkSt n [] := ⟨by simp, by simp, by simp, by simp⟩
theorem fnd_zero (b : Bk) (o : List Nat) (n : Nat) : Fnd b o n 0 (List.replicate n []) := ⟨List.length_replicate, fun ms hm => by
  rw [(List.mem_replicate.mp hm).2]
  exact okst_nil n, fun s hs => absurd hs (Nat.not_lt_zero s)⟩
theorem fnd_set (ho : Ord n o) {k : Nat} {L : Bk} (h : Fnd b o n k L) (hk : k < n) {ms : List (Nat × Nat)} (hm : OkSt n ms) (hr : k < b.length → ms = rowB b o k) (hkb : k ≤ b.length ∨ b.length ≤ k) : Fnd b o n (k + 1) (L.set (o.getD k 0) ms) := by
  have hl := ho.lt hk
  refine ⟨by rw [List.length_set]; exact h.len, fun x hx => ?_, fun s hs hsb => ?_⟩
  · rcases List.mem_or_eq_of_mem_set hx with q | q
    · exact h.sts x q
    · rw [q]
      exact hm
  · unfold stOf
    by_cases q : s = k
    · subst q
      rw [List.getD_eq_getElem?_getD, List.getElem?_set_self (by rw [h.len]; exact hl)]
      exact hr hsb
    · have hne : o.getD k 0 ≠ o.getD s 0 := fun e => q (ho.inj (by omega) hk e.symm)
      rw [List.getD_eq_getElem?_getD, List.getElem?_set_ne hne, ← List.getD_eq_getElem?_getD]
      exact h.row s (by omega) hsb
theorem fnd_pla (hb : OkBk b) (ho : Ord n o) {k : Nat} {L : Bk} (h : Fnd b o n k L) (hk : b.length ≤ k) (hn : b.length ≤ n) (h8 : n ≤ 8) : Pla b o L := by
  have h1 := hb.one
  refine ⟨⟨by rw [h.len]; omega, by rw [h.len]; omega, fun ms hm => by rw [h.len]; exact h.sts ms hm⟩, by rw [ho.len, h.len], by rw [h.len]; exact ho.perm, ho.zero, by rw [h.len]; exact hn, fun s hs => h.row s (by omega) hs⟩
end
end K02
end
section
set_option Elab.async false
set_option linter.all false
set_option autoImplicit false
set_option maxRecDepth 100000
set_option maxHeartbeats 4000000
namespace K02
open PySem PySem.Spec PyProof.Rows N4
local macro_rules | `(tactic| fold_lay) => `(tactic| first | (simp only [List.set_cons_succ, List.set_cons_zero]; done) | (simp only [List.set_cons_succ, List.set_cons_zero]; exact rfl) | exact rfl)
local macro_rules | `(tactic| pre_facts) => `(tactic| first | exact Nat.le_of_ble_eq_true rfl | with_reducible assumption | omega | (simp; done) | (simp; omega) | (unfold lineN; omega) | (simp [lineN]; omega))
local macro_rules | `(tactic| units_room) => `(tactic| first | with_reducible rfl | with_reducible assumption | (simp only [Bool.not_true, Bool.not_false, Bool.and_true, Bool.true_and, Bool.and_false, Bool.false_and, Bool.or_true, Bool.true_or, Bool.or_false, Bool.false_or, bne_self_eq_false, isaB, isaInt, isaBool, isaTuple, isaList, isaStr]; done) | (with_reducible apply decide_eq_true; omega) | (with_reducible apply decide_eq_false; omega) | (with_reducible apply decide_eq_true; with_reducible assumption) | (with_reducible apply decide_eq_false; with_reducible assumption) | (simp; done) | (simp; omega))
local macro_rules | `(tactic| got_up) => `(tactic| first | with_reducible assumption | with_reducible exact V.o_eqI _ _ | with_reducible exact V.o_neI _ _ | with_reducible exact V.o_eqB _ _ | with_reducible exact V.o_neB _ _ | with_reducible exact V.o_isN_n | with_reducible exact V.o_isN_i _ | with_reducible exact V.o_isN_t _ | with_reducible exact V.o_isN_l _ | with_reducible exact V.o_inN_n | with_reducible exact V.o_inN_i _ | with_reducible exact V.o_inN_t _ | with_reducible exact V.o_inN_l _ | with_reducible exact V.o_isN _ | with_reducible exact V.o_isntN _ | exact rfl)
local macro_rules | `(tactic| row_none_raised) => `(tactic| first | with_reducible assumption)
local macro_rules | `(tactic| pv_eval) => `(tactic| first
  | with_reducible assumption
  | with_reducible exact V.v_c _ _
  | ((with_reducible apply V.v_v); exact rfl)
  | ((with_reducible apply V.v_o); exact rfl)
  | ((with_reducible apply V.v_p); exact rfl)
  | ((with_reducible apply V.v_op); pv_eval; pv_eval; exact rfl; exact rfl; got_up)
  | ((with_reducible apply V.v_un); pv_eval; exact rfl; got_up)
  | ((with_reducible apply V.v_b1); pv_eval; exact rfl; got_up)
  | ((with_reducible apply V.v_b2); pv_eval; pv_eval; exact rfl; exact rfl; got_up)
  | ((with_reducible apply V.t_v); pv_eval)
  | ((with_reducible apply V.t_not); pv_eval)
  | ((with_reducible apply V.t_and); pv_eval; pv_eval)
  | ((with_reducible apply V.t_or); pv_eval; pv_eval)
  | ((with_reducible apply V.ak_f); units_room)
  | ((with_reducible apply V.ak_t); units_room; pv_eval)
  | ((with_reducible apply V.ak_g); pv_eval)
  | ((with_reducible apply V.ok_t); units_room)
  | ((with_reducible apply V.ok_f); units_room; pv_eval)
  | ((with_reducible apply V.ok_g); pv_eval)
  | ((with_reducible apply V.v_if); pv_eval; pv_eval)
  | ((with_reducible apply V.ik_t); units_room; pv_eval)
  | ((with_reducible apply V.ik_f); units_room; pv_eval)
  | ((with_reducible apply V.v_not); pv_eval)
  | ((with_reducible apply V.v_and); pv_eval; pv_eval)
  | ((with_reducible apply V.v_or); pv_eval; pv_eval)
  | ((with_reducible apply V.vk_f); units_room)
  | ((with_reducible apply V.vk_t); units_room; pv_eval)
  | ((with_reducible apply V.vk_g); pv_eval)
  | ((with_reducible apply V.vo_t); units_room)
  | ((with_reducible apply V.vo_f); units_room; pv_eval)
  | ((with_reducible apply V.vo_g); pv_eval)
  | with_reducible exact V.a_nil _
  | ((with_reducible apply V.a_cons); pv_eval; pv_eval; pv_eval)
  | with_reducible exact V.ao_v _ _
  | with_reducible exact V.ao_f _ _
  | with_reducible exact V.ao_p _
  | ((with_reducible apply V.ao_s); exact rfl; fold_lay)
  | with_reducible exact V.f_nil _
  | ((with_reducible apply V.f_cons); pv_eval; pv_eval; pv_eval)
  | with_reducible exact V.z_v _ _
  | with_reducible exact V.z_f _ _
  | ((with_reducible apply V.z_s); exact rfl; fold_lay)
  | with_reducible exact V.r_nil _
  | ((with_reducible apply V.r_cons); pv_eval; pv_eval; pv_eval)
  | with_reducible exact V.w1_v _ _
  | with_reducible exact V.w1_f _ _
  | with_reducible exact V.w1_o _ _
  | ((with_reducible apply V.w1_s); exact rfl; fold_lay)
  | ((with_reducible apply V.v_tup); pv_eval; pre_facts)
  | ((with_reducible apply V.v_lst); pv_eval; pre_facts)
  | ((with_reducible apply V.v_call); pv_eval; row_none_raised)
  | ((with_reducible apply V.w_tup); pv_eval; exact rfl)
  | ((with_reducible apply V.w_lst); pv_eval; exact rfl)
  | ((with_reducible apply V.w_fr); pv_eval)
  | ((with_reducible apply V.w_sl); pv_eval; exact rfl; fold_lay)
  | ((with_reducible apply V.w_enum); pv_eval)
  | ((with_reducible apply V.w_zip); pv_eval; pv_eval)
  | ((with_reducible apply V.w_rng); pv_eval; exact rfl; pre_facts)
  | ((with_reducible apply V.w_rng2); pv_eval; pv_eval; exact rfl; exact rfl; pre_facts; pre_facts)
  | ((with_reducible apply V.v_lrng); pv_eval; exact rfl; pre_facts)
  | with_reducible exact V.po_n _
  | ((with_reducible apply V.po_s); pv_eval; exact rfl)
  | ((with_reducible apply V.v_sl); pv_eval; pv_eval; pv_eval; exact rfl; got_up)
  | ((with_reducible apply V.v_lm); pv_eval; exact rfl; pv_eval; exact rfl; exact rfl; got_up)
  | ((with_reducible apply V.v_p0); exact rfl)
  | ((with_reducible apply V.v_pop); exact rfl; exact rfl; got_up; fold_lay)
  | ((with_reducible apply V.q_set); pv_eval; pv_eval)
  | ((with_reducible apply V.st_v); pre_facts; fold_lay)
  | ((with_reducible apply V.st_f); pre_facts; fold_lay)
  | ((with_reducible apply V.st_s); exact rfl; fold_lay; pre_facts; fold_lay)
  | ((with_reducible apply V.st_o); pre_facts; fold_lay)
  | ((with_reducible apply V.pt_o); pre_facts; fold_lay; pv_eval)
  | ((with_reducible apply V.v_d1); pv_eval; pv_eval; pv_eval)
  | ((with_reducible apply V.v_dget); exact rfl; pv_eval; exact rfl; got_up)
  | ((with_reducible apply V.v_din); pv_eval; exact rfl; got_up)
  | ((with_reducible apply V.v_dnin); pv_eval; exact rfl; got_up)
  | ((with_reducible apply V.v_dgetd); exact rfl; pv_eval; pv_eval; pv_eval; exact rfl; got_up)
  | ((with_reducible apply V.v_dlen); exact rfl; got_up)
  | ((with_reducible apply V.q_dput); pv_eval; pv_eval; exact rfl; pv_eval; exact rfl; pre_facts; got_up; fold_lay)
  | ((with_reducible apply V.q_expr); pv_eval)
  | ((with_reducible apply V.q_pars); pv_eval; exact rfl; pv_eval)
  | with_reducible exact V.pt_nil _
  | ((with_reducible apply V.pt_v); pre_facts; fold_lay; pv_eval)
  | ((with_reducible apply V.pt_f); pre_facts; fold_lay; pv_eval)
  | ((with_reducible apply V.q_app); exact rfl; pv_eval; pv_eval; exact rfl; pre_facts; fold_lay)
  | ((with_reducible apply V.q_ext); exact rfl; pv_eval; pv_eval; exact rfl; pre_facts; fold_lay)
  | ((with_reducible apply V.q_put); pv_eval; pv_eval; exact rfl; pv_eval; exact rfl; exact rfl; got_up; fold_lay)
  | ((with_reducible apply V.q_tgt); pv_eval; pv_eval; pv_eval)
  | ((with_reducible apply V.tg_n); pre_facts; fold_lay)
  | ((with_reducible apply V.tg_t); exact rfl; pv_eval)
  | ((with_reducible apply V.tg_l); exact rfl; pv_eval)
  | with_reducible exact V.ga_nil _
  | ((with_reducible apply V.ga_cons); pv_eval; pv_eval))
local macro_rules | `(tactic| fin_run) => `(tactic| first
  | ((with_reducible apply V.q_retS); pv_eval)
  | (with_reducible apply V.q_retNS)
  | (with_reducible apply V.q_brkS)
  | (with_reducible apply V.q_cntS)
  | ((with_reducible apply V.q_raiseS); pv_eval; pv_eval)
  | ((with_reducible apply V.q_iftS); units_room)
  | ((with_reducible apply V.q_iffS); units_room)
  | ((with_reducible apply V.q_ift); units_room)
  | ((with_reducible apply V.q_iff); units_room)
  | ((with_reducible apply V.q_one); pv_eval)
  | (with_reducible apply V.q_nilS)
  | (with_reducible apply V.q_assoc)
  | ((with_reducible apply V.q_ifSeq); pv_eval)
  | ((with_reducible apply V.q_if); pv_eval)
  | ((with_reducible apply V.q_ret); pv_eval)
  | (with_reducible apply V.q_retN)
  | ((with_reducible apply V.q_raise); pv_eval; pv_eval)
  | (with_reducible apply V.q_nil)
  | (with_reducible apply V.q_brk)
  | (with_reducible apply V.q_cnt)
  | ((with_reducible apply V.q_eq); pv_eval)
  | exact rfl)
local macro_rules | `(tactic| fold_depth) => `(tactic| first | (simp only [List.map_cons, List.map_nil, List.cons_append, List.nil_append, Nat.reduceSub, List.reduceReplicate, List.append_nil]; exact rfl) | exact rfl)
local macro_rules | `(tactic| top_args) => `(tactic| (pv_eval; exact rfl; (simp only [N4.wipeS, N4.setSl, List.set_cons_succ, List.set_cons_zero]; exact rfl); (repeat' (first | exact trivial | refine And.intro rfl ?_)); (first | pre_facts | skip)))
local macro_rules | `(tactic| reads_via) => `(tactic| (apply Eq.trans; pv_eval; exact rfl))
theorem ix_ints {F : List Nat} {k : Nat} (h : k < F.length) : oIx (.list (intsD F)) (.int (k : Nat)) = some (.val (.int (F.getD k 0 : Nat))) := by
  show (match N4.ixN (intsD F).length ((k : Nat) : Int) with | some j => ((intsD F)[j]?).map Ev.val | none => none) = _
  rw [ixN_nat (by rw [len_intsD]; exact h)]
  show ((intsD F)[k]?).map Ev.val = _
  rw [at_intsD h]
  rfl
theorem sub1 {n : Nat} (h : 1 ≤ n) : oSub (.int (n : Nat)) (.int 1) = some (.val (.int (n - 1 : Nat))) := by
  show some (Ev.val (PyData.int ((n : Int) - 1))) = _
  rw [show ((n - 1 : Nat) : Int) = (n : Int) - 1 from by omega]
theorem ord_add (T : List Nat) (h : T.length ≤ 100) : oAdd (.list [.int 0]) (.list (T.map fun k : Nat => .int (1 + k : Nat))) = some (.fresh (intsD (ordL T))) := by
  rw [oAdd_l (by simp; unfold lineN; omega)]
  unfold ordL intsD
  rw [List.map_cons, List.map_map]
  rfl
theorem perm_len {T : List Nat} {n : Nat} (h : T.Perm (List.range n)) : T.length = n := by
  have := h.length_eq
  rw [List.length_range] at this
  exact this
theorem renamed_ok {b : Bk} (hb : OkBk b) (p : Pl) (hi : Inv0 p) : ∃ (t : Bk) (o : List Nat) (p' : Pl), sem__law_book_renamed [.pool, .val (bkD b)] (some p) = .ok (.fresh [bkD t, .list (intsD o)]) (some p') ∧ Inv0 p' ∧ Pla b o t ∧ t.length = b.length := by
  have h8 := hb.most
  have h1 := hb.one
  obtain ⟨T, p1, et, i1, hT⟩ := turned_ok (b.length - 1) (by omega) p hi
  have hTl := perm_len hT
  have ho := ord_ok h1 hT
  have hol := ho.len
  have hbl := bLen_bk b
  have hsub := sub1 h1
  have hadd := ord_add T (by omega)
  have ht := times_l b.length (.tuple []) (by omega)
  suffices hw : ∃ (L : Bk), Fnd b (ordL T) b.length b.length L ∧ sem__law_book_renamed [.pool, .val (bkD b)] (some p) = .ok (.fresh [bkD L, .list (intsD (ordL T))]) (some p1) by
    obtain ⟨L, hL, e⟩ := hw
    exact ⟨L, ordL T, p1, e, i1, fnd_pla hb ho hL (Nat.le_refl _) (Nat.le_refl _) h8, hL.len⟩
  unfold sem__law_book_renamed b__law_book_renamed
  refine V.fn_wp (R := fun x => ∃ (L : Bk), Fnd b (ordL T) b.length b.length L ∧ x = .ok (.fresh [bkD L, .list (intsD (ordL T))]) (some p1)) rfl (by fold_depth) ?_
  with_reducible apply V.q_one
  · with_reducible apply V.q_set
    · with_reducible apply V.v_op
      · pv_eval
      · apply V.v_lcm (fun k : Nat => .int (1 + k : Nat)) (as := T) (f := fun k : Nat => .int (k : Nat))
        top_args
        intro k hk
        refine ⟨_, by pv_eval, _, _, by pv_eval, _, _, by pv_eval, ?_, ?_⟩
        · show PyData.int _ = PyData.int _
          congr 1
        · exact rfl
      · exact rfl
      · exact rfl
      · exact hadd
    · pv_eval
  fin_run
  apply V.q_forR (n := b.length) (f := fun k : Nat => .tuple [.int (k : Nat), stD (stOf b k)]) (fun k σ => ∃ (L : Bk) (x4 x5 x7 x8 : Option Sl), Fnd b (ordL T) b.length k L ∧ Vs x7 ∧ Vs x8 ∧ σ = ⟨[some .pool, some (.val (bkD b)), some (.own (intsD (ordL T))), some (.own (L.map stD)), x4, x5, none, x7, x8], some p1⟩)
  · apply V.w_enum (as := b)
    pv_eval
  · rw [zipIdx_range [] b, List.map_map]
    exact List.map_congr_left fun k _ => rfl
  · refine ⟨List.replicate b.length [], none, none, none, none, fnd_zero _ _ _, vs_none, vs_none, ?_⟩
    rw [List.map_replicate]
    exact rfl
  · rintro k σ hk ⟨L, x4, x5, x7, x8, hL, v7, v8, rfl⟩
    refine ⟨_, by pv_eval, fun U hU => ?_⟩
    have hix := ix_ints (F := ordL T) (k := k) (by omega)
    have hst := st_len hb k
    have hj : N4.ixN (L.map stD).length ((ordL T).getD k 0 : Nat) = some ((ordL T).getD k 0) := ixN_nat (by rw [List.length_map, hL.len]; exact ho.lt hk)
    unfold b__law_book_renamed_1
    with_reducible apply V.q_eq
    · apply V.q_put
      · with_reducible apply V.v_b1
        · apply V.v_lcm (fun m : Nat × Nat => mvD (m.1, (ordL T).getD m.2 0)) (as := stOf b k) (f := mvD)
          top_args
          · exact ⟨congrArg some v7, congrArg some v8, trivial⟩
          · omega
          intro m hm
          have him := ix_ints (F := ordL T) (k := m.2) (by have := to_lt hb k m hm; omega)
          refine ⟨_, by pv_eval, ?_⟩
          with_reducible apply ev3
          · pv_eval
          · pv_eval
          · exact rfl
          · exact rfl
        · exact rfl
        · exact rfl
      · pv_eval
      · exact rfl
      · pv_eval
      · exact rfl
      · exact rfl
      · exact hj
      · fold_lay
    · refine hU.nx _ ⟨L.set ((ordL T).getD k 0) (rowB b (ordL T) k), some (.val (.int (k : Nat))), some (.val (stD (stOf b k))), x7, x8, fnd_set ho hL hk (row_ok hb ho (Nat.le_refl _) hk) (fun _ => rfl) (.inl (by omega)), v7, v8, ?_⟩
      rw [List.map_set]
      unfold rowB
      rw [show stD ((stOf b k).map fun m => (m.1, (ordL T).getD m.2 0)) = .tuple ((stOf b k).map fun m => mvD (m.1, (ordL T).getD m.2 0)) from by
        unfold stD
        rw [List.map_map]
        rfl]
  · rintro σ ⟨L, x4, x5, x7, x8, hL, v7, v8, rfl⟩
    with_reducible apply V.q_ret
    · pv_eval
    · exact ⟨L, hL, rfl⟩
end K02
end
section
set_option Elab.async false
set_option linter.all false
set_option autoImplicit false
set_option maxRecDepth 100000
set_option maxHeartbeats 4000000
namespace K02
open PySem PySem.Spec PyProof.Rows N4
local macro_rules | `(tactic| fold_lay) => `(tactic| first | (simp only [List.set_cons_succ, List.set_cons_zero]; done) | (simp only [List.set_cons_succ, List.set_cons_zero]; exact rfl) | exact rfl)
local macro_rules | `(tactic| pre_facts) => `(tactic| first | exact Nat.le_of_ble_eq_true rfl | with_reducible assumption | omega | (simp; done) | (simp; omega) | (unfold lineN; omega) | (simp [lineN]; omega))
local macro_rules | `(tactic| units_room) => `(tactic| first | with_reducible rfl | with_reducible assumption | (simp only [Bool.not_true, Bool.not_false, Bool.and_true, Bool.true_and, Bool.and_false, Bool.false_and, Bool.or_true, Bool.true_or, Bool.or_false, Bool.false_or, bne_self_eq_false, isaB, isaInt, isaBool, isaTuple, isaList, isaStr]; done) | (with_reducible apply decide_eq_true; omega) | (with_reducible apply decide_eq_false; omega) | (with_reducible apply decide_eq_true; with_reducible assumption) | (with_reducible apply decide_eq_false; with_reducible assumption) | (simp; done) | (simp; omega))
local macro_rules | `(tactic| got_up) => `(tactic| first | with_reducible assumption | with_reducible exact V.o_eqI _ _ | with_reducible exact V.o_neI _ _ | with_reducible exact V.o_eqB _ _ | with_reducible exact V.o_neB _ _ | with_reducible exact V.o_isN_n | with_reducible exact V.o_isN_i _ | with_reducible exact V.o_isN_t _ | with_reducible exact V.o_isN_l _ | with_reducible exact V.o_inN_n | with_reducible exact V.o_inN_i _ | with_reducible exact V.o_inN_t _ | with_reducible exact V.o_inN_l _ | with_reducible exact V.o_isN _ | with_reducible exact V.o_isntN _ | exact rfl)
local macro_rules | `(tactic| row_none_raised) => `(tactic| first | with_reducible assumption)
local macro_rules | `(tactic| pv_eval) => `(tactic| first
  | with_reducible assumption
  | with_reducible exact V.v_c _ _
  | ((with_reducible apply V.v_v); exact rfl)
  | ((with_reducible apply V.v_o); exact rfl)
  | ((with_reducible apply V.v_p); exact rfl)
  | ((with_reducible apply V.v_op); pv_eval; pv_eval; exact rfl; exact rfl; got_up)
  | ((with_reducible apply V.v_un); pv_eval; exact rfl; got_up)
  | ((with_reducible apply V.v_b1); pv_eval; exact rfl; got_up)
  | ((with_reducible apply V.v_b2); pv_eval; pv_eval; exact rfl; exact rfl; got_up)
  | ((with_reducible apply V.t_v); pv_eval)
  | ((with_reducible apply V.t_not); pv_eval)
  | ((with_reducible apply V.t_and); pv_eval; pv_eval)
  | ((with_reducible apply V.t_or); pv_eval; pv_eval)
  | ((with_reducible apply V.ak_f); units_room)
  | ((with_reducible apply V.ak_t); units_room; pv_eval)
  | ((with_reducible apply V.ak_g); pv_eval)
  | ((with_reducible apply V.ok_t); units_room)
  | ((with_reducible apply V.ok_f); units_room; pv_eval)
  | ((with_reducible apply V.ok_g); pv_eval)
  | ((with_reducible apply V.v_if); pv_eval; pv_eval)
  | ((with_reducible apply V.ik_t); units_room; pv_eval)
  | ((with_reducible apply V.ik_f); units_room; pv_eval)
  | ((with_reducible apply V.v_not); pv_eval)
  | ((with_reducible apply V.v_and); pv_eval; pv_eval)
  | ((with_reducible apply V.v_or); pv_eval; pv_eval)
  | ((with_reducible apply V.vk_f); units_room)
  | ((with_reducible apply V.vk_t); units_room; pv_eval)
  | ((with_reducible apply V.vk_g); pv_eval)
  | ((with_reducible apply V.vo_t); units_room)
  | ((with_reducible apply V.vo_f); units_room; pv_eval)
  | ((with_reducible apply V.vo_g); pv_eval)
  | with_reducible exact V.a_nil _
  | ((with_reducible apply V.a_cons); pv_eval; pv_eval; pv_eval)
  | with_reducible exact V.ao_v _ _
  | with_reducible exact V.ao_f _ _
  | with_reducible exact V.ao_p _
  | ((with_reducible apply V.ao_s); exact rfl; fold_lay)
  | with_reducible exact V.f_nil _
  | ((with_reducible apply V.f_cons); pv_eval; pv_eval; pv_eval)
  | with_reducible exact V.z_v _ _
  | with_reducible exact V.z_f _ _
  | ((with_reducible apply V.z_s); exact rfl; fold_lay)
  | with_reducible exact V.r_nil _
  | ((with_reducible apply V.r_cons); pv_eval; pv_eval; pv_eval)
  | with_reducible exact V.w1_v _ _
  | with_reducible exact V.w1_f _ _
  | with_reducible exact V.w1_o _ _
  | ((with_reducible apply V.w1_s); exact rfl; fold_lay)
  | ((with_reducible apply V.v_tup); pv_eval; pre_facts)
  | ((with_reducible apply V.v_lst); pv_eval; pre_facts)
  | ((with_reducible apply V.v_call); pv_eval; row_none_raised)
  | ((with_reducible apply V.w_tup); pv_eval; exact rfl)
  | ((with_reducible apply V.w_lst); pv_eval; exact rfl)
  | ((with_reducible apply V.w_fr); pv_eval)
  | ((with_reducible apply V.w_sl); pv_eval; exact rfl; fold_lay)
  | ((with_reducible apply V.w_enum); pv_eval)
  | ((with_reducible apply V.w_zip); pv_eval; pv_eval)
  | ((with_reducible apply V.w_rng); pv_eval; exact rfl; pre_facts)
  | ((with_reducible apply V.w_rng2); pv_eval; pv_eval; exact rfl; exact rfl; pre_facts; pre_facts)
  | ((with_reducible apply V.v_lrng); pv_eval; exact rfl; pre_facts)
  | with_reducible exact V.po_n _
  | ((with_reducible apply V.po_s); pv_eval; exact rfl)
  | ((with_reducible apply V.v_sl); pv_eval; pv_eval; pv_eval; exact rfl; got_up)
  | ((with_reducible apply V.v_lm); pv_eval; exact rfl; pv_eval; exact rfl; exact rfl; got_up)
  | ((with_reducible apply V.v_p0); exact rfl)
  | ((with_reducible apply V.v_pop); exact rfl; exact rfl; got_up; fold_lay)
  | ((with_reducible apply V.q_set); pv_eval; pv_eval)
  | ((with_reducible apply V.st_v); pre_facts; fold_lay)
  | ((with_reducible apply V.st_f); pre_facts; fold_lay)
  | ((with_reducible apply V.st_s); exact rfl; fold_lay; pre_facts; fold_lay)
  | ((with_reducible apply V.st_o); pre_facts; fold_lay)
  | ((with_reducible apply V.pt_o); pre_facts; fold_lay; pv_eval)
  | ((with_reducible apply V.v_d1); pv_eval; pv_eval; pv_eval)
  | ((with_reducible apply V.v_dget); exact rfl; pv_eval; exact rfl; got_up)
  | ((with_reducible apply V.v_din); pv_eval; exact rfl; got_up)
  | ((with_reducible apply V.v_dnin); pv_eval; exact rfl; got_up)
  | ((with_reducible apply V.v_dgetd); exact rfl; pv_eval; pv_eval; pv_eval; exact rfl; got_up)
  | ((with_reducible apply V.v_dlen); exact rfl; got_up)
  | ((with_reducible apply V.q_dput); pv_eval; pv_eval; exact rfl; pv_eval; exact rfl; pre_facts; got_up; fold_lay)
  | ((with_reducible apply V.q_expr); pv_eval)
  | ((with_reducible apply V.q_pars); pv_eval; exact rfl; pv_eval)
  | with_reducible exact V.pt_nil _
  | ((with_reducible apply V.pt_v); pre_facts; fold_lay; pv_eval)
  | ((with_reducible apply V.pt_f); pre_facts; fold_lay; pv_eval)
  | ((with_reducible apply V.q_app); exact rfl; pv_eval; pv_eval; exact rfl; pre_facts; fold_lay)
  | ((with_reducible apply V.q_ext); exact rfl; pv_eval; pv_eval; exact rfl; pre_facts; fold_lay)
  | ((with_reducible apply V.q_put); pv_eval; pv_eval; exact rfl; pv_eval; exact rfl; exact rfl; got_up; fold_lay)
  | ((with_reducible apply V.q_tgt); pv_eval; pv_eval; pv_eval)
  | ((with_reducible apply V.tg_n); pre_facts; fold_lay)
  | ((with_reducible apply V.tg_t); exact rfl; pv_eval)
  | ((with_reducible apply V.tg_l); exact rfl; pv_eval)
  | with_reducible exact V.ga_nil _
  | ((with_reducible apply V.ga_cons); pv_eval; pv_eval))
local macro_rules | `(tactic| fin_run) => `(tactic| first
  | ((with_reducible apply V.q_retS); pv_eval)
  | (with_reducible apply V.q_retNS)
  | (with_reducible apply V.q_brkS)
  | (with_reducible apply V.q_cntS)
  | ((with_reducible apply V.q_raiseS); pv_eval; pv_eval)
  | ((with_reducible apply V.q_iftS); units_room)
  | ((with_reducible apply V.q_iffS); units_room)
  | ((with_reducible apply V.q_ift); units_room)
  | ((with_reducible apply V.q_iff); units_room)
  | ((with_reducible apply V.q_one); pv_eval)
  | (with_reducible apply V.q_nilS)
  | (with_reducible apply V.q_assoc)
  | ((with_reducible apply V.q_ifSeq); pv_eval)
  | ((with_reducible apply V.q_if); pv_eval)
  | ((with_reducible apply V.q_ret); pv_eval)
  | (with_reducible apply V.q_retN)
  | ((with_reducible apply V.q_raise); pv_eval; pv_eval)
  | (with_reducible apply V.q_nil)
  | (with_reducible apply V.q_brk)
  | (with_reducible apply V.q_cnt)
  | ((with_reducible apply V.q_eq); pv_eval)
  | exact rfl)
local macro_rules | `(tactic| fold_depth) => `(tactic| first | (simp only [List.map_cons, List.map_nil, List.cons_append, List.nil_append, Nat.reduceSub, List.reduceReplicate, List.append_nil]; exact rfl) | exact rfl)
local macro_rules | `(tactic| top_args) => `(tactic| (pv_eval; exact rfl; (simp only [N4.wipeS, N4.setSl, List.set_cons_succ, List.set_cons_zero]; exact rfl); (repeat' (first | exact trivial | refine And.intro rfl ?_)); (first | pre_facts | skip)))
local macro_rules | `(tactic| reads_via) => `(tactic| (apply Eq.trans; pv_eval; exact rfl))
theorem sub9 {n : Nat} (h : n ≤ 9) : oSub (.int 9) (.int (n : Nat)) = some (.val (.int (9 - n : Nat))) := by
  show some (Ev.val (PyData.int (9 - (n : Int)))) = _
  rw [show ((9 - n : Nat) : Int) = 9 - (n : Int) from by omega]
theorem min4 (n : Nat) : bMin2 [.int 4, .int (n : Nat)] = some (.val (.int (min 4 n : Nat))) := by
  show some (Ev.val (PyData.int (if (n : Int) < 4 then (n : Int) else 4))) = _
  rw [show (if (n : Int) < 4 then (n : Int) else 4) = ((min 4 n : Nat) : Int) from by split <;> omega]
theorem add_nn (m n : Nat) : oAdd (.int (m : Nat)) (.int (n : Nat)) = some (.val (.int (m + n : Nat))) := rfl
theorem rnd_row {n : Nat} {ms bs : List Nat} (h1 : ms.Pairwise (· < ·)) (h2 : ∀ m ∈ ms, m ≤ 99) (h3 : ms.length ≤ 5) (h4 : bs.length = ms.length) (h5 : ∀ y ∈ bs, y < n) : OkSt n (ms.zip bs) := by
  refine ⟨by rw [List.length_zip]; omega, ?_, ?_, ?_⟩
  · rw [List.map_fst_zip (by omega)]
    exact h1
  · exact fun m hm => h2 _ (List.of_mem_zip hm).1
  · exact fun m hm => h5 _ (List.of_mem_zip hm).2
/-- a row of a stray -/
theorem ws2_ok {n : Nat} (hn : 0 < n) (hn8 : n ≤ 8) {k : Nat} {o : List Nat} (hk : k < o.length) (L : Bk) (hL : L.length = n) (ho : o.getD k 0 < n) (x1 x6 x7 x8 x9 x10 : Option Sl) (v9 : Vs x9) (p : Pl) (hi : Inv0 p) :
    V.WP (b__law_with_strays_2 ⟨[some .pool, x1, some (.val (.int (n : Nat))), some (.own (intsD o)), some (.own (L.map stD)), some (.val (.int (k : Nat))), x6, x7, x8, x9, x10], some p⟩) fun r => ∃ (ms : List (Nat × Nat)) (x7' : Option Sl) (q : Pl), OkSt n ms ∧ Inv0 q ∧ r = .nx ⟨[some .pool, x1, some (.val (.int (n : Nat))), some (.own (intsD o)), some (.own ((L.set (o.getD k 0) ms).map stD)), some (.val (.int (k : Nat))), x6, x7', x8, x9, x10], some q⟩ := by
  obtain ⟨c, p1, e1, i1, hc⟩ := drawN p 3 (by decide) (by decide) hi
  have e1 : sem__law_draw [.pool, .val (.int 3)] (some p) = .ok (.val (.int (c : Nat))) (some p1) := e1
  obtain ⟨ms, p2, e2, i2, h1, h2, h3⟩ := messages_ok c (by omega) p1 i1
  have hix := ix_ints (F := o) (k := k) hk
  have hj : N4.ixN (L.map stD).length (o.getD k 0 : Nat) = some (o.getD k 0) := ixN_nat (by rw [List.length_map, hL]; exact ho)
  unfold b__law_with_strays_2
  fin_run
  obtain ⟨bs, q, ⟨p3, rfl, i3⟩, hbl, hby, elc⟩ := V.v_lcP (own := [9]) (it := N4.iSeq (eV 7)) (g := gN 9) (e := eTup [eV 9, eCall sem__law_draw [eV 0, eV 2]]) (f := fun k : Nat => .int (k : Nat)) (s := ⟨[some .pool, x1, some (.val (.int (n : Nat))), some (.own (intsD o)), some (.own (L.map stD)), some (.val (.int (k : Nat))), x6, some (.own (intsD ms)), x8, x9, x10], some p2⟩)
    (fun a y : Nat => mvD (a, y)) (fun y => y < n) (fun q => ∃ pl, q = some pl ∧ Inv0 pl) (as := ms)
    (sl := [some .pool, x1, some (.val (.int (n : Nat))), some (.own (intsD o)), some (.own (L.map stD)), some (.val (.int (k : Nat))), x6, some (.val (.list (intsD ms))), x8, x9, x10]) (sl0 := [some .pool, x1, some (.val (.int (n : Nat))), some (.own (intsD o)), some (.own (L.map stD)), some (.val (.int (k : Nat))), x6, some (.val (.list (intsD ms))), x8, none, x10])
    (by pv_eval) rfl (fun q => rfl) ⟨congrArg some v9, trivial⟩ (by omega) ⟨p2, rfl, i2⟩ (by
      rintro m hm q ⟨pq, rfl, iq⟩
      obtain ⟨y, q1, ed, i3, hy⟩ := drawN pq n hn (by omega) iq
      refine ⟨_, by pv_eval, _, _, by pv_eval, _, _, by pv_eval, y, hy, ?_, _, ⟨q1, rfl, i3⟩, ?_⟩
      · exact rfl
      · exact rfl)
  with_reducible apply V.q_eq
  · apply V.q_put
    · with_reducible apply V.v_b1
      · exact elc
      · exact rfl
      · exact rfl
    · pv_eval
    · exact rfl
    · pv_eval
    · exact rfl
    · exact rfl
    · exact hj
    · fold_lay
  · refine ⟨ms.zip bs, some (.val (.list (intsD ms))), p3, rnd_row h1 h2 (by omega) hbl hby, i3, ?_⟩
    rw [List.map_set]
    exact rfl
end K02
end
section
set_option Elab.async false
set_option linter.all false
set_option autoImplicit false
set_option maxRecDepth 100000
set_option maxHeartbeats 4000000
namespace K02
open PySem PySem.Spec PyProof.Rows N4
local macro_rules | `(tactic| fold_lay) => `(tactic| first | (simp only [List.set_cons_succ, List.set_cons_zero]; done) | (simp only [List.set_cons_succ, List.set_cons_zero]; exact rfl) | exact rfl)
local macro_rules | `(tactic| pre_facts) => `(tactic| first | exact Nat.le_of_ble_eq_true rfl | with_reducible assumption | omega | (simp; done) | (simp; omega) | (unfold lineN; omega) | (simp [lineN]; omega))
local macro_rules | `(tactic| units_room) => `(tactic| first | with_reducible rfl | with_reducible assumption | (simp only [Bool.not_true, Bool.not_false, Bool.and_true, Bool.true_and, Bool.and_false, Bool.false_and, Bool.or_true, Bool.true_or, Bool.or_false, Bool.false_or, bne_self_eq_false, isaB, isaInt, isaBool, isaTuple, isaList, isaStr]; done) | (with_reducible apply decide_eq_true; omega) | (with_reducible apply decide_eq_false; omega) | (with_reducible apply decide_eq_true; with_reducible assumption) | (with_reducible apply decide_eq_false; with_reducible assumption) | (simp; done) | (simp; omega))
local macro_rules | `(tactic| got_up) => `(tactic| first | with_reducible assumption | with_reducible exact V.o_eqI _ _ | with_reducible exact V.o_neI _ _ | with_reducible exact V.o_eqB _ _ | with_reducible exact V.o_neB _ _ | with_reducible exact V.o_isN_n | with_reducible exact V.o_isN_i _ | with_reducible exact V.o_isN_t _ | with_reducible exact V.o_isN_l _ | with_reducible exact V.o_inN_n | with_reducible exact V.o_inN_i _ | with_reducible exact V.o_inN_t _ | with_reducible exact V.o_inN_l _ | with_reducible exact V.o_isN _ | with_reducible exact V.o_isntN _ | exact rfl)
local macro_rules | `(tactic| row_none_raised) => `(tactic| first | with_reducible assumption)
local macro_rules | `(tactic| pv_eval) => `(tactic| first
  | with_reducible assumption
  | with_reducible exact V.v_c _ _
  | ((with_reducible apply V.v_v); exact rfl)
  | ((with_reducible apply V.v_o); exact rfl)
  | ((with_reducible apply V.v_p); exact rfl)
  | ((with_reducible apply V.v_op); pv_eval; pv_eval; exact rfl; exact rfl; got_up)
  | ((with_reducible apply V.v_un); pv_eval; exact rfl; got_up)
  | ((with_reducible apply V.v_b1); pv_eval; exact rfl; got_up)
  | ((with_reducible apply V.v_b2); pv_eval; pv_eval; exact rfl; exact rfl; got_up)
  | ((with_reducible apply V.t_v); pv_eval)
  | ((with_reducible apply V.t_not); pv_eval)
  | ((with_reducible apply V.t_and); pv_eval; pv_eval)
  | ((with_reducible apply V.t_or); pv_eval; pv_eval)
  | ((with_reducible apply V.ak_f); units_room)
  | ((with_reducible apply V.ak_t); units_room; pv_eval)
  | ((with_reducible apply V.ak_g); pv_eval)
  | ((with_reducible apply V.ok_t); units_room)
  | ((with_reducible apply V.ok_f); units_room; pv_eval)
  | ((with_reducible apply V.ok_g); pv_eval)
  | ((with_reducible apply V.v_if); pv_eval; pv_eval)
  | ((with_reducible apply V.ik_t); units_room; pv_eval)
  | ((with_reducible apply V.ik_f); units_room; pv_eval)
  | ((with_reducible apply V.v_not); pv_eval)
  | ((with_reducible apply V.v_and); pv_eval; pv_eval)
  | ((with_reducible apply V.v_or); pv_eval; pv_eval)
  | ((with_reducible apply V.vk_f); units_room)
  | ((with_reducible apply V.vk_t); units_room; pv_eval)
  | ((with_reducible apply V.vk_g); pv_eval)
  | ((with_reducible apply V.vo_t); units_room)
  | ((with_reducible apply V.vo_f); units_room; pv_eval)
  | ((with_reducible apply V.vo_g); pv_eval)
  | with_reducible exact V.a_nil _
  | ((with_reducible apply V.a_cons); pv_eval; pv_eval; pv_eval)
  | with_reducible exact V.ao_v _ _
  | with_reducible exact V.ao_f _ _
  | with_reducible exact V.ao_p _
  | ((with_reducible apply V.ao_s); exact rfl; fold_lay)
  | with_reducible exact V.f_nil _
  | ((with_reducible apply V.f_cons); pv_eval; pv_eval; pv_eval)
  | with_reducible exact V.z_v _ _
  | with_reducible exact V.z_f _ _
  | ((with_reducible apply V.z_s); exact rfl; fold_lay)
  | with_reducible exact V.r_nil _
  | ((with_reducible apply V.r_cons); pv_eval; pv_eval; pv_eval)
  | with_reducible exact V.w1_v _ _
  | with_reducible exact V.w1_f _ _
  | with_reducible exact V.w1_o _ _
  | ((with_reducible apply V.w1_s); exact rfl; fold_lay)
  | ((with_reducible apply V.v_tup); pv_eval; pre_facts)
  | ((with_reducible apply V.v_lst); pv_eval; pre_facts)
  | ((with_reducible apply V.v_call); pv_eval; row_none_raised)
  | ((with_reducible apply V.w_tup); pv_eval; exact rfl)
  | ((with_reducible apply V.w_lst); pv_eval; exact rfl)
  | ((with_reducible apply V.w_fr); pv_eval)
  | ((with_reducible apply V.w_sl); pv_eval; exact rfl; fold_lay)
  | ((with_reducible apply V.w_enum); pv_eval)
  | ((with_reducible apply V.w_zip); pv_eval; pv_eval)
  | ((with_reducible apply V.w_rng); pv_eval; exact rfl; pre_facts)
  | ((with_reducible apply V.w_rng2); pv_eval; pv_eval; exact rfl; exact rfl; pre_facts; pre_facts)
  | ((with_reducible apply V.v_lrng); pv_eval; exact rfl; pre_facts)
  | with_reducible exact V.po_n _
  | ((with_reducible apply V.po_s); pv_eval; exact rfl)
  | ((with_reducible apply V.v_sl); pv_eval; pv_eval; pv_eval; exact rfl; got_up)
  | ((with_reducible apply V.v_lm); pv_eval; exact rfl; pv_eval; exact rfl; exact rfl; got_up)
  | ((with_reducible apply V.v_p0); exact rfl)
  | ((with_reducible apply V.v_pop); exact rfl; exact rfl; got_up; fold_lay)
  | ((with_reducible apply V.q_set); pv_eval; pv_eval)
  | ((with_reducible apply V.st_v); pre_facts; fold_lay)
  | ((with_reducible apply V.st_f); pre_facts; fold_lay)
  | ((with_reducible apply V.st_s); exact rfl; fold_lay; pre_facts; fold_lay)
  | ((with_reducible apply V.st_o); pre_facts; fold_lay)
  | ((with_reducible apply V.pt_o); pre_facts; fold_lay; pv_eval)
  | ((with_reducible apply V.v_d1); pv_eval; pv_eval; pv_eval)
  | ((with_reducible apply V.v_dget); exact rfl; pv_eval; exact rfl; got_up)
  | ((with_reducible apply V.v_din); pv_eval; exact rfl; got_up)
  | ((with_reducible apply V.v_dnin); pv_eval; exact rfl; got_up)
  | ((with_reducible apply V.v_dgetd); exact rfl; pv_eval; pv_eval; pv_eval; exact rfl; got_up)
  | ((with_reducible apply V.v_dlen); exact rfl; got_up)
  | ((with_reducible apply V.q_dput); pv_eval; pv_eval; exact rfl; pv_eval; exact rfl; pre_facts; got_up; fold_lay)
  | ((with_reducible apply V.q_expr); pv_eval)
  | ((with_reducible apply V.q_pars); pv_eval; exact rfl; pv_eval)
  | with_reducible exact V.pt_nil _
  | ((with_reducible apply V.pt_v); pre_facts; fold_lay; pv_eval)
  | ((with_reducible apply V.pt_f); pre_facts; fold_lay; pv_eval)
  | ((with_reducible apply V.q_app); exact rfl; pv_eval; pv_eval; exact rfl; pre_facts; fold_lay)
  | ((with_reducible apply V.q_ext); exact rfl; pv_eval; pv_eval; exact rfl; pre_facts; fold_lay)
  | ((with_reducible apply V.q_put); pv_eval; pv_eval; exact rfl; pv_eval; exact rfl; exact rfl; got_up; fold_lay)
  | ((with_reducible apply V.q_tgt); pv_eval; pv_eval; pv_eval)
  | ((with_reducible apply V.tg_n); pre_facts; fold_lay)
  | ((with_reducible apply V.tg_t); exact rfl; pv_eval)
  | ((with_reducible apply V.tg_l); exact rfl; pv_eval)
  | with_reducible exact V.ga_nil _
  | ((with_reducible apply V.ga_cons); pv_eval; pv_eval))
local macro_rules | `(tactic| fin_run) => `(tactic| first
  | ((with_reducible apply V.q_retS); pv_eval)
  | (with_reducible apply V.q_retNS)
  | (with_reducible apply V.q_brkS)
  | (with_reducible apply V.q_cntS)
  | ((with_reducible apply V.q_raiseS); pv_eval; pv_eval)
  | ((with_reducible apply V.q_iftS); units_room)
  | ((with_reducible apply V.q_iffS); units_room)
  | ((with_reducible apply V.q_ift); units_room)
  | ((with_reducible apply V.q_iff); units_room)
  | ((with_reducible apply V.q_one); pv_eval)
  | (with_reducible apply V.q_nilS)
  | (with_reducible apply V.q_assoc)
  | ((with_reducible apply V.q_ifSeq); pv_eval)
  | ((with_reducible apply V.q_if); pv_eval)
  | ((with_reducible apply V.q_ret); pv_eval)
  | (with_reducible apply V.q_retN)
  | ((with_reducible apply V.q_raise); pv_eval; pv_eval)
  | (with_reducible apply V.q_nil)
  | (with_reducible apply V.q_brk)
  | (with_reducible apply V.q_cnt)
  | ((with_reducible apply V.q_eq); pv_eval)
  | exact rfl)
local macro_rules | `(tactic| fold_depth) => `(tactic| first | (simp only [List.map_cons, List.map_nil, List.cons_append, List.nil_append, Nat.reduceSub, List.reduceReplicate, List.append_nil]; exact rfl) | exact rfl)
local macro_rules | `(tactic| top_args) => `(tactic| (pv_eval; exact rfl; (simp only [N4.wipeS, N4.setSl, List.set_cons_succ, List.set_cons_zero]; exact rfl); (repeat' (first | exact trivial | refine And.intro rfl ?_)); (first | pre_facts | skip)))
local macro_rules | `(tactic| reads_via) => `(tactic| (apply Eq.trans; pv_eval; exact rfl))
theorem sl_from (F : List Nat) (k : Nat) : oSl (some (k : Int)) none (.list (intsD F)) = some (.fresh (intsD (F.drop k))) := by
  show some (Ev.fresh (cutN (intsD F) (some (k : Int)) none)) = _
  rw [V.cut_from]
  unfold intsD
  rw [List.map_drop]
theorem strays_ok {b : Bk} (hb : OkBk b) (ha : AllMet b) (p : Pl) (hi : Inv0 p) : ∃ (t : Bk) (ks : List Nat) (p' : Pl), sem__law_with_strays [.pool, .val (bkD b)] (some p) = .ok (.fresh [bkD t, .list (intsD ks)]) (some p') ∧ Inv0 p' ∧ OkBk t ∧ ks.head? = strayOf t := by
  have h8 := hb.most
  have h1 := hb.one
  obtain ⟨r, p1, er, i1, hr⟩ := drawN p (min 4 (9 - b.length)) (by omega) (by omega) hi
  have er : sem__law_draw [.pool, .val (.int (min 4 (9 - b.length) : Nat))] (some p) = .ok (.val (.int (r : Nat))) (some p1) := er
  obtain ⟨T, p2, et, i2, hT⟩ := turned_ok (b.length + r - 1) (by omega) p1 i1
  have hTl := perm_len hT
  have ho := ord_ok (n := b.length + r) (by omega) hT
  have hol := ho.len
  have hbl := bLen_bk b
  have hs9 := sub9 (n := b.length) (by omega)
  have hm4 := min4 (9 - b.length)
  have han := add_nn b.length r
  have hsub := sub1 (n := b.length + r) (by omega)
  have hadd := ord_add T (by omega)
  have ht := times_l (b.length + r) (.tuple []) (by omega)
  have hsl := sl_from (ordL T) b.length
  have hnd : (ordL T).Nodup := (ho.perm.nodup_iff).mpr List.nodup_range
  obtain ⟨ks, eks, hks, hkp⟩ := sorted_ok ((ordL T).drop b.length) (hnd.sublist (List.drop_sublist _ _))
  suffices hw : ∃ (L : Bk) (q : Pl), Fnd b (ordL T) (b.length + r) (b.length + r) L ∧ Inv0 q ∧ sem__law_with_strays [.pool, .val (bkD b)] (some p) = .ok (.fresh [bkD L, .list (intsD ks)]) (some q) by
    obtain ⟨L, q, hL, iq, e⟩ := hw
    have hP := fnd_pla hb ho hL (by omega) (by omega) (by omega)
    exact ⟨L, ks, q, e, iq, hP.ok, stray_pla hb ha hP hkp hks⟩
  unfold sem__law_with_strays b__law_with_strays
  refine V.fn_wp (R := fun x => ∃ (L : Bk) (q : Pl), Fnd b (ordL T) (b.length + r) (b.length + r) L ∧ Inv0 q ∧ x = .ok (.fresh [bkD L, .list (intsD ks)]) (some q)) rfl (by fold_depth) ?_
  fin_run
  with_reducible apply V.q_one
  · with_reducible apply V.q_set
    · with_reducible apply V.v_op
      · pv_eval
      · apply V.v_lcm (fun k : Nat => .int (1 + k : Nat)) (as := T) (f := fun k : Nat => .int (k : Nat))
        top_args
        intro k hk
        refine ⟨_, by pv_eval, _, _, by pv_eval, _, _, by pv_eval, ?_, ?_⟩
        · show PyData.int _ = PyData.int _
          congr 1
        · exact rfl
      · exact rfl
      · exact rfl
      · exact hadd
    · pv_eval
  fin_run
  apply V.q_forR (n := b.length) (f := fun k : Nat => .tuple [.int (k : Nat), stD (stOf b k)]) (fun k σ => ∃ (L : Bk) (x5 x6 x9 x10 : Option Sl), Fnd b (ordL T) (b.length + r) k L ∧ Vs x9 ∧ Vs x10 ∧ σ = ⟨[some .pool, some (.val (bkD b)), some (.val (.int (b.length + r : Nat))), some (.own (intsD (ordL T))), some (.own (L.map stD)), x5, x6, none, none, x9, x10], some p2⟩)
  · apply V.w_enum (as := b)
    pv_eval
  · rw [zipIdx_range [] b, List.map_map]
    exact List.map_congr_left fun k _ => rfl
  · refine ⟨List.replicate (b.length + r) [], none, none, none, none, fnd_zero _ _ _, vs_none, vs_none, ?_⟩
    rw [List.map_replicate]
    exact rfl
  · rintro k σ hk ⟨L, x5, x6, x9, x10, hL, v9, v10, rfl⟩
    refine ⟨_, by pv_eval, fun U hU => ?_⟩
    have hix := ix_ints (F := ordL T) (k := k) (by omega)
    have hst := st_len hb k
    have hj : N4.ixN (L.map stD).length ((ordL T).getD k 0 : Nat) = some ((ordL T).getD k 0) := ixN_nat (by rw [List.length_map, hL.len]; exact ho.lt (by omega))
    unfold b__law_with_strays_1
    with_reducible apply V.q_eq
    · apply V.q_put
      · with_reducible apply V.v_b1
        · apply V.v_lcm (fun m : Nat × Nat => mvD (m.1, (ordL T).getD m.2 0)) (as := stOf b k) (f := mvD)
          top_args
          · exact ⟨congrArg some v9, congrArg some v10, trivial⟩
          · omega
          intro m hm
          have him := ix_ints (F := ordL T) (k := m.2) (by have := to_lt hb k m hm; omega)
          refine ⟨_, by pv_eval, ?_⟩
          with_reducible apply ev3
          · pv_eval
          · pv_eval
          · exact rfl
          · exact rfl
        · exact rfl
        · exact rfl
      · pv_eval
      · exact rfl
      · pv_eval
      · exact rfl
      · exact rfl
      · exact hj
      · fold_lay
    · refine hU.nx _ ⟨L.set ((ordL T).getD k 0) (rowB b (ordL T) k), some (.val (.int (k : Nat))), some (.val (stD (stOf b k))), x9, x10, fnd_set ho hL (by omega) (row_ok hb ho (by omega) hk) (fun _ => rfl) (.inl (by omega)), v9, v10, ?_⟩
      rw [List.map_set]
      unfold rowB
      rw [show stD ((stOf b k).map fun m => (m.1, (ordL T).getD m.2 0)) = .tuple ((stOf b k).map fun m => mvD (m.1, (ordL T).getD m.2 0)) from by
        unfold stD
        rw [List.map_map]
        rfl]
  · rintro σ ⟨L, x5, x6, x9, x10, hL, v9, v10, rfl⟩
    apply V.q_forR (n := b.length + r - b.length) (f := fun k : Nat => .int ((b.length + k : Nat) : Int)) (fun j σ => ∃ (L : Bk) (q : Pl) (x5 x7 : Option Sl), Fnd b (ordL T) (b.length + r) (b.length + j) L ∧ Inv0 q ∧ σ = ⟨[some .pool, some (.val (bkD b)), some (.val (.int (b.length + r : Nat))), some (.own (intsD (ordL T))), some (.own (L.map stD)), x5, x6, x7, none, x9, x10], some q⟩)
    · pv_eval
    · rfl
    · exact ⟨L, p2, x5, none, hL, i2, rfl⟩
    · rintro j σ hj ⟨L, q, x5, x7, hL, iq, rfl⟩
      refine ⟨_, by pv_eval, fun U hU => ?_⟩
      have w := ws2_ok (n := b.length + r) (by omega) (by omega) (k := b.length + j) (o := ordL T) (by omega) L hL.len (ho.lt (by omega)) (some (.val (bkD b))) x6 x7 none x9 x10 v9 q iq
      obtain ⟨ms, x7', q', hms, iq', e⟩ := w
      exact V.q_eq e (hU.nx _ ⟨L.set ((ordL T).getD (b.length + j) 0) ms, q', _, _, fnd_set ho hL (by omega) hms (fun z => absurd z (by omega)) (.inr (by omega)), iq', rfl⟩)
    · rintro σ ⟨L, q, x5, x7, hL, iq, rfl⟩
      rw [show b.length + (b.length + r - b.length) = b.length + r from by omega] at hL
      with_reducible apply V.q_ret
      · pv_eval
      · exact ⟨L, q, hL, iq, rfl⟩
end K02
end
section
set_option Elab.async false
set_option linter.all false
set_option autoImplicit false
set_option maxRecDepth 100000
set_option maxHeartbeats 4000000
namespace K02
open PySem PySem.Spec PyProof.Rows N4
local macro_rules | `(tactic| fold_lay) => `(tactic| first | (simp only [List.set_cons_succ, List.set_cons_zero]; done) | (simp only [List.set_cons_succ, List.set_cons_zero]; exact rfl) | exact rfl)
local macro_rules | `(tactic| pre_facts) => `(tactic| first | exact Nat.le_of_ble_eq_true rfl | with_reducible assumption | omega | (simp; done) | (simp; omega) | (unfold lineN; omega) | (simp [lineN]; omega))
local macro_rules | `(tactic| units_room) => `(tactic| first | with_reducible rfl | with_reducible assumption | (simp only [Bool.not_true, Bool.not_false, Bool.and_true, Bool.true_and, Bool.and_false, Bool.false_and, Bool.or_true, Bool.true_or, Bool.or_false, Bool.false_or, bne_self_eq_false, isaB, isaInt, isaBool, isaTuple, isaList, isaStr]; done) | (with_reducible apply decide_eq_true; omega) | (with_reducible apply decide_eq_false; omega) | (with_reducible apply decide_eq_true; with_reducible assumption) | (with_reducible apply decide_eq_false; with_reducible assumption) | (simp; done) | (simp; omega))
local macro_rules | `(tactic| got_up) => `(tactic| first | with_reducible assumption | with_reducible exact V.o_eqI _ _ | with_reducible exact V.o_neI _ _ | with_reducible exact V.o_eqB _ _ | with_reducible exact V.o_neB _ _ | with_reducible exact V.o_isN_n | with_reducible exact V.o_isN_i _ | with_reducible exact V.o_isN_t _ | with_reducible exact V.o_isN_l _ | with_reducible exact V.o_inN_n | with_reducible exact V.o_inN_i _ | with_reducible exact V.o_inN_t _ | with_reducible exact V.o_inN_l _ | with_reducible exact V.o_isN _ | with_reducible exact V.o_isntN _ | exact rfl)
local macro_rules | `(tactic| row_none_raised) => `(tactic| first | with_reducible assumption)
local macro_rules | `(tactic| pv_eval) => `(tactic| first
  | with_reducible assumption
  | with_reducible exact V.v_c _ _
  | ((with_reducible apply V.v_v); exact rfl)
  | ((with_reducible apply V.v_o); exact rfl)
  | ((with_reducible apply V.v_p); exact rfl)
  | ((with_reducible apply V.v_op); pv_eval; pv_eval; exact rfl; exact rfl; got_up)
  | ((with_reducible apply V.v_un); pv_eval; exact rfl; got_up)
  | ((with_reducible apply V.v_b1); pv_eval; exact rfl; got_up)
  | ((with_reducible apply V.v_b2); pv_eval; pv_eval; exact rfl; exact rfl; got_up)
  | ((with_reducible apply V.t_v); pv_eval)
  | ((with_reducible apply V.t_not); pv_eval)
  | ((with_reducible apply V.t_and); pv_eval; pv_eval)
  | ((with_reducible apply V.t_or); pv_eval; pv_eval)
  | ((with_reducible apply V.ak_f); units_room)
  | ((with_reducible apply V.ak_t); units_room; pv_eval)
  | ((with_reducible apply V.ak_g); pv_eval)
  | ((with_reducible apply V.ok_t); units_room)
  | ((with_reducible apply V.ok_f); units_room; pv_eval)
  | ((with_reducible apply V.ok_g); pv_eval)
  | ((with_reducible apply V.v_if); pv_eval; pv_eval)
  | ((with_reducible apply V.ik_t); units_room; pv_eval)
  | ((with_reducible apply V.ik_f); units_room; pv_eval)
  | ((with_reducible apply V.v_not); pv_eval)
  | ((with_reducible apply V.v_and); pv_eval; pv_eval)
  | ((with_reducible apply V.v_or); pv_eval; pv_eval)
  | ((with_reducible apply V.vk_f); units_room)
  | ((with_reducible apply V.vk_t); units_room; pv_eval)
  | ((with_reducible apply V.vk_g); pv_eval)
  | ((with_reducible apply V.vo_t); units_room)
  | ((with_reducible apply V.vo_f); units_room; pv_eval)
  | ((with_reducible apply V.vo_g); pv_eval)
  | with_reducible exact V.a_nil _
  | ((with_reducible apply V.a_cons); pv_eval; pv_eval; pv_eval)
  | with_reducible exact V.ao_v _ _
  | with_reducible exact V.ao_f _ _
  | with_reducible exact V.ao_p _
  | ((with_reducible apply V.ao_s); exact rfl; fold_lay)
  | with_reducible exact V.f_nil _
  | ((with_reducible apply V.f_cons); pv_eval; pv_eval; pv_eval)
  | with_reducible exact V.z_v _ _
  | with_reducible exact V.z_f _ _
  | ((with_reducible apply V.z_s); exact rfl; fold_lay)
  | with_reducible exact V.r_nil _
  | ((with_reducible apply V.r_cons); pv_eval; pv_eval; pv_eval)
  | with_reducible exact V.w1_v _ _
  | with_reducible exact V.w1_f _ _
  | with_reducible exact V.w1_o _ _
  | ((with_reducible apply V.w1_s); exact rfl; fold_lay)
  | ((with_reducible apply V.v_tup); pv_eval; pre_facts)
  | ((with_reducible apply V.v_lst); pv_eval; pre_facts)
  | ((with_reducible apply V.v_call); pv_eval; row_none_raised)
  | ((with_reducible apply V.w_tup); pv_eval; exact rfl)
  | ((with_reducible apply V.w_lst); pv_eval; exact rfl)
  | ((with_reducible apply V.w_fr); pv_eval)
  | ((with_reducible apply V.w_sl); pv_eval; exact rfl; fold_lay)
  | ((with_reducible apply V.w_enum); pv_eval)
  | ((with_reducible apply V.w_zip); pv_eval; pv_eval)
  | ((with_reducible apply V.w_rng); pv_eval; exact rfl; pre_facts)
  | ((with_reducible apply V.w_rng2); pv_eval; pv_eval; exact rfl; exact rfl; pre_facts; pre_facts)
  | ((with_reducible apply V.v_lrng); pv_eval; exact rfl; pre_facts)
  | with_reducible exact V.po_n _
  | ((with_reducible apply V.po_s); pv_eval; exact rfl)
  | ((with_reducible apply V.v_sl); pv_eval; pv_eval; pv_eval; exact rfl; got_up)
  | ((with_reducible apply V.v_lm); pv_eval; exact rfl; pv_eval; exact rfl; exact rfl; got_up)
  | ((with_reducible apply V.v_p0); exact rfl)
  | ((with_reducible apply V.v_pop); exact rfl; exact rfl; got_up; fold_lay)
  | ((with_reducible apply V.q_set); pv_eval; pv_eval)
  | ((with_reducible apply V.st_v); pre_facts; fold_lay)
  | ((with_reducible apply V.st_f); pre_facts; fold_lay)
  | ((with_reducible apply V.st_s); exact rfl; fold_lay; pre_facts; fold_lay)
  | ((with_reducible apply V.st_o); pre_facts; fold_lay)
  | ((with_reducible apply V.pt_o); pre_facts; fold_lay; pv_eval)
  | ((with_reducible apply V.v_d1); pv_eval; pv_eval; pv_eval)
  | ((with_reducible apply V.v_dget); exact rfl; pv_eval; exact rfl; got_up)
  | ((with_reducible apply V.v_din); pv_eval; exact rfl; got_up)
  | ((with_reducible apply V.v_dnin); pv_eval; exact rfl; got_up)
  | ((with_reducible apply V.v_dgetd); exact rfl; pv_eval; pv_eval; pv_eval; exact rfl; got_up)
  | ((with_reducible apply V.v_dlen); exact rfl; got_up)
  | ((with_reducible apply V.q_dput); pv_eval; pv_eval; exact rfl; pv_eval; exact rfl; pre_facts; got_up; fold_lay)
  | ((with_reducible apply V.q_expr); pv_eval)
  | ((with_reducible apply V.q_pars); pv_eval; exact rfl; pv_eval)
  | with_reducible exact V.pt_nil _
  | ((with_reducible apply V.pt_v); pre_facts; fold_lay; pv_eval)
  | ((with_reducible apply V.pt_f); pre_facts; fold_lay; pv_eval)
  | ((with_reducible apply V.q_app); exact rfl; pv_eval; pv_eval; exact rfl; pre_facts; fold_lay)
  | ((with_reducible apply V.q_ext); exact rfl; pv_eval; pv_eval; exact rfl; pre_facts; fold_lay)
  | ((with_reducible apply V.q_put); pv_eval; pv_eval; exact rfl; pv_eval; exact rfl; exact rfl; got_up; fold_lay)
  | ((with_reducible apply V.q_tgt); pv_eval; pv_eval; pv_eval)
  | ((with_reducible apply V.tg_n); pre_facts; fold_lay)
  | ((with_reducible apply V.tg_t); exact rfl; pv_eval)
  | ((with_reducible apply V.tg_l); exact rfl; pv_eval)
  | with_reducible exact V.ga_nil _
  | ((with_reducible apply V.ga_cons); pv_eval; pv_eval))
local macro_rules | `(tactic| fin_run) => `(tactic| first
  | ((with_reducible apply V.q_retS); pv_eval)
  | (with_reducible apply V.q_retNS)
  | (with_reducible apply V.q_brkS)
  | (with_reducible apply V.q_cntS)
  | ((with_reducible apply V.q_raiseS); pv_eval; pv_eval)
  | ((with_reducible apply V.q_iftS); units_room)
  | ((with_reducible apply V.q_iffS); units_room)
  | ((with_reducible apply V.q_ift); units_room)
  | ((with_reducible apply V.q_iff); units_room)
  | ((with_reducible apply V.q_one); pv_eval)
  | (with_reducible apply V.q_nilS)
  | (with_reducible apply V.q_assoc)
  | ((with_reducible apply V.q_ifSeq); pv_eval)
  | ((with_reducible apply V.q_if); pv_eval)
  | ((with_reducible apply V.q_ret); pv_eval)
  | (with_reducible apply V.q_retN)
  | ((with_reducible apply V.q_raise); pv_eval; pv_eval)
  | (with_reducible apply V.q_nil)
  | (with_reducible apply V.q_brk)
  | (with_reducible apply V.q_cnt)
  | ((with_reducible apply V.q_eq); pv_eval)
  | exact rfl)
local macro_rules | `(tactic| fold_depth) => `(tactic| first | (simp only [List.map_cons, List.map_nil, List.cons_append, List.nil_append, Nat.reduceSub, List.reduceReplicate, List.append_nil]; exact rfl) | exact rfl)
local macro_rules | `(tactic| top_args) => `(tactic| (pv_eval; exact rfl; (simp only [N4.wipeS, N4.setSl, List.set_cons_succ, List.set_cons_zero]; exact rfl); (repeat' (first | exact trivial | refine And.intro rfl ?_)); (first | pre_facts | skip)))
local macro_rules | `(tactic| reads_via) => `(tactic| (apply Eq.trans; pv_eval; exact rfl))
theorem forms_err {t w : PyData} (hd : t.hasDict = false) (h : wfR t = w) (hw : isNone w = false) (p : Option Pl) : sem_check_forms [.val t] p = .err "BadBook" w p := by
  have hf := wrong_form_ok t hd p
  rw [h] at hf
  have eM : sem_check_forms [.val t] p = endOf (b_check_forms ⟨[some (.val t), none], p⟩) := by
    unfold sem_check_forms mkFn
    exact if_pos rfl
  have ea := args1 (eV_ok (i := 0) (d := t) (s := ⟨[some (.val t), none], p⟩) rfl)
  have e1 := set_val (i := 1) (call_ok ea hf) (by simp)
  have et : tV (eOp oIsNotB (eV 1) (eC .none)) ⟨[some (.val t), some (.val w)], p⟩ = .ok true ⟨[some (.val t), some (.val w)], p⟩ := by
    have ho := oIsNotB_none w
    rw [hw] at ho
    exact tV_ok (op_ok (y := .val .none) (eV_ok (i := 1) (d := w) rfl) rfl rfl rfl ho)
  rw [eM]
  unfold b_check_forms
  exact (congrArg endOf ((sSeq_nx e1).trans ((if_true et).trans (raise_ok (eV_ok (i := 1) (d := w) rfl))))).trans rfl
theorem trimmed_err {t w : PyData} (hd : t.hasDict = false) (h : wfR t = w) (hw : isNone w = false) (p : Option Pl) : sem_trimmed [.val t] p = .err "BadBook" w p := by
  have hc := forms_err hd h hw p
  have ea := args1 (eV_ok (i := 0) (d := t) (s := ⟨[some (.val t)], p⟩) rfl)
  have eM : sem_trimmed [.val t] p = endOf (b_trimmed ⟨[some (.val t)], p⟩) := by
    unfold sem_trimmed mkFn
    exact if_pos rfl
  rw [eM]
  unfold b_trimmed
  exact (congrArg endOf (sSeq_err (expr_err (call_err ea hc)))).trans rfl
theorem is_book_no {t : PyData} {k : Int} (hd : t.hasDict = false) (h : wfR t = .int k) (p : Option Pl) : sem_is_book [.val t] p = .ok (.val (.bool false)) p := by
  have hf := wrong_form_ok t hd p
  rw [h] at hf
  unfold sem_is_book b_is_book
  refine V.fn_eq rfl (by fold_depth) ?_
  repeat fin_run
/-- what the law puts in -/
@[reducible] def oddL (n : Nat) : List PyData := [.none, .int 0, .tuple [.none], .tuple [.tuple [.int 0]], .tuple [.tuple [.int 1, .int 0], .tuple [.int 0, .int 0]], .tuple [.tuple [.int 0, .int n]], .tuple [.tuple [.int 100, .int 0]], .tuple [.tuple [.bool true, .int 0]], .tuple [.tuple [.int 0, .int (-1)]]]
theorem odd_all : ((List.range 9).all fun n => (oddL n).all fun d => !sfB d n && !d.hasDict) = true := by decide +kernel
theorem odd_it {n : Nat} (hn : n ≤ 8) {d : PyData} (hd : d ∈ oddL n) : sfB d n = false ∧ d.hasDict = false := by
  have h := List.all_eq_true.mp (List.all_eq_true.mp odd_all n (List.mem_range.mpr (by omega))) d hd
  simp only [Bool.and_eq_true, Bool.not_eq_true'] at h
  exact h
def bentL (b : Bk) (a : Nat) (d : PyData) : List PyData := (b.map stD).take a ++ [d] ++ (b.map stD).drop (a + 1)
theorem bent_len {b : Bk} {a : Nat} (ha : a < b.length) (d : PyData) : (bentL b a d).length = b.length := by
  unfold bentL
  simp
  omega
theorem bent_wf {b : Bk} (h : OkBk b) {a : Nat} (ha : a < b.length) {d : PyData} (hd : d ∈ oddL b.length) : (PyData.tuple (bentL b a d)).hasDict = false ∧ wfR (.tuple (bentL b a d)) = .int (a : Nat) := by
  have h8 := h.most
  have hb := odd_it h8 hd
  have hl := bent_len ha d
  refine ⟨dict_tuple fun x hx => ?_, wfR_first (by omega) (fun q x hq e => ?_) ⟨d, ?_, ?_⟩⟩
  · unfold bentL at hx
    rcases List.mem_append.mp hx with hx | hx
    · rcases List.mem_append.mp hx with hx | hx
      · obtain ⟨ms, _, rfl⟩ := List.mem_map.mp (List.mem_of_mem_take hx)
        exact dict_st ms
      · rw [List.mem_singleton.mp hx]
        exact hb.2
    · obtain ⟨ms, _, rfl⟩ := List.mem_map.mp (List.mem_of_mem_drop hx)
      exact dict_st ms
  · rw [hl]
    unfold bentL at e
    rw [List.append_assoc, List.getElem?_append_left (by simp; omega), List.getElem?_take_of_lt hq, List.getElem?_map] at e
    cases hq2 : b[q]? with
    | none => rw [hq2] at e; cases e
    | some ms =>
      rw [hq2] at e
      cases e
      exact sfB_ok (h.sts ms (List.mem_of_getElem? hq2))
  · unfold bentL
    have ht : ((b.map stD).take a).length = a := by simp; omega
    rw [List.append_assoc, List.getElem?_append_right (by omega), ht, Nat.sub_self]
    rfl
  · rw [hl]
    exact hb.1
@[reducible] def noneL : List PyData := [.none, .tuple [], .tuple (List.replicate 9 (.tuple [])), .int 3, .bool true, .str "book"]
theorem none_wf : ∀ d ∈ noneL, d.hasDict = false ∧ wfR d = .int (-1) := fun d hd => by
  unfold noneL at hd
  simp only [List.mem_cons, List.not_mem_nil, or_false] at hd
  rcases hd with rfl | rfl | rfl | rfl | rfl | rfl <;> exact ⟨rfl, rfl⟩
/-! books written out -/
def okB (b : Bk) : Bool := decide (1 ≤ b.length) && decide (b.length ≤ 8) && b.all fun ms => decide (ms.length ≤ 5) && decide ((ms.map (·.1)).Pairwise (· < ·)) && ms.all fun m => decide (m.1 ≤ 99) && decide (m.2 < b.length)
theorem ok_of {b : Bk} (h : okB b = true) : OkBk b := by
  unfold okB at h
  simp only [Bool.and_eq_true, decide_eq_true_eq, List.all_eq_true] at h
  exact ⟨h.1.1, h.1.2, fun ms hm => ⟨(h.2 ms hm).1.1, (h.2 ms hm).1.2, fun m hx => ((h.2 ms hm).2 m hx).1, fun m hx => ((h.2 ms hm).2 m hx).2⟩⟩
theorem trim1 (p : Option Pl) : sem_trimmed [.val (.tuple [.tuple [.tuple [.int 5, .int 2]], .tuple [.tuple [.int 0, .int 0]], .tuple [.tuple [.int 3, .int 2], .tuple [.int 4, .int 0]]])] p = .ok (.val (.tuple [.tuple [.tuple [.int 5, .int 1]], .tuple [.tuple [.int 3, .int 1], .tuple [.int 4, .int 0]]])) p := by
  have h := trimmed_ok (b := [[(5, 2)], [(0, 0)], [(3, 2), (4, 0)]]) (ok_of (by decide)) p
  rw [show trim [[(5, 2)], [(0, 0)], [(3, 2), (4, 0)]] = [[(5, 1)], [(3, 1), (4, 0)]] from by decide] at h
  exact h
theorem trim2 (p : Option Pl) : sem_trimmed [.val (.tuple [.tuple [], .tuple [.tuple [.int 7, .int 0], .tuple [.int 9, .int 1]]])] p = .ok (.val (.tuple [.tuple []])) p := by
  have h := trimmed_ok (b := [[], [(7, 0), (9, 1)]]) (ok_of (by decide)) p
  rw [show trim [[], [(7, 0), (9, 1)]] = [[]] from by decide] at h
  exact h
theorem trim3 (p : Option Pl) : sem_trimmed [.val (.tuple [.tuple [.tuple [.int 0, .int 0]], .tuple [], .tuple [], .tuple [], .tuple [], .tuple [], .tuple [], .tuple []])] p = .ok (.val (.tuple [.tuple [.tuple [.int 0, .int 0]]])) p := by
  have h := trimmed_ok (b := [[(0, 0)], [], [], [], [], [], [], []]) (ok_of (by decide)) p
  rw [show trim [[(0, 0)], [], [], [], [], [], [], []] = [[(0, 0)]] from by decide] at h
  exact h
theorem ne1 : oNe (.tuple [.tuple [.tuple [.int 5, .int 1]], .tuple [.tuple [.int 3, .int 1], .tuple [.int 4, .int 0]]]) (.tuple [.tuple [.tuple [.int 5, .int 1]], .tuple [.tuple [.int 3, .int 1], .tuple [.int 4, .int 0]]]) = some (.val (.bool false)) := rfl
theorem ne2 : oNe (.tuple [.tuple []]) (.tuple [.tuple []]) = some (.val (.bool false)) := rfl
theorem ne3 : oNe (.tuple [.tuple [.tuple [.int 0, .int 0]]]) (.tuple [.tuple [.tuple [.int 0, .int 0]]]) = some (.val (.bool false)) := rfl
theorem tim7 : oTimes (.tuple [.tuple []]) (.int 7) = some (.val (.tuple [.tuple [], .tuple [], .tuple [], .tuple [], .tuple [], .tuple [], .tuple []])) := times_ok 7 (.tuple []) (by decide) (by decide)
theorem tim9 : oTimes (.tuple [.tuple []]) (.int 9) = some (.val (.tuple (List.replicate 9 (.tuple [])))) := times_ok 9 (.tuple []) (by decide) (by decide)
theorem add7 : oAdd (.tuple [.tuple [.tuple [.int 0, .int 0]]]) (.tuple [.tuple [], .tuple [], .tuple [], .tuple [], .tuple [], .tuple [], .tuple []]) = some (.val (.tuple [.tuple [.tuple [.int 0, .int 0]], .tuple [], .tuple [], .tuple [], .tuple [], .tuple [], .tuple [], .tuple []])) := oAdd_t (by unfold lineN; decide)
theorem ix0 (a b : PyData) : oIx (.list [a, b]) (.int 0) = some (.val a) := by
  show (match N4.ixN [a, b].length ((0 : Nat) : Int) with | some j => ([a, b][j]?).map Ev.val | none => none) = _
  rw [ixN_nat (by simp)]
  rfl
end K02
end
section
set_option Elab.async false
set_option linter.all false
set_option autoImplicit false
set_option maxRecDepth 100000
set_option maxHeartbeats 4000000
namespace K02
open PySem PySem.Spec PyProof.Rows N4
local macro_rules | `(tactic| fold_lay) => `(tactic| first | (simp only [List.set_cons_succ, List.set_cons_zero]; done) | (simp only [List.set_cons_succ, List.set_cons_zero]; exact rfl) | exact rfl)
local macro_rules | `(tactic| pre_facts) => `(tactic| first | exact Nat.le_of_ble_eq_true rfl | with_reducible assumption | omega | (simp; done) | (simp; omega) | (unfold lineN; omega) | (simp [lineN]; omega))
local macro_rules | `(tactic| units_room) => `(tactic| first | with_reducible rfl | with_reducible assumption | (simp only [Bool.not_true, Bool.not_false, Bool.and_true, Bool.true_and, Bool.and_false, Bool.false_and, Bool.or_true, Bool.true_or, Bool.or_false, Bool.false_or, bne_self_eq_false, isaB, isaInt, isaBool, isaTuple, isaList, isaStr]; done) | (with_reducible apply decide_eq_true; omega) | (with_reducible apply decide_eq_false; omega) | (with_reducible apply decide_eq_true; with_reducible assumption) | (with_reducible apply decide_eq_false; with_reducible assumption) | (simp; done) | (simp; omega))
local macro_rules | `(tactic| got_up) => `(tactic| first | with_reducible assumption | with_reducible exact V.o_eqI _ _ | with_reducible exact V.o_neI _ _ | with_reducible exact V.o_eqB _ _ | with_reducible exact V.o_neB _ _ | with_reducible exact V.o_isN_n | with_reducible exact V.o_isN_i _ | with_reducible exact V.o_isN_t _ | with_reducible exact V.o_isN_l _ | with_reducible exact V.o_inN_n | with_reducible exact V.o_inN_i _ | with_reducible exact V.o_inN_t _ | with_reducible exact V.o_inN_l _ | with_reducible exact V.o_isN _ | with_reducible exact V.o_isntN _ | exact rfl)
local macro_rules | `(tactic| row_none_raised) => `(tactic| first | with_reducible assumption)
local macro_rules | `(tactic| pv_eval) => `(tactic| first
  | with_reducible assumption
  | with_reducible exact V.v_c _ _
  | ((with_reducible apply V.v_v); exact rfl)
  | ((with_reducible apply V.v_o); exact rfl)
  | ((with_reducible apply V.v_p); exact rfl)
  | ((with_reducible apply V.v_op); pv_eval; pv_eval; exact rfl; exact rfl; got_up)
  | ((with_reducible apply V.v_un); pv_eval; exact rfl; got_up)
  | ((with_reducible apply V.v_b1); pv_eval; exact rfl; got_up)
  | ((with_reducible apply V.v_b2); pv_eval; pv_eval; exact rfl; exact rfl; got_up)
  | ((with_reducible apply V.t_v); pv_eval)
  | ((with_reducible apply V.t_not); pv_eval)
  | ((with_reducible apply V.t_and); pv_eval; pv_eval)
  | ((with_reducible apply V.t_or); pv_eval; pv_eval)
  | ((with_reducible apply V.ak_f); units_room)
  | ((with_reducible apply V.ak_t); units_room; pv_eval)
  | ((with_reducible apply V.ak_g); pv_eval)
  | ((with_reducible apply V.ok_t); units_room)
  | ((with_reducible apply V.ok_f); units_room; pv_eval)
  | ((with_reducible apply V.ok_g); pv_eval)
  | ((with_reducible apply V.v_if); pv_eval; pv_eval)
  | ((with_reducible apply V.ik_t); units_room; pv_eval)
  | ((with_reducible apply V.ik_f); units_room; pv_eval)
  | ((with_reducible apply V.v_not); pv_eval)
  | ((with_reducible apply V.v_and); pv_eval; pv_eval)
  | ((with_reducible apply V.v_or); pv_eval; pv_eval)
  | ((with_reducible apply V.vk_f); units_room)
  | ((with_reducible apply V.vk_t); units_room; pv_eval)
  | ((with_reducible apply V.vk_g); pv_eval)
  | ((with_reducible apply V.vo_t); units_room)
  | ((with_reducible apply V.vo_f); units_room; pv_eval)
  | ((with_reducible apply V.vo_g); pv_eval)
  | with_reducible exact V.a_nil _
  | ((with_reducible apply V.a_cons); pv_eval; pv_eval; pv_eval)
  | with_reducible exact V.ao_v _ _
  | with_reducible exact V.ao_f _ _
  | with_reducible exact V.ao_p _
  | ((with_reducible apply V.ao_s); exact rfl; fold_lay)
  | with_reducible exact V.f_nil _
  | ((with_reducible apply V.f_cons); pv_eval; pv_eval; pv_eval)
  | with_reducible exact V.z_v _ _
  | with_reducible exact V.z_f _ _
  | ((with_reducible apply V.z_s); exact rfl; fold_lay)
  | with_reducible exact V.r_nil _
  | ((with_reducible apply V.r_cons); pv_eval; pv_eval; pv_eval)
  | with_reducible exact V.w1_v _ _
  | with_reducible exact V.w1_f _ _
  | with_reducible exact V.w1_o _ _
  | ((with_reducible apply V.w1_s); exact rfl; fold_lay)
  | ((with_reducible apply V.v_tup); pv_eval; pre_facts)
  | ((with_reducible apply V.v_lst); pv_eval; pre_facts)
  | ((with_reducible apply V.v_call); pv_eval; row_none_raised)
  | ((with_reducible apply V.w_tup); pv_eval; exact rfl)
  | ((with_reducible apply V.w_lst); pv_eval; exact rfl)
  | ((with_reducible apply V.w_fr); pv_eval)
  | ((with_reducible apply V.w_sl); pv_eval; exact rfl; fold_lay)
  | ((with_reducible apply V.w_enum); pv_eval)
  | ((with_reducible apply V.w_zip); pv_eval; pv_eval)
  | ((with_reducible apply V.w_rng); pv_eval; exact rfl; pre_facts)
  | ((with_reducible apply V.w_rng2); pv_eval; pv_eval; exact rfl; exact rfl; pre_facts; pre_facts)
  | ((with_reducible apply V.v_lrng); pv_eval; exact rfl; pre_facts)
  | with_reducible exact V.po_n _
  | ((with_reducible apply V.po_s); pv_eval; exact rfl)
  | ((with_reducible apply V.v_sl); pv_eval; pv_eval; pv_eval; exact rfl; got_up)
  | ((with_reducible apply V.v_lm); pv_eval; exact rfl; pv_eval; exact rfl; exact rfl; got_up)
  | ((with_reducible apply V.v_p0); exact rfl)
  | ((with_reducible apply V.v_pop); exact rfl; exact rfl; got_up; fold_lay)
  | ((with_reducible apply V.q_set); pv_eval; pv_eval)
  | ((with_reducible apply V.st_v); pre_facts; fold_lay)
  | ((with_reducible apply V.st_f); pre_facts; fold_lay)
  | ((with_reducible apply V.st_s); exact rfl; fold_lay; pre_facts; fold_lay)
  | ((with_reducible apply V.st_o); pre_facts; fold_lay)
  | ((with_reducible apply V.pt_o); pre_facts; fold_lay; pv_eval)
  | ((with_reducible apply V.v_d1); pv_eval; pv_eval; pv_eval)
  | ((with_reducible apply V.v_dget); exact rfl; pv_eval; exact rfl; got_up)
  | ((with_reducible apply V.v_din); pv_eval; exact rfl; got_up)
  | ((with_reducible apply V.v_dnin); pv_eval; exact rfl; got_up)
  | ((with_reducible apply V.v_dgetd); exact rfl; pv_eval; pv_eval; pv_eval; exact rfl; got_up)
  | ((with_reducible apply V.v_dlen); exact rfl; got_up)
  | ((with_reducible apply V.q_dput); pv_eval; pv_eval; exact rfl; pv_eval; exact rfl; pre_facts; got_up; fold_lay)
  | ((with_reducible apply V.q_expr); pv_eval)
  | ((with_reducible apply V.q_pars); pv_eval; exact rfl; pv_eval)
  | with_reducible exact V.pt_nil _
  | ((with_reducible apply V.pt_v); pre_facts; fold_lay; pv_eval)
  | ((with_reducible apply V.pt_f); pre_facts; fold_lay; pv_eval)
  | ((with_reducible apply V.q_app); exact rfl; pv_eval; pv_eval; exact rfl; pre_facts; fold_lay)
  | ((with_reducible apply V.q_ext); exact rfl; pv_eval; pv_eval; exact rfl; pre_facts; fold_lay)
  | ((with_reducible apply V.q_put); pv_eval; pv_eval; exact rfl; pv_eval; exact rfl; exact rfl; got_up; fold_lay)
  | ((with_reducible apply V.q_tgt); pv_eval; pv_eval; pv_eval)
  | ((with_reducible apply V.tg_n); pre_facts; fold_lay)
  | ((with_reducible apply V.tg_t); exact rfl; pv_eval)
  | ((with_reducible apply V.tg_l); exact rfl; pv_eval)
  | with_reducible exact V.ga_nil _
  | ((with_reducible apply V.ga_cons); pv_eval; pv_eval))
local macro_rules | `(tactic| fin_run) => `(tactic| first
  | ((with_reducible apply V.q_retS); pv_eval)
  | (with_reducible apply V.q_retNS)
  | (with_reducible apply V.q_brkS)
  | (with_reducible apply V.q_cntS)
  | ((with_reducible apply V.q_raiseS); pv_eval; pv_eval)
  | ((with_reducible apply V.q_iftS); units_room)
  | ((with_reducible apply V.q_iffS); units_room)
  | ((with_reducible apply V.q_ift); units_room)
  | ((with_reducible apply V.q_iff); units_room)
  | ((with_reducible apply V.q_one); pv_eval)
  | (with_reducible apply V.q_nilS)
  | (with_reducible apply V.q_assoc)
  | ((with_reducible apply V.q_ifSeq); pv_eval)
  | ((with_reducible apply V.q_if); pv_eval)
  | ((with_reducible apply V.q_ret); pv_eval)
  | (with_reducible apply V.q_retN)
  | ((with_reducible apply V.q_raise); pv_eval; pv_eval)
  | (with_reducible apply V.q_nil)
  | (with_reducible apply V.q_brk)
  | (with_reducible apply V.q_cnt)
  | ((with_reducible apply V.q_eq); pv_eval)
  | exact rfl)
local macro_rules | `(tactic| fold_depth) => `(tactic| first | (simp only [List.map_cons, List.map_nil, List.cons_append, List.nil_append, Nat.reduceSub, List.reduceReplicate, List.append_nil]; exact rfl) | exact rfl)
local macro_rules | `(tactic| top_args) => `(tactic| (pv_eval; exact rfl; (simp only [N4.wipeS, N4.setSl, List.set_cons_succ, List.set_cons_zero]; exact rfl); (repeat' (first | exact trivial | refine And.intro rfl ?_)); (first | pre_facts | skip)))
local macro_rules | `(tactic| reads_via) => `(tactic| (apply Eq.trans; pv_eval; exact rfl))
theorem law_turn {b : Bk} (hb : OkBk b) (ha : AllMet b) (s0 x3 x4 x5 : Option Sl) (p : Pl) (hi : Inv0 p) :
    V.WP (b_law_1 ⟨[s0, some .pool, some (.val (bkD b)), x3, x4, x5, none, none, none, none], some p⟩) fun r => ∃ (t : Bk) (x5' : Option Sl) (q : Pl), OkBk t ∧ Inv0 q ∧ r = .nx ⟨[s0, some .pool, some (.val (bkD b)), x3, some (.val (bkD t)), x5', none, none, none, none], some q⟩ := by
  obtain ⟨t, ks, p', e, i, ht, hk⟩ := strays_ok hb ha p hi
  have er := right_ok ht hk (some p')
  unfold b_law_1
  fin_run
  with_reducible apply V.q_if
  · pv_eval
  with_reducible apply V.q_iff
  · rfl
  · exact ⟨t, _, p', ht, i, rfl⟩
theorem law_ok (s0 : Option Sl) (p : Pl) (hi : Inv0 p) : ∃ s', b_law ⟨[s0, some .pool, none, none, none, none, none, none, none, none], some p⟩ = .ret (.val (.bool true)) s' := by
  suffices hw : V.WP (b_law ⟨[s0, some .pool, none, none, none, none, none, none, none, none], some p⟩) fun o => ∃ s', o = .ret (.val (.bool true)) s' from hw
  have t1 := trim1 (some p)
  have t2 := trim2 (some p)
  have t3 := trim3 (some p)
  have n1 := ne1
  have n2 := ne2
  have n3 := ne3
  have m7 := tim7
  have m9 := tim9
  have a7 := add7
  obtain ⟨b, p1, eb, i1, hb, ha⟩ := drawn_ok 5 3 (by decide) (by decide) (by decide) p hi
  have eb : sem__law_book_drawn [.pool, .val (.int 5), .val (.int 3)] (some p) = .ok (.val (bkD b)) (some p1) := eb
  have h8 := hb.most
  have h1 := hb.one
  unfold b_law
  repeat fin_run
  apply V.q_forR (n := 3) (f := fun k : Nat => .int (k : Nat)) (fun j σ => ∃ (q : Pl) (x3 x4 x5 : Option Sl), Inv0 q ∧ (0 < j → ∃ t, OkBk t ∧ x4 = some (.val (bkD t))) ∧ σ = ⟨[s0, some .pool, some (.val (bkD b)), x3, x4, x5, none, none, none, none], some q⟩)
  · pv_eval
  · rfl
  · exact ⟨p1, none, none, none, i1, fun z => absurd z (by decide), rfl⟩
  · rintro k σ hk ⟨q, x3, x4, x5, iq, _, rfl⟩
    refine ⟨_, by pv_eval, fun U hU => ?_⟩
    obtain ⟨t, x5', q', ht, iq', e⟩ := law_turn hb ha s0 (some (.val (.int (k : Nat)))) x4 x5 q iq
    exact V.q_eq e (hU.nx _ ⟨q', _, _, x5', iq', fun _ => ⟨t, ht, rfl⟩, rfl⟩)
  · rintro σ ⟨q, x3, x4, x5, iq, hx, rfl⟩
    obtain ⟨t, ht, rfl⟩ := hx (by decide)
    have h8 := ht.most
    have h1 := ht.one
    obtain ⟨u, o, q2, er, i2, hP, hul⟩ := renamed_ok hb q iq
    have hio := ix0 (bkD u) (.list (intsD o))
    have hu : ([] : List Nat).head? = strayOf u := stray_pla hb ha hP (List.Perm.of_eq (List.drop_eq_nil_of_le (by have := hP.len; omega)).symm) List.Pairwise.nil
    have eu : sem__law_trimmed_right [.val (bkD u), .val (.list [])] (some q2) = .ok (.val (.bool true)) (some q2) := right_ok hP.ok hu (some q2)
    fin_run
    with_reducible apply V.q_iffS
    · rfl
    fin_run
    have hbt := bLen_bk t
    obtain ⟨a, q3, ea, i3, haa⟩ := drawN q2 t.length (by omega) (by omega) i2
    have ea : sem__law_draw [.pool, .val (.int (t.length : Nat))] (some q2) = .ok (.val (.int (a : Nat))) (some q3) := ea
    fin_run
    obtain ⟨d, q4, ep, i4, hd⟩ := pick_ok q3 (oddL t.length) (by simp) (by simp) i3
    have ep := ep _ (.inl rfl)
    fin_run
    have e1 : oSl none (some (a : Int)) (bkD t) = some (.val (.tuple ((t.map stD).take a))) := by
      show some (Ev.val (.tuple (cutN (t.map stD) none (some (a : Int))))) = _
      rw [V.cut_to]
    have e2 : oSl (some ((a + 1 : Nat) : Int)) none (bkD t) = some (.val (.tuple ((t.map stD).drop (a + 1)))) := by
      show some (Ev.val (.tuple (cutN (t.map stD) (some ((a + 1 : Nat) : Int)) none))) = _
      rw [V.cut_from]
    have e3 : oAdd (.int (a : Nat)) (.int 1) = some (.val (.int (a + 1 : Nat))) := rfl
    have e4 : oAdd (.tuple ((t.map stD).take a)) (.tuple [d]) = some (.val (.tuple ((t.map stD).take a ++ [d]))) := oAdd_t (by simp; unfold lineN; omega)
    have e5 : oAdd (.tuple ((t.map stD).take a ++ [d])) (.tuple ((t.map stD).drop (a + 1))) = some (.val (.tuple (bentL t a d))) := oAdd_t (by simp; unfold lineN; omega)
    obtain ⟨w1, w2⟩ := bent_wf ht haa hd
    fin_run
    have c1 := trimmed_err w1 w2 rfl (some q4)
    have c2 := form_err w1 w2 rfl (some q4)
    have c3 := is_book_no w1 w2 (some q4)
    obtain ⟨m1, m2, _⟩ := nc2 (nc_badD nc_sB (nc_k (k := a) (by omega))) (by unfold lineN; omega) (by omega)
    have eh1 : eHeard [8] sem__law_heard (eCall sem_trimmed [eV 8]) ⟨[s0, some .pool, some (.val (bkD b)), x3, some (.val (bkD t)), x5, some (.val (.int (a : Nat))), some (.val d), some (.val (.tuple (bentL t a d))), none], some q4⟩ = .ok (.val (badD "BadBook" (.int (a : Nat)))) ⟨[s0, some .pool, some (.val (bkD b)), x3, some (.val (bkD t)), x5, some (.val (.int (a : Nat))), some (.val d), some (.val (.tuple (bentL t a d))), none], some q4⟩ := eh_bad (s1 := ⟨_, some q4⟩) rfl (call_err (args1 (eV_ok (i := 8) (d := .tuple (bentL t a d)) rfl)) c1) rfl
    have eh2 : eHeard [8] sem__law_heard (eCall sem_made_book [eV 8]) ⟨[s0, some .pool, some (.val (bkD b)), x3, some (.val (bkD t)), x5, some (.val (.int (a : Nat))), some (.val d), some (.val (.tuple (bentL t a d))), none], some q4⟩ = .ok (.val (badD "BadBook" (.int (a : Nat)))) ⟨[s0, some .pool, some (.val (bkD b)), x3, some (.val (bkD t)), x5, some (.val (.int (a : Nat))), some (.val d), some (.val (.tuple (bentL t a d))), none], some q4⟩ := eh_bad (s1 := ⟨_, some q4⟩) rfl (call_err (args1 (eV_ok (i := 8) (d := .tuple (bentL t a d)) rfl)) c2) rfl
    fin_run
    with_reducible apply V.q_iffS
    · rfl
    fin_run
    fin_run
    with_reducible apply V.q_iffS
    · rfl
    fin_run
    obtain ⟨z, q5, ez, i5, hz⟩ := pick_ok q4 noneL (by simp) (by simp) i4
    have ez := ez _ (.inl rfl)
    fin_run
    obtain ⟨w3, w4⟩ := none_wf z hz
    have c4 := trimmed_err w3 w4 rfl (some q5)
    obtain ⟨m3, _, m4⟩ := nc2 (nc_badD nc_sB nc_m1) (by unfold lineN; omega) (by omega)
    have eh3 : eHeard [9] sem__law_heard (eCall sem_trimmed [eV 9]) ⟨[s0, some .pool, some (.val (bkD b)), x3, some (.val (bkD t)), x5, some (.val (.int (a : Nat))), some (.val d), some (.val (.tuple (bentL t a d))), some (.val z)], some q5⟩ = .ok (.val (badD "BadBook" (.int (-1)))) ⟨[s0, some .pool, some (.val (bkD b)), x3, some (.val (bkD t)), x5, some (.val (.int (a : Nat))), some (.val d), some (.val (.tuple (bentL t a d))), some (.val z)], some q5⟩ := eh_bad (s1 := ⟨_, some q5⟩) rfl (call_err (args1 (eV_ok (i := 9) (d := z) rfl)) c4) rfl
    with_reducible apply V.q_ret
    · pv_eval
    · exact ⟨_, rfl⟩
end K02
end
section
set_option Elab.async false
set_option linter.all false
set_option autoImplicit false
set_option maxRecDepth 100000
set_option maxHeartbeats 4000000
namespace K02
open PySem PySem.Spec PyProof.Rows N4
theorem pure_law (ns : List Int) (h : ns.length ≤ 63) (hb : ∀ k ∈ ns, Builtin.Int.intBits k ≤ 1048576) : ∃ s', b_law (lawS ns) = .ret (.val (.bool true)) s' := by
  have hs : 0 ≤ pS ns := by unfold pS; split <;> omega
  have hi : Inv0 (pX ns, pY ns, ns.tail) := by
    have h1 : 0 ≤ (pS ns * 48271 + 1009) % 2147483629 := Int.emod_nonneg _ (by decide)
    have h2 : (pS ns * 48271 + 1009) % 2147483629 < 2147483629 := Int.emod_lt_of_pos _ (by decide)
    refine ⟨?_, ?_, ?_⟩
    · show 0 ≤ pX ns
      unfold pX
      split <;> omega
    · show 0 ≤ pY ns
      unfold pY
      omega
    · show pY ns < 4294967296
      unfold pY
      omega
  exact law_ok none (pX ns, pY ns, ns.tail) hi
end K02
end
section
set_option Elab.async false
set_option linter.all false
set_option maxRecDepth 100000
set_option pp.maxSteps 300
open PySem PySem.W PyProof.Rows
set_option maxHeartbeats 0 in
theorem PySem.Challenge.cw_neverfour_k02_strays_and_meeting_holds : PySem.Challenge.rw_neverfour_k02_strays_and_meeting.Holds := by
  w_on; o_law; k_head; (case hw => w_witness2)
  k_fill
  refine Att.attach_callB (l := PySem.Challenge.rw_neverfour_k02_strays_and_meeting) (n := 63) rfl rfl fun w s₀ s₁ mg mb fa o pm cd doc a vs ns G Y ho hd hcd hmg hobj hints hlen hbits hg => ?_
  have KX := PySem.W.km_in_of Y
  set_option pp.maxSteps 300 in
  refine' K02.law_all KX G.T.g G.T.b G.T.builtins G.T.nolimit hg G.T.bmain hmg hobj hints hlen (K02.pure_law ns hlen hbits) ?a_is_number ?l_is_number ?c_is_number ?k_is_number ?a_is_between ?l_is_between ?c_is_between ?k_is_between ?a_is_tuple_of ?l_is_tuple_of ?c_is_tuple_of ?k_is_tuple_of ?a_is_state_form ?l_is_state_form ?c_is_state_form ?k_is_state_form ?a_wrong_form ?l_wrong_form ?c_wrong_form ?k_wrong_form ?a_states_met ?l_states_met ?c_states_met ?k_states_met ?a_first_stray ?l_first_stray ?c_first_stray ?k_first_stray ?a_is_book ?l_is_book ?c_is_book ?k_is_book ?a_check_forms ?l_check_forms ?c_check_forms ?k_check_forms ?a_made_book ?l_made_book ?c_made_book ?k_made_book ?a_by_meeting ?l_by_meeting ?c_by_meeting ?k_by_meeting ?a_trimmed ?l_trimmed ?c_trimmed ?k_trimmed ?a__law_pool ?l__law_pool ?c__law_pool ?k__law_pool ?a__law_draw ?l__law_draw ?c__law_draw ?k__law_draw ?a__law_pick ?l__law_pick ?c__law_pick ?k__law_pick ?a__law_turned ?l__law_turned ?c__law_turned ?k__law_turned ?a__law_book_meeting ?l__law_book_meeting ?c__law_book_meeting ?k__law_book_meeting ?a__law_book_messages ?l__law_book_messages ?c__law_book_messages ?k__law_book_messages ?a__law_book_drawn ?l__law_book_drawn ?c__law_book_drawn ?k__law_book_drawn ?a__law_book_renamed ?l__law_book_renamed ?c__law_book_renamed ?k__law_book_renamed ?a__law_heard ?l__law_heard ?c__law_heard ?k__law_heard ?a__law_with_strays ?l__law_with_strays ?c__law_with_strays ?k__law_with_strays ?a__law_by_rows ?l__law_by_rows ?c__law_by_rows ?k__law_by_rows ?a__law_trimmed_right ?l__law_trimmed_right ?c__law_trimmed_right ?k__law_trimmed_right ?a_law ?l_law ?c_law ?k_law ?ti__law_trimmed_right ?pv__law_trimmed_right ?t__law_trimmed_right ?n__law_trimmed_right ?ti_law ?pv_law ?t_law ?n_law ?d__law_trimmed_right_law ?b_ValueError ?b_bool ?b_enumerate ?b_int ?b_isinstance ?b_len ?b_list ?b_min ?b_range ?b_repr ?b_sorted ?b_tuple ?v_MOST_MESSAGE ?v_MOST_MOVES ?v_MOST_STATES ?aC_BadBook ?xL_BadBook ?vb_BadBook ?sa_BadBook ?ex_BadBook ?ty_BadBook ?kp_BadBook ?hd_BadBook ?in_BadBook ?no_BadBook ?ga_BadBook ?gg_BadBook ?cc_BadBook ?ha_BadBook ?mo_BadBook ?ve_BadBook ?sb_BadBook_BadBook ?sb_BadBook_Refused ?sb_BadBook_Stray ?ki_BadBook_Refused ?aC_Refused ?xL_Refused ?vb_Refused ?sa_Refused ?ex_Refused ?ty_Refused ?kp_Refused ?hd_Refused ?aC_Stray ?xL_Stray ?vb_Stray ?sa_Stray ?ex_Stray ?ty_Stray ?kp_Stray ?hd_Stray ?in_Stray ?no_Stray ?ga_Stray ?gg_Stray ?cc_Stray ?ha_Stray ?mo_Stray ?ve_Stray ?sb_Stray_BadBook ?sb_Stray_Refused ?sb_Stray_Stray ?ki_Stray_Refused ?hn ?htk ?tI ?lI ?cI
  (case aC_BadBook => k_is)
  (case aC_Refused => k_is)
  (case aC_Stray => k_is)
  (case a_is_number => k_is)
  (case l_is_number => k_is)
  (case c_is_number => k_is)
  (case k_is_number => k_is)
  (case a_is_between => k_is)
  (case l_is_between => k_is)
  (case c_is_between => k_is)
  (case k_is_between => k_is)
  (case a_is_tuple_of => k_is)
  (case l_is_tuple_of => k_is)
  (case c_is_tuple_of => k_is)
  (case k_is_tuple_of => k_is)
  (case a_is_state_form => k_is)
  (case l_is_state_form => k_is)
  (case c_is_state_form => k_is)
  (case k_is_state_form => k_is)
  (case a_wrong_form => k_is)
  (case l_wrong_form => k_is)
  (case c_wrong_form => k_is)
  (case k_wrong_form => k_is)
  (case a_states_met => k_is)
  (case l_states_met => k_is)
  (case c_states_met => k_is)
  (case k_states_met => k_is)
  (case a_first_stray => k_is)
  (case l_first_stray => k_is)
  (case c_first_stray => k_is)
  (case k_first_stray => k_is)
  (case a_is_book => k_is)
  (case l_is_book => k_is)
  (case c_is_book => k_is)
  (case k_is_book => k_is)
  (case a_check_forms => k_is)
  (case l_check_forms => k_is)
  (case c_check_forms => k_is)
  (case k_check_forms => k_is)
  (case a_made_book => k_is)
  (case l_made_book => k_is)
  (case c_made_book => k_is)
  (case k_made_book => k_is)
  (case a_by_meeting => k_is)
  (case l_by_meeting => k_is)
  (case c_by_meeting => k_is)
  (case k_by_meeting => k_is)
  (case a_trimmed => k_is)
  (case l_trimmed => k_is)
  (case c_trimmed => k_is)
  (case k_trimmed => k_is)
  (case a__law_pool => k_is)
  (case l__law_pool => k_is)
  (case c__law_pool => k_is)
  (case k__law_pool => k_is)
  (case a__law_draw => k_is)
  (case l__law_draw => k_is)
  (case c__law_draw => k_is)
  (case k__law_draw => k_is)
  (case a__law_pick => k_is)
  (case l__law_pick => k_is)
  (case c__law_pick => k_is)
  (case k__law_pick => k_is)
  (case a__law_turned => k_is)
  (case l__law_turned => k_is)
  (case c__law_turned => k_is)
  (case k__law_turned => k_is)
  (case a__law_book_meeting => k_is)
  (case l__law_book_meeting => k_is)
  (case c__law_book_meeting => k_is)
  (case k__law_book_meeting => k_is)
  (case a__law_book_messages => k_is)
  (case l__law_book_messages => k_is)
  (case c__law_book_messages => k_is)
  (case k__law_book_messages => k_is)
  (case a__law_book_drawn => k_is)
  (case l__law_book_drawn => k_is)
  (case c__law_book_drawn => k_is)
  (case k__law_book_drawn => k_is)
  (case a__law_book_renamed => k_is)
  (case l__law_book_renamed => k_is)
  (case c__law_book_renamed => k_is)
  (case k__law_book_renamed => k_is)
  (case a__law_heard => k_is)
  (case l__law_heard => k_is)
  (case c__law_heard => k_is)
  (case k__law_heard => k_is)
  (case a__law_with_strays => k_is)
  (case l__law_with_strays => k_is)
  (case c__law_with_strays => k_is)
  (case k__law_with_strays => k_is)
  (case a__law_by_rows => k_is)
  (case l__law_by_rows => k_is)
  (case c__law_by_rows => k_is)
  (case k__law_by_rows => k_is)
  (case a__law_trimmed_right => k_is)
  (case l__law_trimmed_right => k_is)
  (case c__law_trimmed_right => k_is)
  (case k__law_trimmed_right => k_is)
  (case a_law => k_is)
  (case l_law => k_is)
  (case c_law => k_is)
  (case k_law => k_is)
  (case ti__law_trimmed_right => k_is)
  (case pv__law_trimmed_right => rfl)
  (case t__law_trimmed_right => first | exact ⟨PySem.W.codeHd_of_K KX (by k_is), PySem.W.km_tabs_of Y _ (by decide)⟩ | exact ⟨PySem.W.codeHd_of_K KX (by kernel_rfl), PySem.W.km_tabs_of Y _ (by decide +kernel)⟩)
  (case n__law_trimmed_right => first | kernel_rfl | rfl | decide +kernel)
  (case ti_law => k_is)
  (case pv_law => rfl)
  (case t_law => first | exact ⟨PySem.W.codeHd_of_K KX (by k_is), PySem.W.km_tabs_of Y _ (by decide)⟩ | exact ⟨PySem.W.codeHd_of_K KX (by kernel_rfl), PySem.W.km_tabs_of Y _ (by decide +kernel)⟩)
  (case n_law => first | kernel_rfl | rfl | decide +kernel)
  (case d__law_trimmed_right_law => decide)
  (case b_ValueError => k_is)
  (case b_bool => k_is)
  (case b_enumerate => k_is)
  (case b_int => k_is)
  (case b_isinstance => k_is)
  (case b_len => k_is)
  (case b_list => k_is)
  (case b_min => k_is)
  (case b_range => k_is)
  (case b_repr => k_is)
  (case b_sorted => k_is)
  (case b_tuple => k_is)
  (case v_MOST_MESSAGE => k_is)
  (case v_MOST_MOVES => k_is)
  (case v_MOST_STATES => k_is)
  (case xL_BadBook => k_is)
  (case vb_BadBook => decide +kernel)
  (case sa_BadBook => k_is)
  (case ex_BadBook => k_is)
  (case ty_BadBook => k_is)
  (case kp_BadBook => k_is)
  (case hd_BadBook => k_is)
  (case in_BadBook => k_is)
  (case no_BadBook => k_is)
  (case ga_BadBook => k_is)
  (case gg_BadBook => k_is)
  (case cc_BadBook => k_is)
  (case ha_BadBook => k_is)
  (case mo_BadBook => k_is)
  (case ve_BadBook => first | k_is | rfl | kernel_rfl)
  (case sb_BadBook_BadBook => first | k_is | rfl | kernel_rfl)
  (case sb_BadBook_Refused => first | k_is | rfl | kernel_rfl)
  (case sb_BadBook_Stray => first | k_is | rfl | kernel_rfl)
  (case ki_BadBook_Refused => first | k_is | rfl | kernel_rfl)
  (case xL_Refused => k_is)
  (case vb_Refused => decide +kernel)
  (case sa_Refused => k_is)
  (case ex_Refused => k_is)
  (case ty_Refused => k_is)
  (case kp_Refused => k_is)
  (case hd_Refused => k_is)
  (case xL_Stray => k_is)
  (case vb_Stray => decide +kernel)
  (case sa_Stray => k_is)
  (case ex_Stray => k_is)
  (case ty_Stray => k_is)
  (case kp_Stray => k_is)
  (case hd_Stray => k_is)
  (case in_Stray => k_is)
  (case no_Stray => k_is)
  (case ga_Stray => k_is)
  (case gg_Stray => k_is)
  (case cc_Stray => k_is)
  (case ha_Stray => k_is)
  (case mo_Stray => k_is)
  (case ve_Stray => first | k_is | rfl | kernel_rfl)
  (case sb_Stray_BadBook => first | k_is | rfl | kernel_rfl)
  (case sb_Stray_Refused => first | k_is | rfl | kernel_rfl)
  (case sb_Stray_Stray => first | k_is | rfl | kernel_rfl)
  (case ki_Stray_Refused => first | k_is | rfl | kernel_rfl)
  (case hn => k_is)
  (case htk => k_is)
  (case tI => k_is)
  (case lI => k_is)
  (case cI => k_is)
end
