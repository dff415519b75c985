import PyProof.Rows.All
import Wide.All
import OpenK.AllK
import Wide.FinOn
import PyProof.EqLayable
import HandS.ForMost
import HandS.Exc
import HandS.ExcOwn
import HandS.TryOnly
import HandS.WordsExc
import HandS.Zip
import HandS.Walk
import HandS.IsInst
import HandS.TupAny
import HandS.TupMul
import HandS.Wide
import HandS.EndTab
import HandS.Lambda
import HandS.Evl
import HandS.ExcCtx
import HandS.HotCalls
import HandS.ExcIs
import HandS.TupLe
import KE.KTupSum
import KE.GoesEnum
import KE.GoesMore
import HandS.Style
import KE.DataEq
import KE.DataFind
import KE.SortData
import HandS.TupLen
import HandS.Conv
import KE.KDictSum
import HandS.Nested
import HandS.Keys
import KE.SortKeyHeap
import KE.DataMinMax
import HandS.SortKw
import HandS.Deep
import HandS.Text
import HandS.FStr
import HandS.Replace
import KE.IntTextLaws
import PyProof.StrOps2
import HandS.Comp
import PyProof.NeKinds
import HandS.TupSets
import HandS.Iter
import KE.KNestM
import HandS.EndBits
import PySem.Challenge.RW_spentheaps_k09_whole_least_starts
section
set_option Elab.async false
set_option linter.all false
/-! Sem: a plain reading of Python's defs as functions over data and a store. -/
namespace Y
open PySem (PyData Str)
abbrev D := PyData
/-- a value: data that never changes, the k-th object of the store, or the script -/
inductive Val where
  | d (x : D)
  | o (k : Nat)
  | s (ns : List Int)
/-- an object that may change -/
inductive Ob where
  | lst (xs : List Val)
  | ins (C : Nat) (fs : List (Str × Val))
  | gone
  | tup (xs : List Val)
  | dct (kvs : List (List Int × D))
  /-- a dict that changes no more -/
  | dcf (kvs : List (List Int × D))
  /-- an exception of the c-th class, caught -/
  | exc (c : Nat)
abbrev Store := List Ob
abbrev Loc := List (Option Val)
/-- a result: a value, an exception of the c-th class, or nothing is said -/
inductive R (α : Type) where
  | ok (a : α) (st : Store)
  | ex (c : Nat) (st : Store)
  | bad
abbrev M (α : Type) := Store → R α
def ret {α : Type} (a : α) : M α := fun st => .ok a st
def die {α : Type} : M α := fun _ => .bad
def thr {α : Type} (c : Nat) : M α := fun st => .ex c st
def bd {α β : Type} (m : M α) (f : α → M β) : M β := fun st => match m st with
  | .ok a s => f a s
  | .ex c s => .ex c s
  | .bad => .bad
/-- an exception is not allowed here -/
def noex {α : Type} (m : M α) : M α := fun st => match m st with
  | .ok a s => .ok a s
  | _ => .bad
def lim : Nat := 100000
/-! ### expressions -/
abbrev E := Loc → M Val
abbrev A := Loc → M (List Val)
abbrev Tst := Loc → M Bool
def eV (i : Nat) : E := fun loc => match loc[i]? with
  | some (some v) => ret v
  | _ => die
def eC (x : D) : E := fun _ => ret (.d x)
def eO (op : Val → Val → M Val) (a b : E) : E := fun loc => bd (a loc) fun x => bd (b loc) fun y => op x y
def eU (op : Val → M Val) (a : E) : E := fun loc => bd (a loc) op
def aN : A := fun _ => ret []
def aC (e : E) (as : A) : A := fun loc => bd (e loc) fun x => bd (as loc) fun xs => ret (x :: xs)
def eB (b : List Val → M Val) (as : A) : E := fun loc => bd (as loc) b
def toDs : List Val → Option (List D)
  | [] => some []
  | .d x :: r => (toDs r).map (x :: ·)
  | _ :: _ => none
def bTup (vs : List Val) : M Val := match toDs vs with
  | some ds => if ds.length ≤ lim then ret (.d (.tuple ds)) else die
  | none => die
def bLst (vs : List Val) : M Val := match toDs vs with
  | some ds => if ds.length ≤ lim then ret (.d (.list ds)) else die
  | none => die
/-- a new list that may change -/
def bNew (vs : List Val) : M Val := fun st => if vs.length ≤ lim then .ok (.o st.length) (st ++ [.lst vs]) else .bad
def asB : Val → M Bool
  | .d (.bool b) => ret b
  | _ => die
def vB (b : Bool) : Val := .d (.bool b)
def vI (i : Int) : Val := .d (.int i)
/-- tests -/
def tV (e : E) : Tst := fun loc => bd (e loc) asB
def tAn (t u : Tst) : Tst := fun loc => bd (t loc) fun b => if b = true then u loc else ret false
def tOrr (t u : Tst) : Tst := fun loc => bd (t loc) fun b => if b = true then ret true else u loc
def tNo (t : Tst) : Tst := fun loc => bd (t loc) fun b => ret (!b)
def tTr : Tst := fun _ => ret true
def eAn (a b : E) : E := fun loc => bd (a loc) fun v => bd (asB v) fun c => if c = true then b loc else ret (vB false)
def eOr (a b : E) : E := fun loc => bd (a loc) fun v => bd (asB v) fun c => if c = true then ret (vB true) else b loc
def eNo (a : E) : E := fun loc => bd (a loc) fun v => bd (asB v) fun c => ret (vB (!c))
def eIf (t : Tst) (a b : E) : E := fun loc => bd (t loc) fun c => if c = true then a loc else b loc
/-- a < b < c -/
def eCh (o1 o2 : Val → Val → M Val) (a b c : E) : E := fun loc => bd (a loc) fun x => bd (b loc) fun y => bd (o1 x y) fun r => bd (asB r) fun k => if k = true then bd (c loc) fun z => o2 y z else ret (vB false)
/-! ### what is walked -/
abbrev I := Loc → M (List Val)
def seqOf : Val → M (List D)
  | .d (.list ds) => ret ds
  | .d (.tuple ds) => ret ds
  | _ => die
def iSeq (e : E) : I := fun loc => bd (e loc) fun v => bd (seqOf v) fun ds => ret (ds.map .d)
def asI : Val → M Int
  | .d (.int i) => ret i
  | _ => die
/-- a call of range, zip, enumerate is walked -/
def iCall (k : List Val → M (List Val)) (as : A) : I := fun loc => bd (as loc) k
def rng (lo : Int) (n : Nat) : List Val := (List.range n).map fun (i : Nat) => vI (lo + (i : Int))
def kRg1 : List Val → M (List Val)
  | [.d (.int n)] => if -1000000 ≤ n ∧ n ≤ 1000000 then ret (rng 0 n.toNat) else die
  | _ => die
def kRg2 : List Val → M (List Val)
  | [.d (.int m), .d (.int n)] => if -1000000 ≤ m ∧ m ≤ 1000000 ∧ -1000000 ≤ n ∧ n ≤ 1000000 then ret (rng m (n - m).toNat) else die
  | _ => die
def zip2 : List D → List D → List Val
  | x :: xs, y :: ys => .d (.tuple [x, y]) :: zip2 xs ys
  | _, _ => []
def zip3 : List D → List D → List D → List Val
  | x :: xs, y :: ys, z :: zs => .d (.tuple [x, y, z]) :: zip3 xs ys zs
  | _, _, _ => []
def kZip2 : List Val → M (List Val)
  | [v, w] => bd (seqOf v) fun xs => bd (seqOf w) fun ys => ret (zip2 xs ys)
  | _ => die
def kZip3 : List Val → M (List Val)
  | [v, w, u] => bd (seqOf v) fun xs => bd (seqOf w) fun ys => bd (seqOf u) fun zs => ret (zip3 xs ys zs)
  | _ => die
def enumF (n : Nat) : List D → List Val
  | [] => []
  | x :: xs => .d (.tuple [.int (n : Int), x]) :: enumF (n + 1) xs
def kEnum : List Val → M (List Val)
  | [v] => bd (seqOf v) fun ds => ret (enumF 0 ds)
  | _ => die
def kEnumL : List Val → M (List Val)
  | [.d (.list ds)] => ret (enumF 0 ds)
  | _ => die
/-! ### targets -/
abbrev G := Val → Loc → M Loc
def gN (i : Nat) : G := fun v loc => ret (loc.set i (some v))
abbrev Gs := List Val → Loc → M Loc
def gsN : Gs := fun vs loc => match vs with
  | [] => ret loc
  | _ => die
def gsC (g : G) (gs : Gs) : Gs := fun vs loc => match vs with
  | v :: r => bd (g v loc) fun l => gs r l
  | [] => die
def gT (n : Nat) (gs : Gs) : G := fun v loc => match v with
  | .d (.tuple ds) => if ds.length = n then gs (ds.map .d) loc else die
  | _ => die
/-! ### comprehensions -/
def wip (loc : Loc) : List Nat → Loc
  | [] => loc
  | v :: vs => (wip loc vs).set v none
def consO : Option Val → List Val → List Val
  | some y, ys => y :: ys
  | none, ys => ys
def compL (body : Val → M (Option Val)) : List Val → M (List Val)
  | [] => ret []
  | x :: xs => bd (body x) fun o => bd (compL body xs) fun ys => ret (consO o ys)
def cBody (g : G) (t : Tst) (e : E) (loc : Loc) (x : Val) : M (Option Val) :=
  bd (g x loc) fun l => bd (t l) fun b => if b = true then bd (e l) fun y => ret (some y) else ret none
def eLc (it : I) (g : G) (t : Tst) (e : E) (vs : List Nat) : E := fun loc => bd (it loc) fun xs => if xs.length ≤ lim then bd (noex (compL (cBody g t e (wip loc vs)) xs)) bLst else die
/-- .. whose list may change -/
def eLcN (it : I) (g : G) (t : Tst) (e : E) (vs : List Nat) : E := fun loc => bd (it loc) fun xs => if xs.length ≤ lim then bd (noex (compL (cBody g t e (wip loc vs)) xs)) bNew else die
/-! ### statements -/
inductive Fl where
  | nx | rt (v : Val) | bk | ct
abbrev S := Loc → M (Fl × Loc)
def sNil : S := fun loc => ret (.nx, loc)
def sSeq (a b : S) : S := fun loc => bd (a loc) fun r => match r.1 with
  | .nx => b r.2
  | _ => ret r
def sRet (e : E) : S := fun loc => bd (e loc) fun v => ret (.rt v, loc)
def sAsg (e : E) (g : G) : S := fun loc => bd (e loc) fun v => bd (g v loc) fun l => ret (.nx, l)
def sExp (e : E) : S := fun loc => bd (e loc) fun _ => ret (.nx, loc)
def sIf (t : Tst) (a b : S) : S := fun loc => bd (t loc) fun c => if c = true then a loc else b loc
def sRaise (c : Nat) : S := fun _ => thr c
def sBrk : S := fun loc => ret (.bk, loc)
def sCnt : S := fun loc => ret (.ct, loc)
/-- a, b = e, f -/
def sPar (i j : Nat) (a b : E) : S := fun loc => bd (a loc) fun v => bd (b loc) fun w => ret (.nx, (loc.set i (some v)).set j (some w))
def forL (body : Val → S) : List Val → S
  | [] => fun loc => ret (.nx, loc)
  | x :: xs => fun loc => bd (body x loc) fun r => match r.1 with
    | .nx => forL body xs r.2
    | .ct => forL body xs r.2
    | .bk => ret (.nx, r.2)
    | .rt v => ret (.rt v, r.2)
def fBody (g : G) (b : S) (x : Val) : S := fun loc => bd (g x loc) b
def sFor (it : I) (g : G) (b : S) : S := fun loc => bd (it loc) fun xs => forL (fBody g b) xs loc
open Classical in
/-- a loop over a list of the store that the body leaves as it is -/
noncomputable def forO (k : Nat) (xs0 : List Val) (body : Val → S) : List Val → S
  | [] => fun loc st => if st[k]? = some (.lst xs0) then .ok (.nx, loc) st else .bad
  | x :: xs => fun loc st => if st[k]? = some (.lst xs0) then (bd (body x loc) fun r => match r.1 with
    | .nx => forO k xs0 body xs r.2
    | .ct => forO k xs0 body xs r.2
    | .bk => ret (.nx, r.2)
    | .rt v => ret (.rt v, r.2)) st else .bad
def getL : Val → M (Nat × List Val)
  | .o k => fun st => match st[k]? with
    | some (.lst xs) => .ok (k, xs) st
    | _ => .bad
  | _ => die
noncomputable def sForO (e : E) (g : G) (b : S) : S := fun loc => bd (e loc) fun v => bd (getL v) fun p => forO p.1 p.2 (fBody g b) p.2 loc
def whl (t : Tst) (b : S) : Nat → S
  | 0 => fun _ => die
  | n + 1 => fun loc => bd (t loc) fun c => if c = true then bd (b loc) fun r => match r.1 with
      | .nx => whl t b n r.2
      | .ct => whl t b n r.2
      | .bk => ret (.nx, r.2)
      | .rt v => ret (.rt v, r.2)
    else ret (.nx, loc)
open Classical in
noncomputable def sWhile (t : Tst) (b : S) : S := fun loc st =>
  if h : ∃ n, whl t b n loc st ≠ .bad then whl t b h.choose loc st else .bad
/-! ### defs -/
def runF (n : Nat) (b : S) : List Val → M Val := fun args =>
  bd (b (args.map some ++ List.replicate (n - args.length) none)) fun r => match r.1 with
    | .rt v => ret v
    | .nx => ret (.d .none)
    | _ => die
/-- f at n arguments, nothing else -/
def fixN (n : Nat) (f : List Val → M Val) : List Val → M Val := fun as => if as.length = n then f as else die
/-! ### operators and built-ins -/
def mulOk (i j : Int) : Bool := decide (i.natAbs < 2 ^ 64) || decide (j.natAbs < 2 ^ 64) || decide (i.natAbs.log2 + j.natAbs.log2 < 1000000)
def bAdd : Val → Val → M Val
  | .d (.int i), .d (.int j) => ret (vI (i + j))
  | .d (.list xs), .d (.list ys) => if xs.length + ys.length ≤ lim then ret (.d (.list (xs ++ ys))) else die
  | .d (.tuple xs), .d (.tuple ys) => if xs.length + ys.length ≤ lim then ret (.d (.tuple (xs ++ ys))) else die
  | .d (.str x), .d (.str y) => if x.length + y.length ≤ lim then ret (.d (.str (x ++ y))) else die
  | _, _ => die
def bSub : Val → Val → M Val
  | .d (.int i), .d (.int j) => ret (vI (i - j))
  | _, _ => die
def repD (k : Int) (xs : List D) : List D := (List.replicate k.toNat xs).flatten
def bMul : Val → Val → M Val
  | .d (.int i), .d (.int j) => if mulOk i j = true then ret (vI (i * j)) else die
  | .d (.list xs), .d (.int k) => if -1000 ≤ k ∧ k ≤ 1000 ∧ xs.length ≤ 1000 then ret (.d (.list (repD k xs))) else die
  | .d (.tuple xs), .d (.int k) => if 1 ≤ k ∧ k ≤ 1000 ∧ 1 ≤ xs.length ∧ xs.length ≤ 1000 then ret (.d (.tuple (repD k xs))) else die
  | _, _ => die
def bDiv : Val → Val → M Val
  | .d (.int i), .d (.int j) => if 0 < j ∧ j.natAbs.log2 < 9000 then ret (vI (i / j)) else die
  | _, _ => die
def bMod : Val → Val → M Val
  | .d (.int i), .d (.int j) => if 0 < j then ret (vI (i % j)) else die
  | _, _ => die
def bPow : Val → Val → M Val
  | .d (.int i), .d (.int j) => if 0 ≤ j ∧ j ≤ 1000000 ∧ i.natAbs < 2 ^ 64 then ret (vI (i ^ j.toNat)) else die
  | _, _ => die
def bNeg : Val → M Val
  | .d (.int i) => ret (vI (-i))
  | _ => die
def bCmp (p : Int → Int → Bool) : Val → Val → M Val
  | .d (.int i), .d (.int j) => ret (vB (p i j))
  | _, _ => die
def bLt : Val → Val → M Val := bCmp fun i j => decide (i < j)
def bLe : Val → Val → M Val := bCmp fun i j => decide (i ≤ j)
def bGt : Val → Val → M Val := bCmp fun i j => decide (j < i)
def bGe : Val → Val → M Val := bCmp fun i j => decide (j ≤ i)
def intsD (ns : List Int) : List D := ns.map PyData.int
/-- what a value is as data, now -/
def snap : Val → M D
  | .d x => ret x
  | .s ns => ret (.list (intsD ns))
  | .o k => fun st => match st[k]? with
    | some (.lst xs) => (match toDs xs with
      | some ds => .ok (.list ds) st
      | none => .bad)
    | _ => .bad
def eqD (x y : D) : M Bool := if PySem.SeqAt.shaped x = true ∧ PySem.SeqAt.shaped y = true then ret (PyData.eqv x y) else die
def bEq (a b : Val) : M Val := bd (snap a) fun x => bd (snap b) fun y => bd (eqD x y) fun r => ret (vB r)
def bNe (a b : Val) : M Val := bd (snap a) fun x => bd (snap b) fun y => bd (eqD x y) fun r => ret (vB (!r))
def isN : Val → Bool
  | .d .none => true
  | _ => false
def bIsN (a : Val) : M Val := ret (vB (isN a))
def bNotN (a : Val) : M Val := ret (vB (!isN a))
def ixN (n : Nat) (i : Int) : Option Nat := if 0 ≤ i then (if i < n then some i.toNat else none) else if -(n : Int) ≤ i then some (i + n).toNat else none
def atI {α : Type} (xs : List α) (i : Int) : Option α := (ixN xs.length i).bind fun j => xs[j]?
def oget {α : Type} : Option α → M α
  | some a => ret a
  | none => die
def bIx : Val → Val → M Val
  | .d (.list xs), .d (.int i) => bd (oget (atI xs i)) fun x => ret (.d x)
  | .d (.tuple xs), .d (.int i) => bd (oget (atI xs i)) fun x => ret (.d x)
  | .s ns, .d (.int i) => bd (oget (atI ns i)) fun x => ret (vI x)
  | .o k, .d (.int i) => fun st => match st[k]? with
    | some (.lst xs) => (bd (oget (atI xs i)) ret) st
    | _ => .bad
  | _, _ => die
def bLen : List Val → M Val
  | [.d (.list xs)] => ret (vI xs.length)
  | [.d (.tuple xs)] => ret (vI xs.length)
  | [.s ns] => ret (vI ns.length)
  | [.o k] => fun st => match st[k]? with
    | some (.lst xs) => .ok (vI xs.length) st
    | _ => .bad
  | _ => die
def isTy (T : String) : D → Bool
  | .none => false
  | .bool _ => T == "int" || T == "bool"
  | .int _ => T == "int"
  | .str _ => T == "str"
  | .list _ => T == "list"
  | .tuple _ => T == "tuple"
  | .dict _ => T == "dict"
def bIsi (T : String) : Val → M Val
  | .d (.dict _) => die
  | .d x => ret (vB (isTy T x))
  | _ => die
def toBs : List D → Option (List Bool)
  | [] => some []
  | .bool b :: r => (toBs r).map (b :: ·)
  | _ :: _ => none
def toIs : List D → Option (List Int)
  | [] => some []
  | .int i :: r => (toIs r).map (i :: ·)
  | _ :: _ => none
def bAll : List Val → M Val
  | [.d (.list ds)] => bd (oget (toBs ds)) fun bs => ret (vB (bs.all id))
  | _ => die
def bAny : List Val → M Val
  | [.d (.list ds)] => bd (oget (toBs ds)) fun bs => ret (vB (bs.any id))
  | _ => die
def bSum : List Val → M Val
  | [.d (.list ds)] => bd (oget (toIs ds)) fun ns => ret (vI ns.sum)
  | _ => die
def bTuple : List Val → M Val
  | [.d (.list ds)] => ret (.d (.tuple ds))
  | [.d (.tuple ds)] => ret (.d (.tuple ds))
  | [.o k] => fun st => match st[k]? with
    | some (.lst xs) => (match toDs xs with
      | some ds => .ok (.d (.tuple ds)) st
      | none => .bad)
    | _ => .bad
  | _ => die
def bMax2 : List Val → M Val
  | [.d (.int i), .d (.int j)] => ret (vI (if j > i then j else i))
  | _ => die
def bMin2 : List Val → M Val
  | [.d (.int i), .d (.int j)] => ret (vI (if j < i then j else i))
  | _ => die
def sIx (n d : Nat) : Option Int → Nat
  | none => d
  | some v => if v < 0 then (v + n).toNat else min v.toNat n
def cutD (xs : List D) (lo hi : Option Int) : List D := (xs.drop (sIx xs.length 0 lo)).take (sIx xs.length xs.length hi - sIx xs.length 0 lo)
abbrev Oe := Loc → M (Option Int)
def oN : Oe := fun _ => ret none
def oS (e : E) : Oe := fun loc => bd (e loc) fun v => bd (asI v) fun i => ret (some i)
def bSl (v : Val) (lo hi : Option Int) : M Val := match v with
  | .d (.tuple xs) => ret (.d (.tuple (cutD xs lo hi)))
  | .d (.list xs) => ret (.d (.list (cutD xs lo hi)))
  | _ => die
def eSl (e : E) (lo hi : Oe) : E := fun loc => bd (e loc) fun v => bd (lo loc) fun l => bd (hi loc) fun h => bSl v l h
/-- o[i] = v on an object of the store -/
def gSub (o i : E) : G := fun v loc => bd (o loc) fun x => bd (i loc) fun y => match x, y with
  | .o k, .d (.int j) => fun st => match st[k]? with
    | some (.lst xs) => (match ixN xs.length j with
      | some m => .ok loc (st.set k (.lst (xs.set m v)))
      | none => .bad)
    | _ => .bad
  | _, _ => die
/-- o.append(e) -/
def chkL : Val → M Nat
  | .o k => fun st => match st[k]? with
    | some (.lst _) => .ok k st
    | _ => .bad
  | _ => die
def appS (k : Nat) (v : Val) : M Val := fun st => match st[k]? with
  | some (.lst xs) => if xs.length < lim then .ok (.d .none) (st.set k (.lst (xs ++ [v]))) else .bad
  | _ => .bad
def eApp (o e : E) : E := fun loc => bd (o loc) fun x => bd (chkL x) fun k => bd (e loc) fun v => appS k v
/-! ### refusals told -/
def kindN (c : Nat) : PySem.Str := (["BadMoves", "BadStanding", "BadNumber", "BadRow", "BadWeights", "BadRound", "Endless", "Nothing", "Full", "BadText"] : List PySem.Str).getD (c - 1) "other"
def eTold (cs : List Nat) (f : E) : E := fun loc st => match f loc st with
  | .ok v st' => .ok v st'
  | .ex c st' => if c ∈ cs then .ok (.d (.tuple [.str "refused", .str (kindN c)])) st' else .bad
  | .bad => .bad
end Y
end
section
set_option Elab.async false
set_option Elab.async false
set_option linter.all false
set_option maxRecDepth 100000
set_option maxHeartbeats 1000000
/-! Snd: the functions of Sem, lifted to the hand layer's readings. -/
namespace Y
open PySem PySem.Spec PyProof.Rows L2
/-- what is fixed: the written part, the tables of code objects, the addresses of the errors' classes and of the instances' classes -/
structure Glo where
  K : PySem.W.Frag
  T : List (Addr × Str)
  cl : Nat → Addr
  ic : Nat → Addr
mutual
inductive Dt (F : Hp) : V → D → Prop
  | non : Dt F .non .none
  | bl (b : Bool) : Dt F (.bl b) (.bool b)
  | int (i : Int) : Dt F (.int i) (.int i)
  | str (x : Str) : Dt F (.str x) (.str x)
  | lst {a : Addr} {xs : List V} {ds : List D} : F a = some (.lst xs) → DtA F xs ds → Dt F (.ref a) (.list ds)
  | tup {a : Addr} {xs : List V} {ds : List D} : F a = some (.tup xs) → DtA F xs ds → Dt F (.ref a) (.tuple ds)
inductive DtA (F : Hp) : List V → List D → Prop
  | nil : DtA F [] []
  | cons {v : V} {vs : List V} {d : D} {ds : List D} : Dt F v d → DtA F vs ds → DtA F (v :: vs) (d :: ds)
end
abbrev Exn (F F' : Hp) : Prop := ∀ a o, F a = some o → F' a = some o
mutual
theorem Dt.mono {F F' : Hp} (e : Exn F F') : ∀ {v : V} {d : D}, Dt F v d → Dt F' v d
  | _, _, .non => .non
  | _, _, .bl b => .bl b
  | _, _, .int i => .int i
  | _, _, .str x => .str x
  | _, _, .lst h k => .lst (e _ _ h) (DtA.mono e k)
  | _, _, .tup h k => .tup (e _ _ h) (DtA.mono e k)
theorem DtA.mono {F F' : Hp} (e : Exn F F') : ∀ {v : List V} {d : List D}, DtA F v d → DtA F' v d
  | _, _, .nil => .nil
  | _, _, .cons h k => .cons (Dt.mono e h) (DtA.mono e k)
end
mutual
theorem Dt.dp {K : PySem.W.Frag} {F : Hp} : ∀ {v : V} {d : D}, Dt F v d → Dp K F v d
  | _, _, .non => .non
  | _, _, .bl b => .bl b
  | _, _, .int i => .int i
  | _, _, .str x => .str x
  | _, _, .lst h k => .lst (SqL.of h) (DtA.dp k)
  | _, _, .tup h k => .tup (SqT.of h) (DtA.dp k)
theorem DtA.dp {K : PySem.W.Frag} {F : Hp} : ∀ {v : List V} {d : List D}, DtA F v d → DpAll K F v d
  | _, _, .nil => .nil
  | _, _, .cons h k => .cons (Dt.dp h) (DtA.dp k)
end
theorem DtA.length {F : Hp} : ∀ {v : List V} {d : List D}, DtA F v d → v.length = d.length
  | _, _, .nil => rfl
  | _, _, .cons _ k => by rw [List.length_cons, List.length_cons, k.length]
theorem DtA.get {F : Hp} : ∀ {v : List V} {d : List D} {i : Nat} {x : D}, DtA F v d → d[i]? = some x → ∃ u, v[i]? = some u ∧ Dt F u x
  | _, _, _, _, .nil, e => by simp at e
  | _, _, 0, _, .cons h _, e => by simp at e; subst e; exact ⟨_, rfl, h⟩
  | _, _, i + 1, x, .cons _ k, e => by
    obtain ⟨u, h1, h2⟩ := DtA.get (i := i) (x := x) k (by simpa using e)
    exact ⟨u, by simpa using h1, h2⟩
theorem DtA.get' {F : Hp} {v : List V} {d : List D} {i : Nat} {u : V} (h : DtA F v d) (e : v[i]? = some u) : ∃ x, d[i]? = some x ∧ Dt F u x := by
  have hl := h.length
  have hi : i < v.length := (List.getElem?_eq_some_iff.mp e).1
  have hd : d[i]? = some (d[i]'(by omega)) := List.getElem?_eq_getElem (by omega)
  obtain ⟨u', h1, h2⟩ := h.get hd
  rw [e] at h1
  cases h1
  exact ⟨_, hd, h2⟩
theorem DtA.append {F : Hp} : ∀ {v w : List V} {d e : List D}, DtA F v d → DtA F w e → DtA F (v ++ w) (d ++ e)
  | _, _, _, _, .nil, s => s
  | _, _, _, _, .cons h k, s => .cons h (DtA.append k s)
theorem DtA.take {F : Hp} : ∀ {v : List V} {d : List D} (n : Nat), DtA F v d → DtA F (v.take n) (d.take n)
  | _, _, 0, _ => .nil
  | _, _, _ + 1, .nil => .nil
  | _, _, n + 1, .cons h k => .cons h (DtA.take n k)
theorem DtA.drop {F : Hp} : ∀ {v : List V} {d : List D} (n : Nat), DtA F v d → DtA F (v.drop n) (d.drop n)
  | _, _, 0, h => h
  | _, _, _ + 1, .nil => .nil
  | _, _, n + 1, .cons _ k => DtA.drop n k
theorem DtA.rep {F : Hp} {v : List V} {d : List D} (h : DtA F v d) : ∀ n : Nat, DtA F (List.replicate n v).flatten (List.replicate n d).flatten
  | 0 => .nil
  | n + 1 => by
    rw [List.replicate_succ, List.replicate_succ, List.flatten_cons, List.flatten_cons]
    exact h.append (DtA.rep h n)
/-! ### values, stores -/
def VR (G : Glo) (F : Hp) (ρ : List Addr) (v : V) : Val → Prop
  | .d x => Dt F v x
  | .o k => ∃ a, ρ[k]? = some a ∧ v = .ref a
  | .s ns => ∃ a, v = .ref a ∧ SqL G.K F a (ns.map V.int)
def VRs (G : Glo) (F : Hp) (ρ : List Addr) : List V → List Val → Prop := Paired (VR G F ρ)
def OR (G : Glo) (F : Hp) (ρ : List Addr) (h : HO) : Ob → Prop
  | .lst xs => ∃ vs, h = .lst vs ∧ VRs G F ρ vs xs
  | .ins C fs => ∃ dx fv, h = .ins (G.ic C) dx fv ∧ Paired (fun (p : Str × V) (q : Str × Val) => p.1 = q.1 ∧ VR G F ρ p.2 q.2) fv fs
  | .gone => ∃ vs, h = .lst vs
  | .tup xs => ∃ vs, h = .tup vs ∧ VRs G F ρ vs xs
  | .dct kvs => ∃ us, h = .dT us ∧ Paired (fun (p : List Key × V) (q : List Int × D) => p.1 = q.1.map Sum.inl ∧ Dt F p.2 q.2) us kvs
  | .dcf kvs => ∃ od us, h = .frz od (.dT us) ∧ Paired (fun (p : List Key × V) (q : List Int × D) => p.1 = q.1.map Sum.inl ∧ Dt F p.2 q.2) us kvs
  | .exc c => ∃ oe x vs, h = .frz oe (.own x) ∧ oe.cls = .ref (G.cl c) ∧ oe.dict = none ∧ oe.data = .fields vs
/-- objects that do not change: their places may be data, too -/
def Im : Ob → Prop
  | .gone => True
  | .tup _ => True
  | .dcf _ => True
  | .exc _ => True
  | _ => False
/-- S: what else stands there and is not to change; F: the data; ρ: where the store's objects are -/
structure Rep (G : Glo) (S F : Hp) (ρ : List Addr) (H : Hp) (st : Store) : Prop where
  sd : ∀ (a : Addr) (o : HO), S a = some o → H a = some o ∧ F a = none ∧ a ∉ ρ ∧ ∃ xs, o = .lst xs
  ex : ∀ (a : Addr) (o : HO), F a = some o → H a = some o
  nt : ∀ (a : Addr) (ps : Array Value), F a ≠ some (.tbl ps)
  len : ρ.length = st.length
  nd : ρ.Nodup
  own : ∀ (k : Nat) (ob : Ob), st[k]? = some ob → ∃ a h, ρ[k]? = some a ∧ (Im ob ∨ F a = none) ∧ H a = some h ∧ OR G F ρ h ob
  tab : LamX.Tabs G.T H
structure Gr (F : Hp) (ρ : List Addr) (F' : Hp) (ρ' : List Addr) : Prop where
  f : Exn F F'
  r : ∃ l, ρ' = ρ ++ l
theorem Gr.refl {F : Hp} {ρ : List Addr} : Gr F ρ F ρ := ⟨fun _ _ h => h, [], by simp⟩
theorem Gr.trans {F F1 F2 : Hp} {ρ ρ1 ρ2 : List Addr} (a : Gr F ρ F1 ρ1) (b : Gr F1 ρ1 F2 ρ2) : Gr F ρ F2 ρ2 := by
  obtain ⟨l, e⟩ := a.r
  obtain ⟨l', e'⟩ := b.r
  exact ⟨fun x o h => b.f x o (a.f x o h), l ++ l', by rw [e', e, List.append_assoc]⟩
theorem Gr.get {F F' : Hp} {ρ ρ' : List Addr} (g : Gr F ρ F' ρ') {k : Nat} {a : Addr} (h : ρ[k]? = some a) : ρ'[k]? = some a := by
  obtain ⟨l, e⟩ := g.r
  have hk : k < ρ.length := (List.getElem?_eq_some_iff.mp h).1
  rw [e, List.getElem?_append_left hk]
  exact h
theorem VR.mono {G : Glo} {F F' : Hp} {ρ ρ' : List Addr} (g : Gr F ρ F' ρ') {v : V} : ∀ {x : Val}, VR G F ρ v x → VR G F' ρ' v x
  | .d _, h => Dt.mono g.f h
  | .o _, ⟨a, h, e⟩ => ⟨a, g.get h, e⟩
  | .s _, ⟨a, e, h⟩ => ⟨a, e, Evl.ex_l g.f h⟩
theorem VRs.mono {G : Glo} {F F' : Hp} {ρ ρ' : List Addr} (g : Gr F ρ F' ρ') {v : List V} {x : List Val} (h : VRs G F ρ v x) : VRs G F' ρ' v x := Paired.mapP h fun _ _ q => q.mono g
theorem OR.mono {G : Glo} {F F' : Hp} {ρ ρ' : List Addr} (g : Gr F ρ F' ρ') {h : HO} : ∀ {x : Ob}, OR G F ρ h x → OR G F' ρ' h x
  | .lst _, ⟨vs, e, q⟩ => ⟨vs, e, q.mono g⟩
  | .ins _ _, ⟨dx, fv, e, q⟩ => ⟨dx, fv, e, Paired.mapP q fun _ _ z => ⟨z.1, z.2.mono g⟩⟩
  | .gone, z => z
  | .tup _, ⟨vs, e, q⟩ => ⟨vs, e, q.mono g⟩
  | .dct _, ⟨us, e, q⟩ => ⟨us, e, Paired.mapP q fun _ _ z => ⟨z.1, z.2.mono g.f⟩⟩
  | .dcf _, ⟨od, us, e, q⟩ => ⟨od, us, e, Paired.mapP q fun _ _ z => ⟨z.1, z.2.mono g.f⟩⟩
  | .exc _, z => z
theorem VRs.length {G : Glo} {F : Hp} {ρ : List Addr} {v : List V} {x : List Val} (h : VRs G F ρ v x) : v.length = x.length := Paired.length h
def LR (G : Glo) (F : Hp) (ρ : List Addr) (σ : L2.St) (loc : Loc) : Prop := σ.length = loc.length ∧ ∀ (i : Nat) (v : Val), loc[i]? = some (some v) → ∃ u, σ[i]? = some (some u) ∧ VR G F ρ u v
theorem LR.mono {G : Glo} {F F' : Hp} {ρ ρ' : List Addr} (g : Gr F ρ F' ρ') {σ : L2.St} {loc : Loc} (h : LR G F ρ σ loc) : LR G F' ρ' σ loc :=
  ⟨h.1, fun i v e => let ⟨u, a, b⟩ := h.2 i v e; ⟨u, a, b.mono g⟩⟩
theorem LR.set {G : Glo} {F : Hp} {ρ : List Addr} {σ : L2.St} {loc : Loc} (h : LR G F ρ σ loc) {u : V} {v : Val} (r : VR G F ρ u v) (i : Nat) : LR G F ρ (σ.set i (some u)) (loc.set i (some v)) := by
  refine ⟨by rw [List.length_set, List.length_set]; exact h.1, fun j w e => ?_⟩
  by_cases hj : i = j
  · subst hj
    rw [List.getElem?_set] at e
    rw [if_pos rfl] at e
    split at e
    · rename_i hlt
      cases e
      refine ⟨u, ?_, r⟩
      rw [List.getElem?_set, if_pos rfl, if_pos (by rw [h.1]; exact hlt)]
    · cases e
  · rw [List.getElem?_set, if_neg hj] at e
    rw [List.getElem?_set, if_neg hj]
    exact h.2 j w e
theorem LR.wip {G : Glo} {F : Hp} {ρ : List Addr} {σ : L2.St} {loc : Loc} (h : LR G F ρ σ loc) : ∀ vs : List Nat, LR G F ρ (L2.wipe σ vs) (Y.wip loc vs)
  | [] => h
  | v :: vs => by
    have ih := LR.wip h vs
    unfold L2.wipe Y.wip
    refine ⟨by rw [List.length_set, List.length_set]; exact ih.1, fun j w e => ?_⟩
    by_cases hj : v = j
    · subst hj
      rw [List.getElem?_set, if_pos rfl] at e
      split at e <;> cases e
    · rw [List.getElem?_set, if_neg hj] at e
      rw [List.getElem?_set, if_neg hj]
      exact ih.2 j w e
/-! ### the heap grows by data -/
theorem fresh_ne {H : Hp} {a p : Addr} {o : HO} (h : H a = some o) (hp : H p = none) : a ≠ p := ne_of_none h hp
theorem Rep.new {G : Glo} {S F : Hp} {ρ : List Addr} {H : Hp} {st : Store} (r : Rep G S F ρ H st) {p : Addr} {o : HO} (hp : H p = none) (ho : ∀ ps, o ≠ .tbl ps) : Rep G S (upd F p o) ρ (upd H p o) st ∧ Gr F ρ (upd F p o) ρ := by
  have fp : F p = none := by
    cases q : F p with
    | none => rfl
    | some u => rw [r.ex p u q] at hp; cases hp
  have g : Gr F ρ (upd F p o) ρ := ⟨fun a u h => by rw [upd_ne (ne_of_none h fp)]; exact h, [], by simp⟩
  refine ⟨⟨fun a u h => ?_, fun a u h => ?_, fun a ps h => ?_, r.len, r.nd, fun k ob e => ?_, r.tab.ext fun b u h => by rw [upd_ne (ne_of_none h hp)]; exact h⟩, g⟩
  · obtain ⟨h1, h2, h3, h4⟩ := r.sd a u h
    have ha : a ≠ p := ne_of_none h1 hp
    exact ⟨by rw [upd_ne ha]; exact h1, by rw [upd_ne ha]; exact h2, h3, h4⟩
  · by_cases ha : a = p
    · subst ha
      rw [upd_same] at h ⊢
      exact h
    · rw [upd_ne ha] at h ⊢
      exact r.ex a u h
  · by_cases ha : a = p
    · subst ha
      rw [upd_same] at h
      exact ho ps (Option.some.inj h)
    · rw [upd_ne ha] at h
      exact r.nt a ps h
  · obtain ⟨a, h, e1, e2, e3, e4⟩ := r.own k ob e
    have ha : a ≠ p := ne_of_none e3 hp
    exact ⟨a, h, e1, e2.imp id (fun z => by rw [upd_ne ha]; exact z), by rw [upd_ne ha]; exact e3, e4.mono g⟩
/-- a new object of the store -/
theorem Rep.push {G : Glo} {S F : Hp} {ρ : List Addr} {H : Hp} {st : Store} (r : Rep G S F ρ H st) {p : Addr} {o : HO} {ob : Ob} (hp : H p = none) (ho : OR G F ρ o ob) : Rep G S F (ρ ++ [p]) (upd H p o) (st ++ [ob]) ∧ Gr F ρ F (ρ ++ [p]) := by
  have fp : F p = none := by
    cases q : F p with
    | none => rfl
    | some u => rw [r.ex p u q] at hp; cases hp
  have g : Gr F ρ F (ρ ++ [p]) := ⟨fun _ _ h => h, [p], rfl⟩
  have np : p ∉ ρ := fun hm => by
    obtain ⟨k, hk⟩ := List.mem_iff_getElem?.mp hm
    have hlt : k < st.length := by rw [← r.len]; exact (List.getElem?_eq_some_iff.mp hk).1
    obtain ⟨a, h, e1, e2, e3, e4⟩ := r.own k st[k] (List.getElem?_eq_getElem hlt)
    rw [hk] at e1
    cases e1
    rw [e3] at hp
    cases hp
  refine ⟨⟨fun a u h => ?_, fun a u h => by rw [upd_ne (ne_of_none h fp)]; exact r.ex a u h, r.nt, by rw [List.length_append, List.length_append, r.len] <;> rfl, ?_, fun k b e => ?_, r.tab.ext fun b u h => by rw [upd_ne (ne_of_none h hp)]; exact h⟩, g⟩
  · obtain ⟨h1, h2, h3, h4⟩ := r.sd a u h
    have ha : a ≠ p := ne_of_none h1 hp
    exact ⟨by rw [upd_ne ha]; exact h1, h2, fun z => (List.mem_append.mp z).elim h3 fun q => ha (by simpa using q), h4⟩
  · refine List.nodup_append.mpr ⟨r.nd, List.nodup_cons.mpr ⟨by simp, List.nodup_nil⟩, fun a ha b hb => ?_⟩
    have e : b = p := by simpa using hb
    subst e
    intro e
    subst e
    exact np ha
  · by_cases hk : k < st.length
    · rw [List.getElem?_append_left hk] at e
      obtain ⟨a, h, e1, e2, e3, e4⟩ := r.own k b e
      exact ⟨a, h, g.get e1, e2, by rw [upd_ne (ne_of_none e3 hp)]; exact e3, e4.mono g⟩
    · rw [List.getElem?_append_right (by omega)] at e
      have hk0 : k - st.length = 0 := by
        have := (List.getElem?_eq_some_iff.mp e).1
        simp at this
        omega
      rw [hk0] at e
      have e' : ob = b := by simpa using e
      subst e'
      have ke : k = st.length := by omega
      subst ke
      refine ⟨p, o, ?_, .inr fp, upd_same, ho.mono g⟩
      rw [List.getElem?_append_right (by rw [r.len]; exact Nat.le_refl _), r.len]
      simp
/-- an object of the store changes -/
theorem Rep.put {G : Glo} {S F : Hp} {ρ : List Addr} {H : Hp} {st : Store} (r : Rep G S F ρ H st) {k : Nat} {a : Addr} {o : HO} {ob ob' : Ob} (hk : st[k]? = some ob) (ha : ρ[k]? = some a) (ho : OR G F ρ o ob') (hnt : ∀ p q, (p, q) ∈ G.T → p ≠ a) (hnc : ∀ c q, H c = some (LamX.CodeO c q) → c ≠ a) (hob : ¬ Im ob := by intro z; exact z) : Rep G S F ρ (upd H a o) (st.set k ob') := by
  obtain ⟨a', h', e1, e2, e3, e4⟩ := r.own k ob hk
  rw [ha] at e1
  cases e1
  have e2 := e2.resolve_left hob
  have hlt : k < st.length := (List.getElem?_eq_some_iff.mp hk).1
  refine ⟨fun b u h => ?_, fun b u h => by rw [upd_ne (ne_of_none h e2)]; exact r.ex b u h, r.nt, by rw [List.length_set]; exact r.len, r.nd, fun j b e => ?_, fun p hp => ?_⟩
  · obtain ⟨h1, h2, h3, h4⟩ := r.sd b u h
    have hb : b ≠ a := fun z => h3 (by rw [z]; exact List.mem_of_getElem? ha)
    exact ⟨by rw [upd_ne hb]; exact h1, h2, h3, h4⟩
  · by_cases hj : k = j
    · subst hj
      rw [List.getElem?_set_self hlt] at e
      cases e
      exact ⟨a, o, ha, .inr e2, upd_same, ho⟩
    · rw [List.getElem?_set_ne hj] at e
      obtain ⟨c, h, q1, q2, q3, q4⟩ := r.own j b e
      have hc : c ≠ a := fun z => by
        subst z
        obtain ⟨i1, z1⟩ := List.getElem?_eq_some_iff.mp ha
        obtain ⟨i2, z2⟩ := List.getElem?_eq_some_iff.mp q1
        exact hj ((List.getElem_inj r.nd).mp (z1.trans z2.symm))
      exact ⟨c, h, q1, q2, by rw [upd_ne hc]; exact q3, q4⟩
  · obtain ⟨ps, h1, h2, h3⟩ := r.tab p hp
    refine ⟨ps, by rw [upd_ne (hnt p.1 p.2 hp)]; exact h1, h2, fun pos cv hc => ?_⟩
    obtain ⟨c, z1, z2⟩ := h3 pos cv hc
    exact ⟨c, z1, by rw [upd_ne (hnc c p.2 z2)]; exact z2⟩
/-- a thing beside comes, changes, becomes data -/
theorem Rep.side {G : Glo} {S F : Hp} {ρ : List Addr} {H : Hp} {st : Store} (r : Rep G S F ρ H st) {p : Addr} {xs : List V} (hp : H p = none) : Rep G (upd S p (.lst xs)) F ρ (upd H p (.lst xs)) st := by
  have fp : F p = none := by
    cases q : F p with
    | none => rfl
    | some u => rw [r.ex p u q] at hp; cases hp
  have np : p ∉ ρ := fun hm => by
    obtain ⟨k, hk⟩ := List.mem_iff_getElem?.mp hm
    have hlt : k < st.length := by rw [← r.len]; exact (List.getElem?_eq_some_iff.mp hk).1
    obtain ⟨a, h, e1, e2, e3, e4⟩ := r.own k st[k] (List.getElem?_eq_getElem hlt)
    rw [hk] at e1
    cases e1
    rw [e3] at hp
    cases hp
  refine ⟨fun a u h => ?_, fun a u h => by rw [upd_ne (ne_of_none h fp)]; exact r.ex a u h, r.nt, r.len, r.nd, fun k b e => ?_, r.tab.ext fun b u h => by rw [upd_ne (ne_of_none h hp)]; exact h⟩
  · by_cases ha : a = p
    · subst ha
      rw [upd_same] at h ⊢
      exact ⟨h, fp, np, _, (Option.some.inj h).symm⟩
    · rw [upd_ne ha] at h ⊢
      exact r.sd a u h
  · obtain ⟨a, h, e1, e2, e3, e4⟩ := r.own k b e
    exact ⟨a, h, e1, e2, by rw [upd_ne (ne_of_none e3 hp)]; exact e3, e4⟩
theorem Rep.side2 {G : Glo} {S F : Hp} {ρ : List Addr} {H : Hp} {st : Store} {p : Addr} {xs ys : List V} (r : Rep G (upd S p (.lst xs)) F ρ H st) : Rep G (upd S p (.lst ys)) F ρ (upd H p (.lst ys)) st := by
  obtain ⟨hp, fp, np, _⟩ := r.sd p _ upd_same
  refine ⟨fun a u h => ?_, fun a u h => by rw [upd_ne (ne_of_none h fp)]; exact r.ex a u h, r.nt, r.len, r.nd, fun k b e => ?_, fun q hq => ?_⟩
  · by_cases ha : a = p
    · subst ha
      rw [upd_same] at h ⊢
      exact ⟨h, fp, np, _, (Option.some.inj h).symm⟩
    · rw [upd_ne ha] at h ⊢
      exact r.sd a u (by rw [upd_ne ha]; exact h)
  · obtain ⟨a, h, e1, e2, e3, e4⟩ := r.own k b e
    have ha : a ≠ p := fun z => np (by rw [← z]; exact List.mem_of_getElem? e1)
    exact ⟨a, h, e1, e2, by rw [upd_ne ha]; exact e3, e4⟩
  · obtain ⟨ps, h1, h2, h3⟩ := r.tab q hq
    have n1 : q.1 ≠ p := fun z => by
      rw [z, hp] at h1
      cases h1
    refine ⟨ps, by rw [upd_ne n1]; exact h1, h2, fun pos cv hc => ?_⟩
    obtain ⟨c, z1, z2⟩ := h3 pos cv hc
    have n2 : c ≠ p := fun z => by
      subst z
      rw [hp] at z2
      cases z2
    exact ⟨c, z1, by rw [upd_ne n2]; exact z2⟩
theorem Rep.data {G : Glo} {S F : Hp} {ρ : List Addr} {H : Hp} {st : Store} {p : Addr} {xs : List V} (r : Rep G (upd S p (.lst xs)) F ρ H st) (hs : S p = none) : Rep G S (upd F p (.lst xs)) ρ H st ∧ Gr F ρ (upd F p (.lst xs)) ρ := by
  obtain ⟨hp, fp, np, _⟩ := r.sd p _ upd_same
  have g : Gr F ρ (upd F p (.lst xs)) ρ := ⟨fun a u h => by rw [upd_ne (ne_of_none h fp)]; exact h, [], by simp⟩
  refine ⟨⟨fun a u h => ?_, fun a u h => ?_, fun a ps h => ?_, r.len, r.nd, fun k b e => ?_, r.tab⟩, g⟩
  · have ha : a ≠ p := ne_of_none h hs
    obtain ⟨h1, h2, h3, h4⟩ := r.sd a u (by rw [upd_ne ha]; exact h)
    exact ⟨h1, by rw [upd_ne ha]; exact h2, h3, h4⟩
  · by_cases ha : a = p
    · subst ha
      rw [upd_same] at h
      rw [hp]
      exact h
    · rw [upd_ne ha] at h
      exact r.ex a u h
  · by_cases ha : a = p
    · subst ha
      rw [upd_same] at h
      cases h
    · rw [upd_ne ha] at h
      exact r.nt a ps h
  · obtain ⟨a, h, e1, e2, e3, e4⟩ := r.own k b e
    have ha : a ≠ p := fun z => np (by rw [← z]; exact List.mem_of_getElem? e1)
    exact ⟨a, h, e1, e2.imp id (fun z => by rw [upd_ne ha]; exact z), e3, e4.mono g⟩
theorem Rep.owned {G : Glo} {S F : Hp} {ρ : List Addr} {H : Hp} {st : Store} {p : Addr} {xs : List V} (r : Rep G (upd S p (.lst xs)) F ρ H st) (hs : S p = none) {ob : Ob} (ho : OR G F ρ (.lst xs) ob) : Rep G S F (ρ ++ [p]) H (st ++ [ob]) ∧ Gr F ρ F (ρ ++ [p]) := by
  obtain ⟨hp, fp, np, _⟩ := r.sd p _ upd_same
  have g : Gr F ρ F (ρ ++ [p]) := ⟨fun _ _ h => h, [p], rfl⟩
  refine ⟨⟨fun a u h => ?_, r.ex, r.nt, by rw [List.length_append, List.length_append, r.len] <;> rfl, ?_, fun k b e => ?_, r.tab⟩, g⟩
  · have ha : a ≠ p := ne_of_none h hs
    obtain ⟨h1, h2, h3, h4⟩ := r.sd a u (by rw [upd_ne ha]; exact h)
    exact ⟨h1, h2, fun z => (List.mem_append.mp z).elim h3 fun q => ha (by simpa using q), h4⟩
  · refine List.nodup_append.mpr ⟨r.nd, List.nodup_cons.mpr ⟨by simp, List.nodup_nil⟩, fun a ha b hb => ?_⟩
    have e : b = p := by simpa using hb
    subst e
    intro e
    subst e
    exact np ha
  · by_cases hk : k < st.length
    · rw [List.getElem?_append_left hk] at e
      obtain ⟨a, h, e1, e2, e3, e4⟩ := r.own k b e
      exact ⟨a, h, g.get e1, e2, e3, e4.mono g⟩
    · rw [List.getElem?_append_right (by omega)] at e
      have hk0 : k - st.length = 0 := by
        have := (List.getElem?_eq_some_iff.mp e).1
        simp at this
        omega
      rw [hk0] at e
      have e' : ob = b := by simpa using e
      subst e'
      have ke : k = st.length := by omega
      subst ke
      refine ⟨p, _, ?_, .inr fp, hp, ho.mono g⟩
      rw [List.getElem?_append_right (by rw [r.len]; exact Nat.le_refl _), r.len]
      simp
/-- where the object is a list or an instance no table and no code object stands -/
def Plain : HO → Prop
  | .lst _ => True
  | .ins _ _ _ => True
  | _ => False
theorem Rep.put' {G : Glo} {S F : Hp} {ρ : List Addr} {H : Hp} {st : Store} (r : Rep G S F ρ H st) {k : Nat} {a : Addr} {h o : HO} {ob ob' : Ob} (hk : st[k]? = some ob) (ha : ρ[k]? = some a) (hh : H a = some h) (hp : Plain h) (ho : OR G F ρ o ob') (hob : ¬ Im ob := by intro z; exact z) : Rep G S F ρ (upd H a o) (st.set k ob') := by
  refine r.put hk ha ho (fun p q hm z => ?_) (fun c q e z => ?_) hob
  · obtain ⟨ps, h1, _⟩ := r.tab (p, q) hm
    rw [z, hh] at h1
    cases h1
    exact hp
  · subst z
    rw [hh] at e
    cases e
    exact hp
end Y
end
section
set_option Elab.async false
set_option Elab.async false
set_option linter.all false
set_option maxRecDepth 100000
set_option maxHeartbeats 1000000
/-! Lft: expressions and statements lifted. -/
namespace Y
open PySem PySem.Spec PyProof.Rows L2
/-- what is wanted behind a result -/
def out (G : Glo) (S F : Hp) (ρ : List Addr) {α β : Type} (Rl : Hp → List Addr → β → α → Prop) (Q : β → Hp → Prop) (E : XK) : R α → Prop
  | .ok v st => ∀ (F' : Hp) (ρ' : List Addr) (H' : Hp) (u : β), Gr F ρ F' ρ' → Rep G S F' ρ' H' st → Rl F' ρ' u v → Q u H'
  | .ex c st => ∀ (F' : Hp) (ρ' : List Addr) (H' : Hp), Gr F ρ F' ρ' → Rep G S F' ρ' H' st → E (.ref (G.cl c)) none H'
  | .bad => False
section
variable {G : Glo} {S F F' : Hp} {ρ ρ' : List Addr} {H : Hp} {st : Store} {α β γ δ : Type} {Rl : Hp → List Addr → β → α → Prop} {Rk : Hp → List Addr → δ → γ → Prop} {Q : β → Hp → Prop} {Qk : δ → Hp → Prop} {E : XK}
theorem out.mono (g : Gr F ρ F' ρ') : ∀ {r : R α}, out G S F ρ Rl Q E r → out G S F' ρ' Rl Q E r
  | .ok _ _, h => fun F2 ρ2 H2 u g2 => h F2 ρ2 H2 u (g.trans g2)
  | .ex _ _, h => fun F2 ρ2 H2 g2 => h F2 ρ2 H2 (g.trans g2)
  | .bad, h => h
/-- at a value that is there -/
theorem out.at {v : α} (h : out G S F ρ Rl Q E (.ok v st)) (r : Rep G S F ρ H st) {u : β} (rl : Rl F ρ u v) : Q u H := h F ρ H u Gr.refl r rl
/-- a value that is there, the heap grown -/
theorem out.go {v : α} {H' : Hp} {st' : Store} (h : out G S F ρ Rl Q E (.ok v st')) (g : Gr F ρ F' ρ') (r : Rep G S F' ρ' H' st') {u : β} (rl : Rl F' ρ' u v) : Q u H' := h F' ρ' H' u g r rl
/-- what stands behind a first part -/
def Then (G : Glo) (S F : Hp) (ρ : List Addr) (Rl : Hp → List Addr → β → α → Prop) (Rk : Hp → List Addr → δ → γ → Prop) (Qk : δ → Hp → Prop) (E : XK) (f : α → M γ) (u : β) (H1 : Hp) : Prop :=
  ∃ (F1 : Hp) (ρ1 : List Addr) (a : α) (st1 : Store), Gr F ρ F1 ρ1 ∧ Rep G S F1 ρ1 H1 st1 ∧ Rl F1 ρ1 u a ∧ out G S F1 ρ1 Rk Qk E (f a st1)
theorem out.bd {m : M α} {f : α → M γ} (h : out G S F ρ Rk Qk E (Y.bd m f st)) : out G S F ρ Rl (Then G S F ρ Rl Rk Qk E f) E (m st) := by
  unfold Y.bd at h
  cases e : m st with
  | ok a s =>
    rw [e] at h
    intro F1 ρ1 H1 u g r rl
    exact ⟨F1, ρ1, a, s, g, r, rl, out.mono (r := f a s) g h⟩
  | ex c s =>
    rw [e] at h
    exact h
  | bad =>
    rw [e] at h
    exact h
theorem out.imp {Q' : β → Hp → Prop} (hq : ∀ u H', Q u H' → Q' u H') : ∀ {r : R α}, out G S F ρ Rl Q E r → out G S F ρ Rl Q' E r
  | .ok _ _, h => fun F2 ρ2 H2 u g r rl => hq u H2 (h F2 ρ2 H2 u g r rl)
  | .ex _ _, h => h
  | .bad, h => h
end
def BR : Hp → List Addr → Bool → Bool → Prop := fun _ _ b c => b = c
def IR : Hp → List Addr → Option Int → Option Int → Prop := fun _ _ b c => b = c
/-- an expression, arguments, a test, a slice's part -/
def lE (G : Glo) (E : XK) (f : Y.E) : TE := fun σ H Q => ∃ (S F : Hp) (ρ : List Addr) (loc : Loc) (st : Store), Rep G S F ρ H st ∧ LR G F ρ σ loc ∧ out G S F ρ (VR G) Q E (f loc st)
def lA (G : Glo) (E : XK) (f : Y.A) : TA := fun σ H Q => ∃ (S F : Hp) (ρ : List Addr) (loc : Loc) (st : Store), Rep G S F ρ H st ∧ LR G F ρ σ loc ∧ out G S F ρ (VRs G) Q E (f loc st)
def lT (G : Glo) (E : XK) (f : Tst) : TT := fun σ H Q => ∃ (S F : Hp) (ρ : List Addr) (loc : Loc) (st : Store), Rep G S F ρ H st ∧ LR G F ρ σ loc ∧ out G S F ρ BR Q E (f loc st)
def lO (G : Glo) (E : XK) (f : Oe) : TO := fun σ H Q => ∃ (S F : Hp) (ρ : List Addr) (loc : Loc) (st : Store), Rep G S F ρ H st ∧ LR G F ρ σ loc ∧ out G S F ρ IR Q E (f loc st)
section
variable {X : Cx} {G : Glo} {E : XK}
theorem PE.imp {X : Cx} {e : Expr} {t t' : TE} (h : PE X e t) (i : ∀ σ H Q, t' σ H Q → t σ H Q) : PE X e t' := ⟨fun pins s σ H Q I q => h.run pins s σ H Q I (i σ H Q q)⟩
theorem PT.imp {X : Cx} {e : Expr} {t t' : TT} (h : PT X e t) (i : ∀ σ H Q, t' σ H Q → t σ H Q) : PT X e t' := ⟨fun pins s σ H Q I q => h.run pins s σ H Q I (i σ H Q q)⟩
theorem PW.imp {X : Cx} {e : Expr} {t t' : TT} (h : PW X e t) (i : ∀ σ H Q, t' σ H Q → t σ H Q) : PW X e t' := ⟨fun wh pins s σ H Q I q => h.run wh pins s σ H Q I (i σ H Q q)⟩
theorem PA.imp {X : Cx} {e : List Expr} {t t' : TA} (h : PA X e t) (i : ∀ σ H Q, t' σ H Q → t σ H Q) : PA X e t' := ⟨fun pos pins s σ H Q I q => h.run pos pins s σ H Q I (i σ H Q q)⟩
theorem PO.imp {X : Cx} {e : Option Expr} {t t' : TO} (h : PO X e t) (i : ∀ σ H Q, t' σ H Q → t σ H Q) : PO X e t' := ⟨fun pins s σ H Q I q => h.run pins s σ H Q I (i σ H Q q)⟩
theorem PS.imp {X : Cx} {e : Stmt} {t t' : TS} (h : PS X e t) (i : ∀ D σ H, t' D σ H → t D σ H) : PS X e t' := ⟨fun pins s σ H D I q => h.run pins s σ H D I (i D σ H q)⟩
theorem PSs.imp {X : Cx} {e : List Stmt} {t t' : TS} (h : PSs X e t) (i : ∀ D σ H, t' D σ H → t D σ H) : PSs X e t' := ⟨fun pins s σ H D I q => h.run pins s σ H D I (i D σ H q)⟩
theorem PTs.imp {X : Cx} {e : List Expr} {t t' : TT} (h : PTs X e t) (i : ∀ σ H Q, t' σ H Q → t σ H Q) : PTs X e t' := ⟨fun pins s σ H Q I q => h.run pins s σ H Q I (i σ H Q q)⟩
theorem PI.imp {X : Cx} {tg e : Expr} {t t' : TI} (h : PI X tg e t) (i : ∀ σ H Q, t' σ H Q → t σ H Q) : PI X tg e t' := ⟨fun pins s σ H Q I q => h.run pins s σ H Q I (i σ H Q q)⟩
theorem PG.imp {X : Cx} {tg : Expr} {t t' : TG} (h : PG X tg t) (i : ∀ v σ H Q, t' v σ H Q → t v σ H Q) : PG X tg t' := ⟨fun pins s σ H v u Q I r q => h.run pins s σ H v u Q I r (i v σ H Q q)⟩
theorem PGs.imp {X : Cx} {tg : List Expr} {t t' : TGs} (h : PGs X tg t) (i : ∀ v σ H Q, t' v σ H Q → t v σ H Q) : PGs X tg t' := ⟨fun pins s σ H v u Q I r q => h.run pins s σ H v u Q I r (i v σ H Q q)⟩
/-! ### names, constants -/
theorem qe_var (i : Nat) {x : Str} {pos : Pos} (hN : X.N[i]? = some x := by rfl) (hv : Vis X.env.scope x := by first | exact Or.inl rfl | exact Or.inr (Or.inl rfl) | exact Or.inr (Or.inr rfl)) (hd : (x == ("__debug__" : Str)) = false := by decide)
    (hcd : (x == ("__classdict__" : Str)) = false := by decide) : PE X (.Name x pos) (lE G E (eV i)) := by
  refine PE.imp (pe_var (i := i) hN hv hd hcd) fun σ H Q h => ?_
  obtain ⟨S, F, ρ, loc, st, r, l, o⟩ := h
  unfold eV at o
  cases e : loc[i]? with
  | none => rw [e] at o; exact o.elim
  | some w =>
    cases w with
    | none => rw [e] at o; exact o.elim
    | some v =>
      rw [e] at o
      obtain ⟨u, h1, h2⟩ := l.2 i v e
      exact ⟨u, h1, out.at (v := v) o r h2⟩
theorem lE_C {x : D} {v : V} (hx : ∀ F, Dt F v x) : ∀ σ H Q, lE G E (eC x) σ H Q → tC v σ H Q := fun σ H Q ⟨S, F, ρ, loc, st, r, l, o⟩ => out.at (v := Val.d x) o r (hx F)
theorem qe_int {i j pos} : PE X (.Constant (.int i) j pos) (lE G E (eC (.int i))) := PE.imp pe_int (lE_C fun _ => .int i)
theorem qe_bl {b j pos} : PE X (.Constant (.bool b) j pos) (lE G E (eC (.bool b))) := PE.imp pe_bl (lE_C fun _ => .bl b)
theorem qe_non {j pos} : PE X (.Constant .none j pos) (lE G E (eC .none)) := PE.imp pe_non (lE_C fun _ => .non)
theorem qe_str {x j pos} : PE X (.Constant (.str x) j pos) (lE G E (eC (.str x))) := PE.imp pe_str (lE_C fun _ => .str x)
/-- a module's int or text -/
theorem qe_gint {x : Str} {i : Int} {u : Value} {pos : Pos} (hg : Gl X x) (hm : X.mg x = some u) (r : RelV (.int i) u) (hd : (x == ("__debug__" : Str)) = false := by decide) : PE X (.Name x pos) (lE G E (eC (.int i))) := PE.imp (pe_glob hg hm r hd) (lE_C fun _ => .int i)
theorem qe_gstr {x : Str} {i : Str} {u : Value} {pos : Pos} (hg : Gl X x) (hm : X.mg x = some u) (r : RelV (.str i) u) (hd : (x == ("__debug__" : Str)) = false := by decide) : PE X (.Name x pos) (lE G E (eC (.str i))) := PE.imp (pe_glob hg hm r hd) (lE_C fun _ => .str i)
/-! ### operators -/
def OSnd (G : Glo) (r : R2) (op : Val → Val → M Val) : Prop := ∀ (S F : Hp) (ρ : List Addr) (H : Hp) (st : Store) (x y : V) (a b : Val) (Q : VK) (E : XK), Rep G S F ρ H st → VR G F ρ x a → VR G F ρ y b → out G S F ρ (VR G) Q E (op a b st) → r x y H Q
def USnd (G : Glo) (r : V → Hp → VK → Prop) (op : Val → M Val) : Prop := ∀ (S F : Hp) (ρ : List Addr) (H : Hp) (st : Store) (x : V) (a : Val) (Q : VK) (E : XK), Rep G S F ρ H st → VR G F ρ x a → out G S F ρ (VR G) Q E (op a st) → r x H Q
def BSnd (G : Glo) (r : List V → Hp → VK → Prop) (b : List Val → M Val) : Prop := ∀ (S F : Hp) (ρ : List Addr) (H : Hp) (st : Store) (xs : List V) (as : List Val) (Q : VK) (E : XK), Rep G S F ρ H st → VRs G F ρ xs as → out G S F ρ (VR G) Q E (b as st) → r xs H Q
theorem lE_O {r : R2} {op : Val → Val → M Val} (hs : OSnd G r op) {fa fb : Y.E} : ∀ σ H Q, lE G E (eO op fa fb) σ H Q → tOp r (lE G E fa) (lE G E fb) σ H Q := fun σ H Q ⟨S, F, ρ, loc, st, rp, l, o⟩ => by
  refine ⟨S, F, ρ, loc, st, rp, l, out.imp (fun x H1 h1 => ?_) (out.bd (Rl := VR G) o)⟩
  obtain ⟨F1, ρ1, a, st1, g1, r1, v1, o1⟩ := h1
  refine ⟨S, F1, ρ1, loc, st1, r1, l.mono g1, out.imp (fun y H2 h2 => ?_) (out.bd (Rl := VR G) o1)⟩
  obtain ⟨F2, ρ2, b, st2, g2, r2, v2, o2⟩ := h2
  exact hs S F2 ρ2 H2 st2 x y a b Q E r2 (v1.mono g2) v2 o2
theorem qe_op {op : Operator} {r : R2} {f : Val → Val → M Val} {a b : Expr} {fa fb : Y.E} {pos : Pos} (ho : OpR X (binaryOp op) r) (hs : OSnd G r f) (ha : PE X a (lE G E fa)) (hb : PE X b (lE G E fb)) : PE X (.BinOp a op b pos) (lE G E (eO f fa fb)) := PE.imp (pe_op ho ha hb) (lE_O hs)
theorem qe_cmp {op : CmpOp} {r : R2} {f : Val → Val → M Val} {a b : Expr} {fa fb : Y.E} {pos : Pos} (ho : OpR X (compareOp op) r) (hs : OSnd G r f) (ha : PE X a (lE G E fa)) (hb : PE X b (lE G E fb)) (hm : behindInMarks op b = false) : PE X (.Compare a [op] [b] pos) (lE G E (eO f fa fb)) := PE.imp (pe_cmpR ho ha hb hm) (lE_O hs)
theorem qe_ix {r : R2} {f : Val → Val → M Val} {a b : Expr} {fa fb : Y.E} {pos : Pos} (ho : IxR X r) (hs : OSnd G r f) (ha : PE X a (lE G E fa)) (hb : PE X b (lE G E fb)) (hp : PlainIx b) : PE X (.Subscript a b pos) (lE G E (eO f fa fb)) := PE.imp (pe_ix ho ha hb hp) (lE_O hs)
theorem qe_un {op : UnaryOp} {r : V → Hp → VK → Prop} {f : Val → M Val} {a : Expr} {fa : Y.E} {pos : Pos} (ho : UnR X (unaryOp op) r) (hs : USnd G r f) (ha : PE X a (lE G E fa)) : PE X (.UnaryOp op a pos) (lE G E (eU f fa)) := by
  refine PE.imp (pe_un ho ha) fun σ H Q ⟨S, F, ρ, loc, st, rp, l, o⟩ => ⟨S, F, ρ, loc, st, rp, l, out.imp (fun x H1 h1 => ?_) (out.bd (Rl := VR G) o)⟩
  obtain ⟨F1, ρ1, a, st1, g1, r1, v1, o1⟩ := h1
  exact hs S F1 ρ1 H1 st1 x a Q E r1 v1 o1
/-! ### arguments, calls -/
theorem qa_nil : PA X [] (lA G E aN) := PA.imp pa_nil fun σ H Q ⟨S, F, ρ, loc, st, rp, l, o⟩ => out.at (v := ([] : List Val)) o rp .nil
theorem qa_cons {e : Expr} {es : List Expr} {f : Y.E} {fs : Y.A} (h : PE X e (lE G E f)) (hr : PA X es (lA G E fs)) (hs : starEach (e :: es) X.env = (false, eval e X.env) :: starEach es X.env := by rfl) : PA X (e :: es) (lA G E (aC f fs)) := by
  refine PA.imp (pa_cons h hr hs) fun σ H Q ⟨S, F, ρ, loc, st, rp, l, o⟩ => ⟨S, F, ρ, loc, st, rp, l, out.imp (fun x H1 h1 => ?_) (out.bd (Rl := VR G) o)⟩
  obtain ⟨F1, ρ1, a, st1, g1, r1, v1, o1⟩ := h1
  refine ⟨S, F1, ρ1, loc, st1, r1, l.mono g1, out.imp (fun y H2 h2 => ?_) (out.bd (Rl := VRs G) o1)⟩
  obtain ⟨F2, ρ2, b, st2, g2, r2, v2, o2⟩ := h2
  exact out.at (v := a :: b) o2 r2 (.cons (v1.mono g2) v2)
theorem lE_B {r : List V → Hp → VK → Prop} {b : List Val → M Val} (hs : BSnd G r b) {fa : Y.A} : ∀ σ H Q, lE G E (eB b fa) σ H Q → tCB r (lA G E fa) σ H Q := fun σ H Q ⟨S, F, ρ, loc, st, rp, l, o⟩ => by
  refine ⟨S, F, ρ, loc, st, rp, l, out.imp (fun x H1 h1 => ?_) (out.bd (Rl := VRs G) o)⟩
  obtain ⟨F1, ρ1, a, st1, g1, r1, v1, o1⟩ := h1
  exact hs S F1 ρ1 H1 st1 x a Q E r1 v1 o1
end

section
variable {X : Cx} {G : Glo} {E : XK}
theorem qe_callB {r : List V → Hp → VK → Prop} {b : List Val → M Val} {x : Str} {p pos : Pos} {e : Expr} {es : List Expr} {fa : Y.A} {id : String} (hr : CallR X (.builtin id) r) (hs : BSnd G r b) (hg : Gl X x) (hm : X.mg x = none) (hv : bootBuiltins x = some (.builtin id)) (ha : PA X (e :: es) (lA G E fa))
    (hn : x ≠ Str.ofString "__name__" := by decide) (hd : (x == Str.ofString "__debug__") = false := by decide) (he : starEach (e :: es) X.env = (false, eval e X.env) :: starEach es X.env := by rfl) (hpl : (backTo pos (starEach es X.env)).any (·.1) = false := by rfl) :
    PE X (.Call (.Name x p) (e :: es) [] pos) (lE G E (eB b fa)) := PE.imp (pe_callB hr hg hm hv ha hn hd he hpl) (lE_B hs)
theorem qe_callTy {r : List V → Hp → VK → Prop} {b : List Val → M Val} {x : Str} {p pos : Pos} {e : Expr} {es : List Expr} {fa : Y.A} {T : String} (hr : CallR X (.type T) r) (hs : BSnd G r b) (hg : Gl X x) (hm : X.mg x = none) (hv : bootBuiltins x = some (.type T)) (ha : PA X (e :: es) (lA G E fa))
    (hn : x ≠ Str.ofString "__name__" := by decide) (hd : (x == Str.ofString "__debug__") = false := by decide) (he : starEach (e :: es) X.env = (false, eval e X.env) :: starEach es X.env := by rfl) (hpl : (backTo pos (starEach es X.env)).any (·.1) = false := by rfl) :
    PE X (.Call (.Name x p) (e :: es) [] pos) (lE G E (eB b fa)) := PE.imp (pe_callTy hr hg hm hv ha hn hd he hpl) (lE_B hs)
/-! ### a def's promise -/
def spF (G : Glo) (n : Nat) (f : List Val → M Val) : Sp := fun vs H Q E => ∃ (S F : Hp) (ρ : List Addr) (st : Store) (as : List Val), Rep G S F ρ H st ∧ VRs G F ρ vs as ∧ as.length = n ∧ out G S F ρ (VR G) Q E (f as st)
theorem lE_call {n : Nat} {f : List Val → M Val} {fa : Y.A} : ∀ σ H Q, lE G E (eB (fixN n f) fa) σ H Q → tCallS (spF G n f) (fun _ => E) (lA G E fa) σ H Q := fun σ H Q ⟨S, F, ρ, loc, st, rp, l, o⟩ => by
  refine ⟨S, F, ρ, loc, st, rp, l, out.imp (fun x H1 h1 => ?_) (out.bd (Rl := VRs G) o)⟩
  obtain ⟨F1, ρ1, a, st1, g1, r1, v1, o1⟩ := h1
  unfold fixN at o1
  split at o1
  · rename_i hl
    exact ⟨S, F1, ρ1, st1, a, r1, v1, hl, o1⟩
  · exact o1.elim
theorem qe_call {CX : CXT} {k n : Nat} {f : Addr} {fd : FuncData} {ps : List Str} {sem : List Val → M Val} {x : Str} {p pos : Pos} {e : Expr} {es : List Expr} {fa : Y.A} (Fo : FnOk X.prog X.w X.K X.mg X.base CX k f fd ps (spF G n sem)) (hr : Room k X.A) (hg : Gl X x) (hm : X.mg x = some (.ref f)) (hk : PySem.W.keepIn X.K (.ref f) = true) (hb : Binds X.K fd ps []) (hx : ∀ σ, PassesAt CX X σ E)
    (ha : PA X (e :: es) (lA G E fa)) (hdb : (x == ("__debug__" : Str)) = false := by decide) (he : starEach (e :: es) X.env = (false, eval e X.env) :: starEach es X.env := by rfl) (hpl : (backTo pos (starEach es X.env)).any (·.1) = false := by rfl) :
    PE X (.Call (.Name x p) (e :: es) [] pos) (lE G E (eB (fixN n sem) fa)) := PE.imp (pe_callS (E := fun _ => E) Fo hr hg hm hk hb hx ha hdb he hpl) lE_call
/-! ### displays -/
theorem toDs_rel {F : Hp} {ρ : List Addr} : ∀ {us : List V} {vs : List Val} {ds : List D}, VRs G F ρ us vs → toDs vs = some ds → DtA F us ds
  | _, [], ds, .nil, e => by
    cases e
    exact .nil
  | _, .d x :: r, ds, .cons h k, e => by
    unfold toDs at e
    cases q : toDs r with
    | none => rw [q] at e; cases e
    | some es =>
      rw [q] at e
      cases e
      exact .cons h (toDs_rel k q)
  | _, .o _ :: r, ds, .cons h k, e => by cases e
  | _, .s _ :: r, ds, .cons h k, e => by cases e
theorem lim_le : lim ≤ sizeLine := by rw [sizeLine_eq]; decide
theorem sz {n : Nat} (h : n ≤ lim) : n ≤ sizeLine := Nat.le_trans h lim_le
theorem sz' {n : Nat} (h : n < lim) : n < sizeLine := Nat.lt_of_lt_of_le h lim_le
theorem tup_nt {xs : List V} : ∀ ps, HO.tup xs ≠ .tbl ps := fun _ z => by cases z
theorem lst_nt {xs : List V} : ∀ ps, HO.lst xs ≠ .tbl ps := fun _ z => by cases z
/-- data handed on as a new tuple -/
theorem out_tup {S F : Hp} {ρ : List Addr} {H : Hp} {st : Store} {Q : VK} {E : XK} {us : List V} {ds : List D} (r : Rep G S F ρ H st) (h : DtA F us ds) (o : out G S F ρ (VR G) Q E (.ok (.d (.tuple ds)) st)) (p : Addr) (hp : H p = none) : Q (.ref p) (upd H p (.tup us)) := by
  obtain ⟨r', g⟩ := r.new hp (tup_nt (xs := us))
  exact o _ _ _ _ g r' (Dt.tup upd_same (h.mono g.f))
theorem out_lst {S F : Hp} {ρ : List Addr} {H : Hp} {st : Store} {Q : VK} {E : XK} {us : List V} {ds : List D} (r : Rep G S F ρ H st) (h : DtA F us ds) (o : out G S F ρ (VR G) Q E (.ok (.d (.list ds)) st)) (p : Addr) (hp : H p = none) : Q (.ref p) (upd H p (.lst us)) := by
  obtain ⟨r', g⟩ := r.new hp (lst_nt (xs := us))
  exact o _ _ _ _ g r' (Dt.lst upd_same (h.mono g.f))
theorem out_own {S F : Hp} {ρ : List Addr} {H : Hp} {st : Store} {Q : VK} {E : XK} {us : List V} {vs : List Val} (r : Rep G S F ρ H st) (h : VRs G F ρ us vs) (o : out G S F ρ (VR G) Q E (.ok (.o st.length) (st ++ [.lst vs]))) (p : Addr) (hp : H p = none) : Q (.ref p) (upd H p (.lst us)) := by
  obtain ⟨r', g⟩ := r.push (ob := .lst vs) hp ⟨us, rfl, h⟩
  refine o _ _ _ _ g r' ⟨p, ?_, rfl⟩
  rw [List.getElem?_append_right (by rw [r.len]; exact Nat.le_refl _), r.len]
  simp
theorem qe_tup {es : List Expr} {fa : Y.A} {x1 : Nat} {pos : Pos} (h : PA X es (lA G E fa)) : PE X (.Tuple es x1 pos) (lE G E (eB bTup fa)) := by
  refine PE.imp (pe_tup h) fun σ H Q ⟨S, F, ρ, loc, st, rp, l, o⟩ => ⟨S, F, ρ, loc, st, rp, l, out.imp (fun x H1 h1 => ?_) (out.bd (Rl := VRs G) o)⟩
  obtain ⟨F1, ρ1, a, st1, g1, r1, v1, o1⟩ := h1
  unfold bTup at o1
  cases hd : toDs a with
  | none =>
    rw [hd] at o1
    exact o1.elim
  | some ds =>
    rw [hd] at o1
    dsimp only at o1
    by_cases hl : ds.length ≤ lim
    · rw [if_pos hl] at o1
      have hq := toDs_rel v1 hd
      exact ⟨sz (by rw [hq.length]; exact hl), fun p hp => out_tup r1 hq o1 p hp⟩
    · rw [if_neg hl] at o1
      exact o1.elim
theorem qe_lst {es : List Expr} {fa : Y.A} {pos : Pos} (h : PA X es (lA G E fa)) : PE X (.List es pos) (lE G E (eB bLst fa)) := by
  refine PE.imp (pe_lst h) fun σ H Q ⟨S, F, ρ, loc, st, rp, l, o⟩ => ⟨S, F, ρ, loc, st, rp, l, out.imp (fun x H1 h1 => ?_) (out.bd (Rl := VRs G) o)⟩
  obtain ⟨F1, ρ1, a, st1, g1, r1, v1, o1⟩ := h1
  unfold bLst at o1
  cases hd : toDs a with
  | none =>
    rw [hd] at o1
    exact o1.elim
  | some ds =>
    rw [hd] at o1
    dsimp only at o1
    by_cases hl : ds.length ≤ lim
    · rw [if_pos hl] at o1
      have hq := toDs_rel v1 hd
      exact ⟨sz (by rw [hq.length]; exact hl), fun p hp => out_lst r1 hq o1 p hp⟩
    · rw [if_neg hl] at o1
      exact o1.elim
/-- a list that may change -/
theorem qe_new {es : List Expr} {fa : Y.A} {pos : Pos} (h : PA X es (lA G E fa)) : PE X (.List es pos) (lE G E (eB bNew fa)) := by
  refine PE.imp (pe_lst h) fun σ H Q ⟨S, F, ρ, loc, st, rp, l, o⟩ => ⟨S, F, ρ, loc, st, rp, l, out.imp (fun x H1 h1 => ?_) (out.bd (Rl := VRs G) o)⟩
  obtain ⟨F1, ρ1, a, st1, g1, r1, v1, o1⟩ := h1
  unfold bNew at o1
  split at o1
  · rename_i hl
    exact ⟨sz (by rw [v1.length]; exact hl), fun p hp => out_own r1 v1 o1 p hp⟩
  · exact o1.elim
/-! ### tests -/
theorem asB_of {S F : Hp} {ρ : List Addr} {H : Hp} {st : Store} {Q : Bool → Hp → Prop} {E : XK} {x : V} {a : Val} (r : Rep G S F ρ H st) (h : VR G F ρ x a) (o : out G S F ρ BR Q E (asB a st)) : ∃ c, x = .bl c ∧ Q c H := by
  unfold asB at o
  split at o
  · rename_i b
    cases (show Dt F x (.bool b) from h) with
    | bl _ => exact ⟨b, rfl, out.at (v := b) o r rfl⟩
  · exact o.elim
theorem qt_val {e : Expr} {f : Y.E} (h : PE X e (lE G E f)) (he : ∀ whole, isTrue e X.env whole = (do let v ← whole; standAt e.pos; holding [v] (truthy v)) := by intro _; rfl) : PT X e (lT G E (tV f)) := by
  refine PT.imp (pt_val h he) fun σ H Q ⟨S, F, ρ, loc, st, rp, l, o⟩ => ⟨S, F, ρ, loc, st, rp, l, out.imp (fun x H1 h1 => ?_) (out.bd (Rl := VR G) o)⟩
  obtain ⟨F1, ρ1, a, st1, g1, r1, v1, o1⟩ := h1
  exact asB_of r1 v1 o1
/-- a comparison as a test (its own rule) -/
theorem qt_cmp {op : CmpOp} {r : R2} {f : Val → Val → M Val} {a b : Expr} {fa fb : Y.E} {pos : Pos} (ho : OpR X (compareOp op) r) (hs : OSnd G r f) (ha : PE X a (lE G E fa)) (hb : PE X b (lE G E fb)) (hm : behindInMarks op b = false) : PT X (.Compare a [op] [b] pos) (lT G E (tV (eO f fa fb))) := by
  refine PT.imp (pt_cmpR ho ha hb hm) fun σ H Q ⟨S, F, ρ, loc, st, rp, l, o⟩ => ?_
  refine lE_O (E := E) hs σ H _ ⟨S, F, ρ, loc, st, rp, l, out.imp (fun x H1 h1 => ?_) (out.bd (Rl := VR G) o)⟩
  obtain ⟨F1, ρ1, a, st1, g1, r1, v1, o1⟩ := h1
  exact asB_of r1 v1 o1
theorem lT_not {t : Tst} : ∀ σ H Q, lT G E (tNo t) σ H Q → tNot (lT G E t) σ H Q := fun σ H Q ⟨S, F, ρ, loc, st, rp, l, o⟩ => by
  refine ⟨S, F, ρ, loc, st, rp, l, out.imp (fun x H1 h1 => ?_) (out.bd (Rl := BR) o)⟩
  obtain ⟨F1, ρ1, a, st1, g1, r1, v1, o1⟩ := h1
  cases v1
  exact out.at (v := !x) o1 r1 rfl
theorem qt_not {e : Expr} {t : Tst} {pos : Pos} (h : PT X e (lT G E t)) : PT X (.UnaryOp .Not e pos) (lT G E (tNo t)) := PT.imp (pt_not h) lT_not
theorem lT_and {t u : Tst} : ∀ σ H Q, lT G E (tAn t u) σ H Q → tAnd (lT G E t) (lT G E u) σ H Q := fun σ H Q ⟨S, F, ρ, loc, st, rp, l, o⟩ => by
  refine ⟨S, F, ρ, loc, st, rp, l, out.imp (fun x H1 h1 => ?_) (out.bd (Rl := BR) o)⟩
  obtain ⟨F1, ρ1, a, st1, g1, r1, v1, o1⟩ := h1
  cases v1
  cases x with
  | true => exact ⟨S, F1, ρ1, loc, st1, r1, l.mono g1, o1⟩
  | false => exact out.at (v := false) o1 r1 rfl
theorem lT_or {t u : Tst} : ∀ σ H Q, lT G E (tOrr t u) σ H Q → tOr (lT G E t) (lT G E u) σ H Q := fun σ H Q ⟨S, F, ρ, loc, st, rp, l, o⟩ => by
  refine ⟨S, F, ρ, loc, st, rp, l, out.imp (fun x H1 h1 => ?_) (out.bd (Rl := BR) o)⟩
  obtain ⟨F1, ρ1, a, st1, g1, r1, v1, o1⟩ := h1
  cases v1
  cases x with
  | true => exact out.at (v := true) o1 r1 rfl
  | false => exact ⟨S, F1, ρ1, loc, st1, r1, l.mono g1, o1⟩
theorem qw_and1 {a : Expr} {t : Tst} {pos : Pos} (h : PT X a (lT G E t)) : PW X (.BoolOp .And [a] pos) (lT G E t) := pw_and1 h
theorem qw_or1 {a : Expr} {t : Tst} {pos : Pos} (h : PT X a (lT G E t)) : PW X (.BoolOp .Or [a] pos) (lT G E t) := pw_or1 h
theorem qw_and {a b : Expr} {rest : List Expr} {t u : Tst} {pos : Pos} (h : PT X a (lT G E t)) (hb : PW X (.BoolOp .And (b :: rest) pos) (lT G E u)) : PW X (.BoolOp .And (a :: b :: rest) pos) (lT G E (tAn t u)) := PW.imp (pw_and h hb) lT_and
theorem qw_or {a b : Expr} {rest : List Expr} {t u : Tst} {pos : Pos} (h : PT X a (lT G E t)) (hb : PW X (.BoolOp .Or (b :: rest) pos) (lT G E u)) : PW X (.BoolOp .Or (a :: b :: rest) pos) (lT G E (tOrr t u)) := PW.imp (pw_or h hb) lT_or
/-! ### and, or, not as values -/
theorem qe_one {op : BoolOp} {a : Expr} {f : Y.E} {pos : Pos} (h : PE X a (lE G E f)) : PE X (.BoolOp op [a] pos) (lE G E f) := pe_one h
theorem qe_and {a b : Expr} {rest : List Expr} {f g : Y.E} {pos : Pos} (h : PE X a (lE G E f)) (hb : PE X (.BoolOp .And (b :: rest) pos) (lE G E g)) : PE X (.BoolOp .And (a :: b :: rest) pos) (lE G E (eAn f g)) := by
  refine PE.imp (pe_and h hb) fun σ H Q ⟨S, F, ρ, loc, st, rp, l, o⟩ => ⟨S, F, ρ, loc, st, rp, l, out.imp (fun x H1 h1 => ?_) (out.bd (Rl := VR G) o)⟩
  obtain ⟨F1, ρ1, a, st1, g1, r1, v1, o1⟩ := h1
  obtain ⟨c, hx, F2, ρ2, b, st2, g2, r2, v2, o2⟩ := asB_of r1 v1 (out.bd (Rl := BR) o1)
  refine ⟨c, hx, ?_⟩
  cases v2
  cases c with
  | true => exact ⟨S, F2, ρ2, loc, st2, r2, l.mono (g1.trans g2), o2⟩
  | false => exact out.at (v := vB false) o2 r2 (.bl false)
theorem qe_or {a b : Expr} {rest : List Expr} {f g : Y.E} {pos : Pos} (h : PE X a (lE G E f)) (hb : PE X (.BoolOp .Or (b :: rest) pos) (lE G E g)) : PE X (.BoolOp .Or (a :: b :: rest) pos) (lE G E (eOr f g)) := by
  refine PE.imp (pe_or h hb) fun σ H Q ⟨S, F, ρ, loc, st, rp, l, o⟩ => ⟨S, F, ρ, loc, st, rp, l, out.imp (fun x H1 h1 => ?_) (out.bd (Rl := VR G) o)⟩
  obtain ⟨F1, ρ1, a, st1, g1, r1, v1, o1⟩ := h1
  obtain ⟨c, hx, F2, ρ2, b, st2, g2, r2, v2, o2⟩ := asB_of r1 v1 (out.bd (Rl := BR) o1)
  refine ⟨c, hx, ?_⟩
  cases v2
  cases c with
  | true => exact out.at (v := vB true) o2 r2 (.bl true)
  | false => exact ⟨S, F2, ρ2, loc, st2, r2, l.mono (g1.trans g2), o2⟩
theorem qe_not {a : Expr} {f : Y.E} {pos : Pos} (h : PE X a (lE G E f)) : PE X (.UnaryOp .Not a pos) (lE G E (eNo f)) := by
  refine PE.imp (pe_not h) fun σ H Q ⟨S, F, ρ, loc, st, rp, l, o⟩ => ⟨S, F, ρ, loc, st, rp, l, out.imp (fun x H1 h1 => ?_) (out.bd (Rl := VR G) o)⟩
  obtain ⟨F1, ρ1, a, st1, g1, r1, v1, o1⟩ := h1
  obtain ⟨c, hx, F2, ρ2, b, st2, g2, r2, v2, o2⟩ := asB_of r1 v1 (out.bd (Rl := BR) o1)
  cases v2
  exact ⟨c, hx, out.at (v := vB (!c)) o2 r2 (.bl (!c))⟩
theorem qe_if {c a b : Expr} {t : Tst} {f g : Y.E} {pos : Pos} (hc : PT X c (lT G E t)) (ha : PE X a (lE G E f)) (hb : PE X b (lE G E g)) : PE X (.IfExp c a b pos) (lE G E (eIf t f g)) := by
  refine PE.imp (pe_ifExp hc ha hb) fun σ H Q ⟨S, F, ρ, loc, st, rp, l, o⟩ => ⟨S, F, ρ, loc, st, rp, l, out.imp (fun x H1 h1 => ?_) (out.bd (Rl := BR) o)⟩
  obtain ⟨F1, ρ1, a, st1, g1, r1, v1, o1⟩ := h1
  cases v1
  cases x with
  | true => exact ⟨S, F1, ρ1, loc, st1, r1, l.mono g1, o1⟩
  | false => exact ⟨S, F1, ρ1, loc, st1, r1, l.mono g1, o1⟩
theorem qe_chain {op op' : CmpOp} {r r' : R2} {f f' : Val → Val → M Val} {a b c : Expr} {fa fb fc : Y.E} {pos : Pos} (ho : OpR X (compareOp op) r) (hs : OSnd G r f) (ho' : OpR X (compareOp op') r') (hs' : OSnd G r' f') (ha : PE X a (lE G E fa)) (hb : PE X b (lE G E fb)) (hc : PE X c (lE G E fc))
    (hm : lastMarks [op, op'] [b, c] = false := by rfl) : PE X (.Compare a [op, op'] [b, c] pos) (lE G E (eCh f f' fa fb fc)) := by
  refine PE.imp (pe_chain ho ho' ha hb hc hm) fun σ H Q ⟨S, F, ρ, loc, st, rp, l, o⟩ => ⟨S, F, ρ, loc, st, rp, l, out.imp (fun x H1 h1 => ?_) (out.bd (Rl := VR G) o)⟩
  obtain ⟨F1, ρ1, a, st1, g1, r1, v1, o1⟩ := h1
  refine ⟨S, F1, ρ1, loc, st1, r1, l.mono g1, out.imp (fun y H2 h2 => ?_) (out.bd (Rl := VR G) o1)⟩
  obtain ⟨F2, ρ2, b, st2, g2, r2, v2, o2⟩ := h2
  refine hs S F2 ρ2 H2 st2 x y a b _ E r2 (v1.mono g2) v2 (out.imp (fun z H3 h3 => ?_) (out.bd (Rl := VR G) o2))
  obtain ⟨F3, ρ3, c, st3, g3, r3, v3, o3⟩ := h3
  obtain ⟨k, hx, F4, ρ4, b', st4, g4, r4, v4, o4⟩ := asB_of r3 v3 (out.bd (Rl := BR) o3)
  refine ⟨k, hx, ?_⟩
  cases v4
  cases k with
  | false => exact out.at (v := vB false) o4 r4 (.bl false)
  | true =>
    refine ⟨S, F4, ρ4, loc, st4, r4, l.mono (((g1.trans g2).trans g3).trans g4), out.imp (fun w H5 h5 => ?_) (out.bd (Rl := VR G) o4)⟩
    obtain ⟨F5, ρ5, e5, st5, g5, r5, v5, o5⟩ := h5
    exact hs' S F5 ρ5 H5 st5 y w b e5 Q E r5 (v2.mono ((g3.trans g4).trans g5)) v5 o5
/-! ### slices -/
theorem qo_none : PO X none (lO G E oN) := PO.imp po_none fun σ H Q ⟨S, F, ρ, loc, st, rp, l, o⟩ => out.at (v := (none : Option Int)) o rp rfl
theorem asI_of {S F : Hp} {ρ : List Addr} {H : Hp} {st : Store} {β : Type} {Q : Int → Hp → Prop} {E : XK} {x : V} {a : Val} (r : Rep G S F ρ H st) (h : VR G F ρ x a) (o : out G S F ρ (fun _ _ (i : Int) j => i = j) Q E (asI a st)) : ∃ c, x = .int c ∧ Q c H := by
  unfold asI at o
  split at o
  · rename_i b
    cases (show Dt F x (.int b) from h) with
    | int _ => exact ⟨b, rfl, out.at (v := b) o r rfl⟩
  · exact o.elim
theorem qo_some {e : Expr} {f : Y.E} (h : PE X e (lE G E f)) : PO X (some e) (lO G E (oS f)) := by
  refine PO.imp (po_some h) fun σ H Q ⟨S, F, ρ, loc, st, rp, l, o⟩ => ⟨S, F, ρ, loc, st, rp, l, out.imp (fun x H1 h1 => ?_) (out.bd (Rl := VR G) o)⟩
  obtain ⟨F1, ρ1, a, st1, g1, r1, v1, o1⟩ := h1
  obtain ⟨c, hx, F2, ρ2, b, st2, g2, r2, v2, o2⟩ := asI_of (β := Int) r1 v1 (out.bd (Rl := fun _ _ (i : Int) j => i = j) o1)
  cases v2
  exact ⟨c, hx, out.at (v := some c) o2 r2 rfl⟩
def LSnd (G : Glo) (r : V → Option Int → Option Int → Hp → VK → Prop) (f : Val → Option Int → Option Int → M Val) : Prop := ∀ (S F : Hp) (ρ : List Addr) (H : Hp) (st : Store) (x : V) (a : Val) (lo hi : Option Int) (Q : VK) (E : XK), Rep G S F ρ H st → VR G F ρ x a → out G S F ρ (VR G) Q E (f a lo hi st) → r x lo hi H Q
theorem qe_slice {r : V → Option Int → Option Int → Hp → VK → Prop} {e : Expr} {lo hi : Option Expr} {f : Y.E} {fl fh : Oe} {p2 pos : Pos} (hr : SlR X r) (hs : LSnd G r bSl) (he : PE X e (lE G E f)) (hl : PO X lo (lO G E fl)) (hu : PO X hi (lO G E fh)) : PE X (.Subscript e (.Slice lo hi none p2) pos) (lE G E (eSl f fl fh)) := by
  refine PE.imp (pe_slice hr he hl hu) fun σ H Q ⟨S, F, ρ, loc, st, rp, l, o⟩ => ⟨S, F, ρ, loc, st, rp, l, out.imp (fun x H1 h1 => ?_) (out.bd (Rl := VR G) o)⟩
  obtain ⟨F1, ρ1, a, st1, g1, r1, v1, o1⟩ := h1
  refine ⟨S, F1, ρ1, loc, st1, r1, l.mono g1, out.imp (fun y H2 h2 => ?_) (out.bd (Rl := IR) o1)⟩
  obtain ⟨F2, ρ2, b, st2, g2, r2, v2, o2⟩ := h2
  refine ⟨S, F2, ρ2, loc, st2, r2, l.mono (g1.trans g2), out.imp (fun z H3 h3 => ?_) (out.bd (Rl := IR) o2)⟩
  obtain ⟨F3, ρ3, c, st3, g3, r3, v3, o3⟩ := h3
  cases v2
  cases v3
  exact hs S F3 ρ3 H3 st3 x a _ _ Q E r3 (v1.mono (g2.trans g3)) o3
end
end Y
end
section
set_option Elab.async false
set_option Elab.async false
set_option linter.all false
set_option maxRecDepth 100000
set_option maxHeartbeats 1000000
/-! Stm: targets, walks, comprehensions, statements, defs, lifted. -/
namespace Y
open PySem PySem.Spec PyProof.Rows L2
/-! ### targets -/
theorem wipe_get {σ : L2.St} {j : Nat} : ∀ {vs : List Nat}, j ∈ vs → (L2.wipe σ vs)[j]? = if j < σ.length then some none else none
  | [], h => by cases h
  | v :: vs, h => by
    unfold L2.wipe
    rw [List.getElem?_set]
    by_cases e : v = j
    · subst e
      rw [if_pos rfl, L2.wipe_length]
    · rw [if_neg e]
      exact wipe_get (by simpa [Ne.symm e] using h)
theorem wipe_set {σ : L2.St} {i : Nat} {x : Option V} {vs : List Nat} (h : i ∈ vs) : L2.wipe (σ.set i x) vs = L2.wipe σ vs := by
  refine List.ext_getElem? fun j => ?_
  by_cases hj : j ∈ vs
  · rw [wipe_get hj, wipe_get hj, List.length_set]
  · rw [wipe_out hj, wipe_out hj, List.getElem?_set, if_neg (fun e => hj (by rw [← e]; exact h))]
def TR (G : Glo) (vs : List Nat) (σ : L2.St) : Hp → List Addr → L2.St → Loc → Prop := fun F ρ σ' loc' => LR G F ρ σ' loc' ∧ L2.wipe σ' vs = L2.wipe σ vs
def lG (G : Glo) (E : XK) (vs : List Nat) (g : Y.G) : TG := fun v σ H Q => ∃ (S F : Hp) (ρ : List Addr) (loc : Loc) (st : Store) (x : Val), Rep G S F ρ H st ∧ LR G F ρ σ loc ∧ VR G F ρ v x ∧ out G S F ρ (TR G vs σ) Q E (g x loc st)
def lGs (G : Glo) (E : XK) (vs : List Nat) (g : Y.Gs) : TGs := fun v σ H Q => ∃ (S F : Hp) (ρ : List Addr) (loc : Loc) (st : Store) (x : List Val), Rep G S F ρ H st ∧ LR G F ρ σ loc ∧ VRs G F ρ v x ∧ out G S F ρ (TR G vs σ) Q E (g x loc st)
section
variable {X : Cx} {G : Glo} {E : XK} {vs : List Nat}
theorem qg_name (i : Nat) {x : Str} {pos : Pos} (hN : X.N.Nodup) (hi : X.N[i]? = some x) (hx : L2.Loc X.env.scope x) (hv : i ∈ vs := by decide) (hf : X.fn x = true ∨ X.env.scope.names.lookup x = some .local := by first | exact .inl rfl | exact .inr rfl | assumption) : PG X (.Name x pos) (lG G E vs (gN i)) := by
  refine PG.imp (pg_name (i := i) hN hi hx hf) fun v σ H Q ⟨S, F, ρ, loc, st, y, rp, l, r, o⟩ => ?_
  exact out.at (v := loc.set i (some y)) o rp ⟨l.set r i, wipe_set hv⟩
theorem qgs_nil : PGs X [] (lGs G E vs gsN) := by
  refine PGs.imp pgs_nil fun v σ H Q ⟨S, F, ρ, loc, st, y, rp, l, r, o⟩ => ?_
  cases r with
  | nil => exact ⟨rfl, out.at (v := loc) o rp ⟨l, rfl⟩⟩
  | cons _ _ => exact o.elim
theorem qgs_cons {e : Expr} {es : List Expr} {g : Y.G} {gs : Y.Gs} (h1 : PG X e (lG G E vs g)) (h2 : PGs X es (lGs G E vs gs)) (hs : List.map (fun x => x.snd) (assignEach (e :: es) X.env) = assign e X.env :: List.map (fun x => x.snd) (assignEach es X.env) := by rfl) : PGs X (e :: es) (lGs G E vs (gsC g gs)) := by
  refine PGs.imp (pgs_cons h1 h2 hs) fun v σ H Q ⟨S, F, ρ, loc, st, y, rp, l, r, o⟩ => ?_
  cases r with
  | nil => exact o.elim
  | @cons v1 y1 vr yr r1 rr =>
    refine ⟨v1, vr, rfl, S, F, ρ, loc, st, y1, rp, l, r1, out.imp (fun σ1 H1 h => ?_) (out.bd (Rl := TR G vs σ) o)⟩
    obtain ⟨F1, ρ1, loc1, st1, g1, rp1, ⟨l1, w1⟩, o1⟩ := h
    refine ⟨S, F1, ρ1, loc1, st1, yr, rp1, l1, VRs.mono g1 rr, ?_⟩
    unfold TR at o1 ⊢
    rw [w1]
    exact o1
theorem dt_vrs {F : Hp} {ρ : List Addr} : ∀ {us : List V} {ds : List D}, DtA F us ds → VRs G F ρ us (ds.map .d)
  | _, _, .nil => .nil
  | _, _, .cons h k => .cons h (dt_vrs k)
theorem qg_tup {es : List Expr} {k n : Nat} {gs : Y.Gs} {pos : Pos} (hc : X.calm = true) (h : PGs X es (lGs G E vs gs)) (hl : (assignEach es X.env).length = n := by rfl) (hf : List.findIdx? (fun x => x.fst) (assignEach es X.env) = none := by rfl) : PG X (.Tuple es k pos) (lG G E vs (gT n gs)) := by
  refine PG.imp (pg_tup hc h hl hf) fun v σ H Q ⟨S, F, ρ, loc, st, y, rp, l, r, o⟩ => ?_
  cases y with
  | o _ => exact o.elim
  | s _ => exact o.elim
  | d x =>
    cases x with
    | tuple ds =>
      cases (show Dt F v (.tuple ds) from r) with
      | @tup a xs ds ha hd =>
        have o' : out G S F ρ (TR G vs σ) Q E ((if ds.length = n then gs (ds.map .d) loc else die) st) := o
        by_cases e : ds.length = n
        · rw [if_pos e] at o'
          exact ⟨a, xs, rfl, SqT.of (rp.ex _ _ ha), by rw [hd.length]; exact e, S, F, ρ, loc, st, ds.map .d, rp, l, dt_vrs hd, o'⟩
        · rw [if_neg e] at o'
          exact o'.elim
    | none => exact o.elim
    | bool _ => exact o.elim
    | int _ => exact o.elim
    | str _ => exact o.elim
    | list _ => exact o.elim
    | dict _ => exact o.elim
end
/-! ### what is walked -/
structure JW (G : Glo) (F : Hp) (ρ : List Addr) (J : It) (xs : List Val) : Prop where
  goes : ∀ (i : Nat) (H : Hp), i < xs.length → Exn F H → J.go i H
  stops : ∀ (H : Hp), Exn F H → J.stop xs.length H
  yields : ∀ (i : Nat) (H : Hp) (x : V) (H' : Hp), i < xs.length → Exn F H → J.yld i H x H' → (H' = H ∧ ∃ y, xs[i]? = some y ∧ VR G F ρ x y) ∨
    (∃ (T : Addr) (vs : List V) (ds : List D), H T = none ∧ H' = upd H T (.tup vs) ∧ x = .ref T ∧ xs[i]? = some (.d (.tuple ds)) ∧ DtA F vs ds) ∨
    (∃ (T : Addr) (vs : List V) (ds : List D), H T = some (.tup vs) ∧ H' = H ∧ x = .ref T ∧ xs[i]? = some (.d (.tuple ds)) ∧ DtA F vs ds)
def JR (G : Glo) : Hp → List Addr → It → List Val → Prop := fun F ρ J xs => JW G F ρ J xs
def lI (G : Glo) (E : XK) (s : Y.I) : TI := fun σ H R => ∃ (S F : Hp) (ρ : List Addr) (loc : Loc) (st : Store), Rep G S F ρ H st ∧ LR G F ρ σ loc ∧ out G S F ρ (JR G) R E (s loc st)
section
variable {X : Cx} {G : Glo} {E : XK} {tg : Expr}
/-- a list or a tuple -/
def iSq (K : PySem.W.Frag) (tl : TE) : TI := fun σ H R => tl σ H fun x H1 => ∃ a, x = .ref a ∧ (((∃ xs, SqL K H1 a xs) ∧ R (Itl K a) H1) ∨ ((∃ xs, SqT K H1 a xs) ∧ R (Itt K a) H1))
theorem pi_seq {l : Expr} {tl : TE} (hl : PE X l tl) : PI X tg l (iSq X.K tl) := by
  refine ⟨fun pins s σ H R I h => ?_⟩
  refine thn (hl.run pins s σ H _ I h) fun v s1 ⟨x, H1, I1, r1, q1⟩ => ?_
  obtain ⟨a, e, q1⟩ := q1
  subst e
  rcases q1 with ⟨⟨xs, hq⟩, q⟩ | ⟨⟨xs, hq⟩, q⟩
  · cases r1
    obtain ⟨its, rv, p, hz⟩ := I1.list hq
    refine wpAny_pyIter_list p.isList ?_
    refine ⟨s1.heap.objs.size, [s1.heap.objs.size], _, _, H1, rfl, I1.kept (t' := s1.toks) fun b o e => Heap.get?_push_of_some _ e, turn_list a _, ⟨_, Heap.get?_push_size _ rfl, rfl, rfl⟩, fun b hb => ?_, q⟩
    have e : b = s1.heap.objs.size := by simpa using hb
    subst e
    exact I1.fpOk (Nat.le_refl _) (I1.hok.fresh (Nat.le_refl _))
  · cases r1
    obtain ⟨its, rv, p, hz⟩ := I1.tuple hq
    refine wpAny_pyIter_tuple (show s1.heap.IsTuple a its.toArray from p) ?_
    refine ⟨s1.heap.objs.size, [s1.heap.objs.size], _, _, H1, rfl, I1.kept (t' := s1.toks) fun b o e => Heap.get?_push_of_some _ e, turn_tuple a _, ⟨_, Heap.get?_push_size _ rfl, rfl, rfl⟩, fun b hb => ?_, q⟩
    have e : b = s1.heap.objs.size := by simpa using hb
    subst e
    exact I1.fpOk (Nat.le_refl _) (I1.hok.fresh (Nat.le_refl _))
theorem jw_at {F : Hp} {ρ : List Addr} {J : It} {us : List V} {ds : List D} {Gd : Hp → Prop} (w : Walk J us.length Gd (YAt us)) (hG : ∀ H, Exn F H → Gd H) (h : DtA F us ds) : JW G F ρ J (ds.map .d) := by
  have hl := h.length
  refine ⟨fun i H hi e => w.goes i H (by rw [List.length_map] at hi; omega) (hG H e), fun H e => ?_, fun i H x H' hi e y => ?_⟩
  · have := w.stops H (hG H e)
    rw [List.length_map, ← hl]
    exact this
  · obtain ⟨e1, e2⟩ := w.yields i H x H' (by rw [List.length_map] at hi; omega) (hG H e) y
    obtain ⟨d, h1, h2⟩ := h.get' e2
    exact .inl ⟨e1, .d d, by rw [List.getElem?_map, h1]; rfl, h2⟩
theorem qi_seq {l : Expr} {f : Y.E} (hl : PE X l (lE G E f)) (hK : X.K = G.K := by rfl) : PI X tg l (lI G E (iSeq f)) := by
  refine PI.imp (pi_seq hl) fun σ H Q ⟨S, F, ρ, loc, st, rp, l, o⟩ => ⟨S, F, ρ, loc, st, rp, l, out.imp (fun x H1 h1 => ?_) (out.bd (Rl := VR G) o)⟩
  obtain ⟨F1, ρ1, a, st1, g1, r1, v1, o1⟩ := h1
  cases a with
  | o _ => exact o1.elim
  | s _ => exact o1.elim
  | d x =>
    cases x with
    | tuple ds =>
      cases (show Dt F1 _ (.tuple ds) from v1) with
      | @tup a xs ds ha hd =>
        refine ⟨a, rfl, .inr ⟨⟨xs, SqT.of (r1.ex _ _ ha)⟩, out.at (v := ds.map Val.d) o1 r1 (jw_at walk_tup (fun H e => SqT.of (e _ _ ha)) hd)⟩⟩
    | list ds =>
      cases (show Dt F1 _ (.list ds) from v1) with
      | @lst a xs ds ha hd =>
        refine ⟨a, rfl, .inl ⟨⟨xs, SqL.of (r1.ex _ _ ha)⟩, out.at (v := ds.map Val.d) o1 r1 (jw_at walk_list (fun H e => SqL.of (e _ _ ha)) hd)⟩⟩
    | none => exact o1.elim
    | bool _ => exact o1.elim
    | int _ => exact o1.elim
    | str _ => exact o1.elim
    | dict _ => exact o1.elim
theorem jw_range {F : Hp} {ρ : List Addr} (lo : Int) (n : Nat) : JW G F ρ (Itr lo n) (rng lo n) := by
  have hl : (rng lo n).length = n := by unfold rng; rw [List.length_map, List.length_range]
  refine ⟨fun i H hi _ => ?_, fun H _ => ?_, fun i H x H' hi _ y => .inl ⟨y.1, vI (lo + (i : Int)), ?_, ?_⟩⟩
  · show i < n
    omega
  · show n ≤ (rng lo n).length
    omega
  · have hi' : i < n := by omega
    unfold rng
    rw [List.getElem?_map, List.getElem?_range hi']
    rfl
  · rw [y.2]
    exact .int _
theorem vr_int {F : Hp} {ρ : List Addr} {u : V} {i : Int} (h : VR G F ρ u (.d (.int i))) : u = .int i := by
  cases (show Dt F u (.int i) from h) with
  | int _ => rfl
theorem qi_rng1 {a : Expr} {f : Y.A} {p pos : Pos} (hg : Gl X "range") (hm : X.mg "range" = none) (ha : PA X [a] (lA G E f)) (hs : starEach [a] X.env = [(false, eval a X.env)] := by rfl) : PI X tg (.Call (.Name "range" p) [a] [] pos) (lI G E (iCall kRg1 f)) := by
  refine PI.imp (pi_range1 hg hm ha hs) fun σ H Q ⟨S, F, ρ, loc, st, rp, l, o⟩ => ⟨S, F, ρ, loc, st, rp, l, out.imp (fun x H1 h1 => ?_) (out.bd (Rl := VRs G) o)⟩
  obtain ⟨F1, ρ1, as, st1, g1, r1, v1, o1⟩ := h1
  unfold kRg1 at o1
  split at o1
  · rename_i n
    cases v1 with
    | cons h hr =>
      cases hr
      by_cases hb : -1000000 ≤ n ∧ n ≤ 1000000
      · rw [if_pos hb] at o1
        exact ⟨n, by rw [vr_int h], by omega, by omega, out.at (v := rng 0 n.toNat) o1 r1 (jw_range 0 n.toNat)⟩
      · rw [if_neg hb] at o1
        exact o1.elim
  · exact o1.elim
theorem qi_rng2 {a b : Expr} {f : Y.A} {p pos : Pos} (hg : Gl X "range") (hm : X.mg "range" = none) (ha : PA X [a, b] (lA G E f)) (hs : starEach [a, b] X.env = [(false, eval a X.env), (false, eval b X.env)] := by rfl) (hs2 : starEach [b] X.env = [(false, eval b X.env)] := by rfl) : PI X tg (.Call (.Name "range" p) [a, b] [] pos) (lI G E (iCall kRg2 f)) := by
  refine PI.imp (pi_range2 hg hm ha hs hs2) fun σ H Q ⟨S, F, ρ, loc, st, rp, l, o⟩ => ⟨S, F, ρ, loc, st, rp, l, out.imp (fun x H1 h1 => ?_) (out.bd (Rl := VRs G) o)⟩
  obtain ⟨F1, ρ1, as, st1, g1, r1, v1, o1⟩ := h1
  unfold kRg2 at o1
  split at o1
  · rename_i m n
    cases v1 with
    | cons h hr =>
      cases hr with
      | cons h' hr' =>
        cases hr'
        by_cases hb : -1000000 ≤ m ∧ m ≤ 1000000 ∧ -1000000 ≤ n ∧ n ≤ 1000000
        · rw [if_pos hb] at o1
          exact ⟨m, n, by rw [vr_int h, vr_int h'], ⟨by omega, by omega, by omega, by omega⟩, out.at (v := rng m (n - m).toNat) o1 r1 (jw_range m (n - m).toNat)⟩
        · rw [if_neg hb] at o1
          exact o1.elim
  · exact o1.elim
/-- tuples that stand there become data -/
theorem Rep.adopt {S F : Hp} {ρ : List Addr} {H : Hp} {st : Store} (r : Rep G S F ρ H st) {bs : List Addr} (hb : ∀ b ∈ bs, ∃ xs, H b = some (.tup xs)) : ∃ F', Rep G S F' ρ H st ∧ Gr F ρ F' ρ ∧ ∀ b ∈ bs, F' b = H b := by
  have f1 : ∀ a, a ∈ bs → (if a ∈ bs then H a else F a) = H a := fun a ha => if_pos ha
  have f2 : ∀ a, a ∉ bs → (if a ∈ bs then H a else F a) = F a := fun a ha => if_neg ha
  have g : Gr F ρ (fun a => if a ∈ bs then H a else F a) ρ := by
    refine ⟨fun a o h => ?_, [], by simp⟩
    show (if a ∈ bs then H a else F a) = some o
    by_cases ha : a ∈ bs
    · rw [f1 a ha]; exact r.ex a o h
    · rw [f2 a ha]; exact h
  refine ⟨fun a => if a ∈ bs then H a else F a, ⟨fun a o h => ?_, fun a o h => ?_, fun a ps h => ?_, r.len, r.nd, fun k ob e => ?_, r.tab⟩, g, fun b hbb => f1 b hbb⟩
  · obtain ⟨h1, h2, h3, xs, h4⟩ := r.sd a o h
    refine ⟨h1, ?_, h3, xs, h4⟩
    show (if a ∈ bs then H a else F a) = none
    by_cases ha : a ∈ bs
    · obtain ⟨ys, hy⟩ := hb a ha
      rw [h1, h4] at hy
      cases hy
    · rw [f2 a ha]; exact h2
  · have h : (if a ∈ bs then H a else F a) = some o := h
    by_cases ha : a ∈ bs
    · rw [f1 a ha] at h; exact h
    · rw [f2 a ha] at h; exact r.ex a o h
  · have h : (if a ∈ bs then H a else F a) = some (.tbl ps) := h
    by_cases ha : a ∈ bs
    · rw [f1 a ha] at h
      obtain ⟨ys, hy⟩ := hb a ha
      rw [hy] at h
      cases h
    · rw [f2 a ha] at h; exact r.nt a ps h
  · obtain ⟨a, h, e1, e2, e3, e4⟩ := r.own k ob e
    refine ⟨a, h, e1, ?_, e3, e4.mono g⟩
    by_cases ha : a ∈ bs
    · left
      obtain ⟨ys, hy⟩ := hb a ha
      rw [e3] at hy
      cases hy
      cases ob with
      | lst _ => obtain ⟨_, z, _⟩ := e4; cases z
      | ins _ _ => obtain ⟨_, _, z, _⟩ := e4; cases z
      | gone => trivial
      | tup _ => trivial
      | dct _ => obtain ⟨_, z, _⟩ := e4; cases z
      | dcf _ => trivial
      | exc _ => trivial
    · rcases e2 with e2 | e2
      · exact .inl e2
      · right
        show (if a ∈ bs then H a else F a) = none
        rw [f2 a ha]; exact e2
/-- the heap at a turn -/
theorem turn_rep {S F F2 : Hp} {ρ ρ2 : List Addr} {J : It} {xs : List Val} {H H' : Hp} {st : Store} {i : Nat} {x : V} {y : Val} (w : JW G F ρ J xs) (g : Gr F ρ F2 ρ2) (r : Rep G S F2 ρ2 H st) (hi : xs[i]? = some y) (yl : J.yld i H x H') :
    ∃ F3, Gr F2 ρ2 F3 ρ2 ∧ Rep G S F3 ρ2 H' st ∧ VR G F3 ρ2 x y := by
  have hlt : i < xs.length := (List.getElem?_eq_some_iff.mp hi).1
  have ex : Exn F H := fun a o h => r.ex a o (g.f a o h)
  rcases w.yields i H x H' hlt ex yl with ⟨e, y', h1, h2⟩ | ⟨T, vs, ds, h1, h2, h3, h4, h5⟩ | ⟨T, vs, ds, h1, h2, h3, h4, h5⟩
  · rw [hi] at h1
    cases h1
    rw [e]
    exact ⟨F2, Gr.refl, r, h2.mono g⟩
  · rw [hi] at h4
    cases h4
    obtain ⟨r', g'⟩ := r.new h1 (tup_nt (xs := vs))
    rw [h2, h3]
    exact ⟨_, g', r', Dt.tup upd_same (h5.mono (g.trans g').f)⟩
  · rw [hi] at h4
    cases h4
    obtain ⟨F', r', g', hT⟩ := r.adopt (bs := [T]) (fun b hb => ⟨vs, by rw [List.mem_singleton.mp hb]; exact h1⟩)
    rw [h2, h3]
    exact ⟨F', g', r', Dt.tup ((hT T (by simp)).trans h1) (h5.mono (g.trans g').f)⟩
end
/-! ### comprehensions -/
abbrev EF : XK := fun _ _ _ => False
section
variable {X : Cx} {G : Glo} {E : XK} {tg : Expr}
theorem noex_ok {α : Type} {m : M α} {st : Store} {a : α} {s : Store} (h : m st = .ok a s) : noex m st = .ok a s := by
  unfold noex
  rw [h]
theorem noex_bad {α : Type} {m : M α} {st : Store} (h : ∀ a s, m st ≠ .ok a s) : noex m st = .bad := by
  unfold noex
  cases e : m st with
  | ok a s => exact absurd e (h a s)
  | ex _ _ => rfl
  | bad => rfl
/-- the loop's word: acc is made, xs are left -/
def CP (G : Glo) (fin : List Val → M Val) (S : Hp) (F : Hp) (ρ : List Addr) (Q : VK) (E : XK) (Dl : Addr) (body : Val → M (Option Val)) (xs : List Val) (n : Nat) (H : Hp) : Prop :=
  ∃ (F2 : Hp) (ρ2 : List Addr) (st2 : Store) (av : List V) (acc : List Val), Gr F ρ F2 ρ2 ∧ Rep G (upd S Dl (.lst av)) F2 ρ2 H st2 ∧ VRs G F2 ρ2 av acc ∧ acc.length + xs.length ≤ n ∧ out G S F2 ρ2 (VR G) Q E (bd (noex (compL body xs)) (fun ys => fin (acc ++ ys)) st2)
theorem out_noex {S F : Hp} {ρ : List Addr} {α β γ δ : Type} {Rl : Hp → List Addr → β → α → Prop} {Rk : Hp → List Addr → δ → γ → Prop} {Qk : δ → Hp → Prop} {m : M α} {f : α → M γ} {st : Store} (h : out G S F ρ Rk Qk E (bd (noex m) f st)) : ∃ a s, m st = .ok a s ∧ out G S F ρ Rk Qk E (f a s) := by
  cases e : m st with
  | ok a s =>
    refine ⟨a, s, rfl, ?_⟩
    unfold bd at h
    rw [noex_ok e] at h
    exact h
  | ex c s =>
    unfold bd at h
    rw [noex_bad (fun a s' z => by rw [e] at z; cases z)] at h
    exact h.elim
  | bad =>
    unfold bd at h
    rw [noex_bad (fun a s' z => by rw [e] at z; cases z)] at h
    exact h.elim
theorem bd_ok {α β : Type} {m : M α} {f : α → M β} {st s : Store} {b : β} (h : bd m f st = .ok b s) : ∃ a s1, m st = .ok a s1 ∧ f a s1 = .ok b s := by
  unfold bd at h
  cases e : m st with
  | ok a s1 =>
    rw [e] at h
    exact ⟨a, s1, rfl, h⟩
  | ex _ _ => rw [e] at h; cases h
  | bad => rw [e] at h; cases h
theorem out_ok {S F : Hp} {ρ : List Addr} {α β : Type} {Rl : Hp → List Addr → β → α → Prop} {Q : β → Hp → Prop} {r : R α} {a : α} {s : Store} (e : r = .ok a s) (h : ∀ F' ρ' H' u, Gr F ρ F' ρ' → Rep G S F' ρ' H' s → Rl F' ρ' u a → Q u H') : out G S F ρ Rl Q E r := by
  rw [e]
  exact h
theorem wipe_wipe {σ : L2.St} {vs : List Nat} : L2.wipe (L2.wipe σ vs) vs = L2.wipe σ vs := by
  refine List.ext_getElem? fun j => ?_
  by_cases hj : j ∈ vs
  · rw [wipe_get hj, wipe_get hj, L2.wipe_length]
  · rw [wipe_out hj]
theorem comp_next {fin : List Val → M Val} {body : Val → M (Option Val)} {rest : List Val} {acc ys : List Val} {s1 s : Store} (h : compL body rest s1 = .ok ys s) : bd (noex (compL body rest)) (fun ys => fin (acc ++ ys)) s1 = fin (acc ++ ys) s := by
  unfold bd
  rw [noex_ok h]
/-- what the list becomes -/
def FinOk (G : Glo) (fin : List Val → M Val) : Prop := ∀ (S F : Hp) (ρ : List Addr) (H : Hp) (st : Store) (av : List V) (acc : List Val) (Dl : Addr) (Q : VK) (E : XK), Rep G (upd S Dl (.lst av)) F ρ H st → VRs G F ρ av acc → S Dl = none → out G S F ρ (VR G) Q E (fin acc st) → Q (.ref Dl) H
def eLcF (fin : List Val → M Val) (it : Y.I) (g : Y.G) (t : Tst) (e : Y.E) (vs : List Nat) : Y.E := fun loc => bd (it loc) fun xs => if xs.length ≤ lim then bd (noex (compL (cBody g t e (wip loc vs)) xs)) fin else die
theorem lE_lcF {fin : List Val → M Val} (hf : FinOk G fin) {it : Y.I} {g : Y.G} {t : Tst} {e : Y.E} {vs : List Nat} : ∀ σ H Q, lE G E (eLcF fin it g t e vs) σ H Q → tLc (lI G E it) (lG G EF vs g) (lT G EF t) (lE G EF e) vs σ H Q := by
  rintro σ H Q ⟨S, F, ρ, loc, st, rp, l, o⟩
  refine ⟨S, F, ρ, loc, st, rp, l, out.imp (fun J H1 h1 => ?_) (out.bd (Rl := JR G) o)⟩
  obtain ⟨F1, ρ1, xs, st1, g1, r1, jw, o1⟩ := h1
  intro Dl hD
  have hl : xs.length ≤ lim := by
    by_cases hl : xs.length ≤ lim
    · exact hl
    · have o1' : out G S F1 ρ1 (VR G) Q E ((if xs.length ≤ lim then bd (noex (compL (cBody g t e (wip loc vs)) xs)) fin else die) st1) := o1
      rw [if_neg hl] at o1'
      exact o1'.elim
  have o1 : out G S F1 ρ1 (VR G) Q E ((if xs.length ≤ lim then bd (noex (compL (cBody g t e (wip loc vs)) xs)) fin else die) st1) := o1
  rw [if_pos hl] at o1
  have hS : S Dl = none := by
    cases q : S Dl with
    | none => rfl
    | some u => rw [(r1.sd Dl u q).1] at hD; cases hD
  refine ⟨fun i m H => m = xs.length - i ∧ i ≤ xs.length ∧ CP G fin S F1 ρ1 Q E Dl (cBody g t e (wip loc vs)) (xs.drop i) xs.length H, ⟨xs.length, by simp, Nat.zero_le _, F1, ρ1, st1, [], [], Gr.refl, r1.side hD, .nil, by simp, o1⟩, ?_⟩
  rintro i m H2 ⟨rfl, hi, F2, ρ2, st2, av, acc, g2, r2, va, hn, o2⟩
  have ex2 : Exn F1 H2 := fun a o h => r2.ex a o (g2.f a o h)
  by_cases hlt : i < xs.length
  · refine .inr ⟨jw.goes i H2 hlt ex2, CP G fin S F1 ρ1 Q E Dl (cBody g t e (wip loc vs)) (xs.drop (i + 1)) xs.length, fun H' p => ⟨xs.length - (i + 1), by omega, rfl, hlt, p⟩, fun x H' yl => ?_⟩
    have hx : xs[i]? = some xs[i] := List.getElem?_eq_getElem hlt
    have hd : xs.drop i = xs[i] :: xs.drop (i + 1) := List.drop_eq_getElem_cons hlt
    obtain ⟨F3, g3, r3, v3⟩ := turn_rep jw g2 r2 hx yl
    rw [hd] at o2 hn
    obtain ⟨ys, s, hc, o'⟩ := out_noex (Rl := fun _ _ (_ : Unit) _ => True) o2
    obtain ⟨ob, s1, hb, hc⟩ := bd_ok hc
    obtain ⟨ys', s', hc2, hfin⟩ := bd_ok hc
    obtain ⟨l2, s2, hg, hb⟩ := bd_ok hb
    obtain ⟨b, s3, ht, hb⟩ := bd_ok hb
    have hfin : R.ok (consO ob ys') s' = R.ok ys s := hfin
    injection hfin with hys hss
    subst hss
    have lr3 : LR G F3 ρ2 (L2.wipe σ vs) (wip loc vs) := (l.mono ((g1.trans g2).trans g3)).wip vs
    refine ⟨upd S Dl (.lst av), F3, ρ2, wip loc vs, st2, xs[i], r3, lr3, v3, out_ok hg fun F4 ρ4 H4 σ2 g4 r4 lw => ?_⟩
    obtain ⟨lr4, w4⟩ := lw
    refine ⟨w4.trans wipe_wipe, upd S Dl (.lst av), F4, ρ4, l2, s2, r4, lr4, out_ok ht fun F5 ρ5 H5 b' g5 r5 hb' => ?_⟩
    cases hb'
    have gg : Gr F1 ρ1 F5 ρ5 := ((g2.trans g3).trans g4).trans g5
    have g25 : Gr F2 ρ2 F5 ρ5 := (g3.trans g4).trans g5
    rw [List.length_cons] at hn
    cases b with
    | false =>
      have hb2 : ob = none ∧ s3 = s1 := by
        have z : R.ok (none : Option Val) s3 = R.ok ob s1 := hb
        injection z with z1 z2
        exact ⟨z1.symm, z2⟩
      obtain ⟨rfl, rfl⟩ := hb2
      subst hys
      refine ⟨F5, ρ5, s3, av, acc, gg, r5, VRs.mono g25 va, by omega, ?_⟩
      rw [comp_next hc2]
      exact out.mono g25 o'
    | true =>
      obtain ⟨yv, s4, he, hb⟩ := bd_ok (show bd (e l2) (fun y => ret (some y)) s3 = R.ok ob s1 from hb)
      have hb2 : ob = some yv ∧ s4 = s1 := by
        have z : R.ok (some yv : Option Val) s4 = R.ok ob s1 := hb
        injection z with z1 z2
        exact ⟨z1.symm, z2⟩
      obtain ⟨rfl, rfl⟩ := hb2
      subst hys
      refine ⟨upd S Dl (.lst av), F5, ρ5, l2, s3, r5, lr4.mono g5, out_ok he fun F6 ρ6 H6 u g6 r6 vu => ?_⟩
      have hav : av.length = acc.length := va.length
      refine ⟨av, (r6.sd Dl _ upd_same).1, sz' (by omega), F6, ρ6, s4, av ++ [u], acc ++ [yv], gg.trans g6, r6.side2, Paired.snoc (VRs.mono (g25.trans g6) va) vu, by rw [List.length_append]; show acc.length + 1 + _ ≤ _; omega, ?_⟩
      rw [comp_next hc2]
      have ea : acc ++ [yv] ++ ys' = acc ++ (yv :: ys') := by simp
      rw [ea]
      exact out.mono (g25.trans g6) o'
  · have e : i = xs.length := by omega
    subst e
    refine .inl ⟨jw.stops H2 ex2, ?_⟩
    rw [List.drop_length] at o2
    have o3 : out G S F2 ρ2 (VR G) Q E (fin (acc ++ []) st2) := o2
    rw [List.append_nil] at o3
    exact hf S F2 ρ2 H2 st2 av acc Dl Q E r2 va hS o3
theorem fin_lst : FinOk G bLst := by
  intro S F2 ρ2 H2 st2 av acc Dl Q E r2 va hS o3
  unfold bLst at o3
  cases hd : toDs acc with
  | none =>
    rw [hd] at o3
    exact o3.elim
  | some ds =>
    rw [hd] at o3
    dsimp only at o3
    by_cases hz : ds.length ≤ lim
    · rw [if_pos hz] at o3
      obtain ⟨r3, g3⟩ := r2.data hS
      exact out.go (v := Val.d (.list ds)) o3 g3 r3 (Dt.lst upd_same ((toDs_rel va hd).mono g3.f))
    · rw [if_neg hz] at o3
      exact o3.elim
theorem fin_new : FinOk G bNew := by
  intro S F2 ρ2 H2 st2 av acc Dl Q E r2 va hS o3
  unfold bNew at o3
  by_cases hz : acc.length ≤ lim
  · rw [if_pos hz] at o3
    obtain ⟨r3, g3⟩ := r2.owned hS (ob := .lst acc) ⟨av, rfl, va⟩
    refine out.go (v := Val.o st2.length) o3 g3 r3 ⟨Dl, ?_, rfl⟩
    rw [List.getElem?_append_right (by rw [r2.len]; exact Nat.le_refl _), r2.len]
    simp
  · rw [if_neg hz] at o3
    exact o3.elim
theorem lE_lc {it : Y.I} {g : Y.G} {t : Tst} {e : Y.E} {vs : List Nat} : ∀ σ H Q, lE G E (eLc it g t e vs) σ H Q → tLc (lI G E it) (lG G EF vs g) (lT G EF t) (lE G EF e) vs σ H Q := lE_lcF fin_lst
theorem lE_lcN {it : Y.I} {g : Y.G} {t : Tst} {e : Y.E} {vs : List Nat} : ∀ σ H Q, lE G E (eLcN it g t e vs) σ H Q → tLc (lI G E it) (lG G EF vs g) (lT G EF t) (lE G EF e) vs σ H Q := lE_lcF fin_new
theorem qe_lc {elt tgt iter : Expr} {ifs : List Expr} {scope : Scope} {own : List (Str × Nat)} {pos : Pos} {it : Y.I} {g : Y.G} {t : Tst} {e : Y.E} (hc : X.calm = true) (hN : X.N.Nodup) (hi : PI X tgt iter (lI G E it)) (ok : BlkOk X.N X.env.scope scope own)
    (hg : ∀ (s : Shared) (H : Hp) (C : Addr) (cl : List (Str × Addr)) (fp : List Addr), PG (X.blk s H scope (compEnvC scope cl C X.env) fp) tgt (lG G EF (own.map (·.2)) g)) (ht : ∀ (s : Shared) (H : Hp) (C : Addr) (cl : List (Str × Addr)) (fp : List Addr), PTs (X.blk s H scope (compEnvC scope cl C X.env) fp) ifs (lT G EF t))
    (he : ∀ (s : Shared) (H : Hp) (C : Addr) (cl : List (Str × Addr)) (fp : List Addr), PE (X.blk s H scope (compEnvC scope cl C X.env) fp) elt (lE G EF e)) (hs : ∀ x, foldedSetIterable iter X.env x = pure x := by intro _; rfl) :
    PE X (.ListComp elt [⟨tgt, iter, ifs, 0⟩] scope pos) (lE G E (eLc it g t e (own.map (·.2)))) := PE.imp (pe_lc hc hN hi ok hg ht he hs) lE_lc
theorem qe_lcN {elt tgt iter : Expr} {ifs : List Expr} {scope : Scope} {own : List (Str × Nat)} {pos : Pos} {it : Y.I} {g : Y.G} {t : Tst} {e : Y.E} (hc : X.calm = true) (hN : X.N.Nodup) (hi : PI X tgt iter (lI G E it)) (ok : BlkOk X.N X.env.scope scope own)
    (hg : ∀ (s : Shared) (H : Hp) (C : Addr) (cl : List (Str × Addr)) (fp : List Addr), PG (X.blk s H scope (compEnvC scope cl C X.env) fp) tgt (lG G EF (own.map (·.2)) g)) (ht : ∀ (s : Shared) (H : Hp) (C : Addr) (cl : List (Str × Addr)) (fp : List Addr), PTs (X.blk s H scope (compEnvC scope cl C X.env) fp) ifs (lT G EF t))
    (he : ∀ (s : Shared) (H : Hp) (C : Addr) (cl : List (Str × Addr)) (fp : List Addr), PE (X.blk s H scope (compEnvC scope cl C X.env) fp) elt (lE G EF e)) (hs : ∀ x, foldedSetIterable iter X.env x = pure x := by intro _; rfl) :
    PE X (.ListComp elt [⟨tgt, iter, ifs, 0⟩] scope pos) (lE G E (eLcN it g t e (own.map (·.2)))) := PE.imp (pe_lc hc hN hi ok hg ht he hs) lE_lcN
theorem qts_nil : PTs X [] (lT G E tTr) := PTs.imp pts_nil fun σ H Q ⟨S, F, ρ, loc, st, rp, l, o⟩ => out.at (v := true) o rp rfl
theorem qts_one {c : Expr} {t : Tst} (h : PT X c (lT G E t)) : PTs X [c] (lT G E t) := pts_one h
end
/-! ### statements -/
/-- how a statement ends, by values -/
inductive FV where
  | nx (σ : L2.St) | bk (σ : L2.St) | ct (σ : L2.St) | rt (u : V)
def FR (G : Glo) (F : Hp) (ρ : List Addr) : FV → Fl × Loc → Prop
  | .nx σ, (.nx, loc) => LR G F ρ σ loc
  | .bk σ, (.bk, loc) => LR G F ρ σ loc
  | .ct σ, (.ct, loc) => LR G F ρ σ loc
  | .rt u, (.rt v, _) => VR G F ρ u v
  | _, _ => False
def endQ (D : Ends) : FV → Hp → Prop
  | .nx σ, H => D.nx σ H
  | .bk σ, H => D.bk σ H
  | .ct σ, H => D.ct σ H
  | .rt u, H => D.rt u H
def lS (G : Glo) (E : XK) (f : Y.S) : TS := fun D σ H => ∃ (S F : Hp) (ρ : List Addr) (loc : Loc) (st : Store), Rep G S F ρ H st ∧ LR G F ρ σ loc ∧ out G S F ρ (FR G) (endQ D) E (f loc st)
section
variable {X : Cx} {G : Glo} {E : XK}
theorem qss_nil : PSs X [] (lS G E sNil) := PSs.imp pss_nil fun D σ H ⟨S, F, ρ, loc, st, rp, l, o⟩ => out.at (v := (Fl.nx, loc)) (u := FV.nx σ) o rp l
theorem lS_seq {a b : Y.S} : ∀ D σ H, lS G E (sSeq a b) D σ H → tSeq (lS G E a) (lS G E b) D σ H := by
  rintro D σ H ⟨S, F, ρ, loc, st, rp, l, o⟩
  refine ⟨S, F, ρ, loc, st, rp, l, out.imp (fun u H1 h1 => ?_) (out.bd (Rl := FR G) o)⟩
  obtain ⟨F1, ρ1, ⟨fl, loc1⟩, st1, g1, r1, fr, o1⟩ := h1
  cases u with
  | nx σ1 =>
    cases fl with
    | nx => exact ⟨S, F1, ρ1, loc1, st1, r1, fr, o1⟩
    | bk => exact fr.elim
    | ct => exact fr.elim
    | rt v => exact fr.elim
  | bk σ1 =>
    cases fl with
    | bk => exact out.at (v := (Fl.bk, loc1)) (u := FV.bk σ1) o1 r1 fr
    | nx => exact fr.elim
    | ct => exact fr.elim
    | rt v => exact fr.elim
  | ct σ1 =>
    cases fl with
    | ct => exact out.at (v := (Fl.ct, loc1)) (u := FV.ct σ1) o1 r1 fr
    | nx => exact fr.elim
    | bk => exact fr.elim
    | rt v => exact fr.elim
  | rt w =>
    cases fl with
    | rt v => exact out.at (v := (Fl.rt v, loc1)) (u := FV.rt w) o1 r1 fr
    | nx => exact fr.elim
    | bk => exact fr.elim
    | ct => exact fr.elim
theorem qss_cons {st : Stmt} {rest : List Stmt} {a b : Y.S} (h1 : PS X st (lS G E a)) (h2 : PSs X rest (lS G E b)) : PSs X (st :: rest) (lS G E (sSeq a b)) := PSs.imp (pss_cons h1 h2) lS_seq
theorem qss_one {st : Stmt} {a : Y.S} (h1 : PS X st (lS G E a)) : PSs X [st] (lS G E a) := pss_one h1
theorem qs_ret {e : Expr} {f : Y.E} {pos : Pos} (h : PE X e (lE G E f)) : PS X (.Return (some e) pos) (lS G E (sRet f)) := by
  refine PS.imp (ps_ret h) fun D σ H ⟨S, F, ρ, loc, st, rp, l, o⟩ => ⟨S, F, ρ, loc, st, rp, l, out.imp (fun u H1 h1 => ?_) (out.bd (Rl := VR G) o)⟩
  obtain ⟨F1, ρ1, v, st1, g1, r1, vr, o1⟩ := h1
  exact out.at (v := (Fl.rt v, loc)) (u := FV.rt u) o1 r1 vr
theorem qs_expr {e : Expr} {f : Y.E} {pos : Pos} (h : PE X e (lE G E f)) (hs : swapsWith e none pos.line X.env = pure false := by rfl) : PS X (.Expr e pos) (lS G E (sExp f)) := by
  refine PS.imp (ps_expr h hs) fun D σ H ⟨S, F, ρ, loc, st, rp, l, o⟩ => ⟨S, F, ρ, loc, st, rp, l, out.imp (fun u H1 h1 => ?_) (out.bd (Rl := VR G) o)⟩
  obtain ⟨F1, ρ1, v, st1, g1, r1, vr, o1⟩ := h1
  exact out.at (v := (Fl.nx, loc)) (u := FV.nx σ) o1 r1 (l.mono g1)
theorem lS_asg {f : Y.E} {g : Y.G} {vs : List Nat} : ∀ D σ H, lS G E (sAsg f g) D σ H → tAsg (lE G E f) (lG G E vs g) D σ H := by
  rintro D σ H ⟨S, F, ρ, loc, st, rp, l, o⟩
  refine ⟨S, F, ρ, loc, st, rp, l, out.imp (fun u H1 h1 => ?_) (out.bd (Rl := VR G) o)⟩
  obtain ⟨F1, ρ1, v, st1, g1, r1, vr, o1⟩ := h1
  refine ⟨S, F1, ρ1, loc, st1, v, r1, l.mono g1, vr, out.imp (fun σ2 H2 h2 => ?_) (out.bd (Rl := TR G vs σ) o1)⟩
  obtain ⟨F2, ρ2, loc2, st2, g2, r2, ⟨lr, _⟩, o2⟩ := h2
  exact out.at (v := (Fl.nx, loc2)) (u := FV.nx σ2) o2 r2 lr
theorem qs_asg {tg e : Expr} {f : Y.E} {g : Y.G} {vs : List Nat} {pos : Pos} (he : PE X e (lE G E f)) (hg : PG X tg (lG G E vs g)) (hs : swapsWithSole [tg] e pos.line X.env = pure false := by rfl) (hw : swappedStores [tg] e X.env = pure none := by rfl) (ha : List.map (fun x => x.snd) (assignEach [tg] X.env) = [assign tg X.env] := by rfl) :
    PS X (.Assign [tg] e pos) (lS G E (sAsg f g)) := PS.imp (ps_asg he hg hs hw ha) lS_asg
theorem lS_asgN {f : Y.E} {i : Nat} : ∀ D σ H, lS G E (sAsg f (gN i)) D σ H → tAsg (lE G E f) (gName i) D σ H := by
  rintro D σ H ⟨S, F, ρ, loc, st, rp, l, o⟩
  refine ⟨S, F, ρ, loc, st, rp, l, out.imp (fun u H1 h1 => ?_) (out.bd (Rl := VR G) o)⟩
  obtain ⟨F1, ρ1, v, st1, g1, r1, vr, o1⟩ := h1
  exact out.at (v := (Fl.nx, loc.set i (some v))) (u := FV.nx (σ.set i (some u))) o1 r1 ((l.mono g1).set vr i)
theorem qs_set (i : Nat) {x : Str} {e : Expr} {f : Y.E} {pos pos' : Pos} (hN : X.N.Nodup) (hi : X.N[i]? = some x) (hx : L2.Loc X.env.scope x) (he : PE X e (lE G E f)) (hs : swapsWith e (some (.Name x pos')) pos.line X.env = pure false := by rfl) (hf : X.fn x = true ∨ X.env.scope.names.lookup x = some .local := by first | exact .inl rfl | exact .inr rfl | assumption) :
    PS X (.Assign [.Name x pos'] e pos) (lS G E (sAsg f (gN i))) := PS.imp (ps_set hN hi hx he hs hf) lS_asgN
theorem qs_setLc (i : Nat) {y : Str} {py : Pos} {elt tgt iter : Expr} {ifs : List Expr} {scope : Scope} {own : List (Str × Nat)} {pos spos : Pos} {it : Y.I} {g : Y.G} {t : Tst} {e : Y.E} (hc : X.calm = true) (hN : X.N.Nodup) (hy : X.N[i]? = some y) (hyl : X.env.scope.names.lookup y = some .local)
    (hsw : swapsWith (.ListComp elt [⟨tgt, iter, ifs, 0⟩] scope pos) (some (.Name y py)) spos.line X.env = pure true) (hi : PI X tgt iter (lI G E it)) (ok : BlkOk X.N X.env.scope scope own)
    (hg : ∀ (s : Shared) (H : Hp) (C : Addr) (cl : List (Str × Addr)) (fp : List Addr), PG (X.blk s H scope (compEnvC scope cl C X.env) fp) tgt (lG G EF (own.map (·.2)) g)) (ht : ∀ (s : Shared) (H : Hp) (C : Addr) (cl : List (Str × Addr)) (fp : List Addr), PTs (X.blk s H scope (compEnvC scope cl C X.env) fp) ifs (lT G EF t))
    (he : ∀ (s : Shared) (H : Hp) (C : Addr) (cl : List (Str × Addr)) (fp : List Addr), PE (X.blk s H scope (compEnvC scope cl C X.env) fp) elt (lE G EF e)) (hs : ∀ x, foldedSetIterable iter X.env x = pure x := by intro _; rfl) :
    PS X (.Assign [.Name y py] (.ListComp elt [⟨tgt, iter, ifs, 0⟩] scope pos) spos) (lS G E (sAsg (eLc it g t e (own.map (·.2))) (gN i))) := by
  refine PS.imp (ps_setLc hc hN hy hyl hsw hi ok hg ht he hs) fun D σ H h => ?_
  exact lE_lc σ H _ (lS_asgN D σ H h)
theorem qs_par (i j : Nat) {x y : Str} {a b : Expr} {fa fb : Y.E} {px py pt pt2 pos : Pos} {kt k2 : Nat} (hc : X.calm = true) (hN : X.N.Nodup) (hi : X.N[i]? = some x) (hj : X.N[j]? = some y) (hij : i ≠ j) (hx : X.env.scope.names.lookup x = some .local) (hy : X.env.scope.names.lookup y = some .local) (ha : PA X [a, b] (lA G E (aC fa (aC fb aN))))
    (hsw : swappedStores [.Tuple [.Name x px, .Name y py] kt pt] (.Tuple [a, b] k2 pt2) X.env = pure (some [x, y])) (hso : swapsWithSole [.Tuple [.Name x px, .Name y py] kt pt] (.Tuple [a, b] k2 pt2) pos.line X.env = pure false := by rfl) :
    PS X (.Assign [.Tuple [.Name x px, .Name y py] kt pt] (.Tuple [a, b] k2 pt2) pos) (lS G E (sPar i j fa fb)) := by
  refine PS.imp (ps_par hc hN hi hj hij hx hy ha hsw hso) fun D σ H ⟨S, F, ρ, loc, st, rp, l, o⟩ => ⟨S, F, ρ, loc, st, rp, l, ?_⟩
  have o' : out G S F ρ (FR G) (endQ D) E (bd (aC fa (aC fb aN) loc) (fun vs => match vs with | [v, w] => ret (Fl.nx, (loc.set i (some v)).set j (some w)) | _ => die) st) := by
    have e : bd (aC fa (aC fb aN) loc) (fun vs => match vs with | [v, w] => ret (Fl.nx, (loc.set i (some v)).set j (some w)) | _ => die) st = sPar i j fa fb loc st := by
      unfold aC aN sPar bd ret
      cases fa loc st with
      | bad => rfl
      | ex _ _ => rfl
      | ok v s =>
        dsimp only
        cases fb loc s with
        | bad => rfl
        | ex _ _ => rfl
        | ok w s' => rfl
    rw [e]
    exact o
  refine out.imp (fun us H1 h1 => ?_) (out.bd (Rl := VRs G) o')
  obtain ⟨F1, ρ1, vs, st1, g1, r1, vr, o1⟩ := h1
  cases vr with
  | nil => exact o1.elim
  | cons h hr =>
    cases hr with
    | nil => exact o1.elim
    | @cons w w' _ _ h' hr' =>
      cases hr' with
      | cons _ _ => exact o1.elim
      | nil =>
        rename_i u v
        exact ⟨u, w, rfl, out.at (v := (Fl.nx, (loc.set i (some v)).set j (some w'))) (u := FV.nx ((σ.set i (some u)).set j (some w))) o1 r1 (((l.mono g1).set h i).set h' j)⟩
theorem qs_if {c : Expr} {a b : List Stmt} {t : Tst} {f g : Y.S} {pos : Pos} (hc : PT X c (lT G E t)) (ha : PSs X a (lS G E f)) (hb : PSs X b (lS G E g)) : PS X (.If c a b pos) (lS G E (sIf t f g)) := by
  refine PS.imp (ps_if hc ha hb) fun D σ H ⟨S, F, ρ, loc, st, rp, l, o⟩ => ⟨S, F, ρ, loc, st, rp, l, out.imp (fun u H1 h1 => ?_) (out.bd (Rl := BR) o)⟩
  obtain ⟨F1, ρ1, v, st1, g1, r1, vr, o1⟩ := h1
  cases vr
  cases u with
  | true => exact ⟨S, F1, ρ1, loc, st1, r1, l.mono g1, o1⟩
  | false => exact ⟨S, F1, ρ1, loc, st1, r1, l.mono g1, o1⟩
theorem qs_brk {pos : Pos} : PS X (.Break pos) (lS G E sBrk) := PS.imp ps_break fun D σ H ⟨S, F, ρ, loc, st, rp, l, o⟩ => out.at (v := (Fl.bk, loc)) (u := FV.bk σ) o rp l
theorem qs_cnt {pos : Pos} : PS X (.Continue pos) (lS G E sCnt) := PS.imp ps_continue fun D σ H ⟨S, F, ρ, loc, st, rp, l, o⟩ => out.at (v := (Fl.ct, loc)) (u := FV.ct σ) o rp l
theorem qs_pass {pos : Pos} : PS X (.Pass pos) (lS G E sNil) := PS.imp ps_pass fun D σ H ⟨S, F, ρ, loc, st, rp, l, o⟩ => out.at (v := (Fl.nx, loc)) (u := FV.nx σ) o rp l
/-- raise of the c-th class -/
theorem qs_raise {W : WX} {e : Expr} {pos : Pos} {c : Nat} (hc : X.calm = true) (tk : L2N.Takes X W) (he : L2N.PMk X e (fun _ H Q => Q (.ref (G.cl c)) none H)) (hW : ∀ cls d σ H, E cls d H → W cls d σ H) : PS X (.Raise (some e) none pos) (lS G E (sRaise c)) := by
  refine PS.imp (L2N.ps_raise hc tk he) fun D σ H ⟨S, F, ρ, loc, st, rp, l, o⟩ => ?_
  have o' : out G S F ρ (FR G) (endQ D) E (.ex c st) := o
  exact hW _ _ _ _ (o' F ρ H Gr.refl rp)
/-! ### loops -/
theorem lS_for {it : Y.I} {g : Y.G} {b : Y.S} {vs : List Nat} : ∀ D σ H, lS G E (sFor it g b) D σ H → tFor (lI G E it) (lG G E vs g) (lS G E b) D σ H := by
  rintro D σ H ⟨S, F, ρ, loc, st, rp, l, o⟩
  refine ⟨S, F, ρ, loc, st, rp, l, out.imp (fun J H1 h1 => ?_) (out.bd (Rl := JR G) o)⟩
  obtain ⟨F1, ρ1, xs, st1, g1, r1, jw, o1⟩ := h1
  refine ⟨fun i m σ2 H2 => m = xs.length - i ∧ i ≤ xs.length ∧ ∃ F2 ρ2 loc2 st2, Gr F1 ρ1 F2 ρ2 ∧ Rep G S F2 ρ2 H2 st2 ∧ LR G F2 ρ2 σ2 loc2 ∧ out G S F2 ρ2 (FR G) (endQ D) E (forL (fBody g b) (xs.drop i) loc2 st2), ⟨xs.length, by simp, Nat.zero_le _, F1, ρ1, loc, st1, Gr.refl, r1, l.mono g1, o1⟩, ?_⟩
  rintro i m σ2 H2 ⟨rfl, hi, F2, ρ2, loc2, st2, g2, r2, l2, o2⟩
  have ex2 : Exn F1 H2 := fun a o h => r2.ex a o (g2.f a o h)
  by_cases hlt : i < xs.length
  · refine .inr ⟨jw.goes i H2 hlt ex2, fun σ3 H3 => ∃ F3 ρ3 loc3 st3, Gr F1 ρ1 F3 ρ3 ∧ Rep G S F3 ρ3 H3 st3 ∧ LR G F3 ρ3 σ3 loc3 ∧ out G S F3 ρ3 (FR G) (endQ D) E (forL (fBody g b) (xs.drop (i + 1)) loc3 st3), fun σ' H' p => ⟨xs.length - (i + 1), by omega, rfl, hlt, p⟩, fun x H' yl => ?_⟩
    have hx : xs[i]? = some xs[i] := List.getElem?_eq_getElem hlt
    have hd : xs.drop i = xs[i] :: xs.drop (i + 1) := List.drop_eq_getElem_cons hlt
    obtain ⟨F3, g3, r3, v3⟩ := turn_rep jw g2 r2 hx yl
    rw [hd] at o2
    have o3 : out G S F2 ρ2 (FR G) (endQ D) E (bd (g xs[i] loc2) (fun l3 => bd (b l3) fun r => match r.1 with
      | .nx => forL (fBody g b) (xs.drop (i + 1)) r.2
      | .ct => forL (fBody g b) (xs.drop (i + 1)) r.2
      | .bk => ret (.nx, r.2)
      | .rt v => ret (.rt v, r.2)) st2) := by
      have e : bd (g xs[i] loc2) (fun l3 => bd (b l3) fun r => match r.1 with
        | .nx => forL (fBody g b) (xs.drop (i + 1)) r.2
        | .ct => forL (fBody g b) (xs.drop (i + 1)) r.2
        | .bk => ret (.nx, r.2)
        | .rt v => ret (.rt v, r.2)) st2 = forL (fBody g b) (xs[i] :: xs.drop (i + 1)) loc2 st2 := by
        show _ = bd (bd (g xs[i] loc2) b) _ st2
        unfold bd
        cases g xs[i] loc2 st2 with
        | bad => rfl
        | ex _ _ => rfl
        | ok v s => rfl
      rw [e]
      exact o2
    refine ⟨S, F3, ρ2, loc2, st2, xs[i], r3, l2.mono g3, v3, out.imp (fun σ4 H4 h4 => ?_) (out.bd (Rl := TR G vs σ2) (out.mono g3 o3))⟩
    obtain ⟨F4, ρ4, loc4, st4, g4, r4, ⟨l4, _⟩, o4⟩ := h4
    refine ⟨S, F4, ρ4, loc4, st4, r4, l4, out.imp (fun u H5 h5 => ?_) (out.bd (Rl := FR G) o4)⟩
    obtain ⟨F5, ρ5, ⟨fl, loc5⟩, st5, g5, r5, fr, o5⟩ := h5
    have gg : Gr F1 ρ1 F5 ρ5 := ((g2.trans g3).trans g4).trans g5
    cases u with
    | nx σ5 =>
      cases fl with
      | nx => exact ⟨F5, ρ5, loc5, st5, gg, r5, fr, o5⟩
      | bk => exact fr.elim
      | ct => exact fr.elim
      | rt v => exact fr.elim
    | ct σ5 =>
      cases fl with
      | ct => exact ⟨F5, ρ5, loc5, st5, gg, r5, fr, o5⟩
      | bk => exact fr.elim
      | nx => exact fr.elim
      | rt v => exact fr.elim
    | bk σ5 =>
      cases fl with
      | bk => exact out.at (v := (Fl.nx, loc5)) (u := FV.nx σ5) o5 r5 fr
      | ct => exact fr.elim
      | nx => exact fr.elim
      | rt v => exact fr.elim
    | rt w =>
      cases fl with
      | rt v => exact out.at (v := (Fl.rt v, loc5)) (u := FV.rt w) o5 r5 fr
      | ct => exact fr.elim
      | nx => exact fr.elim
      | bk => exact fr.elim
  · have e : i = xs.length := by omega
    subst e
    refine .inl ⟨jw.stops H2 ex2, ?_⟩
    rw [List.drop_length] at o2
    exact out.at (v := (Fl.nx, loc2)) (u := FV.nx σ2) o2 r2 l2
theorem forO_chk {k : Nat} {xs0 xs : List Val} {body : Val → Y.S} {loc : Loc} {st : Store} {S F : Hp} {ρ : List Addr} {D : Ends} (o : out G S F ρ (FR G) (endQ D) E (forO k xs0 body xs loc st)) : st[k]? = some (.lst xs0) := by
  cases xs with
  | nil =>
    unfold forO at o
    by_cases h : st[k]? = some (.lst xs0)
    · exact h
    · rw [if_neg h] at o
      exact o.elim
  | cons x xs =>
    unfold forO at o
    by_cases h : st[k]? = some (.lst xs0)
    · exact h
    · rw [if_neg h] at o
      exact o.elim
theorem lS_forO {e : Y.E} {g : Y.G} {b : Y.S} {vs : List Nat} : ∀ D σ H, lS G E (sForO e g b) D σ H → tFor (iList G.K (lE G E e)) (lG G E vs g) (lS G E b) D σ H := by
  rintro D σ H ⟨S, F, ρ, loc, st, rp, l, o⟩
  refine ⟨S, F, ρ, loc, st, rp, l, out.imp (fun u H1 h1 => ?_) (out.bd (Rl := VR G) o)⟩
  obtain ⟨F1, ρ1, v, st1, g1, r1, vr, o1⟩ := h1
  cases v with
  | d _ => exact o1.elim
  | s _ => exact o1.elim
  | o k =>
    have o1 : out G S F1 ρ1 (FR G) (endQ D) E (bd (getL (.o k)) (fun p => forO p.1 p.2 (fBody g b) p.2 loc) st1) := o1
    unfold bd getL at o1
    cases q : st1[k]? with
    | none => simp only [q] at o1; exact o1.elim
    | some ob =>
      simp only [q] at o1
      cases ob with
      | ins _ _ => exact o1.elim
      | gone => exact o1.elim
      | tup _ => exact o1.elim
      | dct _ => exact o1.elim
      | dcf _ => exact o1.elim
      | exc _ => exact o1.elim
      | lst xs =>
        dsimp only at o1
        obtain ⟨a, ha, rfl⟩ := vr
        have sq : ∀ {F2 : Hp} {ρ2 : List Addr} {H2 : Hp} {st2 : Store}, Gr F1 ρ1 F2 ρ2 → Rep G S F2 ρ2 H2 st2 → st2[k]? = some (.lst xs) → ∃ us, H2 a = some (.lst us) ∧ VRs G F2 ρ2 us xs := fun {F2 ρ2 H2 st2} g2 r2 e => by
          obtain ⟨a', h', q1, q3, q4, us, q5, q6⟩ := r2.own k _ e
          rw [g2.get ha] at q1
          cases q1
          subst q5
          exact ⟨us, q4, q6⟩
        obtain ⟨us, hus, _⟩ := sq Gr.refl r1 q
        refine ⟨a, rfl, ⟨us, SqL.of hus⟩, ?_⟩
        refine ⟨fun i m σ2 H2 => m = xs.length - i ∧ i ≤ xs.length ∧ ∃ F2 ρ2 loc2 st2, Gr F1 ρ1 F2 ρ2 ∧ Rep G S F2 ρ2 H2 st2 ∧ LR G F2 ρ2 σ2 loc2 ∧ out G S F2 ρ2 (FR G) (endQ D) E (forO k xs (fBody g b) (xs.drop i) loc2 st2), ⟨xs.length, by simp, Nat.zero_le _, F1, ρ1, loc, st1, Gr.refl, r1, l.mono g1, o1⟩, ?_⟩
        rintro i m σ2 H2 ⟨rfl, hi, F2, ρ2, loc2, st2, g2, r2, l2, o2⟩
        have hst := forO_chk o2
        obtain ⟨ws, hws, hv⟩ := sq g2 r2 hst
        have hwl := hv.length
        by_cases hlt : i < xs.length
        · refine .inr ⟨⟨ws, ws[i]'(by omega), SqL.of hws, by simp⟩, fun σ3 H3 => ∃ F3 ρ3 loc3 st3, Gr F1 ρ1 F3 ρ3 ∧ Rep G S F3 ρ3 H3 st3 ∧ LR G F3 ρ3 σ3 loc3 ∧ out G S F3 ρ3 (FR G) (endQ D) E (forO k xs (fBody g b) (xs.drop (i + 1)) loc3 st3), fun σ' H' p => ⟨xs.length - (i + 1), by omega, rfl, hlt, p⟩, fun x H' yl => ?_⟩
          have hx : xs[i]? = some xs[i] := List.getElem?_eq_getElem hlt
          have hd : xs.drop i = xs[i] :: xs.drop (i + 1) := List.drop_eq_getElem_cons hlt
          obtain ⟨rfl, hyl⟩ := yl
          have hxw := hyl ws (SqL.of hws)
          have get : ∀ {vs : List V} {as : List Val} {i : Nat} {v : Val}, VRs G F2 ρ2 vs as → as[i]? = some v → ∃ u, vs[i]? = some u ∧ VR G F2 ρ2 u v := by
            intro vs as i v h
            induction h generalizing i with
            | nil => intro e; simp at e
            | cons r _ ih =>
              intro e
              cases i with
              | zero => simp at e; subst e; exact ⟨_, rfl, r⟩
              | succ i => simpa using ih (by simpa using e)
          obtain ⟨u', hu', v3⟩ := get hv hx
          rw [hxw] at hu'
          cases hu'
          rw [hd] at o2
          unfold forO at o2
          rw [if_pos hst] at o2
          have o3 : out G S F2 ρ2 (FR G) (endQ D) E (bd (g xs[i] loc2) (fun l3 => bd (b l3) fun r => match r.1 with
            | .nx => forO k xs (fBody g b) (xs.drop (i + 1)) r.2
            | .ct => forO k xs (fBody g b) (xs.drop (i + 1)) r.2
            | .bk => ret (.nx, r.2)
            | .rt v => ret (.rt v, r.2)) st2) := by
            have e : bd (g xs[i] loc2) (fun l3 => bd (b l3) fun r => match r.1 with
              | .nx => forO k xs (fBody g b) (xs.drop (i + 1)) r.2
              | .ct => forO k xs (fBody g b) (xs.drop (i + 1)) r.2
              | .bk => ret (.nx, r.2)
              | .rt v => ret (.rt v, r.2)) st2 = bd (fBody g b xs[i] loc2) (fun r => match r.1 with
              | .nx => forO k xs (fBody g b) (xs.drop (i + 1)) r.2
              | .ct => forO k xs (fBody g b) (xs.drop (i + 1)) r.2
              | .bk => ret (.nx, r.2)
              | .rt v => ret (.rt v, r.2)) st2 := by
              unfold fBody bd
              cases g xs[i] loc2 st2 with
              | bad => rfl
              | ex _ _ => rfl
              | ok v s => rfl
            rw [e]
            exact o2
          refine ⟨S, F2, ρ2, loc2, st2, xs[i], r2, l2, v3, out.imp (fun σ4 H4 h4 => ?_) (out.bd (Rl := TR G vs σ2) o3)⟩
          obtain ⟨F4, ρ4, loc4, st4, g4, r4, ⟨l4, _⟩, o4⟩ := h4
          refine ⟨S, F4, ρ4, loc4, st4, r4, l4, out.imp (fun u H5 h5 => ?_) (out.bd (Rl := FR G) o4)⟩
          obtain ⟨F5, ρ5, ⟨fl, loc5⟩, st5, g5, r5, fr, o5⟩ := h5
          have gg : Gr F1 ρ1 F5 ρ5 := (g2.trans g4).trans g5
          cases u with
          | nx σ5 =>
            cases fl with
            | nx => exact ⟨F5, ρ5, loc5, st5, gg, r5, fr, o5⟩
            | bk => exact fr.elim
            | ct => exact fr.elim
            | rt v => exact fr.elim
          | ct σ5 =>
            cases fl with
            | ct => exact ⟨F5, ρ5, loc5, st5, gg, r5, fr, o5⟩
            | bk => exact fr.elim
            | nx => exact fr.elim
            | rt v => exact fr.elim
          | bk σ5 =>
            cases fl with
            | bk => exact out.at (v := (Fl.nx, loc5)) (u := FV.nx σ5) o5 r5 fr
            | ct => exact fr.elim
            | nx => exact fr.elim
            | rt v => exact fr.elim
          | rt w =>
            cases fl with
            | rt v => exact out.at (v := (Fl.rt v, loc5)) (u := FV.rt w) o5 r5 fr
            | ct => exact fr.elim
            | nx => exact fr.elim
            | bk => exact fr.elim
        · have e : i = xs.length := by omega
          subst e
          refine .inl ⟨⟨ws, SqL.of hws, by omega⟩, ?_⟩
          rw [List.drop_length] at o2
          unfold forO at o2
          rw [if_pos hst] at o2
          exact out.at (v := (Fl.nx, loc2)) (u := FV.nx σ2) o2 r2 l2
theorem qs_forO {tg iter : Expr} {body : List Stmt} {e : Y.E} {g : Y.G} {b : Y.S} {vs : List Nat} {pos : Pos} (hp : PassesOwn (model X.prog X.w) X.A X.env X.xe) (hc : X.calm = true) (hi : PE X iter (lE G E e)) (hg : PG X tg (lG G E vs g)) (hb : PSs X body (lS G E b)) (hs : ∀ x, foldedSetIterable iter X.env x = pure x := by intro _; rfl) (hK : X.K = G.K := by rfl) :
    PS X (.For tg iter body [] pos) (lS G E (sForO e g b)) := by
  refine PS.imp (ps_for hp hc (pi_list hi) hg hb hs) fun D σ H h => ?_
  rw [hK]
  exact lS_forO D σ H h
theorem qs_for {tg iter : Expr} {body : List Stmt} {it : Y.I} {g : Y.G} {b : Y.S} {vs : List Nat} {pos : Pos} (hp : PassesOwn (model X.prog X.w) X.A X.env X.xe) (hc : X.calm = true) (hi : PI X tg iter (lI G E it)) (hg : PG X tg (lG G E vs g)) (hb : PSs X body (lS G E b)) (hs : ∀ x, foldedSetIterable iter X.env x = pure x := by intro _; rfl) :
    PS X (.For tg iter body [] pos) (lS G E (sFor it g b)) := PS.imp (ps_for hp hc hi hg hb hs) lS_for
theorem lS_while {t : Tst} {b : Y.S} : ∀ D σ H, lS G E (sWhile t b) D σ H → tWhile (lT G E t) (lS G E b) D σ H := by
  rintro D σ H ⟨S, F, ρ, loc, st, rp, l, o⟩
  have o' : ∃ n, out G S F ρ (FR G) (endQ D) E (whl t b n loc st) := by
    unfold sWhile at o
    split at o
    · rename_i h
      exact ⟨h.choose, o⟩
    · exact o.elim
  obtain ⟨n, o1⟩ := o'
  refine ⟨fun m σ2 H2 => ∃ F2 ρ2 loc2 st2, Gr F ρ F2 ρ2 ∧ Rep G S F2 ρ2 H2 st2 ∧ LR G F2 ρ2 σ2 loc2 ∧ out G S F2 ρ2 (FR G) (endQ D) E (whl t b m loc2 st2), ⟨n, F, ρ, loc, st, Gr.refl, rp, l, o1⟩, ?_⟩
  rintro m σ2 H2 ⟨F2, ρ2, loc2, st2, g2, r2, l2, o2⟩
  cases m with
  | zero => exact o2.elim
  | succ m =>
    refine ⟨S, F2, ρ2, loc2, st2, r2, l2, out.imp (fun c H3 h3 => ?_) (out.bd (Rl := BR) o2)⟩
    obtain ⟨F3, ρ3, v, st3, g3, r3, vr, o3⟩ := h3
    cases vr
    cases c with
    | false => exact out.at (v := (Fl.nx, loc2)) (u := FV.nx σ2) o3 r3 (l2.mono g3)
    | true =>
      refine ⟨fun σ4 H4 => ∃ F4 ρ4 loc4 st4, Gr F ρ F4 ρ4 ∧ Rep G S F4 ρ4 H4 st4 ∧ LR G F4 ρ4 σ4 loc4 ∧ out G S F4 ρ4 (FR G) (endQ D) E (whl t b m loc4 st4), fun σ' H' p => ⟨m, Nat.lt_succ_self m, p⟩, S, F3, ρ3, loc2, st3, r3, l2.mono g3, out.imp (fun u H5 h5 => ?_) (out.bd (Rl := FR G) o3)⟩
      obtain ⟨F5, ρ5, ⟨fl, loc5⟩, st5, g5, r5, fr, o5⟩ := h5
      have gg : Gr F ρ F5 ρ5 := (g2.trans g3).trans g5
      cases u with
      | nx σ5 =>
        cases fl with
        | nx => exact ⟨F5, ρ5, loc5, st5, gg, r5, fr, o5⟩
        | bk => exact fr.elim
        | ct => exact fr.elim
        | rt v => exact fr.elim
      | ct σ5 =>
        cases fl with
        | ct => exact ⟨F5, ρ5, loc5, st5, gg, r5, fr, o5⟩
        | bk => exact fr.elim
        | nx => exact fr.elim
        | rt v => exact fr.elim
      | bk σ5 =>
        cases fl with
        | bk => exact out.at (v := (Fl.nx, loc5)) (u := FV.nx σ5) o5 r5 fr
        | ct => exact fr.elim
        | nx => exact fr.elim
        | rt v => exact fr.elim
      | rt w =>
        cases fl with
        | rt v => exact out.at (v := (Fl.rt v, loc5)) (u := FV.rt w) o5 r5 fr
        | ct => exact fr.elim
        | nx => exact fr.elim
        | bk => exact fr.elim
theorem qs_while {c : Expr} {body : List Stmt} {t : Tst} {b : Y.S} {pos : Pos} (hp : PassesOwn (model X.prog X.w) X.A X.env X.xe) (hc : PT X c (lT G E t)) (hb : PSs X body (lS G E b)) : PS X (.While c body [] pos) (lS G E (sWhile t b)) := PS.imp (ps_while hp hc hb) lS_while
end
/-! ### a def by its body -/
section
variable {P : Program} {w : World} {K : PySem.W.Frag} {mg : Str → Option Value} {base : Heap} {G : Glo}
theorem lr_start {F : Hp} {ρ : List Addr} {vs : List V} {as : List Val} {N : List Str} (h : VRs G F ρ vs as) (hl : as.length ≤ N.length) : LR G F ρ (L2.start N vs) (as.map some ++ List.replicate (N.length - as.length) none) := by
  have hv := h.length
  unfold L2.start
  refine ⟨by rw [List.length_append, List.length_append, List.length_map, List.length_map, List.length_replicate, List.length_replicate, hv], fun i v e => ?_⟩
  by_cases hi : i < as.length
  · rw [List.getElem?_append_left (by rw [List.length_map]; exact hi), List.getElem?_map] at e
    rw [List.getElem?_append_left (by rw [List.length_map]; omega), List.getElem?_map]
    have get : ∀ {vs : List V} {as : List Val} {i : Nat} {v : Val}, VRs G F ρ vs as → as[i]? = some v → ∃ u, vs[i]? = some u ∧ VR G F ρ u v := by
      intro vs as i v h
      induction h generalizing i with
      | nil => intro e; simp at e
      | cons r _ ih =>
        intro e
        cases i with
        | zero => simp at e; subst e; exact ⟨_, rfl, r⟩
        | succ i => simpa using ih (by simpa using e)
    cases q : as[i]? with
    | none => rw [q] at e; cases e
    | some a =>
      rw [q] at e
      cases e
      obtain ⟨u, h1, h2⟩ := get h q
      exact ⟨u, by rw [h1]; rfl, h2⟩
  · rw [List.getElem?_append_right (by rw [List.length_map]; omega), List.getElem?_replicate] at e
    split at e <;> cases e
/-- the promise of a def whose body reads as b -/
theorem fn_body {N : List Str} {b : Y.S} {n : Nat} {vs : List V} {H : Hp} {Q : VK} {E : XK} (hn : n ≤ N.length) (h : spF G n (runF N.length b) vs H Q E) : lS G E b { nx := fun _ H' => Q .non H', rt := Q } (L2.start N vs) H := by
  obtain ⟨S, F, ρ, st, as, rp, vr, hl, o⟩ := h
  refine ⟨S, F, ρ, _, st, rp, lr_start vr (by omega), out.imp (fun u H1 h1 => ?_) (out.bd (Rl := FR G) o)⟩
  obtain ⟨F1, ρ1, ⟨fl, loc1⟩, st1, g1, r1, fr, o1⟩ := h1
  cases u with
  | nx σ1 =>
    cases fl with
    | nx => exact out.at (v := Val.d .none) (u := V.non) o1 r1 .non
    | bk => exact fr.elim
    | ct => exact fr.elim
    | rt v => exact fr.elim
  | bk σ1 =>
    cases fl with
    | bk => exact o1.elim
    | nx => exact fr.elim
    | ct => exact fr.elim
    | rt v => exact fr.elim
  | ct σ1 =>
    cases fl with
    | ct => exact o1.elim
    | nx => exact fr.elim
    | bk => exact fr.elim
    | rt v => exact fr.elim
  | rt w =>
    cases fl with
    | rt v => exact out.at (v := v) (u := w) o1 r1 fr
    | nx => exact fr.elim
    | bk => exact fr.elim
    | ct => exact fr.elim
theorem fn_ok {x qual : Str} {st : Stmt} {f : Addr} {fd : FuncData} {N ps : List Str} {k n : Nat} {b : Y.S} (Fn : Fun K x qual st f fd) (Sc : FnScope N ps (defScope st)) (hn : n = ps.length) (hN : n ≤ N.length)
    (hb : ∀ (cdv : Value) (A : Around) (outer : List Env) (s : Shared) (H : Hp) (E : XK), Room k (A.deeper (envOfC qual (defScope st) s.heap.objs.size f cdv)) → PSs (cxOf (L2N.CX P w) P w K mg base N qual (defScope st) f cdv A outer s H E) (defBody st) (lS G E b)) :
    FnOk P w K mg base (L2N.CX P w) (k + 1) f fd ps (spF G n (runF N.length b)) := by
  obtain ⟨oc, od, kV, doc, pm, an, cdv, ct, osl, rfl, lk, hcd⟩ := Fn.ex
  refine fn_of lk hcd Sc (fun vs H Q E h => ?_) fun A outer s H vs Q E hr h => ⟨lS G E b, hb cdv A outer s H E hr, fn_body hN h⟩
  obtain ⟨S, F, ρ, st, as, rp, vr, hl, o⟩ := h
  rw [vr.length, hl, hn]
end
/-- what a def of the program lets out -/
theorem pasE {X : Cx} {E : XK} (tk : L2N.Takes X (fun cls d _ H => E cls d H)) : ∀ σ, PassesAt (L2N.CX X.prog X.w) X σ E := fun σ => L2N.passAt tk σ
theorem pasF {X : Cx} : ∀ σ, PassesAt (L2N.CX X.prog X.w) X σ EF := fun _ _ _ _ _ _ _ h => by
  obtain ⟨_, _, _, _, _, _, _, _, _, _, _, _, z⟩ := h
  exact z.elim
end Y
end
section
set_option Elab.async false
set_option Elab.async false
set_option linter.all false
set_option maxRecDepth 100000
set_option maxHeartbeats 1000000
/-! Ops: the operators and built-ins of Sem are sound. -/
namespace L2
open PySem PySem.Spec PyProof.Rows
/-! ### t * 1 is t -/
theorem tuple_mul1 (l : Addr) (items : Array Value) (n : Nat) (dd : Option Addr) (sl : Array (Option Value)) (u : Tok) :
    Meets (Builtin.«tuple.__mul__» ⟨[.ref l, .int 1 u], []⟩) (fun _ R s => s.heap.get? l = some { cls := .type "tuple", dict := dd, data := .seq items n, slots := sl } ∧
      R (.ok (.ret (Value.ref l))) s) :=
  .of_wp fun prog w A R s h => by
    obtain ⟨hp, g, d, tk, os⟩ := s
    obtain ⟨hl, h⟩ := h
    have f1 := AutoSeq1.idx_int
    have c1 : (items.isEmpty || (1 : Int) == 1) = true := by simp
    wp_walk using wpAny_loadPart' hl
    repeat (first
      | (refine wpAny_ite_false (decide_eq_false (by decide)) ?_; wp_walk using wpAny_loadPart' hl)
      | (refine wpAny_ite_true (decide_eq_true (by rw [c1])) ?_; wp_walk using wpAny_loadPart' hl))
    exact ⟨_, rfl, h⟩
def rRepT1 (K : PySem.W.Frag) : R2 := fun x y H Q => ∃ l xs, x = .ref l ∧ y = .int 1 ∧ SqT K H l xs ∧ Q (.ref l) H
section
variable {X : Cx}
theorem op_repT1 : OpR X (binaryOp .Mult) (rRepT1 X.K) := by
  intro pins s σ H x y v u Q I rx ry h
  obtain ⟨l, xs, rfl, rfl, hT, q⟩ := h
  cases rx
  obtain ⟨t, rfl⟩ := ry
  obtain ⟨its, r, ⟨⟨cls, dd, data, sl⟩, ho, hc, n, hd⟩, hs⟩ := I.tuple hT
  simp only at hc hd
  subst hc hd
  refine wpAny_binaryOp_repeat_ref (T := "tuple") (U := "int") (by decide) ⟨_, ho, rfl⟩ (fun s' => typeIs_int s' 1 t) noFill_tuple_mul F.fills_int_mul F.slot_int_rmul repeat_tuple F.slot_int_index.lookup
    (call_meets F.slot_int_rmul (typeIs_int s 1 t) F.entry_int_rmul (F.args_int_rmul_2 _ _) (int_rmul_tuple 1 t l its.toArray n dd sl)
      ⟨ho, rfl, ⟨_, ho, rfl⟩, call_meets F.slot_tuple_mul ⟨_, ho, rfl⟩ F.entry_tuple_mul (F.args_tuple_mul_2 _ _) (tuple_mul1 l its.toArray n dd sl t) ⟨ho, ?_⟩⟩)
  exact ⟨.ref l, H, I, rfl, q⟩
/-- * of ints as Sem has it -/
theorem op_mulA : OpR X (binaryOp .Mult) (rI (fun i j => Y.mulOk i j = true) fun i j => .int (i * j)) := opI fun i j _ _ _ _ _ hc q => by
  refine mul_int q ?_
  unfold Y.mulOk at hc
  rw [Bool.or_eq_true, Bool.or_eq_true] at hc
  rcases hc with (hc | hc) | hc
  · have := of_decide_eq_true hc
    exact .of_left (intBits_le_64 (by omega) (by omega))
  · have := of_decide_eq_true hc
    exact .of_right (intBits_le_64 (by omega) (by omega))
  · have h : i.natAbs.log2 + j.natAbs.log2 < 1000000 := of_decide_eq_true hc
    exact CMulW.ok h
end
end L2
namespace Y
open PySem PySem.Spec PyProof.Rows L2
section
variable {X : Cx} {G : Glo}
theorem dt_int {F : Hp} {u : V} {i : Int} (h : Dt F u (.int i)) : u = .int i := by
  cases h with
  | int _ => rfl
theorem dt_str {F : Hp} {u : V} {i : Str} (h : Dt F u (.str i)) : u = .str i := by
  cases h with
  | str _ => rfl
theorem dt_list {F : Hp} {u : V} {ds : List D} (h : Dt F u (.list ds)) : ∃ a xs, u = .ref a ∧ F a = some (.lst xs) ∧ DtA F xs ds := by
  cases h with
  | lst a b => exact ⟨_, _, rfl, a, b⟩
theorem dt_tup {F : Hp} {u : V} {ds : List D} (h : Dt F u (.tuple ds)) : ∃ a xs, u = .ref a ∧ F a = some (.tup xs) ∧ DtA F xs ds := by
  cases h with
  | tup a b => exact ⟨_, _, rfl, a, b⟩
/-! ### + -/
def rAddA (K : PySem.W.Frag) : R2 := fun x y H Q => rI0 (fun i j => .int (i + j)) x y H Q ∨ rCat x y H Q ∨ rCatA K x y H Q ∨ (∃ i j, x = .str i ∧ y = .str j ∧ i.length + j.length ≤ sizeLine ∧ Q (.str (i ++ j)) H)
theorem op_addA : OpR X (binaryOp .Add) (rAddA X.K) := op_add.or (op_cat.or (op_catA.or op_add_str))
theorem bAdd_snd : OSnd G (rAddA G.K) bAdd := by
  intro S F ρ H st x y a b Q E rp hx hy o
  unfold bAdd at o
  split at o
  · rename_i i j
    rw [dt_int hx, dt_int hy]
    exact .inl ⟨i, j, rfl, rfl, out.at (v := vI (i + j)) o rp (.int _)⟩
  · rename_i xs ys
    obtain ⟨a, us, rfl, ha, hu⟩ := dt_list hx
    obtain ⟨b, ws, rfl, hb, hw⟩ := dt_list hy
    by_cases hl : xs.length + ys.length ≤ lim
    · rw [if_pos hl] at o
      exact .inr (.inl ⟨a, b, us, ws, rfl, rfl, rp.ex _ _ ha, rp.ex _ _ hb, sz (by rw [hu.length, hw.length]; exact hl), fun p hp => out_lst rp (hu.append hw) o p hp⟩)
    · rw [if_neg hl] at o
      exact o.elim
  · rename_i xs ys
    obtain ⟨a, us, rfl, ha, hu⟩ := dt_tup hx
    obtain ⟨b, ws, rfl, hb, hw⟩ := dt_tup hy
    by_cases hl : xs.length + ys.length ≤ lim
    · rw [if_pos hl] at o
      refine .inr (.inr (.inl ⟨a, b, us, ws, rfl, rfl, SqT.of (rp.ex _ _ ha), SqT.of (rp.ex _ _ hb), sz (by rw [hu.length, hw.length]; exact hl), fun e => ?_, fun _ e => ?_, fun _ _ p hp => out_tup rp (hu.append hw) o p hp⟩))
      · subst e
        cases hu
        exact out.at (v := Val.d (.tuple ys)) o rp (Dt.tup hb hw)
      · subst e
        cases hw
        rw [List.append_nil] at o
        exact out.at (v := Val.d (.tuple xs)) o rp (Dt.tup ha hu)
    · rw [if_neg hl] at o
      exact o.elim
  · rename_i i j
    rw [dt_str hx, dt_str hy]
    by_cases hl : i.length + j.length ≤ lim
    · rw [if_pos hl] at o
      exact .inr (.inr (.inr ⟨i, j, rfl, rfl, sz hl, out.at (v := Val.d (.str (i ++ j))) o rp (.str _)⟩))
    · rw [if_neg hl] at o
      exact o.elim
  · exact o.elim
theorem bSub_snd : OSnd G (rI0 fun i j => .int (i - j)) bSub := by
  intro S F ρ H st x y a b Q E rp hx hy o
  unfold bSub at o
  split at o
  · rename_i i j
    rw [dt_int hx, dt_int hy]
    exact ⟨i, j, rfl, rfl, out.at (v := vI (i - j)) o rp (.int _)⟩
  · exact o.elim
/-! ### * -/
def rMulA (K : PySem.W.Frag) : R2 := fun x y H Q => rI (fun i j => Y.mulOk i j = true) (fun i j => .int (i * j)) x y H Q ∨ rRep x y H Q ∨ rRepT K x y H Q ∨ rRepT1 K x y H Q
theorem op_mulAll : OpR X (binaryOp .Mult) (rMulA X.K) := op_mulA.or (op_rep.or (op_repT.or op_repT1))
theorem bMul_snd : OSnd G (rMulA G.K) bMul := by
  intro S F ρ H st x y a b Q E rp hx hy o
  unfold bMul at o
  split at o
  · rename_i i j
    rw [dt_int hx, dt_int hy]
    by_cases hc : mulOk i j = true
    · rw [if_pos hc] at o
      exact .inl ⟨i, j, rfl, rfl, hc, out.at (v := vI (i * j)) o rp (.int _)⟩
    · rw [if_neg hc] at o
      exact o.elim
  · rename_i xs k
    obtain ⟨a, us, rfl, ha, hu⟩ := dt_list hx
    rw [dt_int hy]
    by_cases hl : -1000 ≤ k ∧ k ≤ 1000 ∧ xs.length ≤ 1000
    · rw [if_pos hl] at o
      refine .inr (.inl ⟨a, k, us, rfl, rfl, rp.ex _ _ ha, by omega, by omega, ?_, fun p hp => out_lst rp (hu.rep k.toNat) o p hp⟩)
      rw [hu.length, sizeLine_eq]
      have : xs.length * k.toNat ≤ 1000 * 1000 := Nat.mul_le_mul (by omega) (by omega)
      omega
    · rw [if_neg hl] at o
      exact o.elim
  · rename_i xs k
    obtain ⟨a, us, rfl, ha, hu⟩ := dt_tup hx
    rw [dt_int hy]
    by_cases hl : 1 ≤ k ∧ k ≤ 1000 ∧ 1 ≤ xs.length ∧ xs.length ≤ 1000
    · rw [if_pos hl] at o
      by_cases h1 : k = 1
      · subst h1
        refine .inr (.inr (.inr ⟨a, us, rfl, rfl, SqT.of (rp.ex _ _ ha), out.at (v := Val.d (.tuple (repD 1 xs))) o rp ?_⟩))
        have e : repD 1 xs = xs := by
          unfold repD
          show (List.replicate 1 xs).flatten = xs
          simp
        rw [e]
        exact Dt.tup ha hu
      · refine .inr (.inr (.inl ⟨a, k, us, rfl, rfl, SqT.of (rp.ex _ _ ha), fun e => ?_, by omega, hl.2.1, by rw [hu.length]; exact hl.2.2.2, fun p hp => out_tup rp (hu.rep k.toNat) o p hp⟩))
        have := hu.length
        rw [e] at this
        have h3 := hl.2.2.1
        simp at this
        omega
    · rw [if_neg hl] at o
      exact o.elim
  · exact o.elim
theorem bDiv_snd : OSnd G (rI CDivW fun i j => .int (i / j)) bDiv := by
  intro S F ρ H st x y a b Q E rp hx hy o
  unfold bDiv at o
  split at o
  · rename_i i j
    rw [dt_int hx, dt_int hy]
    by_cases hc : 0 < j ∧ j.natAbs.log2 < 9000
    · rw [if_pos hc] at o
      exact ⟨i, j, rfl, rfl, hc, out.at (v := vI (i / j)) o rp (.int _)⟩
    · rw [if_neg hc] at o
      exact o.elim
  · exact o.elim
theorem bMod_snd : OSnd G (rI (fun _ j => 0 < j) fun i j => .int (i % j)) bMod := by
  intro S F ρ H st x y a b Q E rp hx hy o
  unfold bMod at o
  split at o
  · rename_i i j
    rw [dt_int hx, dt_int hy]
    by_cases hc : 0 < j
    · rw [if_pos hc] at o
      exact ⟨i, j, rfl, rfl, hc, out.at (v := vI (i % j)) o rp (.int _)⟩
    · rw [if_neg hc] at o
      exact o.elim
  · exact o.elim
theorem bPow_snd : OSnd G (rI CPow fun i j => .int (i ^ j.toNat)) bPow := by
  intro S F ρ H st x y a b Q E rp hx hy o
  unfold bPow at o
  split at o
  · rename_i i j
    rw [dt_int hx, dt_int hy]
    by_cases hc : 0 ≤ j ∧ j ≤ 1000000 ∧ i.natAbs < 2 ^ 64
    · rw [if_pos hc] at o
      exact ⟨i, j, rfl, rfl, hc, out.at (v := vI (i ^ j.toNat)) o rp (.int _)⟩
    · rw [if_neg hc] at o
      exact o.elim
  · exact o.elim
theorem bNeg_snd : USnd G (rU fun i => .int (-i)) bNeg := by
  intro S F ρ H st x a Q E rp hx o
  unfold bNeg at o
  split at o
  · rename_i i
    rw [dt_int hx]
    exact ⟨i, rfl, out.at (v := vI (-i)) o rp (.int _)⟩
  · exact o.elim
theorem bCmp_snd {p : Int → Int → Bool} : OSnd G (rI0 fun i j => .bl (p i j)) (bCmp p) := by
  intro S F ρ H st x y a b Q E rp hx hy o
  unfold bCmp at o
  split at o
  · rename_i i j
    rw [dt_int hx, dt_int hy]
    exact ⟨i, j, rfl, rfl, out.at (v := vB (p i j)) o rp (.bl _)⟩
  · exact o.elim
/-! ### == -/
theorem ints_dp {K : PySem.W.Frag} {H : Hp} : ∀ ns : List Int, DpAll K H (ns.map V.int) (intsD ns)
  | [] => .nil
  | n :: ns => .cons (.int n) (ints_dp ns)
mutual
theorem Dp.mono {K : PySem.W.Frag} {F H : Hp} (e : Exn F H) : ∀ {v : V} {d : D}, Dp K F v d → Dp K H v d
  | _, _, .non => .non
  | _, _, .bl b => .bl b
  | _, _, .int i => .int i
  | _, _, .str x => .str x
  | _, _, .lst h k => .lst (Evl.ex_l e h) (DpAll.mono e k)
  | _, _, .tup h k => .tup (Evl.ex_t e h) (DpAll.mono e k)
theorem DpAll.mono {K : PySem.W.Frag} {F H : Hp} (e : Exn F H) : ∀ {v : List V} {d : List D}, DpAll K F v d → DpAll K H v d
  | _, _, .nil => .nil
  | _, _, .cons h k => .cons (Dp.mono e h) (DpAll.mono e k)
end
theorem snap_dp {S F : Hp} {ρ : List Addr} {H : Hp} {st : Store} {x : V} {a : Val} {d : D} {s : Store} (rp : Rep G S F ρ H st) (h : VR G F ρ x a) (e : snap a st = .ok d s) : s = st ∧ Dp G.K H x d := by
  cases a with
  | d y =>
    have e' : R.ok y st = R.ok d s := e
    injection e' with e1 e2
    subst e1 e2
    exact ⟨rfl, Dp.mono rp.ex (Dt.dp h)⟩
  | s ns =>
    have e' : R.ok (PyData.list (intsD ns)) st = R.ok d s := e
    injection e' with e1 e2
    subst e1 e2
    obtain ⟨a, rfl, hs⟩ := h
    exact ⟨rfl, .lst (Evl.ex_l rp.ex hs) (ints_dp ns)⟩
  | o k =>
    unfold snap at e
    obtain ⟨a, ha, rfl⟩ := h
    cases q : st[k]? with
    | none => simp only [q] at e; cases e
    | some ob =>
      simp only [q] at e
      cases ob with
      | ins _ _ => cases e
      | gone => cases e
      | tup _ => cases e
      | dct _ => cases e
      | dcf _ => cases e
      | exc _ => cases e
      | lst xs =>
        dsimp only at e
        cases q2 : toDs xs with
        | none => rw [q2] at e; cases e
        | some ds =>
          rw [q2] at e
          have e' : R.ok (PyData.list ds) st = R.ok d s := e
          injection e' with e1 e2
          subst e1 e2
          obtain ⟨a', h', q1, q3, q4, vs, q5, q6⟩ := rp.own k _ q
          rw [ha] at q1
          cases q1
          subst q5
          exact ⟨rfl, .lst (SqL.of q4) (DpAll.mono rp.ex (DtA.dp (toDs_rel q6 q2)))⟩
theorem bEq_snd : OSnd G (rEqD G.K) bEq := by
  intro S F ρ H st x y a b Q E rp hx hy o
  unfold bEq bd at o
  cases e1 : snap a st with
  | bad => rw [e1] at o; exact o.elim
  | ex c s =>
    exfalso
    cases a with
    | d _ => cases e1
    | s _ => cases e1
    | o k =>
      unfold snap at e1
      revert e1
      dsimp only
      split
      · split <;> (intro z; cases z)
      · intro z; cases z
  | ok d s =>
    rw [e1] at o
    obtain ⟨rfl, hd⟩ := snap_dp rp hx e1
    dsimp only at o
    cases e2 : snap b s with
    | bad => rw [e2] at o; exact o.elim
    | ex c s' =>
      exfalso
      cases b with
      | d _ => cases e2
      | s _ => cases e2
      | o k =>
        unfold snap at e2
        revert e2
        dsimp only
        split
        · split <;> (intro z; cases z)
        · intro z; cases z
    | ok d' s' =>
      rw [e2] at o
      obtain ⟨rfl, hd'⟩ := snap_dp rp hy e2
      dsimp only at o
      unfold eqD at o
      by_cases hs : SeqAt.shaped d = true ∧ SeqAt.shaped d' = true
      · rw [if_pos hs] at o
        exact ⟨d, d', hd, hd', hs.1, hs.2, out.at (v := vB (PyData.eqv d d')) o rp (.bl _)⟩
      · rw [if_neg hs] at o
        exact o.elim
theorem bNe_snd : OSnd G (rNeD G.K) bNe := by
  intro S F ρ H st x y a b Q E rp hx hy o
  unfold bNe bd at o
  cases e1 : snap a st with
  | bad => rw [e1] at o; exact o.elim
  | ex c s =>
    exfalso
    cases a with
    | d _ => cases e1
    | s _ => cases e1
    | o k =>
      unfold snap at e1
      revert e1
      dsimp only
      split
      · split <;> (intro z; cases z)
      · intro z; cases z
  | ok d s =>
    rw [e1] at o
    obtain ⟨rfl, hd⟩ := snap_dp rp hx e1
    dsimp only at o
    cases e2 : snap b s with
    | bad => rw [e2] at o; exact o.elim
    | ex c s' =>
      exfalso
      cases b with
      | d _ => cases e2
      | s _ => cases e2
      | o k =>
        unfold snap at e2
        revert e2
        dsimp only
        split
        · split <;> (intro z; cases z)
        · intro z; cases z
    | ok d' s' =>
      rw [e2] at o
      obtain ⟨rfl, hd'⟩ := snap_dp rp hy e2
      dsimp only at o
      unfold eqD at o
      by_cases hs : SeqAt.shaped d = true ∧ SeqAt.shaped d' = true
      · rw [if_pos hs] at o
        exact ⟨d, d', hd, hd', hs.1, hs.2, out.at (v := vB (!PyData.eqv d d')) o rp (.bl _)⟩
      · rw [if_neg hs] at o
        exact o.elim
/-! ### is None -/
theorem isN_iff {F : Hp} {ρ : List Addr} {x : V} {a : Val} (h : VR G F ρ x a) : decide (x = .non) = isN a := by
  cases a with
  | o k =>
    obtain ⟨a, _, rfl⟩ := h
    rfl
  | s ns =>
    obtain ⟨a, rfl, _⟩ := h
    rfl
  | d y =>
    have h : Dt F x y := h
    cases h <;> rfl
theorem qe_isN {E : XK} {a : Expr} {f : Y.E} {j : Nat} {pos pos' : Pos} (h : PE X a (lE G E f)) : PE X (.Compare a [.Is] [.Constant .none j pos'] pos) (lE G E (eU bIsN f)) := by
  refine PE.imp (pe_cmp (pc_isN h)) fun σ H Q ⟨S, F, ρ, loc, st, rp, l, o⟩ => ⟨S, F, ρ, loc, st, rp, l, out.imp (fun x H1 h1 => ?_) (out.bd (Rl := VR G) o)⟩
  obtain ⟨F1, ρ1, a, st1, g1, r1, v1, o1⟩ := h1
  rw [isN_iff v1]
  exact out.at (v := vB (isN a)) o1 r1 (.bl _)
theorem qe_notN {E : XK} {a : Expr} {f : Y.E} {j : Nat} {pos pos' : Pos} (h : PE X a (lE G E f)) : PE X (.Compare a [.IsNot] [.Constant .none j pos'] pos) (lE G E (eU bNotN f)) := by
  refine PE.imp (pe_cmp (pc_notN h)) fun σ H Q ⟨S, F, ρ, loc, st, rp, l, o⟩ => ⟨S, F, ρ, loc, st, rp, l, out.imp (fun x H1 h1 => ?_) (out.bd (Rl := VR G) o)⟩
  obtain ⟨F1, ρ1, a, st1, g1, r1, v1, o1⟩ := h1
  rw [isN_iff v1]
  exact out.at (v := vB (!isN a)) o1 r1 (.bl _)
theorem qt_isN {E : XK} {a : Expr} {f : Y.E} {j : Nat} {pos pos' : Pos} (h : PE X a (lE G E f)) : PT X (.Compare a [.Is] [.Constant .none j pos'] pos) (lT G E (tV (eU bIsN f))) := by
  refine PT.imp (pt_cmp (pc_isN h)) fun σ H Q ⟨S, F, ρ, loc, st, rp, l, o⟩ => ⟨S, F, ρ, loc, st, rp, l, ?_⟩
  have e : tV (eU bIsN f) loc st = bd (f loc) (fun a => ret (isN a)) st := by
    unfold tV eU bd
    cases f loc st <;> rfl
  rw [e] at o
  refine out.imp (fun x H1 h1 => ?_) (out.bd (Rl := VR G) o)
  obtain ⟨F1, ρ1, a, st1, g1, r1, v1, o1⟩ := h1
  exact ⟨isN a, by rw [isN_iff v1], out.at (v := isN a) o1 r1 rfl⟩
theorem qt_notN {E : XK} {a : Expr} {f : Y.E} {j : Nat} {pos pos' : Pos} (h : PE X a (lE G E f)) : PT X (.Compare a [.IsNot] [.Constant .none j pos'] pos) (lT G E (tV (eU bNotN f))) := by
  refine PT.imp (pt_cmp (pc_notN h)) fun σ H Q ⟨S, F, ρ, loc, st, rp, l, o⟩ => ⟨S, F, ρ, loc, st, rp, l, ?_⟩
  have e : tV (eU bNotN f) loc st = bd (f loc) (fun a => ret (!isN a)) st := by
    unfold tV eU bd
    cases f loc st <;> rfl
  rw [e] at o
  refine out.imp (fun x H1 h1 => ?_) (out.bd (Rl := VR G) o)
  obtain ⟨F1, ρ1, a, st1, g1, r1, v1, o1⟩ := h1
  exact ⟨!isN a, by rw [isN_iff v1], out.at (v := !isN a) o1 r1 rfl⟩
/-! ### items -/
theorem ixN_eq (n : Nat) (i : Int) : Y.ixN n i = L2.ixN n i := rfl
theorem atI_dt {F : Hp} {us : List V} {ds : List D} {i : Int} {d : D} (h : DtA F us ds) (e : Y.atI ds i = some d) : ∃ u, L2.atI us i = some u ∧ Dt F u d := by
  unfold Y.atI at e
  unfold L2.atI
  rw [h.length, ← ixN_eq]
  cases q : Y.ixN ds.length i with
  | none => rw [q] at e; cases e
  | some j =>
    rw [q] at e
    exact h.get e
theorem vrs_get {F : Hp} {ρ : List Addr} {vs : List V} {as : List Val} {i : Nat} {v : Val} (h : VRs G F ρ vs as) : as[i]? = some v → ∃ u, vs[i]? = some u ∧ VR G F ρ u v := by
  induction h generalizing i with
  | nil => intro e; simp at e
  | cons r _ ih =>
    intro e
    cases i with
    | zero => simp at e; subst e; exact ⟨_, rfl, r⟩
    | succ i => simpa using ih (by simpa using e)
theorem atI_vr {F : Hp} {ρ : List Addr} {us : List V} {ds : List Val} {i : Int} {d : Val} (h : VRs G F ρ us ds) (e : Y.atI ds i = some d) : ∃ u, L2.atI us i = some u ∧ VR G F ρ u d := by
  unfold Y.atI at e
  unfold L2.atI
  rw [h.length, ← ixN_eq]
  cases q : Y.ixN ds.length i with
  | none => rw [q] at e; cases e
  | some j =>
    rw [q] at e
    exact vrs_get h e
theorem own_lst {S F : Hp} {ρ : List Addr} {H : Hp} {st : Store} {x : V} {k : Nat} {xs : List Val} (rp : Rep G S F ρ H st) (h : VR G F ρ x (.o k)) (q : st[k]? = some (.lst xs)) : ∃ a vs, x = .ref a ∧ ρ[k]? = some a ∧ H a = some (.lst vs) ∧ VRs G F ρ vs xs := by
  obtain ⟨a, ha, rfl⟩ := h
  obtain ⟨a', h', q1, q3, q4, vs, q5, q6⟩ := rp.own k _ q
  rw [ha] at q1
  cases q1
  subst q5
  exact ⟨a, vs, rfl, ha, q4, q6⟩
theorem bIx_snd : OSnd G (rIx G.K) bIx := by
  intro S F ρ H st x y a b Q E rp hx hy o
  unfold bIx at o
  split at o
  · rename_i xs i
    obtain ⟨a, us, rfl, ha, hu⟩ := dt_list hx
    rw [dt_int hy]
    cases q : Y.atI xs i with
    | none => rw [q] at o; exact o.elim
    | some d =>
      rw [q] at o
      obtain ⟨u, h1, h2⟩ := atI_dt hu q
      exact .inl ⟨a, us, i, u, rfl, rfl, SqL.of (rp.ex _ _ ha), h1, out.at (v := Val.d d) o rp h2⟩
  · rename_i xs i
    obtain ⟨a, us, rfl, ha, hu⟩ := dt_tup hx
    rw [dt_int hy]
    cases q : Y.atI xs i with
    | none => rw [q] at o; exact o.elim
    | some d =>
      rw [q] at o
      obtain ⟨u, h1, h2⟩ := atI_dt hu q
      exact .inr (.inl ⟨a, us, i, u, rfl, rfl, SqT.of (rp.ex _ _ ha), h1, out.at (v := Val.d d) o rp h2⟩)
  · rename_i ns i
    obtain ⟨a, rfl, hs⟩ := hx
    rw [dt_int hy]
    cases q : Y.atI ns i with
    | none => rw [q] at o; exact o.elim
    | some d =>
      rw [q] at o
      refine .inl ⟨a, ns.map V.int, i, .int d, rfl, rfl, Evl.ex_l rp.ex hs, ?_, out.at (v := vI d) o rp (.int d)⟩
      unfold Y.atI at q
      unfold L2.atI
      rw [List.length_map, ← ixN_eq]
      cases q2 : Y.ixN ns.length i with
      | none => rw [q2] at q; cases q
      | some j =>
        rw [q2] at q
        show (ns.map V.int)[j]? = _
        have q : ns[j]? = some d := q
        rw [List.getElem?_map, q] <;> rfl
  · rename_i k i
    rw [dt_int hy]
    cases q : st[k]? with
    | none => simp only [q] at o; exact o.elim
    | some ob =>
      simp only [q] at o
      cases ob with
      | ins _ _ => exact o.elim
      | gone => exact o.elim
      | tup _ => exact o.elim
      | dct _ => exact o.elim
      | dcf _ => exact o.elim
      | exc _ => exact o.elim
      | lst xs =>
        dsimp only at o
        obtain ⟨a, vs, rfl, ha, hh, hv⟩ := own_lst rp hx q
        cases q2 : Y.atI xs i with
        | none => rw [q2] at o; exact o.elim
        | some d =>
          rw [q2] at o
          obtain ⟨u, h1, h2⟩ := atI_vr hv q2
          exact .inl ⟨a, vs, i, u, rfl, rfl, SqL.of hh, h1, out.at (v := d) o rp h2⟩
  · exact o.elim
/-! ### built-ins -/
theorem bLen_snd : BSnd G (fun xs H Q => ∃ p ys, xs = [.ref p] ∧ (SqL G.K H p ys ∨ SqT G.K H p ys) ∧ Q (.int ys.length) H) bLen := by
  intro S F ρ H st xs as Q E rp hx o
  unfold bLen at o
  split at o
  · rename_i ds
    cases hx with
    | cons h hr =>
      cases hr
      obtain ⟨a, us, rfl, ha, hu⟩ := dt_list h
      refine ⟨a, us, rfl, .inl (SqL.of (rp.ex _ _ ha)), ?_⟩
      rw [hu.length]
      exact out.at (v := vI ds.length) o rp (.int _)
  · rename_i ds
    cases hx with
    | cons h hr =>
      cases hr
      obtain ⟨a, us, rfl, ha, hu⟩ := dt_tup h
      refine ⟨a, us, rfl, .inr (SqT.of (rp.ex _ _ ha)), ?_⟩
      rw [hu.length]
      exact out.at (v := vI ds.length) o rp (.int _)
  · rename_i ns
    cases hx with
    | cons h hr =>
      cases hr
      obtain ⟨a, rfl, hs⟩ := h
      refine ⟨a, ns.map V.int, rfl, .inl (Evl.ex_l rp.ex hs), ?_⟩
      rw [List.length_map]
      exact out.at (v := vI ns.length) o rp (.int _)
  · rename_i k
    cases hx with
    | cons h hr =>
      cases hr
      cases q : st[k]? with
      | none => simp only [q] at o; exact o.elim
      | some ob =>
        simp only [q] at o
        cases ob with
        | ins _ _ => exact o.elim
        | gone => exact o.elim
        | tup _ => exact o.elim
        | dct _ => exact o.elim
        | dcf _ => exact o.elim
        | exc _ => exact o.elim
        | lst ys =>
          dsimp only at o
          obtain ⟨a, vs, rfl, ha, hh, hv⟩ := own_lst rp h q
          refine ⟨a, vs, rfl, .inl (SqL.of hh), ?_⟩
          rw [hv.length]
          exact out.at (v := vI ys.length) o rp (.int _)
  · exact o.elim
theorem toBs_rel {F : Hp} : ∀ {us : List V} {ds : List D} {bs : List Bool}, DtA F us ds → toBs ds = some bs → us = bs.map V.bl
  | _, [], bs, .nil, e => by
    cases e
    rfl
  | _, d :: r, bs, .cons h k, e => by
    cases d with
    | bool b =>
      unfold toBs at e
      cases q : toBs r with
      | none => rw [q] at e; cases e
      | some es =>
        rw [q] at e
        cases e
        cases h
        rw [toBs_rel k q]
        rfl
    | none => cases e
    | int _ => cases e
    | str _ => cases e
    | list _ => cases e
    | tuple _ => cases e
    | dict _ => cases e
theorem toIs_rel {F : Hp} : ∀ {us : List V} {ds : List D} {bs : List Int}, DtA F us ds → toIs ds = some bs → us = bs.map V.int
  | _, [], bs, .nil, e => by
    cases e
    rfl
  | _, d :: r, bs, .cons h k, e => by
    cases d with
    | int b =>
      unfold toIs at e
      cases q : toIs r with
      | none => rw [q] at e; cases e
      | some es =>
        rw [q] at e
        cases e
        cases h
        rw [toIs_rel k q]
        rfl
    | none => cases e
    | bool _ => cases e
    | str _ => cases e
    | list _ => cases e
    | tuple _ => cases e
    | dict _ => cases e
theorem bAll_snd : BSnd G (rAll G.K) bAll := by
  intro S F ρ H st xs as Q E rp hx o
  unfold bAll at o
  split at o
  · rename_i ds
    cases hx with
    | cons h hr =>
      cases hr
      obtain ⟨a, us, rfl, ha, hu⟩ := dt_list h
      cases q : toBs ds with
      | none => rw [q] at o; exact o.elim
      | some bs =>
        rw [q] at o
        have e := toBs_rel hu q
        subst e
        exact ⟨a, bs, rfl, SqL.of (rp.ex _ _ ha), out.at (v := vB (bs.all id)) o rp (.bl _)⟩
  · exact o.elim
theorem bAny_snd : BSnd G (rAny G.K) bAny := by
  intro S F ρ H st xs as Q E rp hx o
  unfold bAny at o
  split at o
  · rename_i ds
    cases hx with
    | cons h hr =>
      cases hr
      obtain ⟨a, us, rfl, ha, hu⟩ := dt_list h
      cases q : toBs ds with
      | none => rw [q] at o; exact o.elim
      | some bs =>
        rw [q] at o
        have e := toBs_rel hu q
        subst e
        exact ⟨a, bs, rfl, SqL.of (rp.ex _ _ ha), out.at (v := vB (bs.any id)) o rp (.bl _)⟩
  · exact o.elim
theorem bSum_snd : BSnd G (rSum G.K) bSum := by
  intro S F ρ H st xs as Q E rp hx o
  unfold bSum at o
  split at o
  · rename_i ds
    cases hx with
    | cons h hr =>
      cases hr
      obtain ⟨a, us, rfl, ha, hu⟩ := dt_list h
      cases q : toIs ds with
      | none => rw [q] at o; exact o.elim
      | some bs =>
        rw [q] at o
        have e := toIs_rel hu q
        subst e
        exact ⟨a, bs, rfl, SqL.of (rp.ex _ _ ha), out.at (v := vI bs.sum) o rp (.int _)⟩
  · exact o.elim
theorem bTuple_snd : BSnd G (fun xs H Q => ∃ p ys, xs = [.ref p] ∧ ((SqL G.K H p ys ∧ ∀ l, H l = none → Q (.ref l) (upd H l (.tup ys))) ∨ (SqT G.K H p ys ∧ Q (.ref p) H))) bTuple := by
  intro S F ρ H st xs as Q E rp hx o
  unfold bTuple at o
  split at o
  · rename_i ds
    cases hx with
    | cons h hr =>
      cases hr
      obtain ⟨a, us, rfl, ha, hu⟩ := dt_list h
      exact ⟨a, us, rfl, .inl ⟨SqL.of (rp.ex _ _ ha), fun p hp => out_tup rp hu o p hp⟩⟩
  · rename_i ds
    cases hx with
    | cons h hr =>
      cases hr
      have h0 := h
      obtain ⟨a, us, rfl, ha, hu⟩ := dt_tup h
      exact ⟨a, us, rfl, .inr ⟨SqT.of (rp.ex _ _ ha), out.at (v := Val.d (.tuple ds)) o rp h0⟩⟩
  · rename_i k
    cases hx with
    | cons h hr =>
      cases hr
      cases q : st[k]? with
      | none => simp only [q] at o; exact o.elim
      | some ob =>
        simp only [q] at o
        cases ob with
        | ins _ _ => exact o.elim
        | gone => exact o.elim
        | tup _ => exact o.elim
        | dct _ => exact o.elim
        | dcf _ => exact o.elim
        | exc _ => exact o.elim
        | lst ys =>
          dsimp only at o
          obtain ⟨a, vs, rfl, ha, hh, hv⟩ := own_lst rp h q
          cases q2 : toDs ys with
          | none => rw [q2] at o; exact o.elim
          | some ds =>
            rw [q2] at o
            exact ⟨a, vs, rfl, .inl ⟨SqL.of hh, fun p hp => out_tup rp (toDs_rel hv q2) o p hp⟩⟩
  · exact o.elim
theorem bMax2_snd : BSnd G (fun xs H Q => ∃ i j, xs = [.int i, .int j] ∧ Q (.int (if j > i then j else i)) H) bMax2 := by
  intro S F ρ H st xs as Q E rp hx o
  unfold bMax2 at o
  split at o
  · rename_i i j
    cases hx with
    | cons h hr =>
      cases hr with
      | cons h' hr' =>
        cases hr'
        rw [dt_int h, dt_int h']
        exact ⟨i, j, rfl, out.at (v := vI (if j > i then j else i)) o rp (.int _)⟩
  · exact o.elim
theorem bMin2_snd : BSnd G (fun xs H Q => ∃ i j, xs = [.int i, .int j] ∧ Q (.int (if j < i then j else i)) H) bMin2 := by
  intro S F ρ H st xs as Q E rp hx o
  unfold bMin2 at o
  split at o
  · rename_i i j
    cases hx with
    | cons h hr =>
      cases hr with
      | cons h' hr' =>
        cases hr'
        rw [dt_int h, dt_int h']
        exact ⟨i, j, rfl, out.at (v := vI (if j < i then j else i)) o rp (.int _)⟩
  · exact o.elim
/-! ### isinstance(e, T) -/
theorem kit_tys : ∀ T ∈ ["int", "bool", "tuple", "list", "str"], L2.kitB "NoneType" T = some false ∧ L2.kitB "bool" T = some (T == "int" || T == "bool") ∧ L2.kitB "int" T = some (T == "int") ∧ L2.kitB "str" T = some (T == "str") ∧ L2.kitB "list" T = some (T == "list") ∧ L2.kitB "tuple" T = some (T == "tuple") := by
  decide +kernel
theorem qe_isi {E : XK} {a : Expr} {f : Y.E} {T : String} {x : Str} {p q pos : Pos} (hT : T ∈ ["int", "bool", "tuple", "list", "str"]) (hg : Gl X "isinstance") (hm : X.mg "isinstance" = none) (hgT : Gl X x) (hmT : X.mg x = none) (hvT : bootBuiltins x = some (.type T)) (h : PE X a (lE G E f)) (hn : x ≠ "__name__" := by decide) (hd : (x == ("__debug__" : Str)) = false := by decide)
    (hs : starEach [a, .Name x q] X.env = (false, eval a X.env) :: starEach [.Name x q] X.env := by rfl) (hs2 : starEach [.Name x q] X.env = (false, eval (.Name x q) X.env) :: starEach [] X.env := by rfl) (hpl : (backTo pos (starEach [.Name x q] X.env)).any (·.1) = false := by rfl) (hK : X.K = G.K := by rfl) :
    PE X (.Call (.Name "isinstance" p) [a, .Name x q] [] pos) (lE G E (eU (bIsi T) f)) := by
  have hty : PE X (.Name x q) (tC (.ty T)) := pe_bltn hgT hmT hvT rfl hn hd
  refine PE.imp (pe_callB call_isi hg hm (by decide +kernel) (pa_cons h (pa_cons hty pa_nil hs2) hs) (by decide) (by decide) hs hpl) fun σ H Q ⟨S, F, ρ, loc, st, rp, l, o⟩ => ⟨S, F, ρ, loc, st, rp, l, out.imp (fun x H1 h1 => ?_) (out.bd (Rl := VR G) o)⟩
  obtain ⟨F1, ρ1, a, st1, g1, r1, v1, o1⟩ := h1
  obtain ⟨k1, k2, k3, k4, k5, k6⟩ := kit_tys T hT
  cases a with
  | o _ => exact o1.elim
  | s _ => exact o1.elim
  | d y =>
    have v1 : Dt F1 x y := v1
    cases v1 with
    | non => exact ⟨_, _, _, _, _, rfl, .ty T, .base .non, kit_ty k1, out.at (v := vB false) o1 r1 (.bl _)⟩
    | bl b => exact ⟨_, _, _, _, _, rfl, .ty T, .base (.bl b), kit_ty k2, out.at (v := vB (T == "int" || T == "bool")) o1 r1 (.bl _)⟩
    | int i => exact ⟨_, _, _, _, _, rfl, .ty T, .base (.int i), kit_ty k3, out.at (v := vB (T == "int")) o1 r1 (.bl _)⟩
    | str i => exact ⟨_, _, _, _, _, rfl, .ty T, .base (.str i), kit_ty k4, out.at (v := vB (T == "str")) o1 r1 (.bl _)⟩
    | lst ha hd => exact ⟨_, _, _, _, _, rfl, .ty T, .base (.lst (r1.ex _ _ ha)), kit_ty k5, out.at (v := vB (T == "list")) o1 r1 (.bl _)⟩
    | tup ha hd => exact ⟨_, _, _, _, _, rfl, .ty T, .base (.tup (r1.ex _ _ ha)), kit_ty k6, out.at (v := vB (T == "tuple")) o1 r1 (.bl _)⟩
/-! ### slices -/
theorem cut_dt {F : Hp} {us : List V} {ds : List D} (h : DtA F us ds) (lo hi : Option Int) : DtA F (cutV us lo hi) (cutD ds lo hi) := by
  unfold cutV cutD
  rw [h.length]
  exact (h.drop _).take _
def rSlAll (K : PySem.W.Frag) : V → Option Int → Option Int → Hp → VK → Prop := fun x lo hi H Q => rSlA K x lo hi H Q ∨ rSlL K x lo hi H Q
theorem sl_all : SlR X (rSlAll X.K) := sl_tupA.or sl_list
theorem bSl_snd : LSnd G (rSlAll G.K) bSl := by
  intro S F ρ H st x a lo hi Q E rp hx o
  unfold bSl at o
  split at o
  · rename_i xs
    have h0 := hx
    obtain ⟨a, us, rfl, ha, hu⟩ := dt_tup hx
    refine .inl ⟨a, us, rfl, SqT.of (rp.ex _ _ ha), fun hw => ?_, fun _ p hp => out_tup rp (cut_dt hu lo hi) o p hp⟩
    have e : cutD xs lo hi = xs := by
      unfold cutD
      have h1 : sIx xs.length 0 lo = 0 := by rw [← hu.length]; exact hw.1
      have h2 : sIx xs.length xs.length hi = xs.length := by rw [← hu.length]; exact hw.2
      rw [h1, h2]
      simp
    rw [e] at o
    exact out.at (v := Val.d (.tuple xs)) o rp h0
  · rename_i xs
    obtain ⟨a, us, rfl, ha, hu⟩ := dt_list hx
    exact .inr ⟨a, us, rfl, SqL.of (rp.ex _ _ ha), fun p hp => out_lst rp (cut_dt hu lo hi) o p hp⟩
  · exact o.elim
/-! ### o[i] = v, o.append(v) on objects of the store -/
theorem VRs.set {F : Hp} {ρ : List Addr} {u : V} {v : Val} (r : VR G F ρ u v) : ∀ {us : List V} {vs : List Val} (i : Nat), VRs G F ρ us vs → VRs G F ρ (us.set i u) (vs.set i v)
  | _, _, _, .nil => .nil
  | _, _, 0, .cons _ t => .cons r t
  | _, _, i + 1, .cons q t => .cons q (VRs.set r i t)
theorem qg_sub {E : XK} {vs : List Nat} {o i : Expr} {fo fi : Y.E} {pos : Pos} (ho : PE X o (lE G E fo)) (hi : PE X i (lE G E fi)) (ha : ∀ v, assign (.Subscript o i pos) X.env v = (do
      let ov ← holding [v] (eval o X.env)
      let iv ← holding [v, ov] (eval i X.env)
      standAt pos
      holding [v, ov, iv] (setItem ov iv v)
      release [v, ov, iv] []) := by intro _; rfl) : PG X (.Subscript o i pos) (lG G E vs (gSub fo fi)) := by
  refine PG.imp (pg_sub ho hi set_list ha) fun v σ H Q ⟨S, F, ρ, loc, st, x, rp, l, r, ou⟩ => ⟨S, F, ρ, loc, st, rp, l, out.imp (fun ov H1 h1 => ?_) (out.bd (Rl := VR G) ou)⟩
  obtain ⟨F1, ρ1, a, st1, g1, r1, v1, o1⟩ := h1
  refine ⟨S, F1, ρ1, loc, st1, r1, l.mono g1, out.imp (fun iv H2 h2 => ?_) (out.bd (Rl := VR G) o1)⟩
  obtain ⟨F2, ρ2, b, st2, g2, r2, v2, o2⟩ := h2
  have v1' := v1.mono g2
  have g12 := g1.trans g2
  dsimp only at o2
  split at o2
  · rename_i k j
    rw [dt_int v2]
    cases q : st2[k]? with
    | none => simp only [q] at o2; exact o2.elim
    | some ob =>
      simp only [q] at o2
      cases ob with
      | ins _ _ => exact o2.elim
      | gone => exact o2.elim
      | tup _ => exact o2.elim
      | dct _ => exact o2.elim
      | dcf _ => exact o2.elim
      | exc _ => exact o2.elim
      | lst ys =>
        dsimp only at o2
        obtain ⟨a, us, rfl, hk, hh, hv⟩ := own_lst r2 v1' q
        cases q2 : Y.ixN ys.length j with
        | none => rw [q2] at o2; exact o2.elim
        | some m =>
          rw [q2] at o2
          refine ⟨a, us, j, m, rfl, rfl, hh, by rw [← ixN_eq, hv.length]; exact q2, ?_⟩
          exact out.go (v := loc) o2 Gr.refl (r2.put' q hk hh trivial ⟨us.set m v, rfl, VRs.set (r.mono g12) m hv⟩) ⟨l.mono g12, rfl⟩
  · exact o2.elim
theorem qe_app {E : XK} {o e : Expr} {fo fe : Y.E} {apos cpos : Pos} (ho : PE X o (lE G E fo)) (he : PE X e (lE G E fe)) (hs0 : starEach [e] X.env = (false, eval e X.env) :: starEach [] X.env := by rfl) (hbase : attributeBase o "append" X.env (eval o X.env) = eval o X.env := by rfl)
    (hfew : ((backTo cpos (starEach [e] X.env)).all (fun x => !x.1) && (backToKw cpos (keywordEach [] X.env)).all (fun x => x.1.isSome) && decide (([e] : List Expr).length + ([] : List Keyword).length + (if ([] : List Keyword).isEmpty then 0 else 1) < 30)) = true := by rfl)
    (hline : (apos.endLine == cpos.line) = true := by rfl) : PE X (.Call (.Attribute o "append" apos) [e] [] cpos) (lE G E (eApp fo fe)) := by
  refine PE.imp (pe_bm PySem.F.plainAttrs_list PySem.F.slot_list_append PySem.F.type_list_append mt_append ho (pa_cons he pa_nil hs0) hbase hfew hline hs0 rfl) fun σ H Q ⟨S, F, ρ, loc, st, rp, l, ou⟩ => ⟨S, F, ρ, loc, st, rp, l, out.imp (fun ov H1 h1 => ?_) (out.bd (Rl := VR G) ou)⟩
  obtain ⟨F1, ρ1, a, st1, g1, r1, v1, o1⟩ := h1
  cases a with
  | d _ => exact o1.elim
  | s _ => exact o1.elim
  | o k =>
    have o1 : out G S F1 ρ1 (VR G) Q E (bd (chkL (.o k)) (fun k => bd (fe loc) fun v => appS k v) st1) := o1
    unfold chkL at o1
    unfold bd at o1
    cases q : st1[k]? with
    | none => simp only [q] at o1; exact o1.elim
    | some ob =>
      simp only [q] at o1
      cases ob with
      | ins _ _ => exact o1.elim
      | gone => exact o1.elim
      | tup _ => exact o1.elim
      | dct _ => exact o1.elim
      | dcf _ => exact o1.elim
      | exc _ => exact o1.elim
      | lst ys =>
        dsimp only at o1
        obtain ⟨a, us, rfl, hk, hh, hv⟩ := own_lst r1 v1 q
        refine ⟨.inl ⟨rfl, us, SqL.of hh⟩, S, F1, ρ1, loc, st1, r1, l.mono g1, out.imp (fun w H2 h2 => ?_) (out.bd (Rl := VR G) o1)⟩
        obtain ⟨F2, ρ2, b, st2, g2, r2, v2, o2⟩ := h2
        have v1' := v1.mono g2
        unfold appS at o2
        cases q2 : st2[k]? with
        | none => simp only [q2] at o2; exact o2.elim
        | some ob2 =>
          simp only [q2] at o2
          cases ob2 with
          | ins _ _ => exact o2.elim
          | gone => exact o2.elim
          | tup _ => exact o2.elim
          | dct _ => exact o2.elim
          | dcf _ => exact o2.elim
          | exc _ => exact o2.elim
          | lst zs =>
            dsimp only at o2
            obtain ⟨a', ws, e1, hk', hh', hv'⟩ := own_lst r2 v1' q2
            cases e1
            by_cases hl : zs.length < lim
            · rw [if_pos hl] at o2
              refine ⟨a, ws, w, rfl, rfl, hh', by rw [hv'.length]; exact sz' hl, ?_⟩
              exact out.go (v := Val.d .none) o2 Gr.refl (r2.put' q2 hk' hh' trivial ⟨ws ++ [w], rfl, Paired.snoc hv' v2⟩) .non
            · rw [if_neg hl] at o2
              exact o2.elim
end
end Y
end
section
set_option Elab.async false
set_option Elab.async false
set_option linter.all false
set_option maxRecDepth 100000
set_option maxHeartbeats 2000000
/-! Zp: zip of two, of three sequences, each a list or a tuple; enumerate of either. -/
namespace ZP
open PySem
def SIk (kd : Bool) (h : Heap) (it l : Addr) (i : Nat) : Prop := match kd with
  | true => h.IsTupleIter it l i
  | false => h.IsListIter it l i
def SAk (kd : Bool) (h : Heap) (l : Addr) (xs : Array Value) : Prop := match kd with
  | true => h.IsTuple l xs
  | false => h.IsList l xs
theorem SIk.obj {kd : Bool} {h : Heap} {it l : Addr} {i : Nat} (x : SIk kd h it l i) : ∃ o vs, h.get? it = some o ∧ o.data = .fields vs := by
  cases kd with
  | true => obtain ⟨o, e, _, d⟩ := x; exact ⟨o, _, e, d⟩
  | false => obtain ⟨o, e, _, d⟩ := x; exact ⟨o, _, e, d⟩
theorem SIk.at {kd : Bool} {h h' : Heap} {it l : Addr} {i : Nat} (x : SIk kd h it l i) (k : ∀ o, h.get? it = some o → h'.get? it = some o) : SIk kd h' it l i := by
  cases kd with
  | true => obtain ⟨o, e, c, d⟩ := x; exact ⟨o, k _ e, c, d⟩
  | false => obtain ⟨o, e, c, d⟩ := x; exact ⟨o, k _ e, c, d⟩
theorem SAk.at {kd : Bool} {h h' : Heap} {l : Addr} {xs : Array Value} (x : SAk kd h l xs) (k : ∀ o, h.get? l = some o → h'.get? l = some o) : SAk kd h' l xs := by
  cases kd with
  | true => obtain ⟨o, e, c, n, d⟩ := x; exact ⟨o, k _ e, c, n, d⟩
  | false => obtain ⟨o, e, c, n, d⟩ := x; exact ⟨o, k _ e, c, n, d⟩
theorem SAk.lt {kd : Bool} {h : Heap} {l : Addr} {xs : Array Value} (x : SAk kd h l xs) : l < h.objs.size := by
  cases kd with
  | true => obtain ⟨o, e, c, n, d⟩ := x; exact Heap.lt_size e
  | false => obtain ⟨o, e, c, n, d⟩ := x; exact Heap.lt_size e
def itObj (kd : Bool) (l : Addr) : Obj := match kd with
  | true => { cls := .type "tuple_iterator", data := .fields #[.ref l, .int 0 0] }
  | false => { cls := .type "list_iterator", data := .fields #[.ref l, .int 0 0] }
theorem itObj_freed (kd : Bool) (l : Addr) : (itObj kd l).isFreed = false := by cases kd <;> rfl
theorem SIk.start {kd : Bool} {h : Heap} {it l : Addr} (e : h.get? it = some (itObj kd l)) : SIk kd h it l 0 := by
  cases kd with
  | true => exact ⟨_, e, rfl, rfl⟩
  | false => exact ⟨_, e, rfl, rfl⟩
section
variable {prog : Program} {w : World} {A : Around} {E : Value → Shared → Prop} {s : Shared}
theorem nextOf_item {kd : Bool} {it l : Addr} {i : Nat} {items : Array Value} {x : Value} {Q : Value → Shared → Prop} (hit : SIk kd s.heap it l i) (hl : SAk kd s.heap l items) (hx : items[i]? = some x)
    (hQ : ∀ h', SIk kd h' it l (i + 1) → Heap.SameBut it s.heap h' → Q x { s with heap := h' }) : wpAny (model prog w) A (Builtin.SmallTypes.nextOf (.ref it)) Q E s := by
  cases kd with
  | true => exact RZ.nextOf_tuple_item hit hl hx hQ
  | false => exact wpAny_nextOf_list_item hit hl hx hQ
theorem nextOf_end {kd : Bool} {it l : Addr} {i : Nat} {items : Array Value} {Q : Value → Shared → Prop} (hh : A.handled = none) (hit : SIk kd s.heap it l i) (hl : SAk kd s.heap l items) (hx : items[i]? = none)
    (hE : ∀ h' e, Heap.ExtBut it s.heap h' → (∃ o, h'.get? e = some o ∧ o.cls = .type "StopIteration") → E (.ref e) { s with heap := h' }) : wpAny (model prog w) A (Builtin.SmallTypes.nextOf (.ref it)) Q E s := by
  cases kd with
  | true => exact RZ.nextOf_tuple_end hh hit hl hx hE
  | false => exact wpAny_nextOf_list_end hh hit hl hx hE
theorem pyIter_k {kd : Bool} {l : Addr} {items : Array Value} {Q : Value → Shared → Prop} (hl : SAk kd s.heap l items) (hQ : Q (.ref s.heap.objs.size) { s with heap := s.heap.push (itObj kd l) }) : wpAny (model prog w) A (pyIter (.ref l)) Q E s := by
  cases kd with
  | true => exact wpAny_pyIter_tuple hl hQ
  | false => exact wpAny_pyIter_list hl hQ
theorem updateSeq_t {T : Addr} {vs : Array Value} {x : Value} {k : Nat} {Q : Unit → Shared → Prop} (hT : s.heap.get? T = some { cls := .type "tuple", data := .seq vs })
    (h : ∀ h', h'.get? T = some { cls := .type "tuple", data := .seq (vs.setIfInBounds k x) } → Heap.SameBut T s.heap h' → Q () { s with heap := h' }) (h5 : vs.size ≤ 10 := by simp) :
    wpAny (model prog w) A (updateSeq T (·.setIfInBounds k x)) Q E s := by
  have z1 : vs.size ≤ sizeLine := by rw [sizeLine_eq]; omega
  have z2 : (vs.setIfInBounds k x).size ≤ sizeLine + 1 := by rw [Array.size_setIfInBounds]; omega
  refine wpAny_updateSeq hT rfl (h _ ?_ (Heap.SameBut.update ..)) z1 z2
  rw [Heap.get?_update_self _ hT rfl]
  simp [Obj.mapSeq]
end
abbrev IsT (h : Heap) (T : Addr) (vs : Array Value) : Prop := h.get? T = some { cls := .type "tuple", data := .seq vs }

structure Ap2 (z TI TO i1 i2 l1 l2 : Addr) : Prop where
  TIz : TI ≠ z
  TOz : TO ≠ z
  TOTI : TO ≠ TI
  i1z : i1 ≠ z
  i1TI : i1 ≠ TI
  i1TO : i1 ≠ TO
  i2z : i2 ≠ z
  i2TI : i2 ≠ TI
  i2TO : i2 ≠ TO
  i2i1 : i2 ≠ i1
  l1z : l1 ≠ z
  l1TO : l1 ≠ TO
  l1i1 : l1 ≠ i1
  l1i2 : l1 ≠ i2
  l2z : l2 ≠ z
  l2TO : l2 ≠ TO
  l2i1 : l2 ≠ i1
  l2i2 : l2 ≠ i2
section
variable {prog : Program} {w : World} {A : Around} {E : Value → Shared → Prop} {s : Shared}
theorem zip2_item {z TI TO i1 i2 l1 l2 : Addr} {d1 d2 : Bool} {k0 : Nat} {xs1 xs2 : Array Value} {a1 a2 : Value} {y1 y2 : Value} {Q : Value → Shared → Prop} (D : Ap2 z TI TO i1 i2 l1 l2)
    (hz : IsZip s.heap z TI TO .none) (hTI : IsT s.heap TI #[.ref i1, .ref i2]) (hTO : IsT s.heap TO #[a1, a2])
    (s1 : SIk d1 s.heap i1 l1 k0) (s2 : SIk d2 s.heap i2 l2 k0) (q1 : SAk d1 s.heap l1 xs1) (q2 : SAk d2 s.heap l2 xs2) (e1 : xs1[k0]? = some y1) (e2 : xs2[k0]? = some y2)
    (hQ : ∀ h', IsZip h' z TI TO (rawInt s.heap.objs.size) → IsT h' TO #[y1, y2] → SIk d1 h' i1 l1 (k0 + 1) → SIk d2 h' i2 l2 (k0 + 1) → IsT h' s.heap.objs.size #[y1, y2] → h'.objs.size = s.heap.objs.size + 1 →
      (∀ c o, c ≠ z → c ≠ TO → c ≠ i1 → c ≠ i2 → s.heap.get? c = some o → h'.get? c = some o) → Q (.ref s.heap.objs.size) { s with heap := h' }) :
    wpAny (model prog w) A (Builtin.«zip.__next__» ⟨[.ref z], []⟩) (fun fin s' => ∃ v, fin = .done (.ret v) ∧ Q v s') E s := by
  show wpAny _ _ (field (.ref z) 2 >>= _) _ _ _
  refine wpAny_bind (wpAny_field hz rfl (x := .bool false) rfl ?_)
  show wpAny _ _ (field (.ref z) 3 >>= _) _ _ _
  refine wpAny_bind (wpAny_field hz rfl (x := .ref TI) rfl ?_)
  refine wpAny_bind (wpAny_seqItems hTI rfl ?_)
  show wpAny _ _ (Builtin.SmallTypes.ownedTupleIsFree (.ref z) >>= _) _ _ _
  refine wpAny_bind ?_
  unfold Builtin.SmallTypes.ownedTupleIsFree
  refine wpAny_bind (wpAny_field hz rfl (x := .none) rfl (wpAny_pure ?_))
  simp only [if_true]
  refine wpAny_bind (wpAny_rule ?_)
  refine wpAny_bind (wpAny_field hz rfl (x := .ref TO) rfl ?_)
  refine wpAny_bind (wpAny_setField_rec hz (by simp) fun h0 hz0 hs0 => ?_)
  replace hz0 : IsZip h0 z TI TO .ellipsis := hz0
  have kp0 : ∀ c o, c ≠ z → s.heap.get? c = some o → h0.get? c = some o := fun c o c1 e => hs0.extBut _ _ c1 e
  refine wpAny_bind ?_
  simp only [List.zipIdx_cons, List.zipIdx_nil, List.forIn_cons, List.forIn_nil]
  have s1_0 := s1.at fun o e => kp0 _ o D.i1z e
  have q1_0 := q1.at fun o e => kp0 _ o D.l1z e
  have s2_0 := s2.at fun o e => kp0 _ o D.i2z e
  have q2_0 := q2.at fun o e => kp0 _ o D.l2z e
  have hTO0 := kp0 _ _ D.TOz hTO
  refine wpAny_bind (wpAny_bind (wpAny_onRaise ?_))
  show wpAny _ _ (Builtin.SmallTypes.nextOf (.ref i1) >>= _) _ _ _
  refine wpAny_bind (nextOf_item s1_0 q1_0 e1 fun hA1 sA1 bA1 => wpAny_pure ?_)
  have hTOA1 := bA1.extBut _ _ D.i1TO.symm hTO0
  refine wpAny_bind (wpAny_seqItems hTOA1 rfl ?_)
  refine wpAny_bind (updateSeq_t hTOA1 fun h1 hTO1 bB1 => ?_)
  replace hTO1 : IsT h1 TO #[y1, a2] := hTO1
  refine wpAny_bind (wpAny_letGo (wpAny_pure ?_))
  have kp1 : ∀ c o, c ≠ i1 → c ≠ TO → h0.get? c = some o → h1.get? c = some o := fun c o c1 c2 e => bB1.extBut _ _ c2 (bA1.extBut _ _ c1 e)
  have hz1 : IsZip h1 z TI TO .ellipsis := kp1 _ _ D.i1z.symm D.TOz.symm hz0
  have s1_1 := sA1.at fun o e => bB1.extBut _ _ D.i1TO e
  have q1_1 := q1_0.at fun o e => kp1 _ o D.l1i1 D.l1TO e
  have s2_1 := s2_0.at fun o e => kp1 _ o D.i2i1 D.i2TO e
  have q2_1 := q2_0.at fun o e => kp1 _ o D.l2i1 D.l2TO e
  refine wpAny_bind (wpAny_bind (wpAny_onRaise ?_))
  show wpAny _ _ (Builtin.SmallTypes.nextOf (.ref i2) >>= _) _ _ _
  refine wpAny_bind (nextOf_item s2_1 q2_1 e2 fun hA2 sA2 bA2 => wpAny_pure ?_)
  have hTOA2 := bA2.extBut _ _ D.i2TO.symm hTO1
  refine wpAny_bind (wpAny_seqItems hTOA2 rfl ?_)
  refine wpAny_bind (updateSeq_t hTOA2 fun h2 hTO2 bB2 => ?_)
  replace hTO2 : IsT h2 TO #[y1, y2] := hTO2
  refine wpAny_bind (wpAny_letGo (wpAny_pure (wpAny_pure ?_)))
  have kp2 : ∀ c o, c ≠ i2 → c ≠ TO → h1.get? c = some o → h2.get? c = some o := fun c o c1 c2 e => bB2.extBut _ _ c2 (bA2.extBut _ _ c1 e)
  have hz2 : IsZip h2 z TI TO .ellipsis := kp2 _ _ D.i2z.symm D.TOz.symm hz1
  have s1_2 := s1_1.at fun o e => kp2 _ o D.i2i1.symm D.i1TO e
  have q1_2 := q1_1.at fun o e => kp2 _ o D.l1i2 D.l1TO e
  have s2_2 := sA2.at fun o e => bB2.extBut _ _ D.i2TO e
  have q2_2 := q2_1.at fun o e => kp2 _ o D.l2i2 D.l2TO e
  refine wpAny_bind (wpAny_seqItems hTO2 rfl ?_)
  refine wpAny_bind (wpAny_newTuple ?_)
  have hsz : h2.objs.size = s.heap.objs.size := by rw [bB2.1, bA2.1, bB1.1, bA1.1, hs0.1]
  have hk : (∀ c o, c ≠ z → c ≠ TO → c ≠ i1 → c ≠ i2 → s.heap.get? c = some o → h2.get? c = some o) := fun c o c1 c2 d1 d2 e => kp2 c o d2 c2 (kp1 c o d1 c2 (kp0 c o c1 e))
  have hzlt : z < h2.objs.size := Heap.lt_size hz2
  show wpAny _ _ (Builtin.SmallTypes.ownedTupleHandOut (.ref z) (.ref h2.objs.size) >>= _) _ _ _
  refine wpAny_bind ?_
  unfold Builtin.SmallTypes.ownedTupleHandOut
  have hz6 : IsZip (h2.push { cls := .type "tuple", data := .seq #[y1, y2] }) z TI TO .ellipsis := Heap.get?_push_of_some _ hz2
  refine wpAny_bind (wpAny_setField_rec hz6 (by simp) fun h7 hz7 hs7 => ?_)
  replace hz7 : IsZip h7 z TI TO (rawInt h2.objs.size) := hz7
  refine wpAny_setField_rec hz7 (by simp) fun h8 hz8 hs8 => ?_
  replace hz8 : IsZip h8 z TI TO (rawInt h2.objs.size) := hz8
  have up : ∀ c o, c ≠ z → h2.get? c = some o → h8.get? c = some o := fun c o c1 e => hs8.extBut _ _ c1 (hs7.extBut _ _ c1 (Heap.get?_push_of_some _ e))
  have hT8 : IsT h8 h2.objs.size #[y1, y2] := hs8.extBut _ _ (Nat.ne_of_gt hzlt) (hs7.extBut _ _ (Nat.ne_of_gt hzlt) (Heap.get?_push_size _ rfl))
  have hz8s : h8.objs.size = h2.objs.size + 1 := by rw [hs8.1, hs7.1, Heap.size_push]
  rw [hsz] at hz8 hT8 hz8s
  refine wpAny_pure ⟨_, rfl, ?_⟩
  show Q (.ref h2.objs.size) _
  rw [hsz]
  exact hQ h8 hz8 (up _ _ D.TOz hTO2) (s1_2.at fun o e => up _ o D.i1z e) (s2_2.at fun o e => up _ o D.i2z e) hT8 hz8s fun c o c1 c2 d1 d2 e => up c o c1 (hk c o c1 c2 d1 d2 e)
theorem zip2_end {z TI TO i1 i2 l1 l2 : Addr} {d1 d2 : Bool} {k0 : Nat} {xs1 xs2 : Array Value} {a1 a2 : Value} {Q : Fin → Shared → Prop} (hh : A.handled = none) (D : Ap2 z TI TO i1 i2 l1 l2)
    (hz : IsZip s.heap z TI TO .none) (hTI : IsT s.heap TI #[.ref i1, .ref i2]) (hTO : IsT s.heap TO #[a1, a2])
    (s1 : SIk d1 s.heap i1 l1 k0) (s2 : SIk d2 s.heap i2 l2 k0) (q1 : SAk d1 s.heap l1 xs1) (q2 : SAk d2 s.heap l2 xs2) (hend : xs1[k0]? = none ∨ xs2[k0]? = none)
    (hE : ∀ h' e, (∀ c o, c ≠ z → c ≠ TO → c ≠ i1 → c ≠ i2 → s.heap.get? c = some o → h'.get? c = some o) → (∃ o, h'.get? e = some o ∧ o.cls = .type "StopIteration") → E (.ref e) { s with heap := h' }) :
    wpAny (model prog w) A (Builtin.«zip.__next__» ⟨[.ref z], []⟩) Q E s := by
  show wpAny _ _ (field (.ref z) 2 >>= _) _ _ _
  refine wpAny_bind (wpAny_field hz rfl (x := .bool false) rfl ?_)
  show wpAny _ _ (field (.ref z) 3 >>= _) _ _ _
  refine wpAny_bind (wpAny_field hz rfl (x := .ref TI) rfl ?_)
  refine wpAny_bind (wpAny_seqItems hTI rfl ?_)
  show wpAny _ _ (Builtin.SmallTypes.ownedTupleIsFree (.ref z) >>= _) _ _ _
  refine wpAny_bind ?_
  unfold Builtin.SmallTypes.ownedTupleIsFree
  refine wpAny_bind (wpAny_field hz rfl (x := .none) rfl (wpAny_pure ?_))
  simp only [if_true]
  refine wpAny_bind (wpAny_rule ?_)
  refine wpAny_bind (wpAny_field hz rfl (x := .ref TO) rfl ?_)
  refine wpAny_bind (wpAny_setField_rec hz (by simp) fun h0 hz0 hs0 => ?_)
  replace hz0 : IsZip h0 z TI TO .ellipsis := hz0
  have kp0 : ∀ c o, c ≠ z → s.heap.get? c = some o → h0.get? c = some o := fun c o c1 e => hs0.extBut _ _ c1 e
  refine wpAny_bind ?_
  simp only [List.zipIdx_cons, List.zipIdx_nil, List.forIn_cons, List.forIn_nil]
  have s1_0 := s1.at fun o e => kp0 _ o D.i1z e
  have q1_0 := q1.at fun o e => kp0 _ o D.l1z e
  have s2_0 := s2.at fun o e => kp0 _ o D.i2z e
  have q2_0 := q2.at fun o e => kp0 _ o D.l2z e
  have hTO0 := kp0 _ _ D.TOz hTO
  refine wpAny_bind (wpAny_bind (wpAny_onRaise ?_))
  show wpAny _ _ (Builtin.SmallTypes.nextOf (.ref i1) >>= _) _ _ _
  cases e1 : xs1[k0]? with
  | none =>
    refine wpAny_bind (nextOf_end hh s1_0 q1_0 e1 fun hX e bX he => ?_)
    obtain ⟨oe, hoe, hce⟩ := he
    have hzX : IsZip hX z TI TO .ellipsis := bX _ _ D.i1z.symm hz0
    have hez : e ≠ z := fun x => by subst x; rw [hzX] at hoe; cases hoe; simp at hce
    exact wpAny_setField_rec hzX (by simp) fun h3 _ hs3 => hE h3 e (fun c o c1 c2 d1 d2 x => hs3.extBut _ _ c1 (bX _ _ d1 (kp0 c o c1 x))) ⟨oe, hs3.extBut _ _ hez hoe, hce⟩
  | some y1 =>
    refine wpAny_bind (nextOf_item s1_0 q1_0 e1 fun hA1 sA1 bA1 => wpAny_pure ?_)
    have hTOA1 := bA1.extBut _ _ D.i1TO.symm hTO0
    refine wpAny_bind (wpAny_seqItems hTOA1 rfl ?_)
    refine wpAny_bind (updateSeq_t hTOA1 fun h1 hTO1 bB1 => ?_)
    refine wpAny_bind (wpAny_letGo (wpAny_pure ?_))
    have kp1 : ∀ c o, c ≠ i1 → c ≠ TO → h0.get? c = some o → h1.get? c = some o := fun c o c1 c2 e => bB1.extBut _ _ c2 (bA1.extBut _ _ c1 e)
    have hz1 : IsZip h1 z TI TO .ellipsis := kp1 _ _ D.i1z.symm D.TOz.symm hz0
    have s2_1 := s2_0.at fun o e => kp1 _ o D.i2i1 D.i2TO e
    have q2_1 := q2_0.at fun o e => kp1 _ o D.l2i1 D.l2TO e
    refine wpAny_bind (wpAny_bind (wpAny_onRaise ?_))
    show wpAny _ _ (Builtin.SmallTypes.nextOf (.ref i2) >>= _) _ _ _
    have e2 : xs2[k0]? = none := by
      rcases hend with h | h
      · rw [e1] at h; cases h
      · exact h
    refine wpAny_bind (nextOf_end hh s2_1 q2_1 e2 fun hX e bX he => ?_)
    obtain ⟨oe, hoe, hce⟩ := he
    have hzX : IsZip hX z TI TO .ellipsis := bX _ _ D.i2z.symm hz1
    have hez : e ≠ z := fun x => by subst x; rw [hzX] at hoe; cases hoe; simp at hce
    exact wpAny_setField_rec hzX (by simp) fun h3 _ hs3 => hE h3 e (fun c o c1 c2 d1 d2 x => hs3.extBut _ _ c1 (bX _ _ d2 (kp1 c o d1 c2 (kp0 c o c1 x)))) ⟨oe, hs3.extBut _ _ hez hoe, hce⟩
theorem pyNext_zip2_item {z TI TO i1 i2 l1 l2 : Addr} {d1 d2 : Bool} {k0 : Nat} {xs1 xs2 : Array Value} {a1 a2 : Value} {y1 y2 : Value} {Q : Option Value → Shared → Prop} (D : Ap2 z TI TO i1 i2 l1 l2)
    (hz : IsZip s.heap z TI TO .none) (hTI : IsT s.heap TI #[.ref i1, .ref i2]) (hTO : IsT s.heap TO #[a1, a2])
    (s1 : SIk d1 s.heap i1 l1 k0) (s2 : SIk d2 s.heap i2 l2 k0) (q1 : SAk d1 s.heap l1 xs1) (q2 : SAk d2 s.heap l2 xs2) (e1 : xs1[k0]? = some y1) (e2 : xs2[k0]? = some y2)
    (hQ : ∀ h', IsZip h' z TI TO (rawInt s.heap.objs.size) → IsT h' TO #[y1, y2] → SIk d1 h' i1 l1 (k0 + 1) → SIk d2 h' i2 l2 (k0 + 1) → IsT h' s.heap.objs.size #[y1, y2] → h'.objs.size = s.heap.objs.size + 1 →
      (∀ c o, c ≠ z → c ≠ TO → c ≠ i1 → c ≠ i2 → s.heap.get? c = some o → h'.get? c = some o) → Q (some (.ref s.heap.objs.size)) { s with heap := h' }) :
    wpAny (model prog w) A (pyNext (.ref z)) Q E s := by
  have hT : s.TypeIs (.ref z) "zip" := ⟨_, hz, rfl⟩
  unfold pyNext
  exact wpAny_bind (wpAny_attempt (wpAny_callSpecial?_slot (name := Str.ofString "__next__") hT F.slot_zip_next
    (wpAny_call_entry F.slot_zip_next hT F.entry_zip_next
      (zip2_item D hz hTI hTO s1 s2 q1 q2 e1 e2 fun h' b1 b2 c1 c2 b3 b4 b5 => wpAny_pure (hQ h' b1 b2 c1 c2 b3 b4 b5)) (F.args_zip_next_1 _))))
theorem pyNext_zip2_end {z TI TO i1 i2 l1 l2 : Addr} {d1 d2 : Bool} {k0 : Nat} {xs1 xs2 : Array Value} {a1 a2 : Value} {Q : Option Value → Shared → Prop} (hh : A.handled = none) (D : Ap2 z TI TO i1 i2 l1 l2)
    (hz : IsZip s.heap z TI TO .none) (hTI : IsT s.heap TI #[.ref i1, .ref i2]) (hTO : IsT s.heap TO #[a1, a2])
    (s1 : SIk d1 s.heap i1 l1 k0) (s2 : SIk d2 s.heap i2 l2 k0) (q1 : SAk d1 s.heap l1 xs1) (q2 : SAk d2 s.heap l2 xs2) (hend : xs1[k0]? = none ∨ xs2[k0]? = none)
    (hQ : ∀ h', (∀ c o, c ≠ z → c ≠ TO → c ≠ i1 → c ≠ i2 → s.heap.get? c = some o → h'.get? c = some o) → Q none { s with heap := h' }) : wpAny (model prog w) A (pyNext (.ref z)) Q E s := by
  have hT : s.TypeIs (.ref z) "zip" := ⟨_, hz, rfl⟩
  unfold pyNext
  refine wpAny_bind (wpAny_attempt (wpAny_callSpecial?_slot (name := Str.ofString "__next__") hT F.slot_zip_next
    (wpAny_call_entry F.slot_zip_next hT F.entry_zip_next (zip2_end hh D hz hTI hTO s1 s2 q1 q2 hend fun h' e hk he => ?_) (F.args_zip_next_1 _))))
  obtain ⟨o, ho, hc⟩ := he
  refine wpAny_bind (wpAny_isInstance (T := "StopIteration") (b := true) ⟨o, ho, hc⟩ isSubtype_stop ?_)
  exact wpAny_pure (hQ _ hk)
end
abbrev z2H0 (h : Heap) : Heap := h
abbrev z2H1 (h : Heap) (d1 : Bool) (d2 : Bool) (l1 : Addr) (l2 : Addr) : Heap := (h).push (itObj d1 l1)
abbrev z2H2 (h : Heap) (d1 : Bool) (d2 : Bool) (l1 : Addr) (l2 : Addr) : Heap := (z2H1 h d1 d2 l1 l2).push (itObj d2 l2)
abbrev z2HT (h : Heap) (d1 : Bool) (d2 : Bool) (l1 : Addr) (l2 : Addr) : Heap := (z2H2 h d1 d2 l1 l2).push { cls := .type "tuple", data := .seq #[.ref h.objs.size, .ref (z2H1 h d1 d2 l1 l2).objs.size] }
abbrev z2HO (h : Heap) (d1 : Bool) (d2 : Bool) (l1 : Addr) (l2 : Addr) : Heap := (z2HT h d1 d2 l1 l2).push { cls := .type "tuple", data := .seq #[.none, .none] }
abbrev z2HZ (h : Heap) (d1 : Bool) (d2 : Bool) (l1 : Addr) (l2 : Addr) : Heap := (z2HO h d1 d2 l1 l2).push { cls := .type "zip", data := .fields #[.none, .bool false, .bool false, .ref (z2H2 h d1 d2 l1 l2).objs.size, .ref (z2HT h d1 d2 l1 l2).objs.size] }
theorem meets_zip2 (d1 : Bool) (d2 : Bool) (l1 : Addr) (l2 : Addr) (xs1 xs2 : Array Value) :
    Meets (Builtin.«zip.__new__» ⟨[.type "zip", .ref l1, .ref l2], []⟩) (fun _ R s => SAk d1 s.heap l1 xs1 ∧ SAk d2 s.heap l2 xs2 ∧
      R (.ok (.ret (.ref (z2HO s.heap d1 d2 l1 l2).objs.size))) { s with heap := z2HZ s.heap d1 d2 l1 l2 }) :=
  .of_wp fun prog w A R s h => by
    obtain ⟨hp, g, d, tk, os⟩ := s; obtain ⟨q1, q2, h⟩ := h
    have hsub := sub_zip
    have L1 : SAk d1 (Shared.heap ⟨hp, g, d, tk, os⟩) l1 xs1 := q1.at fun o e => e
    have L2 : SAk d2 (Shared.heap ⟨(hp).push (itObj d1 l1), g, d, tk, os⟩) l2 xs2 := q2.at fun o e => Heap.get?_push_of_some _ (e)
    wp_walk using pyIter_k L1, pyIter_k L2
    exact ⟨_, rfl, h⟩
structure Ap3 (z TI TO i1 i2 i3 l1 l2 l3 : Addr) : Prop where
  TIz : TI ≠ z
  TOz : TO ≠ z
  TOTI : TO ≠ TI
  i1z : i1 ≠ z
  i1TI : i1 ≠ TI
  i1TO : i1 ≠ TO
  i2z : i2 ≠ z
  i2TI : i2 ≠ TI
  i2TO : i2 ≠ TO
  i2i1 : i2 ≠ i1
  i3z : i3 ≠ z
  i3TI : i3 ≠ TI
  i3TO : i3 ≠ TO
  i3i1 : i3 ≠ i1
  i3i2 : i3 ≠ i2
  l1z : l1 ≠ z
  l1TO : l1 ≠ TO
  l1i1 : l1 ≠ i1
  l1i2 : l1 ≠ i2
  l1i3 : l1 ≠ i3
  l2z : l2 ≠ z
  l2TO : l2 ≠ TO
  l2i1 : l2 ≠ i1
  l2i2 : l2 ≠ i2
  l2i3 : l2 ≠ i3
  l3z : l3 ≠ z
  l3TO : l3 ≠ TO
  l3i1 : l3 ≠ i1
  l3i2 : l3 ≠ i2
  l3i3 : l3 ≠ i3
section
variable {prog : Program} {w : World} {A : Around} {E : Value → Shared → Prop} {s : Shared}
theorem zip3_item {z TI TO i1 i2 i3 l1 l2 l3 : Addr} {d1 d2 d3 : Bool} {k0 : Nat} {xs1 xs2 xs3 : Array Value} {a1 a2 a3 : Value} {y1 y2 y3 : Value} {Q : Value → Shared → Prop} (D : Ap3 z TI TO i1 i2 i3 l1 l2 l3)
    (hz : IsZip s.heap z TI TO .none) (hTI : IsT s.heap TI #[.ref i1, .ref i2, .ref i3]) (hTO : IsT s.heap TO #[a1, a2, a3])
    (s1 : SIk d1 s.heap i1 l1 k0) (s2 : SIk d2 s.heap i2 l2 k0) (s3 : SIk d3 s.heap i3 l3 k0) (q1 : SAk d1 s.heap l1 xs1) (q2 : SAk d2 s.heap l2 xs2) (q3 : SAk d3 s.heap l3 xs3) (e1 : xs1[k0]? = some y1) (e2 : xs2[k0]? = some y2) (e3 : xs3[k0]? = some y3)
    (hQ : ∀ h', IsZip h' z TI TO (rawInt s.heap.objs.size) → IsT h' TO #[y1, y2, y3] → SIk d1 h' i1 l1 (k0 + 1) → SIk d2 h' i2 l2 (k0 + 1) → SIk d3 h' i3 l3 (k0 + 1) → IsT h' s.heap.objs.size #[y1, y2, y3] → h'.objs.size = s.heap.objs.size + 1 →
      (∀ c o, c ≠ z → c ≠ TO → c ≠ i1 → c ≠ i2 → c ≠ i3 → s.heap.get? c = some o → h'.get? c = some o) → Q (.ref s.heap.objs.size) { s with heap := h' }) :
    wpAny (model prog w) A (Builtin.«zip.__next__» ⟨[.ref z], []⟩) (fun fin s' => ∃ v, fin = .done (.ret v) ∧ Q v s') E s := by
  show wpAny _ _ (field (.ref z) 2 >>= _) _ _ _
  refine wpAny_bind (wpAny_field hz rfl (x := .bool false) rfl ?_)
  show wpAny _ _ (field (.ref z) 3 >>= _) _ _ _
  refine wpAny_bind (wpAny_field hz rfl (x := .ref TI) rfl ?_)
  refine wpAny_bind (wpAny_seqItems hTI rfl ?_)
  show wpAny _ _ (Builtin.SmallTypes.ownedTupleIsFree (.ref z) >>= _) _ _ _
  refine wpAny_bind ?_
  unfold Builtin.SmallTypes.ownedTupleIsFree
  refine wpAny_bind (wpAny_field hz rfl (x := .none) rfl (wpAny_pure ?_))
  simp only [if_true]
  refine wpAny_bind (wpAny_rule ?_)
  refine wpAny_bind (wpAny_field hz rfl (x := .ref TO) rfl ?_)
  refine wpAny_bind (wpAny_setField_rec hz (by simp) fun h0 hz0 hs0 => ?_)
  replace hz0 : IsZip h0 z TI TO .ellipsis := hz0
  have kp0 : ∀ c o, c ≠ z → s.heap.get? c = some o → h0.get? c = some o := fun c o c1 e => hs0.extBut _ _ c1 e
  refine wpAny_bind ?_
  simp only [List.zipIdx_cons, List.zipIdx_nil, List.forIn_cons, List.forIn_nil]
  have s1_0 := s1.at fun o e => kp0 _ o D.i1z e
  have q1_0 := q1.at fun o e => kp0 _ o D.l1z e
  have s2_0 := s2.at fun o e => kp0 _ o D.i2z e
  have q2_0 := q2.at fun o e => kp0 _ o D.l2z e
  have s3_0 := s3.at fun o e => kp0 _ o D.i3z e
  have q3_0 := q3.at fun o e => kp0 _ o D.l3z e
  have hTO0 := kp0 _ _ D.TOz hTO
  refine wpAny_bind (wpAny_bind (wpAny_onRaise ?_))
  show wpAny _ _ (Builtin.SmallTypes.nextOf (.ref i1) >>= _) _ _ _
  refine wpAny_bind (nextOf_item s1_0 q1_0 e1 fun hA1 sA1 bA1 => wpAny_pure ?_)
  have hTOA1 := bA1.extBut _ _ D.i1TO.symm hTO0
  refine wpAny_bind (wpAny_seqItems hTOA1 rfl ?_)
  refine wpAny_bind (updateSeq_t hTOA1 fun h1 hTO1 bB1 => ?_)
  replace hTO1 : IsT h1 TO #[y1, a2, a3] := hTO1
  refine wpAny_bind (wpAny_letGo (wpAny_pure ?_))
  have kp1 : ∀ c o, c ≠ i1 → c ≠ TO → h0.get? c = some o → h1.get? c = some o := fun c o c1 c2 e => bB1.extBut _ _ c2 (bA1.extBut _ _ c1 e)
  have hz1 : IsZip h1 z TI TO .ellipsis := kp1 _ _ D.i1z.symm D.TOz.symm hz0
  have s1_1 := sA1.at fun o e => bB1.extBut _ _ D.i1TO e
  have q1_1 := q1_0.at fun o e => kp1 _ o D.l1i1 D.l1TO e
  have s2_1 := s2_0.at fun o e => kp1 _ o D.i2i1 D.i2TO e
  have q2_1 := q2_0.at fun o e => kp1 _ o D.l2i1 D.l2TO e
  have s3_1 := s3_0.at fun o e => kp1 _ o D.i3i1 D.i3TO e
  have q3_1 := q3_0.at fun o e => kp1 _ o D.l3i1 D.l3TO e
  refine wpAny_bind (wpAny_bind (wpAny_onRaise ?_))
  show wpAny _ _ (Builtin.SmallTypes.nextOf (.ref i2) >>= _) _ _ _
  refine wpAny_bind (nextOf_item s2_1 q2_1 e2 fun hA2 sA2 bA2 => wpAny_pure ?_)
  have hTOA2 := bA2.extBut _ _ D.i2TO.symm hTO1
  refine wpAny_bind (wpAny_seqItems hTOA2 rfl ?_)
  refine wpAny_bind (updateSeq_t hTOA2 fun h2 hTO2 bB2 => ?_)
  replace hTO2 : IsT h2 TO #[y1, y2, a3] := hTO2
  refine wpAny_bind (wpAny_letGo (wpAny_pure ?_))
  have kp2 : ∀ c o, c ≠ i2 → c ≠ TO → h1.get? c = some o → h2.get? c = some o := fun c o c1 c2 e => bB2.extBut _ _ c2 (bA2.extBut _ _ c1 e)
  have hz2 : IsZip h2 z TI TO .ellipsis := kp2 _ _ D.i2z.symm D.TOz.symm hz1
  have s1_2 := s1_1.at fun o e => kp2 _ o D.i2i1.symm D.i1TO e
  have q1_2 := q1_1.at fun o e => kp2 _ o D.l1i2 D.l1TO e
  have s2_2 := sA2.at fun o e => bB2.extBut _ _ D.i2TO e
  have q2_2 := q2_1.at fun o e => kp2 _ o D.l2i2 D.l2TO e
  have s3_2 := s3_1.at fun o e => kp2 _ o D.i3i2 D.i3TO e
  have q3_2 := q3_1.at fun o e => kp2 _ o D.l3i2 D.l3TO e
  refine wpAny_bind (wpAny_bind (wpAny_onRaise ?_))
  show wpAny _ _ (Builtin.SmallTypes.nextOf (.ref i3) >>= _) _ _ _
  refine wpAny_bind (nextOf_item s3_2 q3_2 e3 fun hA3 sA3 bA3 => wpAny_pure ?_)
  have hTOA3 := bA3.extBut _ _ D.i3TO.symm hTO2
  refine wpAny_bind (wpAny_seqItems hTOA3 rfl ?_)
  refine wpAny_bind (updateSeq_t hTOA3 fun h3 hTO3 bB3 => ?_)
  replace hTO3 : IsT h3 TO #[y1, y2, y3] := hTO3
  refine wpAny_bind (wpAny_letGo (wpAny_pure (wpAny_pure ?_)))
  have kp3 : ∀ c o, c ≠ i3 → c ≠ TO → h2.get? c = some o → h3.get? c = some o := fun c o c1 c2 e => bB3.extBut _ _ c2 (bA3.extBut _ _ c1 e)
  have hz3 : IsZip h3 z TI TO .ellipsis := kp3 _ _ D.i3z.symm D.TOz.symm hz2
  have s1_3 := s1_2.at fun o e => kp3 _ o D.i3i1.symm D.i1TO e
  have q1_3 := q1_2.at fun o e => kp3 _ o D.l1i3 D.l1TO e
  have s2_3 := s2_2.at fun o e => kp3 _ o D.i3i2.symm D.i2TO e
  have q2_3 := q2_2.at fun o e => kp3 _ o D.l2i3 D.l2TO e
  have s3_3 := sA3.at fun o e => bB3.extBut _ _ D.i3TO e
  have q3_3 := q3_2.at fun o e => kp3 _ o D.l3i3 D.l3TO e
  refine wpAny_bind (wpAny_seqItems hTO3 rfl ?_)
  refine wpAny_bind (wpAny_newTuple ?_)
  have hsz : h3.objs.size = s.heap.objs.size := by rw [bB3.1, bA3.1, bB2.1, bA2.1, bB1.1, bA1.1, hs0.1]
  have hk : (∀ c o, c ≠ z → c ≠ TO → c ≠ i1 → c ≠ i2 → c ≠ i3 → s.heap.get? c = some o → h3.get? c = some o) := fun c o c1 c2 d1 d2 d3 e => kp3 c o d3 c2 (kp2 c o d2 c2 (kp1 c o d1 c2 (kp0 c o c1 e)))
  have hzlt : z < h3.objs.size := Heap.lt_size hz3
  show wpAny _ _ (Builtin.SmallTypes.ownedTupleHandOut (.ref z) (.ref h3.objs.size) >>= _) _ _ _
  refine wpAny_bind ?_
  unfold Builtin.SmallTypes.ownedTupleHandOut
  have hz6 : IsZip (h3.push { cls := .type "tuple", data := .seq #[y1, y2, y3] }) z TI TO .ellipsis := Heap.get?_push_of_some _ hz3
  refine wpAny_bind (wpAny_setField_rec hz6 (by simp) fun h7 hz7 hs7 => ?_)
  replace hz7 : IsZip h7 z TI TO (rawInt h3.objs.size) := hz7
  refine wpAny_setField_rec hz7 (by simp) fun h8 hz8 hs8 => ?_
  replace hz8 : IsZip h8 z TI TO (rawInt h3.objs.size) := hz8
  have up : ∀ c o, c ≠ z → h3.get? c = some o → h8.get? c = some o := fun c o c1 e => hs8.extBut _ _ c1 (hs7.extBut _ _ c1 (Heap.get?_push_of_some _ e))
  have hT8 : IsT h8 h3.objs.size #[y1, y2, y3] := hs8.extBut _ _ (Nat.ne_of_gt hzlt) (hs7.extBut _ _ (Nat.ne_of_gt hzlt) (Heap.get?_push_size _ rfl))
  have hz8s : h8.objs.size = h3.objs.size + 1 := by rw [hs8.1, hs7.1, Heap.size_push]
  rw [hsz] at hz8 hT8 hz8s
  refine wpAny_pure ⟨_, rfl, ?_⟩
  show Q (.ref h3.objs.size) _
  rw [hsz]
  exact hQ h8 hz8 (up _ _ D.TOz hTO3) (s1_3.at fun o e => up _ o D.i1z e) (s2_3.at fun o e => up _ o D.i2z e) (s3_3.at fun o e => up _ o D.i3z e) hT8 hz8s fun c o c1 c2 d1 d2 d3 e => up c o c1 (hk c o c1 c2 d1 d2 d3 e)
theorem zip3_end {z TI TO i1 i2 i3 l1 l2 l3 : Addr} {d1 d2 d3 : Bool} {k0 : Nat} {xs1 xs2 xs3 : Array Value} {a1 a2 a3 : Value} {Q : Fin → Shared → Prop} (hh : A.handled = none) (D : Ap3 z TI TO i1 i2 i3 l1 l2 l3)
    (hz : IsZip s.heap z TI TO .none) (hTI : IsT s.heap TI #[.ref i1, .ref i2, .ref i3]) (hTO : IsT s.heap TO #[a1, a2, a3])
    (s1 : SIk d1 s.heap i1 l1 k0) (s2 : SIk d2 s.heap i2 l2 k0) (s3 : SIk d3 s.heap i3 l3 k0) (q1 : SAk d1 s.heap l1 xs1) (q2 : SAk d2 s.heap l2 xs2) (q3 : SAk d3 s.heap l3 xs3) (hend : xs1[k0]? = none ∨ xs2[k0]? = none ∨ xs3[k0]? = none)
    (hE : ∀ h' e, (∀ c o, c ≠ z → c ≠ TO → c ≠ i1 → c ≠ i2 → c ≠ i3 → s.heap.get? c = some o → h'.get? c = some o) → (∃ o, h'.get? e = some o ∧ o.cls = .type "StopIteration") → E (.ref e) { s with heap := h' }) :
    wpAny (model prog w) A (Builtin.«zip.__next__» ⟨[.ref z], []⟩) Q E s := by
  show wpAny _ _ (field (.ref z) 2 >>= _) _ _ _
  refine wpAny_bind (wpAny_field hz rfl (x := .bool false) rfl ?_)
  show wpAny _ _ (field (.ref z) 3 >>= _) _ _ _
  refine wpAny_bind (wpAny_field hz rfl (x := .ref TI) rfl ?_)
  refine wpAny_bind (wpAny_seqItems hTI rfl ?_)
  show wpAny _ _ (Builtin.SmallTypes.ownedTupleIsFree (.ref z) >>= _) _ _ _
  refine wpAny_bind ?_
  unfold Builtin.SmallTypes.ownedTupleIsFree
  refine wpAny_bind (wpAny_field hz rfl (x := .none) rfl (wpAny_pure ?_))
  simp only [if_true]
  refine wpAny_bind (wpAny_rule ?_)
  refine wpAny_bind (wpAny_field hz rfl (x := .ref TO) rfl ?_)
  refine wpAny_bind (wpAny_setField_rec hz (by simp) fun h0 hz0 hs0 => ?_)
  replace hz0 : IsZip h0 z TI TO .ellipsis := hz0
  have kp0 : ∀ c o, c ≠ z → s.heap.get? c = some o → h0.get? c = some o := fun c o c1 e => hs0.extBut _ _ c1 e
  refine wpAny_bind ?_
  simp only [List.zipIdx_cons, List.zipIdx_nil, List.forIn_cons, List.forIn_nil]
  have s1_0 := s1.at fun o e => kp0 _ o D.i1z e
  have q1_0 := q1.at fun o e => kp0 _ o D.l1z e
  have s2_0 := s2.at fun o e => kp0 _ o D.i2z e
  have q2_0 := q2.at fun o e => kp0 _ o D.l2z e
  have s3_0 := s3.at fun o e => kp0 _ o D.i3z e
  have q3_0 := q3.at fun o e => kp0 _ o D.l3z e
  have hTO0 := kp0 _ _ D.TOz hTO
  refine wpAny_bind (wpAny_bind (wpAny_onRaise ?_))
  show wpAny _ _ (Builtin.SmallTypes.nextOf (.ref i1) >>= _) _ _ _
  cases e1 : xs1[k0]? with
  | none =>
    refine wpAny_bind (nextOf_end hh s1_0 q1_0 e1 fun hX e bX he => ?_)
    obtain ⟨oe, hoe, hce⟩ := he
    have hzX : IsZip hX z TI TO .ellipsis := bX _ _ D.i1z.symm hz0
    have hez : e ≠ z := fun x => by subst x; rw [hzX] at hoe; cases hoe; simp at hce
    exact wpAny_setField_rec hzX (by simp) fun h3 _ hs3 => hE h3 e (fun c o c1 c2 d1 d2 d3 x => hs3.extBut _ _ c1 (bX _ _ d1 (kp0 c o c1 x))) ⟨oe, hs3.extBut _ _ hez hoe, hce⟩
  | some y1 =>
    refine wpAny_bind (nextOf_item s1_0 q1_0 e1 fun hA1 sA1 bA1 => wpAny_pure ?_)
    have hTOA1 := bA1.extBut _ _ D.i1TO.symm hTO0
    refine wpAny_bind (wpAny_seqItems hTOA1 rfl ?_)
    refine wpAny_bind (updateSeq_t hTOA1 fun h1 hTO1 bB1 => ?_)
    refine wpAny_bind (wpAny_letGo (wpAny_pure ?_))
    have kp1 : ∀ c o, c ≠ i1 → c ≠ TO → h0.get? c = some o → h1.get? c = some o := fun c o c1 c2 e => bB1.extBut _ _ c2 (bA1.extBut _ _ c1 e)
    have hz1 : IsZip h1 z TI TO .ellipsis := kp1 _ _ D.i1z.symm D.TOz.symm hz0
    have s2_1 := s2_0.at fun o e => kp1 _ o D.i2i1 D.i2TO e
    have q2_1 := q2_0.at fun o e => kp1 _ o D.l2i1 D.l2TO e
    have s3_1 := s3_0.at fun o e => kp1 _ o D.i3i1 D.i3TO e
    have q3_1 := q3_0.at fun o e => kp1 _ o D.l3i1 D.l3TO e
    refine wpAny_bind (wpAny_bind (wpAny_onRaise ?_))
    show wpAny _ _ (Builtin.SmallTypes.nextOf (.ref i2) >>= _) _ _ _
    cases e2 : xs2[k0]? with
    | none =>
      refine wpAny_bind (nextOf_end hh s2_1 q2_1 e2 fun hX e bX he => ?_)
      obtain ⟨oe, hoe, hce⟩ := he
      have hzX : IsZip hX z TI TO .ellipsis := bX _ _ D.i2z.symm hz1
      have hez : e ≠ z := fun x => by subst x; rw [hzX] at hoe; cases hoe; simp at hce
      exact wpAny_setField_rec hzX (by simp) fun h3 _ hs3 => hE h3 e (fun c o c1 c2 d1 d2 d3 x => hs3.extBut _ _ c1 (bX _ _ d2 (kp1 c o d1 c2 (kp0 c o c1 x)))) ⟨oe, hs3.extBut _ _ hez hoe, hce⟩
    | some y2 =>
      refine wpAny_bind (nextOf_item s2_1 q2_1 e2 fun hA2 sA2 bA2 => wpAny_pure ?_)
      have hTOA2 := bA2.extBut _ _ D.i2TO.symm hTO1
      refine wpAny_bind (wpAny_seqItems hTOA2 rfl ?_)
      refine wpAny_bind (updateSeq_t hTOA2 fun h2 hTO2 bB2 => ?_)
      refine wpAny_bind (wpAny_letGo (wpAny_pure ?_))
      have kp2 : ∀ c o, c ≠ i2 → c ≠ TO → h1.get? c = some o → h2.get? c = some o := fun c o c1 c2 e => bB2.extBut _ _ c2 (bA2.extBut _ _ c1 e)
      have hz2 : IsZip h2 z TI TO .ellipsis := kp2 _ _ D.i2z.symm D.TOz.symm hz1
      have s3_2 := s3_1.at fun o e => kp2 _ o D.i3i2 D.i3TO e
      have q3_2 := q3_1.at fun o e => kp2 _ o D.l3i2 D.l3TO e
      refine wpAny_bind (wpAny_bind (wpAny_onRaise ?_))
      show wpAny _ _ (Builtin.SmallTypes.nextOf (.ref i3) >>= _) _ _ _
      have e3 : xs3[k0]? = none := by
        rcases hend with h | h | h
        · rw [e1] at h; cases h
        · rw [e2] at h; cases h
        · exact h
      refine wpAny_bind (nextOf_end hh s3_2 q3_2 e3 fun hX e bX he => ?_)
      obtain ⟨oe, hoe, hce⟩ := he
      have hzX : IsZip hX z TI TO .ellipsis := bX _ _ D.i3z.symm hz2
      have hez : e ≠ z := fun x => by subst x; rw [hzX] at hoe; cases hoe; simp at hce
      exact wpAny_setField_rec hzX (by simp) fun h3 _ hs3 => hE h3 e (fun c o c1 c2 d1 d2 d3 x => hs3.extBut _ _ c1 (bX _ _ d3 (kp2 c o d2 c2 (kp1 c o d1 c2 (kp0 c o c1 x))))) ⟨oe, hs3.extBut _ _ hez hoe, hce⟩
theorem pyNext_zip3_item {z TI TO i1 i2 i3 l1 l2 l3 : Addr} {d1 d2 d3 : Bool} {k0 : Nat} {xs1 xs2 xs3 : Array Value} {a1 a2 a3 : Value} {y1 y2 y3 : Value} {Q : Option Value → Shared → Prop} (D : Ap3 z TI TO i1 i2 i3 l1 l2 l3)
    (hz : IsZip s.heap z TI TO .none) (hTI : IsT s.heap TI #[.ref i1, .ref i2, .ref i3]) (hTO : IsT s.heap TO #[a1, a2, a3])
    (s1 : SIk d1 s.heap i1 l1 k0) (s2 : SIk d2 s.heap i2 l2 k0) (s3 : SIk d3 s.heap i3 l3 k0) (q1 : SAk d1 s.heap l1 xs1) (q2 : SAk d2 s.heap l2 xs2) (q3 : SAk d3 s.heap l3 xs3) (e1 : xs1[k0]? = some y1) (e2 : xs2[k0]? = some y2) (e3 : xs3[k0]? = some y3)
    (hQ : ∀ h', IsZip h' z TI TO (rawInt s.heap.objs.size) → IsT h' TO #[y1, y2, y3] → SIk d1 h' i1 l1 (k0 + 1) → SIk d2 h' i2 l2 (k0 + 1) → SIk d3 h' i3 l3 (k0 + 1) → IsT h' s.heap.objs.size #[y1, y2, y3] → h'.objs.size = s.heap.objs.size + 1 →
      (∀ c o, c ≠ z → c ≠ TO → c ≠ i1 → c ≠ i2 → c ≠ i3 → s.heap.get? c = some o → h'.get? c = some o) → Q (some (.ref s.heap.objs.size)) { s with heap := h' }) :
    wpAny (model prog w) A (pyNext (.ref z)) Q E s := by
  have hT : s.TypeIs (.ref z) "zip" := ⟨_, hz, rfl⟩
  unfold pyNext
  exact wpAny_bind (wpAny_attempt (wpAny_callSpecial?_slot (name := Str.ofString "__next__") hT F.slot_zip_next
    (wpAny_call_entry F.slot_zip_next hT F.entry_zip_next
      (zip3_item D hz hTI hTO s1 s2 s3 q1 q2 q3 e1 e2 e3 fun h' b1 b2 c1 c2 c3 b3 b4 b5 => wpAny_pure (hQ h' b1 b2 c1 c2 c3 b3 b4 b5)) (F.args_zip_next_1 _))))
theorem pyNext_zip3_end {z TI TO i1 i2 i3 l1 l2 l3 : Addr} {d1 d2 d3 : Bool} {k0 : Nat} {xs1 xs2 xs3 : Array Value} {a1 a2 a3 : Value} {Q : Option Value → Shared → Prop} (hh : A.handled = none) (D : Ap3 z TI TO i1 i2 i3 l1 l2 l3)
    (hz : IsZip s.heap z TI TO .none) (hTI : IsT s.heap TI #[.ref i1, .ref i2, .ref i3]) (hTO : IsT s.heap TO #[a1, a2, a3])
    (s1 : SIk d1 s.heap i1 l1 k0) (s2 : SIk d2 s.heap i2 l2 k0) (s3 : SIk d3 s.heap i3 l3 k0) (q1 : SAk d1 s.heap l1 xs1) (q2 : SAk d2 s.heap l2 xs2) (q3 : SAk d3 s.heap l3 xs3) (hend : xs1[k0]? = none ∨ xs2[k0]? = none ∨ xs3[k0]? = none)
    (hQ : ∀ h', (∀ c o, c ≠ z → c ≠ TO → c ≠ i1 → c ≠ i2 → c ≠ i3 → s.heap.get? c = some o → h'.get? c = some o) → Q none { s with heap := h' }) : wpAny (model prog w) A (pyNext (.ref z)) Q E s := by
  have hT : s.TypeIs (.ref z) "zip" := ⟨_, hz, rfl⟩
  unfold pyNext
  refine wpAny_bind (wpAny_attempt (wpAny_callSpecial?_slot (name := Str.ofString "__next__") hT F.slot_zip_next
    (wpAny_call_entry F.slot_zip_next hT F.entry_zip_next (zip3_end hh D hz hTI hTO s1 s2 s3 q1 q2 q3 hend fun h' e hk he => ?_) (F.args_zip_next_1 _))))
  obtain ⟨o, ho, hc⟩ := he
  refine wpAny_bind (wpAny_isInstance (T := "StopIteration") (b := true) ⟨o, ho, hc⟩ isSubtype_stop ?_)
  exact wpAny_pure (hQ _ hk)
end
abbrev z3H0 (h : Heap) : Heap := h
abbrev z3H1 (h : Heap) (d1 : Bool) (d2 : Bool) (d3 : Bool) (l1 : Addr) (l2 : Addr) (l3 : Addr) : Heap := (h).push (itObj d1 l1)
abbrev z3H2 (h : Heap) (d1 : Bool) (d2 : Bool) (d3 : Bool) (l1 : Addr) (l2 : Addr) (l3 : Addr) : Heap := (z3H1 h d1 d2 d3 l1 l2 l3).push (itObj d2 l2)
abbrev z3H3 (h : Heap) (d1 : Bool) (d2 : Bool) (d3 : Bool) (l1 : Addr) (l2 : Addr) (l3 : Addr) : Heap := (z3H2 h d1 d2 d3 l1 l2 l3).push (itObj d3 l3)
abbrev z3HT (h : Heap) (d1 : Bool) (d2 : Bool) (d3 : Bool) (l1 : Addr) (l2 : Addr) (l3 : Addr) : Heap := (z3H3 h d1 d2 d3 l1 l2 l3).push { cls := .type "tuple", data := .seq #[.ref h.objs.size, .ref (z3H1 h d1 d2 d3 l1 l2 l3).objs.size, .ref (z3H2 h d1 d2 d3 l1 l2 l3).objs.size] }
abbrev z3HO (h : Heap) (d1 : Bool) (d2 : Bool) (d3 : Bool) (l1 : Addr) (l2 : Addr) (l3 : Addr) : Heap := (z3HT h d1 d2 d3 l1 l2 l3).push { cls := .type "tuple", data := .seq #[.none, .none, .none] }
abbrev z3HZ (h : Heap) (d1 : Bool) (d2 : Bool) (d3 : Bool) (l1 : Addr) (l2 : Addr) (l3 : Addr) : Heap := (z3HO h d1 d2 d3 l1 l2 l3).push { cls := .type "zip", data := .fields #[.none, .bool false, .bool false, .ref (z3H3 h d1 d2 d3 l1 l2 l3).objs.size, .ref (z3HT h d1 d2 d3 l1 l2 l3).objs.size] }
theorem meets_zip3 (d1 : Bool) (d2 : Bool) (d3 : Bool) (l1 : Addr) (l2 : Addr) (l3 : Addr) (xs1 xs2 xs3 : Array Value) :
    Meets (Builtin.«zip.__new__» ⟨[.type "zip", .ref l1, .ref l2, .ref l3], []⟩) (fun _ R s => SAk d1 s.heap l1 xs1 ∧ SAk d2 s.heap l2 xs2 ∧ SAk d3 s.heap l3 xs3 ∧
      R (.ok (.ret (.ref (z3HO s.heap d1 d2 d3 l1 l2 l3).objs.size))) { s with heap := z3HZ s.heap d1 d2 d3 l1 l2 l3 }) :=
  .of_wp fun prog w A R s h => by
    obtain ⟨hp, g, d, tk, os⟩ := s; obtain ⟨q1, q2, q3, h⟩ := h
    have hsub := sub_zip
    have L1 : SAk d1 (Shared.heap ⟨hp, g, d, tk, os⟩) l1 xs1 := q1.at fun o e => e
    have L2 : SAk d2 (Shared.heap ⟨(hp).push (itObj d1 l1), g, d, tk, os⟩) l2 xs2 := q2.at fun o e => Heap.get?_push_of_some _ (e)
    have L3 : SAk d3 (Shared.heap ⟨((hp).push (itObj d1 l1)).push (itObj d2 l2), g, d, tk, os⟩) l3 xs3 := q3.at fun o e => Heap.get?_push_of_some _ (Heap.get?_push_of_some _ (e))
    wp_walk using pyIter_k L1, pyIter_k L2, pyIter_k L3
    exact ⟨_, rfl, h⟩
section
variable {prog : Program} {w : World} {A : Around} {E : Value → Shared → Prop} {s : Shared}
theorem call_zip2 {d1 d2 : Bool} {l1 l2 : Addr} {xs1 xs2 : Array Value} {Q : Value → Shared → Prop} (q1 : SAk d1 s.heap l1 xs1) (q2 : SAk d2 s.heap l2 xs2)
    (h : ∀ h', IsZip h' (s.heap.objs.size + 4) (s.heap.objs.size + 2) (s.heap.objs.size + 3) .none → IsT h' (s.heap.objs.size + 2) #[.ref s.heap.objs.size, .ref (s.heap.objs.size + 1)] → IsT h' (s.heap.objs.size + 3) #[.none, .none] → SIk d1 h' s.heap.objs.size l1 0 → SIk d2 h' (s.heap.objs.size + 1) l2 0 → h'.objs.size = s.heap.objs.size + 5 →
      (∀ c o, s.heap.get? c = some o → h'.get? c = some o) → Q (.ref (s.heap.objs.size + 4)) { s with heap := h' }) :
    wpAny (model prog w) A (call (.type "zip") [.ref l1, .ref l2]) Q E s := by
  refine callType_new F.called_zip (by decide) (F.typeCall_zip_2 _ _) (F.newCall_zip_2 _ _) (fun obj => F.args_object_init_3 obj _ _) F.entry_zip_new
    (meets_zip2 d1 d2 l1 l2 xs1 xs2) ⟨q1, q2, ?_⟩
  have w1 : (z2H1 s.heap d1 d2 l1 l2).objs.size = s.heap.objs.size + 1 := Heap.size_push ..
  have w2 : (z2H2 s.heap d1 d2 l1 l2).objs.size = s.heap.objs.size + 2 := by rw [Heap.size_push, w1]
  have w3 : (z2HT s.heap d1 d2 l1 l2).objs.size = s.heap.objs.size + 3 := by rw [Heap.size_push, w2]
  have w4 : (z2HO s.heap d1 d2 l1 l2).objs.size = s.heap.objs.size + 4 := by rw [Heap.size_push, w3]
  have w5 : (z2HZ s.heap d1 d2 l1 l2).objs.size = s.heap.objs.size + 5 := by rw [Heap.size_push, w4]
  have g1 : (z2HZ s.heap d1 d2 l1 l2).get? s.heap.objs.size = some (itObj d1 l1) := Heap.get?_push_of_some _ (Heap.get?_push_of_some _ (Heap.get?_push_of_some _ (Heap.get?_push_of_some _ (Heap.get?_push_size _ (itObj_freed d1 l1)))))
  have g2 : (z2HZ s.heap d1 d2 l1 l2).get? (z2H1 s.heap d1 d2 l1 l2).objs.size = some (itObj d2 l2) := Heap.get?_push_of_some _ (Heap.get?_push_of_some _ (Heap.get?_push_of_some _ (Heap.get?_push_size _ (itObj_freed d2 l2))))
  have gT : (z2HZ s.heap d1 d2 l1 l2).get? (z2H2 s.heap d1 d2 l1 l2).objs.size = some _ := Heap.get?_push_of_some _ (Heap.get?_push_of_some _ (Heap.get?_push_size _ rfl))
  have gO : (z2HZ s.heap d1 d2 l1 l2).get? (z2HT s.heap d1 d2 l1 l2).objs.size = some _ := Heap.get?_push_of_some _ (Heap.get?_push_size _ rfl)
  have gZ : (z2HZ s.heap d1 d2 l1 l2).get? (z2HO s.heap d1 d2 l1 l2).objs.size = some _ := Heap.get?_push_size _ rfl
  show _ ∧ _
  rw [w2, w3, w4] at gZ
  rw [w1, w2] at gT
  rw [w3] at gO
  rw [w1] at g2
  rw [w4]
  exact ⟨⟨_, gZ, rfl⟩, h _ gZ gT gO (SIk.start g1) (SIk.start g2) w5 fun c o x => Heap.get?_push_of_some _ (Heap.get?_push_of_some _ (Heap.get?_push_of_some _ (Heap.get?_push_of_some _ (Heap.get?_push_of_some _ (x)))))⟩
end
theorem typeCall_zip_3 (a b c : Value) : checkTypeCall "zip" ⟨[a, b, c], []⟩ = pure () := by kernel_rfl
theorem newCall_zip_3 (a b c : Value) : checkBuiltinCall "zip.__new__" ⟨[.type "zip", a, b, c], []⟩ = pure () := by kernel_rfl
theorem args_object_init_4 (a b c d : Value) : argsOk "object.__init__" ⟨[a, b, c, d], []⟩ := by
  unfold argsOk; rw [signature?_of (id := "object.__init__") (n := ['_', '_', 't', 'i', 'n', 'i', '_', '_']) (o := ['t', 'c', 'e', 'j', 'b', 'o']) (by kernel_rfl) F.owner_object]; kernel_rfl
section
variable {prog : Program} {w : World} {A : Around} {E : Value → Shared → Prop} {s : Shared}
theorem call_zip3 {d1 d2 d3 : Bool} {l1 l2 l3 : Addr} {xs1 xs2 xs3 : Array Value} {Q : Value → Shared → Prop} (q1 : SAk d1 s.heap l1 xs1) (q2 : SAk d2 s.heap l2 xs2) (q3 : SAk d3 s.heap l3 xs3)
    (h : ∀ h', IsZip h' (s.heap.objs.size + 5) (s.heap.objs.size + 3) (s.heap.objs.size + 4) .none → IsT h' (s.heap.objs.size + 3) #[.ref s.heap.objs.size, .ref (s.heap.objs.size + 1), .ref (s.heap.objs.size + 2)] → IsT h' (s.heap.objs.size + 4) #[.none, .none, .none] → SIk d1 h' s.heap.objs.size l1 0 → SIk d2 h' (s.heap.objs.size + 1) l2 0 → SIk d3 h' (s.heap.objs.size + 2) l3 0 → h'.objs.size = s.heap.objs.size + 6 →
      (∀ c o, s.heap.get? c = some o → h'.get? c = some o) → Q (.ref (s.heap.objs.size + 5)) { s with heap := h' }) :
    wpAny (model prog w) A (call (.type "zip") [.ref l1, .ref l2, .ref l3]) Q E s := by
  refine callType_new F.called_zip (by decide) (typeCall_zip_3 _ _ _) (newCall_zip_3 _ _ _) (fun obj => args_object_init_4 obj _ _ _) F.entry_zip_new
    (meets_zip3 d1 d2 d3 l1 l2 l3 xs1 xs2 xs3) ⟨q1, q2, q3, ?_⟩
  have w1 : (z3H1 s.heap d1 d2 d3 l1 l2 l3).objs.size = s.heap.objs.size + 1 := Heap.size_push ..
  have w2 : (z3H2 s.heap d1 d2 d3 l1 l2 l3).objs.size = s.heap.objs.size + 2 := by rw [Heap.size_push, w1]
  have w3 : (z3H3 s.heap d1 d2 d3 l1 l2 l3).objs.size = s.heap.objs.size + 3 := by rw [Heap.size_push, w2]
  have w4 : (z3HT s.heap d1 d2 d3 l1 l2 l3).objs.size = s.heap.objs.size + 4 := by rw [Heap.size_push, w3]
  have w5 : (z3HO s.heap d1 d2 d3 l1 l2 l3).objs.size = s.heap.objs.size + 5 := by rw [Heap.size_push, w4]
  have w6 : (z3HZ s.heap d1 d2 d3 l1 l2 l3).objs.size = s.heap.objs.size + 6 := by rw [Heap.size_push, w5]
  have g1 : (z3HZ s.heap d1 d2 d3 l1 l2 l3).get? s.heap.objs.size = some (itObj d1 l1) := Heap.get?_push_of_some _ (Heap.get?_push_of_some _ (Heap.get?_push_of_some _ (Heap.get?_push_of_some _ (Heap.get?_push_of_some _ (Heap.get?_push_size _ (itObj_freed d1 l1))))))
  have g2 : (z3HZ s.heap d1 d2 d3 l1 l2 l3).get? (z3H1 s.heap d1 d2 d3 l1 l2 l3).objs.size = some (itObj d2 l2) := Heap.get?_push_of_some _ (Heap.get?_push_of_some _ (Heap.get?_push_of_some _ (Heap.get?_push_of_some _ (Heap.get?_push_size _ (itObj_freed d2 l2)))))
  have g3 : (z3HZ s.heap d1 d2 d3 l1 l2 l3).get? (z3H2 s.heap d1 d2 d3 l1 l2 l3).objs.size = some (itObj d3 l3) := Heap.get?_push_of_some _ (Heap.get?_push_of_some _ (Heap.get?_push_of_some _ (Heap.get?_push_size _ (itObj_freed d3 l3))))
  have gT : (z3HZ s.heap d1 d2 d3 l1 l2 l3).get? (z3H3 s.heap d1 d2 d3 l1 l2 l3).objs.size = some _ := Heap.get?_push_of_some _ (Heap.get?_push_of_some _ (Heap.get?_push_size _ rfl))
  have gO : (z3HZ s.heap d1 d2 d3 l1 l2 l3).get? (z3HT s.heap d1 d2 d3 l1 l2 l3).objs.size = some _ := Heap.get?_push_of_some _ (Heap.get?_push_size _ rfl)
  have gZ : (z3HZ s.heap d1 d2 d3 l1 l2 l3).get? (z3HO s.heap d1 d2 d3 l1 l2 l3).objs.size = some _ := Heap.get?_push_size _ rfl
  show _ ∧ _
  rw [w3, w4, w5] at gZ
  rw [w1, w2, w3] at gT
  rw [w4] at gO
  rw [w1] at g2
  rw [w2] at g3
  rw [w5]
  exact ⟨⟨_, gZ, rfl⟩, h _ gZ gT gO (SIk.start g1) (SIk.start g2) (SIk.start g3) w6 fun c o x => Heap.get?_push_of_some _ (Heap.get?_push_of_some _ (Heap.get?_push_of_some _ (Heap.get?_push_of_some _ (Heap.get?_push_of_some _ (Heap.get?_push_of_some _ (x))))))⟩
end

end ZP
namespace L2
open PySem PySem.Spec PyProof.Rows ZP
/-- a list or a tuple that is read -/
def SqK (K : PySem.W.Frag) (kd : Bool) (H : Hp) (a : Addr) (xs : List V) : Prop := match kd with
  | true => SqT K H a xs
  | false => SqL K H a xs
theorem Inv.seqk {X : Cx} {pins : List (Addr × Obj)} {σ : L2.St} {H : Hp} {s : Shared} {kd : Bool} {a : Addr} {xs : List V} (I : Inv X pins σ H s) (h : SqK X.K kd H a xs) : ∃ its : List Value, Vals xs its ∧ SAk kd s.heap a its.toArray ∧ xs.length ≤ sizeLine := by
  cases kd with
  | true =>
    obtain ⟨its, r, p, z⟩ := I.tuple h
    exact ⟨its, r, p, z⟩
  | false =>
    obtain ⟨its, r, p, z⟩ := I.list h
    exact ⟨its, r, p.isList, z⟩
theorem Inv.seqk_inj {X : Cx} {pins : List (Addr × Obj)} {σ : L2.St} {H : Hp} {s : Shared} {kd : Bool} {a : Addr} {xs ys : List V} (I : Inv X pins σ H s) (h : SqK X.K kd H a xs) (h' : SqK X.K kd H a ys) : xs = ys := by
  cases kd with
  | true => exact I.tuple_inj h h'
  | false => exact I.list_inj h h'

def Iz2 (K : PySem.W.Frag) (d1 d2 : Bool) (l1 l2 : Addr) : It :=
  ⟨fun i H => ∃ (x1 x2 : List V) (v1 v2 : V), SqK K d1 H l1 x1 ∧ SqK K d2 H l2 x2 ∧ x1[i]? = some v1 ∧ x2[i]? = some v2,
    fun i H v H' => ∃ (T : Addr) (v1 v2 : V), v = .ref T ∧ H T = none ∧ H' = upd H T (.tup [v1, v2]) ∧ (∀ xs, SqK K d1 H l1 xs → xs[i]? = some v1) ∧ (∀ xs, SqK K d2 H l2 xs → xs[i]? = some v2),
    fun i H => ∃ (x1 x2 : List V), SqK K d1 H l1 x1 ∧ SqK K d2 H l2 x2 ∧ (x1.length ≤ i ∨ x2.length ≤ i)⟩
theorem turn_z2 {P : Program} {w : World} {K : PySem.W.Frag} {elts : List Expr} {kk : Nat} {tpos : Pos} {d1 d2 : Bool} {l1 l2 z TI TO i1 i2 : Addr} (D : Ap2 z TI TO i1 i2 l1 l2) :
    Turn P w K (.Tuple elts kk tpos) (Iz2 K d1 d2 l1 l2) [z, TI, TO, i1, i2] z (fun i h => IsZip h z TI TO .none ∧ ZP.IsT h TI #[.ref i1, .ref i2] ∧ (∃ a1 a2, ZP.IsT h TO #[a1, a2]) ∧ SIk d1 h i1 l1 i ∧ SIk d2 h i2 l2 i) where
  mem := by simp
  obj := fun i h st c hc => by
    obtain ⟨hz, hTI, ⟨a1, a2, hTO⟩, s1, s2⟩ := st
    have e' : c = z ∨ c = TI ∨ c = TO ∨ c = i1 ∨ c = i2 := by simpa using hc
    rcases e' with q | q | q | q | q
    · rw [q]; exact ⟨_, hz, fun v q => nomatch q⟩
    · rw [q]; exact ⟨_, hTI, fun v q => nomatch q⟩
    · rw [q]; exact ⟨_, hTO, fun v q => nomatch q⟩
    · rw [q]; obtain ⟨o, vs, e, d⟩ := s1.obj; exact ⟨o, e, fun v q => by rw [d] at q; cases q⟩
    · rw [q]; obtain ⟨o, vs, e, d⟩ := s2.obj; exact ⟨o, e, fun v q => by rw [d] at q; cases q⟩
  keep := fun i h h' st k => by
    obtain ⟨hz, hTI, ⟨a1, a2, hTO⟩, s1, s2⟩ := st
    exact ⟨k z (by simp) _ hz, k TI (by simp) _ hTI, ⟨a1, a2, k TO (by simp) _ hTO⟩, s1.at fun o q => k i1 (by simp) o q, s2.at fun o q => k i2 (by simp) o q⟩
  item := by
    intro X hP hw hK hc i pins s σ H E I hf st hg
    subst hP hw hK
    obtain ⟨hz, hTI, ⟨a1, a2, hTO⟩, s1, s2⟩ := st
    obtain ⟨x1, x2, v1, v2, hq1, hq2, hv1, hv2⟩ := hg
    obtain ⟨its1, rv1, p1, _⟩ := I.seqk hq1
    obtain ⟨u1, hu1, ru1⟩ := rv1.get hv1
    obtain ⟨its2, rv2, p2, _⟩ := I.seqk hq2
    obtain ⟨u2, hu2, ru2⟩ := rv2.get hv2
    have hzl : z < s.heap.objs.size := Heap.lt_size hz
    refine pyNext_zip2_item D hz hTI hTO s1 s2 p1 p2 (y1 := u1) (y2 := u2) (by simpa using hu1) (by simpa using hu2) fun h' z' TO' t1 t2 hT hsz hk => ?_
    refine ⟨_, rfl, wpAny_letOwnedTupleGo_zip (s := { s with heap := h' }) z' fun h'' z'' sb => ?_⟩
    have hT2 : h''.get? s.heap.objs.size = some { cls := .type "tuple", data := .seq #[u1, u2] } := (sb.2 _ (Nat.ne_of_gt hzl)).trans hT
    have new : ObjOk X.prog X.w (upd H s.heap.objs.size (.tup [v1, v2])) h'' s.heap.objs.size (.tup [v1, v2]) :=
      ⟨by show 2 ≤ sizeLine; decide, [u1, u2], .cons ru1 (.cons ru2 (.nil)), ⟨_, hT2, rfl, _, rfl⟩⟩
    have I1 : Inv X pins σ (upd H s.heap.objs.size (.tup [v1, v2])) { s with heap := h'' } :=
      I.turnedNew (t' := s.toks) (ch := [z, TI, TO, i1, i2]) (fun c o hb q => (sb.2 c (fun q' => hb (by simp [q']))).trans (hk c o (fun q' => hb (by simp [q'])) (fun q' => hb (by simp [q'])) (fun q' => hb (by simp [q'])) (fun q' => hb (by simp [q'])) q)) hf (Nat.le_refl _) new
    refine ⟨.ref s.heap.objs.size, _, I1, rfl, ⟨_, v1, v2, rfl, I.hok.fresh (Nat.le_refl _), rfl, fun l hl => by rw [I.seqk_inj hl hq1]; exact hv1, fun l hl => by rw [I.seqk_inj hl hq2]; exact hv2⟩, ⟨z'', ?_, ⟨u1, u2, ?_⟩, ?_, ?_⟩, fun c hcm => ?_⟩
    · exact (sb.2 _ D.TIz).trans (hk _ _ D.TIz D.TOTI.symm D.i1TI.symm D.i2TI.symm hTI)
    · exact (sb.2 _ D.TOz).trans TO'
    · exact t1.at fun o q => (sb.2 _ D.i1z).trans q
    · exact t2.at fun o q => (sb.2 _ D.i2z).trans q
    · have hlt : c < s.heap.objs.size := by
        have e' : c = z ∨ c = TI ∨ c = TO ∨ c = i1 ∨ c = i2 := by simpa using hcm
        rcases e' with q | q | q | q | q
        · rw [q]; exact hzl
        · rw [q]; exact Heap.lt_size hTI
        · rw [q]; exact Heap.lt_size hTO
        · rw [q]; obtain ⟨_, _, e1, _⟩ := s1.obj; exact Heap.lt_size e1
        · rw [q]; obtain ⟨_, _, e1, _⟩ := s2.obj; exact Heap.lt_size e1
      rw [upd_ne (Nat.ne_of_lt hlt)]
      exact (hf c hcm).1
  done := by
    intro X hP hw hK hc i pins s σ H E I hf st hg
    subst hP hw hK
    obtain ⟨hz, hTI, ⟨a1, a2, hTO⟩, s1, s2⟩ := st
    obtain ⟨x1, x2, hq1, hq2, hend⟩ := hg
    obtain ⟨its1, rv1, p1, _⟩ := I.seqk hq1
    have w1 := rv1.length
    obtain ⟨its2, rv2, p2, _⟩ := I.seqk hq2
    have w2 := rv2.length
    have he : its1.toArray[i]? = none ∨ its2.toArray[i]? = none := by
      rcases hend with q | q
      · exact .inl (by simp; omega)
      · exact .inr (by simp; omega)
    exact pyNext_zip2_end (I.ok.hd hc) D hz hTI hTO s1 s2 p1 p2 he fun h' hk => ⟨rfl, I.turnedL (t' := s.toks) (ch := [z, TI, TO, i1, i2]) (fun c o hb q =>
      hk c o (fun q' => hb (by simp [q'])) (fun q' => hb (by simp [q'])) (fun q' => hb (by simp [q'])) (fun q' => hb (by simp [q'])) q) hf⟩
  self := fun A i s Q E st h => wpAny_pyIter_zip st.1 h
def iZk2 (K : PySem.W.Frag) (ta : TA) : TI := fun σ H R => ta σ H fun vs H1 => ∃ (d1 d2 : Bool) (l1 l2 : Addr) (x1 x2 : List V), vs = [.ref l1, .ref l2] ∧ SqK K d1 H1 l1 x1 ∧ SqK K d2 H1 l2 x2 ∧ R (Iz2 K d1 d2 l1 l2) H1
theorem pi_z2 {X : Cx} {e1 e2 : Expr} {ta : TA} {p pos tpos : Pos} {elts : List Expr} {kk : Nat} (hg : Gl X "zip") (hm : X.mg "zip" = none) (ha : PA X [e1, e2] ta)
    (hs : starEach [e1, e2] X.env = (false, eval e1 X.env) :: starEach [e2] X.env := by rfl) (hpl : (backTo pos (starEach [e2] X.env)).any (·.1) = false := by rfl) :
    PI X (.Tuple elts kk tpos) (.Call (.Name "zip" p) [e1, e2] [] pos) (iZk2 X.K ta) := by
  refine ⟨fun pins s σ H R I h => ?_⟩
  refine Call_ (ld_blt I hg hm PyProof.Rows.boot_zip (PyProof.Rows.callWith_type1 (thn (ha.run pos pins s σ H _ I h) fun us s1 ⟨vs, H1, I1, r1, q1⟩ => ?_) hs hpl))
  obtain ⟨d1, d2, l1, l2, x1, x2, ex, hq1, hq2, q⟩ := q1
  subst ex
  cases r1 with
  | cons r r1 =>
    cases r
    cases r1 with
    | cons r r1 =>
      cases r
      cases r1
      have fresh5 : ∀ c, c ∈ [s1.heap.objs.size + 4, s1.heap.objs.size + 2, s1.heap.objs.size + 3, s1.heap.objs.size, s1.heap.objs.size + 1] → FpOk X pins H1 c := fun c hcm => by
        have hle : s1.heap.objs.size ≤ c := by
          simp only [List.mem_cons, List.not_mem_nil, or_false] at hcm
          omega
        exact I1.fpOk hle (I1.hok.fresh hle)
      obtain ⟨its1, rv1, p1, _⟩ := I1.seqk hq1
      obtain ⟨its2, rv2, p2, _⟩ := I1.seqk hq2
      refine call_zip2 p1 p2 fun h' hz hTI hTO t1 t2 hsz hk => wpAny_pyIter_zip hz ?_
      have I2 : Inv X pins σ H1 { s1 with heap := h' } := I1.kept (t' := s1.toks) hk
      have b1 : @LT.lt Nat _ l1 s1.heap.objs.size := p1.lt
      have b2 : @LT.lt Nat _ l2 s1.heap.objs.size := p2.lt
      have D : Ap2 (s1.heap.objs.size + 4) (s1.heap.objs.size + 2) (s1.heap.objs.size + 3) (s1.heap.objs.size) (s1.heap.objs.size + 1) l1 l2 := ⟨(show @Ne Nat (s1.heap.objs.size + 2) (s1.heap.objs.size + 4) by omega), (show @Ne Nat (s1.heap.objs.size + 3) (s1.heap.objs.size + 4) by omega), (show @Ne Nat (s1.heap.objs.size + 3) (s1.heap.objs.size + 2) by omega), (show @Ne Nat (s1.heap.objs.size) (s1.heap.objs.size + 4) by omega), (show @Ne Nat (s1.heap.objs.size) (s1.heap.objs.size + 2) by omega), (show @Ne Nat (s1.heap.objs.size) (s1.heap.objs.size + 3) by omega), (show @Ne Nat (s1.heap.objs.size + 1) (s1.heap.objs.size + 4) by omega), (show @Ne Nat (s1.heap.objs.size + 1) (s1.heap.objs.size + 2) by omega), (show @Ne Nat (s1.heap.objs.size + 1) (s1.heap.objs.size + 3) by omega), (show @Ne Nat (s1.heap.objs.size + 1) (s1.heap.objs.size) by omega), (show @Ne Nat (l1) (s1.heap.objs.size + 4) by omega), (show @Ne Nat (l1) (s1.heap.objs.size + 3) by omega), (show @Ne Nat (l1) (s1.heap.objs.size) by omega), (show @Ne Nat (l1) (s1.heap.objs.size + 1) by omega), (show @Ne Nat (l2) (s1.heap.objs.size + 4) by omega), (show @Ne Nat (l2) (s1.heap.objs.size + 3) by omega), (show @Ne Nat (l2) (s1.heap.objs.size) by omega), (show @Ne Nat (l2) (s1.heap.objs.size + 1) by omega)⟩
      exact ⟨s1.heap.objs.size + 4, [s1.heap.objs.size + 4, s1.heap.objs.size + 2, s1.heap.objs.size + 3, s1.heap.objs.size, s1.heap.objs.size + 1], _, _, H1, rfl, I2, turn_z2 (K := X.K) D, ⟨hz, hTI, ⟨_, _, hTO⟩, t1, t2⟩, fresh5, q⟩
def Iz3 (K : PySem.W.Frag) (d1 d2 d3 : Bool) (l1 l2 l3 : Addr) : It :=
  ⟨fun i H => ∃ (x1 x2 x3 : List V) (v1 v2 v3 : V), SqK K d1 H l1 x1 ∧ SqK K d2 H l2 x2 ∧ SqK K d3 H l3 x3 ∧ x1[i]? = some v1 ∧ x2[i]? = some v2 ∧ x3[i]? = some v3,
    fun i H v H' => ∃ (T : Addr) (v1 v2 v3 : V), v = .ref T ∧ H T = none ∧ H' = upd H T (.tup [v1, v2, v3]) ∧ (∀ xs, SqK K d1 H l1 xs → xs[i]? = some v1) ∧ (∀ xs, SqK K d2 H l2 xs → xs[i]? = some v2) ∧ (∀ xs, SqK K d3 H l3 xs → xs[i]? = some v3),
    fun i H => ∃ (x1 x2 x3 : List V), SqK K d1 H l1 x1 ∧ SqK K d2 H l2 x2 ∧ SqK K d3 H l3 x3 ∧ (x1.length ≤ i ∨ x2.length ≤ i ∨ x3.length ≤ i)⟩
theorem turn_z3 {P : Program} {w : World} {K : PySem.W.Frag} {elts : List Expr} {kk : Nat} {tpos : Pos} {d1 d2 d3 : Bool} {l1 l2 l3 z TI TO i1 i2 i3 : Addr} (D : Ap3 z TI TO i1 i2 i3 l1 l2 l3) :
    Turn P w K (.Tuple elts kk tpos) (Iz3 K d1 d2 d3 l1 l2 l3) [z, TI, TO, i1, i2, i3] z (fun i h => IsZip h z TI TO .none ∧ ZP.IsT h TI #[.ref i1, .ref i2, .ref i3] ∧ (∃ a1 a2 a3, ZP.IsT h TO #[a1, a2, a3]) ∧ SIk d1 h i1 l1 i ∧ SIk d2 h i2 l2 i ∧ SIk d3 h i3 l3 i) where
  mem := by simp
  obj := fun i h st c hc => by
    obtain ⟨hz, hTI, ⟨a1, a2, a3, hTO⟩, s1, s2, s3⟩ := st
    have e' : c = z ∨ c = TI ∨ c = TO ∨ c = i1 ∨ c = i2 ∨ c = i3 := by simpa using hc
    rcases e' with q | q | q | q | q | q
    · rw [q]; exact ⟨_, hz, fun v q => nomatch q⟩
    · rw [q]; exact ⟨_, hTI, fun v q => nomatch q⟩
    · rw [q]; exact ⟨_, hTO, fun v q => nomatch q⟩
    · rw [q]; obtain ⟨o, vs, e, d⟩ := s1.obj; exact ⟨o, e, fun v q => by rw [d] at q; cases q⟩
    · rw [q]; obtain ⟨o, vs, e, d⟩ := s2.obj; exact ⟨o, e, fun v q => by rw [d] at q; cases q⟩
    · rw [q]; obtain ⟨o, vs, e, d⟩ := s3.obj; exact ⟨o, e, fun v q => by rw [d] at q; cases q⟩
  keep := fun i h h' st k => by
    obtain ⟨hz, hTI, ⟨a1, a2, a3, hTO⟩, s1, s2, s3⟩ := st
    exact ⟨k z (by simp) _ hz, k TI (by simp) _ hTI, ⟨a1, a2, a3, k TO (by simp) _ hTO⟩, s1.at fun o q => k i1 (by simp) o q, s2.at fun o q => k i2 (by simp) o q, s3.at fun o q => k i3 (by simp) o q⟩
  item := by
    intro X hP hw hK hc i pins s σ H E I hf st hg
    subst hP hw hK
    obtain ⟨hz, hTI, ⟨a1, a2, a3, hTO⟩, s1, s2, s3⟩ := st
    obtain ⟨x1, x2, x3, v1, v2, v3, hq1, hq2, hq3, hv1, hv2, hv3⟩ := hg
    obtain ⟨its1, rv1, p1, _⟩ := I.seqk hq1
    obtain ⟨u1, hu1, ru1⟩ := rv1.get hv1
    obtain ⟨its2, rv2, p2, _⟩ := I.seqk hq2
    obtain ⟨u2, hu2, ru2⟩ := rv2.get hv2
    obtain ⟨its3, rv3, p3, _⟩ := I.seqk hq3
    obtain ⟨u3, hu3, ru3⟩ := rv3.get hv3
    have hzl : z < s.heap.objs.size := Heap.lt_size hz
    refine pyNext_zip3_item D hz hTI hTO s1 s2 s3 p1 p2 p3 (y1 := u1) (y2 := u2) (y3 := u3) (by simpa using hu1) (by simpa using hu2) (by simpa using hu3) fun h' z' TO' t1 t2 t3 hT hsz hk => ?_
    refine ⟨_, rfl, wpAny_letOwnedTupleGo_zip (s := { s with heap := h' }) z' fun h'' z'' sb => ?_⟩
    have hT2 : h''.get? s.heap.objs.size = some { cls := .type "tuple", data := .seq #[u1, u2, u3] } := (sb.2 _ (Nat.ne_of_gt hzl)).trans hT
    have new : ObjOk X.prog X.w (upd H s.heap.objs.size (.tup [v1, v2, v3])) h'' s.heap.objs.size (.tup [v1, v2, v3]) :=
      ⟨by show 3 ≤ sizeLine; decide, [u1, u2, u3], .cons ru1 (.cons ru2 (.cons ru3 (.nil))), ⟨_, hT2, rfl, _, rfl⟩⟩
    have I1 : Inv X pins σ (upd H s.heap.objs.size (.tup [v1, v2, v3])) { s with heap := h'' } :=
      I.turnedNew (t' := s.toks) (ch := [z, TI, TO, i1, i2, i3]) (fun c o hb q => (sb.2 c (fun q' => hb (by simp [q']))).trans (hk c o (fun q' => hb (by simp [q'])) (fun q' => hb (by simp [q'])) (fun q' => hb (by simp [q'])) (fun q' => hb (by simp [q'])) (fun q' => hb (by simp [q'])) q)) hf (Nat.le_refl _) new
    refine ⟨.ref s.heap.objs.size, _, I1, rfl, ⟨_, v1, v2, v3, rfl, I.hok.fresh (Nat.le_refl _), rfl, fun l hl => by rw [I.seqk_inj hl hq1]; exact hv1, fun l hl => by rw [I.seqk_inj hl hq2]; exact hv2, fun l hl => by rw [I.seqk_inj hl hq3]; exact hv3⟩, ⟨z'', ?_, ⟨u1, u2, u3, ?_⟩, ?_, ?_, ?_⟩, fun c hcm => ?_⟩
    · exact (sb.2 _ D.TIz).trans (hk _ _ D.TIz D.TOTI.symm D.i1TI.symm D.i2TI.symm D.i3TI.symm hTI)
    · exact (sb.2 _ D.TOz).trans TO'
    · exact t1.at fun o q => (sb.2 _ D.i1z).trans q
    · exact t2.at fun o q => (sb.2 _ D.i2z).trans q
    · exact t3.at fun o q => (sb.2 _ D.i3z).trans q
    · have hlt : c < s.heap.objs.size := by
        have e' : c = z ∨ c = TI ∨ c = TO ∨ c = i1 ∨ c = i2 ∨ c = i3 := by simpa using hcm
        rcases e' with q | q | q | q | q | q
        · rw [q]; exact hzl
        · rw [q]; exact Heap.lt_size hTI
        · rw [q]; exact Heap.lt_size hTO
        · rw [q]; obtain ⟨_, _, e1, _⟩ := s1.obj; exact Heap.lt_size e1
        · rw [q]; obtain ⟨_, _, e1, _⟩ := s2.obj; exact Heap.lt_size e1
        · rw [q]; obtain ⟨_, _, e1, _⟩ := s3.obj; exact Heap.lt_size e1
      rw [upd_ne (Nat.ne_of_lt hlt)]
      exact (hf c hcm).1
  done := by
    intro X hP hw hK hc i pins s σ H E I hf st hg
    subst hP hw hK
    obtain ⟨hz, hTI, ⟨a1, a2, a3, hTO⟩, s1, s2, s3⟩ := st
    obtain ⟨x1, x2, x3, hq1, hq2, hq3, hend⟩ := hg
    obtain ⟨its1, rv1, p1, _⟩ := I.seqk hq1
    have w1 := rv1.length
    obtain ⟨its2, rv2, p2, _⟩ := I.seqk hq2
    have w2 := rv2.length
    obtain ⟨its3, rv3, p3, _⟩ := I.seqk hq3
    have w3 := rv3.length
    have he : its1.toArray[i]? = none ∨ its2.toArray[i]? = none ∨ its3.toArray[i]? = none := by
      rcases hend with q | q | q
      · exact .inl (by simp; omega)
      · exact .inr (.inl (by simp; omega))
      · exact .inr (.inr (by simp; omega))
    exact pyNext_zip3_end (I.ok.hd hc) D hz hTI hTO s1 s2 s3 p1 p2 p3 he fun h' hk => ⟨rfl, I.turnedL (t' := s.toks) (ch := [z, TI, TO, i1, i2, i3]) (fun c o hb q =>
      hk c o (fun q' => hb (by simp [q'])) (fun q' => hb (by simp [q'])) (fun q' => hb (by simp [q'])) (fun q' => hb (by simp [q'])) (fun q' => hb (by simp [q'])) q) hf⟩
  self := fun A i s Q E st h => wpAny_pyIter_zip st.1 h
def iZk3 (K : PySem.W.Frag) (ta : TA) : TI := fun σ H R => ta σ H fun vs H1 => ∃ (d1 d2 d3 : Bool) (l1 l2 l3 : Addr) (x1 x2 x3 : List V), vs = [.ref l1, .ref l2, .ref l3] ∧ SqK K d1 H1 l1 x1 ∧ SqK K d2 H1 l2 x2 ∧ SqK K d3 H1 l3 x3 ∧ R (Iz3 K d1 d2 d3 l1 l2 l3) H1
theorem pi_z3 {X : Cx} {e1 e2 e3 : Expr} {ta : TA} {p pos tpos : Pos} {elts : List Expr} {kk : Nat} (hg : Gl X "zip") (hm : X.mg "zip" = none) (ha : PA X [e1, e2, e3] ta)
    (hs : starEach [e1, e2, e3] X.env = (false, eval e1 X.env) :: starEach [e2, e3] X.env := by rfl) (hpl : (backTo pos (starEach [e2, e3] X.env)).any (·.1) = false := by rfl) :
    PI X (.Tuple elts kk tpos) (.Call (.Name "zip" p) [e1, e2, e3] [] pos) (iZk3 X.K ta) := by
  refine ⟨fun pins s σ H R I h => ?_⟩
  refine Call_ (ld_blt I hg hm PyProof.Rows.boot_zip (PyProof.Rows.callWith_type1 (thn (ha.run pos pins s σ H _ I h) fun us s1 ⟨vs, H1, I1, r1, q1⟩ => ?_) hs hpl))
  obtain ⟨d1, d2, d3, l1, l2, l3, x1, x2, x3, ex, hq1, hq2, hq3, q⟩ := q1
  subst ex
  cases r1 with
  | cons r r1 =>
    cases r
    cases r1 with
    | cons r r1 =>
      cases r
      cases r1 with
      | cons r r1 =>
        cases r
        cases r1
        have fresh5 : ∀ c, c ∈ [s1.heap.objs.size + 5, s1.heap.objs.size + 3, s1.heap.objs.size + 4, s1.heap.objs.size, s1.heap.objs.size + 1, s1.heap.objs.size + 2] → FpOk X pins H1 c := fun c hcm => by
          have hle : s1.heap.objs.size ≤ c := by
            simp only [List.mem_cons, List.not_mem_nil, or_false] at hcm
            omega
          exact I1.fpOk hle (I1.hok.fresh hle)
        obtain ⟨its1, rv1, p1, _⟩ := I1.seqk hq1
        obtain ⟨its2, rv2, p2, _⟩ := I1.seqk hq2
        obtain ⟨its3, rv3, p3, _⟩ := I1.seqk hq3
        refine call_zip3 p1 p2 p3 fun h' hz hTI hTO t1 t2 t3 hsz hk => wpAny_pyIter_zip hz ?_
        have I2 : Inv X pins σ H1 { s1 with heap := h' } := I1.kept (t' := s1.toks) hk
        have b1 : @LT.lt Nat _ l1 s1.heap.objs.size := p1.lt
        have b2 : @LT.lt Nat _ l2 s1.heap.objs.size := p2.lt
        have b3 : @LT.lt Nat _ l3 s1.heap.objs.size := p3.lt
        have D : Ap3 (s1.heap.objs.size + 5) (s1.heap.objs.size + 3) (s1.heap.objs.size + 4) (s1.heap.objs.size) (s1.heap.objs.size + 1) (s1.heap.objs.size + 2) l1 l2 l3 := ⟨(show @Ne Nat (s1.heap.objs.size + 3) (s1.heap.objs.size + 5) by omega), (show @Ne Nat (s1.heap.objs.size + 4) (s1.heap.objs.size + 5) by omega), (show @Ne Nat (s1.heap.objs.size + 4) (s1.heap.objs.size + 3) by omega), (show @Ne Nat (s1.heap.objs.size) (s1.heap.objs.size + 5) by omega), (show @Ne Nat (s1.heap.objs.size) (s1.heap.objs.size + 3) by omega), (show @Ne Nat (s1.heap.objs.size) (s1.heap.objs.size + 4) by omega), (show @Ne Nat (s1.heap.objs.size + 1) (s1.heap.objs.size + 5) by omega), (show @Ne Nat (s1.heap.objs.size + 1) (s1.heap.objs.size + 3) by omega), (show @Ne Nat (s1.heap.objs.size + 1) (s1.heap.objs.size + 4) by omega), (show @Ne Nat (s1.heap.objs.size + 1) (s1.heap.objs.size) by omega), (show @Ne Nat (s1.heap.objs.size + 2) (s1.heap.objs.size + 5) by omega), (show @Ne Nat (s1.heap.objs.size + 2) (s1.heap.objs.size + 3) by omega), (show @Ne Nat (s1.heap.objs.size + 2) (s1.heap.objs.size + 4) by omega), (show @Ne Nat (s1.heap.objs.size + 2) (s1.heap.objs.size) by omega), (show @Ne Nat (s1.heap.objs.size + 2) (s1.heap.objs.size + 1) by omega), (show @Ne Nat (l1) (s1.heap.objs.size + 5) by omega), (show @Ne Nat (l1) (s1.heap.objs.size + 4) by omega), (show @Ne Nat (l1) (s1.heap.objs.size) by omega), (show @Ne Nat (l1) (s1.heap.objs.size + 1) by omega), (show @Ne Nat (l1) (s1.heap.objs.size + 2) by omega), (show @Ne Nat (l2) (s1.heap.objs.size + 5) by omega), (show @Ne Nat (l2) (s1.heap.objs.size + 4) by omega), (show @Ne Nat (l2) (s1.heap.objs.size) by omega), (show @Ne Nat (l2) (s1.heap.objs.size + 1) by omega), (show @Ne Nat (l2) (s1.heap.objs.size + 2) by omega), (show @Ne Nat (l3) (s1.heap.objs.size + 5) by omega), (show @Ne Nat (l3) (s1.heap.objs.size + 4) by omega), (show @Ne Nat (l3) (s1.heap.objs.size) by omega), (show @Ne Nat (l3) (s1.heap.objs.size + 1) by omega), (show @Ne Nat (l3) (s1.heap.objs.size + 2) by omega)⟩
        exact ⟨s1.heap.objs.size + 5, [s1.heap.objs.size + 5, s1.heap.objs.size + 3, s1.heap.objs.size + 4, s1.heap.objs.size, s1.heap.objs.size + 1, s1.heap.objs.size + 2], _, _, H1, rfl, I2, turn_z3 (K := X.K) D, ⟨hz, hTI, ⟨_, _, _, hTO⟩, t1, t2, t3⟩, fresh5, q⟩
end L2
end
section
set_option Elab.async false
set_option Elab.async false
set_option linter.all false
set_option maxRecDepth 100000
set_option maxHeartbeats 1000000
/-! Zq: zip and enumerate lifted. -/
namespace Y
open PySem PySem.Spec PyProof.Rows L2
section
variable {X : Cx} {G : Glo} {E : XK}
theorem seqOf_rel {S F : Hp} {ρ : List Addr} {H : Hp} {st s : Store} {u : V} {v : Val} {ds : List D} (rp : Rep G S F ρ H st) (h : VR G F ρ u v) (e : seqOf v st = .ok ds s) : s = st ∧ ∃ (kd : Bool) (a : Addr) (xs : List V), u = .ref a ∧ (∀ H', Exn F H' → SqK G.K kd H' a xs) ∧ DtA F xs ds := by
  cases v with
  | o _ => cases e
  | s _ => cases e
  | d x =>
    cases x with
    | list es =>
      have e' : R.ok es st = R.ok ds s := e
      injection e' with e1 e2
      subst e1 e2
      obtain ⟨a, xs, rfl, ha, hd⟩ := dt_list h
      exact ⟨rfl, false, a, xs, rfl, fun H' ex => SqL.of (ex _ _ ha), hd⟩
    | tuple es =>
      have e' : R.ok es st = R.ok ds s := e
      injection e' with e1 e2
      subst e1 e2
      obtain ⟨a, xs, rfl, ha, hd⟩ := dt_tup h
      exact ⟨rfl, true, a, xs, rfl, fun H' ex => SqT.of (ex _ _ ha), hd⟩
    | none => cases e
    | bool _ => cases e
    | int _ => cases e
    | str _ => cases e
    | dict _ => cases e
theorem seqOf_ex {v : Val} {st s : Store} {c : Nat} (e : seqOf v st = .ex c s) : False := by
  cases v with
  | o _ => cases e
  | s _ => cases e
  | d x => cases x <;> cases e
theorem out_seq {S F : Hp} {ρ : List Addr} {st : Store} {γ δ : Type} {Rk : Hp → List Addr → δ → γ → Prop} {Qk : δ → Hp → Prop} {v : Val} {f : List D → M γ} (o : out G S F ρ Rk Qk E (bd (seqOf v) f st)) : ∃ ds, seqOf v st = .ok ds st ∧ out G S F ρ Rk Qk E (f ds st) := by
  unfold bd at o
  cases e : seqOf v st with
  | bad => rw [e] at o; exact o.elim
  | ex c s => exact (seqOf_ex e).elim
  | ok ds s =>
    rw [e] at o
    have : s = st := by
      cases v with
      | o _ => cases e
      | s _ => cases e
      | d x =>
        cases x with
        | list es => injection e with _ e2; exact e2.symm
        | tuple es => injection e with _ e2; exact e2.symm
        | none => cases e
        | bool _ => cases e
        | int _ => cases e
        | str _ => cases e
        | dict _ => cases e
    subst this
    exact ⟨ds, rfl, o⟩
theorem zip2_len : ∀ (a b : List D), (zip2 a b).length = min a.length b.length
  | [], b => by simp [zip2]
  | _ :: _, [] => by simp [zip2]
  | x :: xs, y :: ys => by
    simp only [zip2, List.length_cons, zip2_len xs ys]
    omega
theorem zip2_get : ∀ {a b : List D} {i : Nat} {x y : D}, a[i]? = some x → b[i]? = some y → (zip2 a b)[i]? = some (.d (.tuple [x, y]))
  | [], _, _, _, _, h, _ => by simp at h
  | _ :: _, [], _, _, _, _, h => by simp at h
  | x :: xs, y :: ys, 0, _, _, h, h' => by simp at h h'; subst h h'; rfl
  | x :: xs, y :: ys, i + 1, _, _, h, h' => by
    simp only [zip2, List.getElem?_cons_succ]
    exact zip2_get (by simpa using h) (by simpa using h')
theorem zip3_len : ∀ (a b c : List D), (zip3 a b c).length = min a.length (min b.length c.length)
  | [], b, c => by simp [zip3]
  | _ :: _, [], c => by simp [zip3]
  | _ :: _, _ :: _, [] => by simp [zip3]
  | x :: xs, y :: ys, z :: zs => by
    simp only [zip3, List.length_cons, zip3_len xs ys zs]
    omega
theorem zip3_get : ∀ {a b c : List D} {i : Nat} {x y z : D}, a[i]? = some x → b[i]? = some y → c[i]? = some z → (zip3 a b c)[i]? = some (.d (.tuple [x, y, z]))
  | [], _, _, _, _, _, _, h, _, _ => by simp at h
  | _ :: _, [], _, _, _, _, _, _, h, _ => by simp at h
  | _ :: _, _ :: _, [], _, _, _, _, _, _, h => by simp at h
  | x :: xs, y :: ys, z :: zs, 0, _, _, _, h, h', h'' => by simp at h h' h''; subst h h' h''; rfl
  | x :: xs, y :: ys, z :: zs, i + 1, _, _, _, h, h', h'' => by
    simp only [zip3, List.getElem?_cons_succ]
    exact zip3_get (by simpa using h) (by simpa using h') (by simpa using h'')
theorem jw_zip2 {F : Hp} {ρ : List Addr} {d1 d2 : Bool} {l1 l2 : Addr} {x1 x2 : List V} {e1 e2 : List D} (q1 : ∀ H', Exn F H' → SqK G.K d1 H' l1 x1) (q2 : ∀ H', Exn F H' → SqK G.K d2 H' l2 x2) (h1 : DtA F x1 e1) (h2 : DtA F x2 e2) : JW G F ρ (Iz2 G.K d1 d2 l1 l2) (zip2 e1 e2) := by
  have w1 := h1.length
  have w2 := h2.length
  refine ⟨fun i H hi ex => ?_, fun H ex => ?_, fun i H x H' hi ex y => ?_⟩
  · rw [zip2_len] at hi
    have a1 : i < x1.length := by omega
    have a2 : i < x2.length := by omega
    exact ⟨x1, x2, x1[i], x2[i], q1 H ex, q2 H ex, by simp [a1], by simp [a2]⟩
  · exact ⟨x1, x2, q1 H ex, q2 H ex, by rw [zip2_len]; omega⟩
  · obtain ⟨T, v1, v2, rfl, hT, rfl, f1, f2⟩ := y
    obtain ⟨y1, z1, t1⟩ := h1.get' (f1 x1 (q1 H ex))
    obtain ⟨y2, z2, t2⟩ := h2.get' (f2 x2 (q2 H ex))
    exact .inr (.inl ⟨T, [v1, v2], [y1, y2], hT, rfl, rfl, zip2_get z1 z2, .cons t1 (.cons t2 .nil)⟩)
theorem jw_zip3 {F : Hp} {ρ : List Addr} {d1 d2 d3 : Bool} {l1 l2 l3 : Addr} {x1 x2 x3 : List V} {e1 e2 e3 : List D} (q1 : ∀ H', Exn F H' → SqK G.K d1 H' l1 x1) (q2 : ∀ H', Exn F H' → SqK G.K d2 H' l2 x2) (q3 : ∀ H', Exn F H' → SqK G.K d3 H' l3 x3) (h1 : DtA F x1 e1) (h2 : DtA F x2 e2) (h3 : DtA F x3 e3) : JW G F ρ (Iz3 G.K d1 d2 d3 l1 l2 l3) (zip3 e1 e2 e3) := by
  have w1 := h1.length
  have w2 := h2.length
  have w3 := h3.length
  refine ⟨fun i H hi ex => ?_, fun H ex => ?_, fun i H x H' hi ex y => ?_⟩
  · rw [zip3_len] at hi
    have a1 : i < x1.length := by omega
    have a2 : i < x2.length := by omega
    have a3 : i < x3.length := by omega
    exact ⟨x1, x2, x3, x1[i], x2[i], x3[i], q1 H ex, q2 H ex, q3 H ex, by simp [a1], by simp [a2], by simp [a3]⟩
  · exact ⟨x1, x2, x3, q1 H ex, q2 H ex, q3 H ex, by rw [zip3_len]; omega⟩
  · obtain ⟨T, v1, v2, v3, rfl, hT, rfl, f1, f2, f3⟩ := y
    obtain ⟨y1, z1, t1⟩ := h1.get' (f1 x1 (q1 H ex))
    obtain ⟨y2, z2, t2⟩ := h2.get' (f2 x2 (q2 H ex))
    obtain ⟨y3, z3, t3⟩ := h3.get' (f3 x3 (q3 H ex))
    exact .inr (.inl ⟨T, [v1, v2, v3], [y1, y2, y3], hT, rfl, rfl, zip3_get z1 z2 z3, .cons t1 (.cons t2 (.cons t3 .nil))⟩)
theorem qi_zip2 {e1 e2 : Expr} {f : Y.A} {p pos tpos : Pos} {elts : List Expr} {kk : Nat} (hg : Gl X "zip") (hm : X.mg "zip" = none) (ha : PA X [e1, e2] (lA G E f)) (hs : starEach [e1, e2] X.env = (false, eval e1 X.env) :: starEach [e2] X.env := by rfl) (hpl : (backTo pos (starEach [e2] X.env)).any (·.1) = false := by rfl) (hK : X.K = G.K := by rfl) :
    PI X (.Tuple elts kk tpos) (.Call (.Name "zip" p) [e1, e2] [] pos) (lI G E (iCall kZip2 f)) := by
  refine PI.imp (pi_z2 hg hm ha hs hpl) fun σ H Q ⟨S, F, ρ, loc, st, rp, l, o⟩ => ⟨S, F, ρ, loc, st, rp, l, out.imp (fun x H1 h1 => ?_) (out.bd (Rl := VRs G) o)⟩
  obtain ⟨F1, ρ1, as, st1, g1, r1, v1, o1⟩ := h1
  unfold kZip2 at o1
  split at o1
  · cases v1 with
    | cons h1 hr =>
      cases hr with
      | cons h2 hr =>
        cases hr
        obtain ⟨ds1, e1, o2⟩ := out_seq o1
        obtain ⟨ds2, e2, o3⟩ := out_seq o2
        obtain ⟨_, k1, a1, xs1, rfl, q1, t1⟩ := seqOf_rel r1 h1 e1
        obtain ⟨_, k2, a2, xs2, rfl, q2, t2⟩ := seqOf_rel r1 h2 e2
        rw [hK]
        exact ⟨k1, k2, a1, a2, xs1, xs2, rfl, q1 H1 r1.ex, q2 H1 r1.ex, out.at (v := zip2 ds1 ds2) o3 r1 (jw_zip2 q1 q2 t1 t2)⟩
  · exact o1.elim
theorem qi_zip3 {e1 e2 e3 : Expr} {f : Y.A} {p pos tpos : Pos} {elts : List Expr} {kk : Nat} (hg : Gl X "zip") (hm : X.mg "zip" = none) (ha : PA X [e1, e2, e3] (lA G E f)) (hs : starEach [e1, e2, e3] X.env = (false, eval e1 X.env) :: starEach [e2, e3] X.env := by rfl) (hpl : (backTo pos (starEach [e2, e3] X.env)).any (·.1) = false := by rfl) (hK : X.K = G.K := by rfl) :
    PI X (.Tuple elts kk tpos) (.Call (.Name "zip" p) [e1, e2, e3] [] pos) (lI G E (iCall kZip3 f)) := by
  refine PI.imp (pi_z3 hg hm ha hs hpl) fun σ H Q ⟨S, F, ρ, loc, st, rp, l, o⟩ => ⟨S, F, ρ, loc, st, rp, l, out.imp (fun x H1 h1 => ?_) (out.bd (Rl := VRs G) o)⟩
  obtain ⟨F1, ρ1, as, st1, g1, r1, v1, o1⟩ := h1
  unfold kZip3 at o1
  split at o1
  · cases v1 with
    | cons h1 hr =>
      cases hr with
      | cons h2 hr =>
        cases hr with
        | cons h3 hr =>
          cases hr
          obtain ⟨ds1, e1, o2⟩ := out_seq o1
          obtain ⟨ds2, e2, o3⟩ := out_seq o2
          obtain ⟨ds3, e3, o4⟩ := out_seq o3
          obtain ⟨_, k1, a1, xs1, rfl, q1, t1⟩ := seqOf_rel r1 h1 e1
          obtain ⟨_, k2, a2, xs2, rfl, q2, t2⟩ := seqOf_rel r1 h2 e2
          obtain ⟨_, k3, a3, xs3, rfl, q3, t3⟩ := seqOf_rel r1 h3 e3
          rw [hK]
          exact ⟨k1, k2, k3, a1, a2, a3, xs1, xs2, xs3, rfl, q1 H1 r1.ex, q2 H1 r1.ex, q3 H1 r1.ex, out.at (v := zip3 ds1 ds2 ds3) o4 r1 (jw_zip3 q1 q2 q3 t1 t2 t3)⟩
  · exact o1.elim
/-! ### enumerate of a list -/
theorem enum_len : ∀ (n : Nat) (a : List D), (enumF n a).length = a.length
  | _, [] => rfl
  | n, _ :: xs => by simp [enumF, enum_len (n + 1) xs]
theorem enum_get : ∀ {n : Nat} {a : List D} {i : Nat} {x : D}, a[i]? = some x → (enumF n a)[i]? = some (.d (.tuple [.int ((n + i : Nat) : Int), x]))
  | _, [], _, _, h => by simp at h
  | n, _ :: _, 0, _, h => by simp at h; subst h; rfl
  | n, y :: ys, i + 1, x, h => by
    simp only [enumF, List.getElem?_cons_succ]
    rw [enum_get (n := n + 1) (by simpa using h)]
    have : n + 1 + i = n + (i + 1) := by omega
    rw [this]
theorem jw_enumL {F : Hp} {ρ : List Addr} {a : Addr} {x1 : List V} {e1 : List D} (ha : F a = some (.lst x1)) (h1 : DtA F x1 e1) : JW G F ρ (Ite G.K a) (enumF 0 e1) := by
  have w1 := h1.length
  refine ⟨fun i H hi ex => ?_, fun H ex => ?_, fun i H x H' hi ex y => ?_⟩
  · rw [enum_len] at hi
    have a1 : i < x1.length := by omega
    exact ⟨x1, x1[i], SqL.of (ex _ _ ha), by simp [a1]⟩
  · exact ⟨x1, SqL.of (ex _ _ ha), by rw [enum_len]; omega⟩
  · obtain ⟨T, v1, rfl, hT, rfl, f1⟩ := y
    obtain ⟨y1, z1, t1⟩ := h1.get' (f1 x1 (SqL.of (ex _ _ ha)))
    refine .inr (.inl ⟨T, [.int (i : Nat), v1], [.int (i : Int), y1], hT, rfl, rfl, ?_, .cons (.int _) (.cons t1 .nil)⟩)
    have := enum_get (n := 0) z1
    rw [Nat.zero_add] at this
    exact this
theorem qi_enumL {e1 : Expr} {f : Y.A} {p pos tpos : Pos} {elts : List Expr} {kk : Nat} (hg : Gl X "enumerate") (hm : X.mg "enumerate" = none) (ha : PA X [e1] (lA G E f)) (hs : starEach [e1] X.env = [(false, eval e1 X.env)] := by rfl) (hK : X.K = G.K := by rfl) :
    PI X (.Tuple elts kk tpos) (.Call (.Name "enumerate" p) [e1] [] pos) (lI G E (iCall kEnumL f)) := by
  refine PI.imp (pi_enum hg hm ha hs) fun σ H Q ⟨S, F, ρ, loc, st, rp, l, o⟩ => ⟨S, F, ρ, loc, st, rp, l, out.imp (fun x H1 h1 => ?_) (out.bd (Rl := VRs G) o)⟩
  obtain ⟨F1, ρ1, as, st1, g1, r1, v1, o1⟩ := h1
  unfold kEnumL at o1
  split at o1
  · rename_i ds
    cases v1 with
    | cons h1 hr =>
      cases hr
      obtain ⟨a, xs, rfl, ha, hd⟩ := dt_list h1
      rw [hK]
      exact ⟨a, xs, rfl, SqL.of (r1.ex _ _ ha), out.at (v := enumF 0 ds) o1 r1 (jw_enumL ha hd)⟩
  · exact o1.elim
end
end Y
end
section
set_option Elab.async false
set_option Elab.async false
set_option linter.all false
set_option maxRecDepth 100000
set_option maxHeartbeats 1000000
/-! Cal: defs that call each other, constants, refusals. -/
namespace Y
open PySem PySem.Spec PyProof.Rows L2
/-- a def of the program that keeps its plain reading -/
structure DefOk (P : Program) (w : World) (mg : Str → Option Value) (base : Heap) (G : Glo) (k : Nat) (x : Str) (n : Nat) (sem : List Val → M Val) : Prop where
  ex : ∃ (f : Addr) (fd : FuncData) (ps : List Str), FnOk P w G.K mg base (L2N.CX P w) k f fd ps (spF G n sem) ∧ mg x = some (.ref f) ∧ PySem.W.keepIn G.K (.ref f) = true ∧ Binds G.K fd ps []
/-- where a def stands -/
structure DefAt (mg : Str → Option Value) (K : PySem.W.Frag) (x : Str) (st : Stmt) (ps : List Str) : Prop where
  ex : ∃ (f : Addr) (fd : FuncData), Fun K x x st f fd ∧ mg x = some (.ref f) ∧ Binds K fd ps []
section
variable {P : Program} {w : World} {mg : Str → Option Value} {base : Heap} {G : Glo}
theorem def_ok {x : Str} {st : Stmt} {N ps : List Str} {k n : Nat} {b : Y.S} (At : DefAt mg G.K x st ps) (Sc : FnScope N ps (defScope st)) (hn : n = ps.length) (hN : n ≤ N.length)
    (hb : ∀ (f : Addr) (cdv : Value) (A : Around) (outer : List Env) (s : Shared) (H : Hp) (E : XK), Room k (A.deeper (envOfC x (defScope st) s.heap.objs.size f cdv)) → PSs (cxOf (L2N.CX P w) P w G.K mg base N x (defScope st) f cdv A outer s H E) (defBody st) (lS G E b)) :
    DefOk P w mg base G (k + 1) x n (runF N.length b) := by
  obtain ⟨f, fd, Fn, hm, hbd⟩ := At.ex
  exact ⟨f, fd, ps, fn_ok Fn Sc hn hN fun cdv A outer s H E hr => hb f cdv A outer s H E hr, hm, Fn.kp, hbd⟩
theorem law_ok {x : Str} {st : Stmt} {N ps : List Str} {k n : Nat} {b : Y.S} {f : Addr} {fd : FuncData} (Fn : Fun G.K x x st f fd) (Sc : FnScope N ps (defScope st)) (hn : n = ps.length) (hN : n ≤ N.length)
    (hb : ∀ (f : Addr) (cdv : Value) (A : Around) (outer : List Env) (s : Shared) (H : Hp) (E : XK), Room k (A.deeper (envOfC x (defScope st) s.heap.objs.size f cdv)) → PSs (cxOf (L2N.CX P w) P w G.K mg base N x (defScope st) f cdv A outer s H E) (defBody st) (lS G E b)) :
    FnOk P w G.K mg base (L2N.CX P w) (k + 1) f fd ps (spF G n (runF N.length b)) := fn_ok Fn Sc hn hN fun cdv A outer s H E hr => hb f cdv A outer s H E hr
theorem law_okT {x : Str} {st : Stmt} {N ps : List Str} {k n : Nat} {b : Y.S} {f : Addr} {cdv oc kV doc pm ct : Value} {od an : Option Addr} {osl : Array (Option Value)} (lk : G.K.lookup f = some ⟨oc, od, .func (PySem.W.fnOf x x (defArgs st) (defBody st) (defScope st) .none kV doc pm an cdv ct), osl⟩) (hcd : PySem.W.codeIn G.K cdv x = true) (Sc : FnScope N ps (defScope st)) (hn : n = ps.length) (hN : n ≤ N.length)
    (hb : ∀ (A : Around) (outer : List Env) (s : Shared) (H : Hp) (E : XK), Room k (A.deeper (envOfC x (defScope st) s.heap.objs.size f cdv)) → PSs (cxOf (L2N.CX P w) P w G.K mg base N x (defScope st) f cdv A outer s H E) (defBody st) (lS G E b)) :
    FnOk P w G.K mg base (L2N.CX P w) (k + 1) f (PySem.W.fnOf x x (defArgs st) (defBody st) (defScope st) .none kV doc pm an cdv ct) ps (spF G n (runF N.length b)) := by
  refine fn_of lk hcd Sc (fun vs H Q E h => ?_) fun A outer s H vs Q E hr h => ⟨lS G E b, hb A outer s H E hr, fn_body hN h⟩
  obtain ⟨S, F, ρ, st, as, rp, vr, hl, o⟩ := h
  rw [vr.length, hl, hn]
theorem DefOk.eq {k : Nat} {x : Str} {n : Nat} {sem sem' : List Val → M Val} (h : DefOk P w mg base G k x n sem) (e : sem = sem') : DefOk P w mg base G k x n sem' := e ▸ h
end
section
variable {X : Cx} {G : Glo} {E : XK}
theorem qe_callD {k j n : Nat} {sem : List Val → M Val} {x : Str} {p pos : Pos} {e : Expr} {es : List Expr} {fa : Y.A} (D : DefOk X.prog X.w X.mg X.base G k x n sem) (hr : Room j X.A) (hj : k ≤ j) (hg : Gl X x) (hx : ∀ σ, PassesAt (L2N.CX X.prog X.w) X σ E) (ha : PA X (e :: es) (lA G E fa)) (hK : X.K = G.K := by rfl)
    (hdb : (x == ("__debug__" : Str)) = false := by decide) (he : starEach (e :: es) X.env = (false, eval e X.env) :: starEach es X.env := by rfl) (hpl : (backTo pos (starEach es X.env)).any (·.1) = false := by rfl) :
    PE X (.Call (.Name x p) (e :: es) [] pos) (lE G E (eB (fixN n sem) fa)) := by
  obtain ⟨f, fd, ps, Fo, hm, hk, hb⟩ := D.ex
  rw [← hK] at Fo hk hb
  exact qe_call Fo (hr.mono hj) hg hm hk hb hx ha hdb he hpl
theorem qe_gI {x : Str} {i : Int} {pos : Pos} (hm : ∃ t, X.mg x = some (.int i t)) (hg : Gl X x) (hd : (x == ("__debug__" : Str)) = false := by decide) : PE X (.Name x pos) (lE G E (eC (.int i))) := by
  obtain ⟨t, hm⟩ := hm
  exact qe_gint hg hm ⟨t, rfl⟩ hd
theorem qe_gS {x : Str} {i : Str} {pos : Pos} (hm : ∃ t, X.mg x = some (.str i t)) (hg : Gl X x) (hd : (x == ("__debug__" : Str)) = false := by decide) : PE X (.Name x pos) (lE G E (eC (.str i))) := by
  obtain ⟨t, hm⟩ := hm
  exact qe_gstr hg hm ⟨t, rfl⟩ hd
/-- a < b < c as a test -/
theorem qt_chain {op op' : CmpOp} {r r' : R2} {f f' : Val → Val → M Val} {a b c : Expr} {fa fb fc : Y.E} {pos : Pos} (ho : OpR X (compareOp op) r) (hs : OSnd G r f) (ho' : OpR X (compareOp op') r') (hs' : OSnd G r' f') (ha : PE X a (lE G E fa)) (hb : PE X b (lE G E fb)) (hc : PE X c (lE G E fc))
    (hm : lastMarks [op, op'] [b, c] = false := by rfl) : PT X (.Compare a [op, op'] [b, c] pos) (lT G E (tV (eCh f f' fa fb fc))) := by
  refine PT.imp (pt_chain ho ho' ha hb hc hm) fun σ H Q ⟨S, F, ρ, loc, st, rp, l, o⟩ => ?_
  have o2 := out.bd (Rl := VR G) o
  refine ⟨S, F, ρ, loc, st, rp, l, out.imp (fun x H1 h1 => ?_) (out.bd (Rl := VR G) o2)⟩
  obtain ⟨F1, ρ1, a, st1, g1, r1, v1, o1⟩ := h1
  refine ⟨S, F1, ρ1, loc, st1, r1, l.mono g1, out.imp (fun y H2 h2 => ?_) (out.bd (Rl := VR G) o1)⟩
  obtain ⟨F2, ρ2, b, st2, g2, r2, v2, o2⟩ := h2
  refine hs S F2 ρ2 H2 st2 x y a b _ E r2 (v1.mono g2) v2 (out.imp (fun z H3 h3 => ?_) (out.bd (Rl := VR G) o2))
  obtain ⟨F3, ρ3, c, st3, g3, r3, v3, o3⟩ := h3
  obtain ⟨k, hx, F4, ρ4, b', st4, g4, r4, v4, o4⟩ := asB_of r3 v3 (out.bd (Rl := BR) o3)
  refine ⟨k, hx, ?_⟩
  cases v4
  cases k with
  | false =>
    obtain ⟨F5, ρ5, a5, st5, g5, r5, v5, o5⟩ := out.at (v := vB false) (u := V.bl false) o4 r4 (.bl false)
    obtain ⟨c, hc, q⟩ := asB_of r5 v5 o5
    cases hc
    exact ⟨false, rfl, q⟩
  | true =>
    refine ⟨S, F4, ρ4, loc, st4, r4, l.mono (((g1.trans g2).trans g3).trans g4), out.imp (fun w H5 h5 => ?_) (out.bd (Rl := VR G) o4)⟩
    obtain ⟨F5, ρ5, e5, st5, g5, r5, v5, o5⟩ := h5
    refine hs' S F5 ρ5 H5 st5 y w b e5 _ E r5 (v2.mono ((g3.trans g4).trans g5)) v5 (out.imp (fun z6 H6 h6 => ?_) o5)
    obtain ⟨F6, ρ6, a6, st6, g6, r6, v6, o6⟩ := h6
    exact asB_of r6 v6 o6
end
/-! ### refusals -/
/-- an own class of errors, the c-th -/
structure ExcF (mg : Str → Option Value) (K : PySem.W.Frag) (x : Str) (C : Addr) : Prop where
  g : mg x = some (.ref C)
  x : PySem.W.excIn K C [.type "ValueError", .type "Exception", .type "BaseException", .type "object"] "ValueError.__new__" = true
  k : PySem.W.keepIn K (.ref C) = true
  b : PySem.W.subIn K (.ref C) (.type "BaseException") = some true
  t : PySem.W.typeIn K (.ref C) = some (.type "type")
theorem qs_raiseX {X : Cx} {G : Glo} {E : XK} {W : WX} {x m : Str} {c j : Nat} {p p2 pos pos2 : Pos} (F : ExcF X.mg X.K x (G.cl c)) (hc : X.calm = true) (tk : L2N.Takes X W) (hW : ∀ cls d σ H, E cls d H → W cls d σ H) (hg : Gl X x) (hdb : (x == ("__debug__" : Str)) = false := by decide) :
    PS X (.Raise (some (.Call (.Name x p) [.Constant (.str m) j p2] [] pos)) none pos2) (lS G E (sRaise c)) :=
  qs_raise hc tk (L2N.pmk_own PySem.F.excBase_ValueError F.x F.g F.k (raises_own F.b F.t) hg hdb) hW
/-! ### the end -/
theorem exc_mk {K : PySem.W.Frag} {h : Heap} {mg : Str → Option Value} {x : Str} {C : Addr} (X : K.In h) (G : h.Ns mainGlobals mg) (a : PySem.W.nsIn K mainGlobals x = some (some (.ref C))) (x1 : PySem.W.excIn K C [.type "ValueError", .type "Exception", .type "BaseException", .type "object"] "ValueError.__new__" = true)
    (k : PySem.W.keepIn K (.ref C) = true) (b : PySem.W.subIn K (.ref C) (.type "BaseException") = some true) (t : PySem.W.typeIn K (.ref C) = some (.type "type")) : ExcF mg K x C := ⟨PySem.W.mg_of X G a, x1, k, b, t⟩
theorem at_mk {K : PySem.W.Frag} {h : Heap} {mg : Str → Option Value} {x : Str} {st : Stmt} {f : Addr} {fd : FuncData} {ps : List Str} (X : K.In h) (G : h.Ns mainGlobals mg) (a : PySem.W.nsIn K mainGlobals x = some (some (.ref f))) (F : Fun K x x st f fd) (b : Binds K fd ps []) : DefAt mg K x st ps := ⟨f, fd, F, PySem.W.mg_of X G a, b⟩
/-- what a law's def promises, wherever its classes stand -/
def spL (K : PySem.W.Frag) (T : List (Addr × Str)) (sem : List Val → M Val) : Sp := fun vs H Q E => ∀ cl ic, spF ⟨K, T, cl, ic⟩ 1 sem vs H Q E
theorem spL_true {K : PySem.W.Frag} {sem : List Val → M Val} {H : Hp} {a : Addr} {ns : List Int} (hO : Only H) (hS : SqL K H a (ns.map V.int)) (ht : ∃ st, sem [.s ns] [] = .ok (.d (.bool true)) st) : spL K [] sem [.ref a] H (fun v _ => v = .bl true) fun _ _ _ => False := by
  intro cl ic
  obtain ⟨st, e⟩ := ht
  refine ⟨fun _ => none, H, [], [], [.s ns], ⟨(fun a o h => by cases h), fun _ _ h => h, fun a ps h => ?_, rfl, List.nodup_nil, (fun k ob h => by simp at h), (fun p hp => by cases hp)⟩, .cons ⟨a, rfl, hS⟩ .nil, rfl, ?_⟩
  · rcases hO a with h1 | ⟨o, xs, h1⟩
    · rw [h1] at h; cases h
    · rw [h1] at h; cases h
  · rw [e]
    intro F1 ρ1 u H1 g r v
    cases v
    rfl
theorem cx_false {P : Program} {w : World} {H : Hp} {s : Shared} {e : Value} {s' : Shared} (h : L2N.CX P w [] H s (fun _ _ _ => False) e s') : False := by
  obtain ⟨a, B, H', cls, d, _, _, _, _, _, _, _, z⟩ := h
  exact z
end Y
end
section
set_option Elab.async false
set_option Elab.async false
set_option linter.all false
set_option maxRecDepth 100000
set_option maxHeartbeats 2000000
/-! Hod: lists walked, summed, read into new lists while an exception is handled. -/
namespace Y
open PySem PySem.Spec PyProof.Rows L2
section
variable {prog : Program} {w : World} {A : Around} {E : Value → Shared → Prop} {s : Shared}
theorem hot_ne {x1 it l : Addr} {i : Nat} {h : Heap} (hot : HotX.HotAt A x1 h) (hit : h.IsListIter it l i) : x1 ≠ it := fun e => by
  obtain ⟨_, o, vs, ho, hd, h2⟩ := hot
  obtain ⟨o', ho', _, hd'⟩ := hit
  rw [e, ho'] at ho
  cases ho
  rw [hd'] at hd
  cases hd
  simp at h2
/-- the list is at its end -/
theorem end_hot {it l x1 : Addr} {i : Nat} {items : Array Value} {Q : Option Value → Shared → Prop} (hot : HotX.HotAt A x1 s.heap) (hit : s.heap.IsListIter it l i) (hl : s.heap.IsList l items) (hx : items[i]? = none)
    (k : ∀ h', Heap.ExtBut it s.heap h' → Q none { s with heap := h' }) : wpAny (model prog w) A (pyNext (.ref it)) Q E s := by
  have hne := hot_ne hot hit
  obtain ⟨hh, o1, v1, g1, d1, c1⟩ := hot
  obtain ⟨oi, gi, ci, di⟩ := id hit
  obtain ⟨ol, gl, _, nl, dl⟩ := hl
  unfold pyNext
  refine wpAny_bind (wpAny_attempt (wpAny_callSpecial?_slot (name := Str.ofString "__next__") hit.typeIs slot_listiter_next (wpAny_call_entry slot_listiter_next hit.typeIs entry_listiter_next ?q (args_listiter_next _))))
  show wpAny _ _ (field (.ref it) 0 >>= _) _ _ s
  apply wpAny_bind
  refine wpAny_field gi di (x := .ref l) rfl ?_
  show wpAny _ _ (if (Value.ref l == Value.none) = true then _ else _) _ _ s
  rw [if_neg (fun z : (Value.ref l == Value.none) = true => absurd z Bool.false_ne_true)]
  show wpAny _ _ (field (.ref it) 1 >>= _) _ _ s
  apply wpAny_bind
  refine wpAny_field gi di (x := .int i 0) rfl ?_
  show wpAny _ _ (seqItems? (.ref l) >>= _) _ _ s
  apply wpAny_bind
  refine wpAny_seqItems gl dl ?_
  simp only [Int.toNat_natCast, hx]
  apply wpAny_bind
  apply wpAny_rule
  apply wpAny_bind
  refine wpAny_setField gi di (by simp) ?_
  show wpAny _ _ (newExc (.type "StopIteration") [] >>= _) _ _ _
  apply wpAny_bind
  simp only [newExc, newTuple]
  apply wpAny_bind
  refine wpAny_newObj_type ?_ (by size_fits)
  refine wpAny_bind (m := firstArgMember _ _) (wpAny_of_eq (a := Value.none) (by simp only [firstArgMember] <;> rfl) ?_)
  refine wpAny_newObj_type ?_ (by size_fits)
  have g1' := (Heap.SameBut.update (h := s.heap) (a := it) (f := Obj.mapFields (·.setIfInBounds 0 Value.none))).extBut x1 o1 hne g1
  refine HotX.raiseNew_hot ⟨hh, o1, v1, Heap.get?_push_of_some _ (Heap.get?_push_of_some _ g1'), d1, c1⟩ (Nat.ne_of_lt (Heap.lt_size (Heap.get?_push_of_some _ g1'))) (Heap.get?_push_size _ rfl) rfl (by simp; omega) ?_
  apply wpAny_bind
  refine wpAny_isInstance (T := "StopIteration") (b := true) ⟨_, Heap.get?_update_self _ (Heap.get?_push_size _ rfl) rfl, rfl⟩ isSubtype_stop ?_
  refine wpAny_pure (k _ fun b o hb e => ?_)
  have e' := Heap.get?_push_of_some { cls := Value.type "tuple", data := .seq ([] : List Value).toArray } ((Heap.SameBut.update (h := s.heap) (a := it) (f := Obj.mapFields (·.setIfInBounds 0 Value.none))).extBut b o hb e)
  rw [Heap.get?_update_other _ _ (Nat.ne_of_gt (Heap.lt_size e'))]
  exact Heap.get?_push_of_some _ e'
theorem walks_hot {x1 : Addr} (hh : A.handled = some (.ref x1)) (I ax : Addr) (hne : ax ≠ I) (items : Array Value) :
    Walks prog w A I [I, ax, x1] [I] items.size (fun i v => items[i]? = some v) (fun i h => (h.IsListIter I ax i ∧ h.IsList ax items) ∧ HotX.HotAt A x1 h) where
  sub := fun b hb => by simp at hb; simp [hb]
  frame := fun _ _ _ st hk => ⟨⟨st.1.1.at fun o e => hk I (by simp) o e, st.1.2.at fun o e => hk ax (by simp) o e⟩, by
    obtain ⟨h1, o, vs, h2, h3, h4⟩ := st.2
    exact ⟨h1, o, vs, hk x1 (by simp) o h2, h3, h4⟩⟩
  item := fun i s Q E hi st hQ => by
    have ne1 := hot_ne st.2 st.1.1
    obtain ⟨h1, o, vs, h2, h3, h4⟩ := st.2
    refine wpAny_pyNext_list_item st.1.1 st.1.2 (x := items[i]) (by simp [hi]) fun h' a b => ?_
    exact hQ _ h' s.toks (by simp [hi]) ⟨⟨a, st.1.2.extBut b.extBut hne⟩, h1, o, vs, b.extBut x1 o ne1 h2, h3, h4⟩ fun c o hc e => b.extBut c o (fun z => hc (by simp [z])) e
  done := fun s Q E st hQ => end_hot st.2 st.1.1 st.1.2 (by simp) fun h' e => hQ h' s.toks fun b o hb e' => e b o (fun z => hb (by simp [z])) e'
  self := fun _ _ _ _ st hQ => wpAny_pyIter_listiter st.1.1 hQ
theorem sum_hot {l x1 : Addr} {its : List Value} {ns : List Int} {Q : Value → Shared → Prop} (hot : HotX.HotAt A x1 s.heap) (hl : s.heap.IsList l its.toArray) (hi : IntsAre its ns)
    (h : ∀ h' tk t', (∀ b o, s.heap.get? b = some o → h'.get? b = some o) → Q (.int ns.sum t') { s with heap := h', toks := tk }) : wpAny (model prog w) A (call (.builtin "sum") [.ref l]) Q E s := by
  obtain ⟨xs, e⟩ := hi.allInts.items
  have hn : numsOf (intItems xs).toList = ns := e ▸ hi.numsOf
  rw [nums_intItems] at hn
  rw [e] at hl
  obtain ⟨hh, o, vs, g, d, c⟩ := hot
  refine call_sum_walkG (iter_intList hl fun s₂ es st hfp hlI => ?_)
  subst es
  refine ⟨_, _, _, _, _, _, numAt xs, rfl, walks_hot (A := A.in1) (x1 := x1) hh _ l hlI (intItems xs), ⟨st, hh, o, vs, Heap.get?_push_of_some _ g, d, c⟩, fun b hb => ?_, (fun _ _ => intItems_at), fun h' tk t' hk => ?_⟩
  · rcases List.mem_cons.mp hb with z | hb
    · exact hfp b (by simp [z])
    rcases List.mem_cons.mp hb with z | hb
    · exact hfp b (by simp [z])
    · have z : b = x1 := by simpa using hb
      rw [z]
      exact Heap.lt_size (Heap.get?_push_of_some _ g)
  · have q := h h' tk t' (old_kept hk)
    have en : (intItems xs).size = xs.size := by simp [intItems]
    rw [en, preSum_eq, List.take_of_length_le (by simp), hn]
    exact q
end
/-! ### in a context where an exception is handled -/
section
variable {X : Cx}
theorem cr_sumH (hc : L2H.HotC X) : CallR X (.builtin "sum") (rSum X.K) := by
  intro pins s σ H vs us Q I r h
  obtain ⟨a, ns, rfl, hs, q⟩ := h
  obtain ⟨its, rv, hl, _⟩ := I.list hs
  obtain ⟨x1, hot⟩ := hc.at I
  rw [Vals.ref1 r]
  exact sum_hot hot hl.isList rv.ints fun h' tk t' hk => ⟨V.int ns.sum, H, I.kept hk, ⟨t', rfl⟩, q⟩
theorem vals_bl : ∀ {bs : List Bool} {us : List Value}, Vals (bs.map V.bl) us → us = bs.map Value.bool
  | [], _, .nil => rfl
  | b :: bs, _, .cons r rr => by
    cases r
    rw [vals_bl rr]
    rfl
/-- sum([int(x) for x in y]), y a list of truths -/
def numB (bs : List Bool) : Int := (bs.map fun b => if b = true then (1 : Int) else 0).sum
theorem ints_of_pairs : ∀ {bs : List Bool} {ys : List Value}, Paired (fun (v u : Value) => ∃ (b : Bool) (t : Tok), v = .bool b ∧ u = .int (if b then 1 else 0) t) (bs.map Value.bool) ys → IntsAre ys (bs.map fun b => if b = true then (1 : Int) else 0)
  | [], _, .nil => .nil
  | b :: bs, _, .cons h t => by
    obtain ⟨b', u, e1, e2⟩ := h
    cases e1
    rw [e2]
    exact .cons _ _ (ints_of_pairs t)
theorem pe_sumH {i : Nat} {x y : Str} {px py pi px2 ps pos pos2 cpos : Pos} {scope : Scope} (hc : L2H.HotC X) (hk : scope.kind = .function) (hfr : ∀ z ∈ scope.names, z.2 ≠ .free) (hce : ∀ z ∈ scope.names, z.2 ≠ .cell) (hlo : ∀ z ∈ scope.names, z.2 = .local → scope.names.lookup z.1 = some .local) (hx : scope.names.lookup x = some .local) (hi : scope.names.lookup ("int" : Str) = some .globalImplicit)
    (hg : Gl X "sum") (hms : X.mg "sum" = none) (hm : X.mg "int" = none) (hN : X.N[i]? = some y) (hv : Vis X.env.scope y) (hd : (x == ("__debug__" : Str)) = false) (hd1 : (y == ("__debug__" : Str)) = false) (hd2 : (y == ("__classdict__" : Str)) = false) :
    PE X (.Call (.Name "sum" ps) [.ListComp (.Call (.Name "int" pi) [.Name x px2] [] cpos) [⟨.Name x px, .Name y py, [], 0⟩] scope pos] [] pos2)
      (fun σ H Q => ∃ (a : Addr) (bs : List Bool), σ[i]? = some (some (.ref a)) ∧ SqL X.K H a (bs.map V.bl) ∧ Q (.int (numB bs)) H) := by
  refine ⟨fun pins s σ H Q I h => ?_⟩
  obtain ⟨a, bs, hσ, hs, q⟩ := h
  refine wpAny_Call_Name_kw (ld_blt I hg hms boot_sum ?_)
  refine PyProof.Rows.callWith_builtin1 ?_ (by rfl) (by rfl)
  refine Calls.spliced_cons ?_
  refine wpAny_ListComp_walk (fun _ => true) (fun v u => ∃ (b : Bool) (t : Tok), v = .bool b ∧ u = .int (if b then 1 else 0) t) hfr hce hk hlo hx ?_
  refine thn ((pe_var (pos := py) (i := i) hN hv hd1 hd2).run pins s σ H (fun v H1 => v = .ref a ∧ H1 = H) I ⟨.ref a, hσ, rfl, rfl⟩) fun u s1 ⟨v, H1, I1, r1, ev, eH⟩ => ?_
  subst ev
  rw [eH] at I1
  obtain rfl : u = Value.ref a := r1
  obtain ⟨its, rv, hl, hz⟩ := I1.list hs
  obtain rfl := vals_bl rv
  have hl' := hl.isList
  obtain ⟨x1, hot⟩ := hc.at I1
  obtain ⟨hh, o, vs, g, d, c⟩ := hot
  have lta : a < s1.heap.objs.size := by obtain ⟨_, e, _⟩ := hl'; exact Heap.lt_size e
  refine wpAny_pyIter_list hl' ?_
  refine ⟨s1.heap.objs.size, _, _, _, _, _, rfl, walks_hot (x1 := x1) hh _ a (Nat.ne_of_lt lta) (bs.map Value.bool).toArray, ?_, ⟨⟨⟨_, Heap.get?_push_size _ rfl, rfl, rfl⟩, hl'.push _⟩, hh, o, vs, Heap.get?_push_of_some _ g, d, c⟩, fun b hb => ?_, ⟨fun C i v s3 m3 E' hP hns hmx hkp htk => ?_, fun C i v s3 m3 E' hP _ hns hmx hkp htk => ?_⟩, fun D h' tk ys us hD hlD hpD hlen hP hF hkp => ?_⟩
  · simpa using hz
  · rw [Heap.size_push]
    rcases List.mem_cons.mp hb with z | hb
    · rw [z]; exact Nat.lt_succ_self _
    rcases List.mem_cons.mp hb with z | hb
    · rw [z]; exact Nat.lt_succ_of_lt lta
    · have z : b = x1 := by simpa using hb
      rw [z]
      exact Nat.lt_succ_of_lt (Heap.lt_size g)
  · exact wpAny_pure ⟨rfl, s3.heap, s3.toks, rfl, fun _ _ e => e⟩
  · have ev : ∃ b, v = Value.bool b := by
      have hP : (bs.map Value.bool).toArray[i]? = some v := hP
      rw [List.getElem?_toArray, List.getElem?_map] at hP
      obtain ⟨b, _, e⟩ := Option.map_eq_some_iff.mp hP
      exact ⟨b, e.symm⟩
    obtain ⟨b, rfl⟩ := ev
    have kp : ∀ b o, s1.heap.get? b = some o → s3.heap.get? b = some o := fun b o e => hkp b o (by simpa using Nat.ne_of_lt (Heap.lt_size e)) (Heap.get?_push_of_some _ e)
    obtain ⟨mb, b1, b2⟩ := I1.mod.blt
    refine wpAny_Call_Name_kw (Calls.Name_function_global (env := compEnv scope C X.env) hk hi (Calls.loadGlobal_builtin (mg := X.mg) (mb := mb) (v := .type "int") ?_ hm ?_ ((b2 "int" (by decide)).trans (by decide +kernel)) ?_))
    · show s3.heap.Ns X.env.globals X.mg
      rw [I1.ok.glob]
      exact (I1.mod.glob.keeps I1.bk).keeps kp
    · show s3.heap.Ns X.env.builtins mb
      rw [I1.ok.blt]
      exact (b1.keeps I1.bk).keeps kp
    · refine PyProof.Rows.callWith_type1 ?_ (by rfl) (by rfl)
      refine Calls.spliced_cons (wpAny_Name (wpAny_loadName_local (env := compEnv scope C X.env) hk hx hns hmx ?_) hd)
      refine Calls.spliced_nil (call_int_bool ⟨⟨b, _, rfl, rfl⟩, s3.heap, s3.toks + 1, rfl, fun _ _ e => e⟩)
  · have kp : ∀ b o, s1.heap.get? b = some o → h'.get? b = some o := fun b o e => hkp b o (by simpa using Nat.ne_of_lt (Heap.lt_size e)) (Heap.get?_push_of_some _ e)
    refine Calls.spliced_nil ?_
    have eus : us = bs.map Value.bool := by
      refine List.ext_getElem? fun j => ?_
      cases hj : us[j]? with
      | some v =>
        have := hP j v hj
        rw [List.getElem?_toArray] at this
        exact this.symm
      | none =>
        have h1 : us.length ≤ j := List.getElem?_eq_none_iff.mp hj
        have h2 : us.length = (bs.map Value.bool).toArray.size := hlen
        rw [List.getElem?_eq_none (by simpa using (by rw [h2] at h1; simpa using h1))]
    subst eus
    have hF : Paired _ ((bs.map Value.bool).filter fun _ => true) ys.toList := hF
    rw [List.filter_eq_self.mpr fun _ _ => rfl] at hF
    have I2 : Inv X pins σ H { s1 with heap := h', toks := tk } := I1.kept kp
    obtain ⟨x1, hot⟩ := hc.at I2
    refine sum_hot (its := ys.toList) (ns := bs.map fun b => if b = true then (1 : Int) else 0) hot (by simpa using hlD) (ints_of_pairs hF) fun h2 tk2 t2 k2 => ⟨V.int (numB bs), H, I2.kept k2, ⟨t2, rfl⟩, q⟩
/-! ### isinstance of the handled exception -/
theorem call_isP {a D : Addr} {oe : Obj} (hp : (a, oe) ∈ X.pn) (C : ExcC X.K D) (hz : oe.cls = .ref D ∧ oe.dict = none) (hf : ∃ vs, oe.data = .fields vs) : CallR X (.builtin "isinstance") (rIsE X.K D a) := by
  intro pins s σ H xs us Q I r h
  obtain ⟨c, cv, b, rfl, hcv, e, q⟩ := h
  match us, r with
  | [u1, u2], .cons rx (.cons rt .nil) =>
    cases rx
    obtain rfl := hcv _ rt
    have hget := (I.pin (a, oe) (List.mem_append_left _ hp)).1
    have J : PySem.W.InstAt s.heap a oe D none := by
      obtain ⟨vs, hv⟩ := hf
      obtain ⟨oc, od, oda, osl⟩ := oe
      obtain ⟨h1, h2⟩ := hz
      dsimp only at h1 h2 hv
      subst h1 h2 hv
      exact ⟨hget, rfl, rfl, trivial⟩
    exact PySem.W.kia_one (PySem.W.handS_kitx_exc C.hg C.hk C.hs C.hd C.ha C.hn C.ht C.hm) I.kIn J e (fun z => nomatch z) fun tk => ⟨V.bl b, H, I.kept (t' := tk) fun _ _ z => z, rfl, q⟩
/-- the exception at a, of the class at D -/
structure ExcAt (X : Cx) (a D : Addr) : Prop where
  ex : ∃ oe : Obj, (a, oe) ∈ X.pn ∧ (oe.cls = .ref D ∧ oe.dict = none) ∧ ∃ vs, oe.data = .fields vs
  c : ExcC X.K D
def tIsE (a : Addr) (b : Bool) : TE := fun σ H Q => σ[0]? = some (some (.ref a)) ∧ Q (.bl b) H
theorem pe_isE {a D C : Addr} {b : Bool} {e x : Str} {p p2 p3 pos : Pos} (Ea : ExcAt X a D) (hm : X.mg x = some (.ref C)) (hk : PySem.W.kitOne X.K (.ref D) (.ref C) = some b) (hi : X.mg "isinstance" = none) (hgi : Gl X "isinstance" := by rfl) (hg : Gl X x := by rfl) (hN : X.N[0]? = some e := by rfl)
    (hv : Vis X.env.scope e := by first | exact Or.inl rfl | exact Or.inr (Or.inl rfl) | exact Or.inr (Or.inr rfl)) (hd : (e == ("__debug__" : Str)) = false := by decide) (hcd : (e == ("__classdict__" : Str)) = false := by decide) (hdx : (x == ("__debug__" : Str)) = false := by decide)
    (he : starEach [.Name e p2, .Name x p3] X.env = (false, eval (.Name e p2) X.env) :: starEach [.Name x p3] X.env := by rfl) (hpl : (backTo pos (starEach [.Name x p3] X.env)).any (·.1) = false := by rfl) :
    PE X (.Call (.Name "isinstance" p) [.Name e p2, .Name x p3] [] pos) (tIsE a b) := by
  obtain ⟨oe, h1, h2, h3⟩ := Ea.ex
  refine PE.imp (pe_callB (call_isP h1 Ea.c h2 h3) hgi hi (by decide +kernel) (pa_cons (pe_var (i := 0) hN hv hd hcd) (pa_cons (pe_glob hg hm (v := .ref C) rfl hdx) pa_nil)) (by decide) (by decide) he hpl) fun σ H Q ⟨hσ, q⟩ => ?_
  exact ⟨.ref a, hσ, .ref C, .ref C, b, rfl, fun u r => r, hk, q⟩
theorem pe_isV {a D : Addr} {b : Bool} {e x : Str} {T : String} {p p2 p3 pos : Pos} (Ea : ExcAt X a D) (hm : X.mg x = none) (hT : bootBuiltins x = some (.type T)) (hk : PySem.W.kitOne X.K (.ref D) (.type T) = some b) (hi : X.mg "isinstance" = none) (hgi : Gl X "isinstance" := by rfl) (hg : Gl X x := by rfl) (hN : X.N[0]? = some e := by rfl)
    (hv : Vis X.env.scope e := by first | exact Or.inl rfl | exact Or.inr (Or.inl rfl) | exact Or.inr (Or.inr rfl)) (hd : (e == ("__debug__" : Str)) = false := by decide) (hcd : (e == ("__classdict__" : Str)) = false := by decide) (hn : x ≠ "__name__" := by decide) (hdx : (x == ("__debug__" : Str)) = false := by decide)
    (he : starEach [.Name e p2, .Name x p3] X.env = (false, eval (.Name e p2) X.env) :: starEach [.Name x p3] X.env := by rfl) (hpl : (backTo pos (starEach [.Name x p3] X.env)).any (·.1) = false := by rfl) :
    PE X (.Call (.Name "isinstance" p) [.Name e p2, .Name x p3] [] pos) (tIsE a b) := by
  obtain ⟨oe, h1, h2, h3⟩ := Ea.ex
  refine PE.imp (pe_callB (call_isP h1 Ea.c h2 h3) hgi hi (by decide +kernel) (pa_cons (pe_var (i := 0) hN hv hd hcd) (pa_cons (pe_bltn hg hm hT (v := .ty T) rfl hn hdx) pa_nil)) (by decide) (by decide) he hpl) fun σ H Q ⟨hσ, q⟩ => ?_
  exact ⟨.ref a, hσ, .ty T, .type T, b, rfl, fun u r => r, hk, q⟩
end
/-! ### a def run once, while the exception p is handled -/
theorem run_hot {CX : CXT} {P : Program} {w : World} {K : PySem.W.Frag} {mg : Str → Option Value} {base : Heap} {k : Nat} {x : Str} {st : Stmt} {f : Addr} {fd : FuncData} {N ps : List Str} {A : Around} {outer : List Env} {s : Shared} {H : Hp} {us : List Value} {vs : List V} {Q : VK} {E : XK} {p : Addr × Obj} {t : TS}
    (Fn : Fun K x x st f fd) (S : FnScope N ps (defScope st)) (hr : L2H.RoomH (k + 1) A) (hpin : L2H.PinOk outer H s p) (e0 : Env0 P w K mg base A outer s H) (hb : BindsTo s fd ⟨us, []⟩ (ps.zip us)) (r : Vals vs us) (hl : vs.length = ps.length)
    (ht : ∀ cdv, PSs (L2H.cxH CX P w K mg base N x (defScope st) f cdv A outer s H E p) (defBody st) t) (hq : t { nx := fun _ H' => Q .non H', rt := Q } (L2.start N vs) H) :
    codeAny (model P w) A (.call (.ref f) ⟨us, []⟩) (CR CX outer P w H s Q E) s := by
  obtain ⟨oc, od, kV, doc, pm, an, cdv, ct, osl, rfl, lk, hcd⟩ := Fn.ex
  have KX : K.In s.heap := e0.mod.kin.keeps fun b o e => (e0.bs b o e).1
  have lim := e0.mod.nolimit.keeps fun b o e => (e0.bs b o e).1
  refine codeAny_call_function hr.depth (KX _ _ lk) rfl S.co S.gen rfl (PySem.W.codeRec_of KX hcd) (hb _ _ _ _ (wpAny_newFunctionEnv_cells S.kind (fun y hy => ?_) fun env he s1 xc => ?_))
  · rcases S.par y.1 (List.of_mem_zip (a := y.1) (b := y.2) hy).1 with q | q
    · exact .inl q
    · exact .inr ⟨q, PySem.W.cellsFrom_some _ _ _ (.inl q)⟩
  · subst he
    refine ⟨lim.keeps xc.toInCall.keep, codeAny_func (wpAny_mono ((ht cdv).run [] s1 _ H _ (L2H.inv_startH S hpin e0 hl r xc) hq) (fun fl s' hs => ?_) fun e s' hs => hs)⟩
    cases fl with
    | ret u =>
      obtain ⟨v, σ', H', J, rv, q⟩ := hs
      exact ⟨v, H', J.os, J.bare, J.base, J.hok, rv, q⟩
    | next =>
      obtain ⟨σ', H', J, q⟩ := hs
      exact ⟨V.non, H', J.os, J.bare, J.base, J.hok, rfl, q⟩
    | brk => exact (let ⟨_, _, _, q⟩ := hs; False.elim q)
    | cont => exact (let ⟨_, _, _, q⟩ := hs; False.elim q)
/-- x(e) in the suite, e the exception -/
theorem pe_hot {X : Cx} {CX : CXT} {k : Nat} {x e : Str} {st : Stmt} {f : Addr} {fd : FuncData} {N ps : List Str} {i : Nat} {p : Addr × Obj} {t : TS} {q q2 pos : Pos} (Fn : Fun X.K x x st f fd) (S : FnScope N ps (defScope st)) (hps : ps.length = 1) (hr : L2H.RoomH (k + 1) X.A) (hot : L2H.Hot1 X.A p) (hp : p ∈ X.pn) (hg : Gl X x) (hm : X.mg x = some (.ref f)) (hb : Binds X.K fd ps [])
    (ht : ∀ cdv outer s H E, PSs (L2H.cxH CX X.prog X.w X.K X.mg X.base N x (defScope st) f cdv X.A outer s H E p) (defBody st) t) (hx : ∀ σ, PassesAt CX X σ EF) (hN : X.N[i]? = some e) (hv : Vis X.env.scope e)
    (hd : (e == ("__debug__" : Str)) = false) (hcd : (e == ("__classdict__" : Str)) = false) (hdb : (x == ("__debug__" : Str)) = false) (he : starEach [.Name e q2] X.env = (false, eval (.Name e q2) X.env) :: starEach [] X.env := by rfl) (hpl : (backTo pos (starEach [] X.env)).any (·.1) = false := by rfl) :
    PE X (.Call (.Name x q) [.Name e q2] [] pos) (fun σ H Q => ∃ v, σ[i]? = some (some v) ∧ t { nx := fun _ H' => Q .non H', rt := Q } (L2.start N [v]) H) := by
  refine ⟨fun pins s σ H Q I h => ?_⟩
  refine wpAny_Call_Name_kw (ld_glob I hg hm ?_ hdb)
  refine PySem.W.callWith_K (h₀ := X.base) I.ok.mod.kin Fn.kp ?_ he hpl
  refine thn ((pa_cons (pe_var (i := i) (pos := q2) hN hv hd hcd) pa_nil).run pos pins s σ H (fun vs H1 => ∃ v, vs = [v] ∧ t { nx := fun _ H' => Q .non H', rt := Q } (L2.start N [v]) H1) I (by obtain ⟨v, h1, h2⟩ := h; exact ⟨v, h1, v, rfl, h2⟩)) fun us s1 ⟨vs, H1, I1, r, v, ev, q⟩ => ⟨I1.kIn, ?_⟩
  subst ev
  have hlu : us.length = ps.length := by rw [← r.length, hps]; rfl
  have b := hb s1 us I1.kIn (by rw [List.append_nil]; exact hlu)
  rw [List.append_nil] at b
  have P1 := I1.pin p (List.mem_append_left _ hp)
  have hpin : L2H.PinOk X.stack H1 s1 p := ⟨P1.1, P1.2.1, fun hm => (List.mem_cons.mp (I1.stkSub p.1 hm)).elim P1.2.2.1 P1.2.2.2.1, P1.2.2.2.2⟩
  refine wpAny_call (codeAny_mono (run_hot (E := EF) (t := t) Fn S hr hpin I1.env0 b r (by rw [hps]; rfl) (fun cdv => ht cdv X.stack s1 H1 EF) q) fun r s' hq => ?_)
  cases r with
  | error e => exact hx σ pins H1 s1 e s' I1 hq
  | ok fl =>
    cases fl with
    | ret u => exact I1.after hq
    | next => exact False.elim hq
    | brk => exact False.elim hq
    | cont => exact False.elim hq
/-! ### the law's _law_term -/
/-- what the ten classes are to one another -/
structure TermF (mg : Str → Option Value) (K : PySem.W.Frag) (cl : Nat → Addr) : Prop where
  g1 : mg "BadMoves" = some (.ref (cl 1))
  g2 : mg "BadStanding" = some (.ref (cl 2))
  g3 : mg "BadNumber" = some (.ref (cl 3))
  g4 : mg "BadRow" = some (.ref (cl 4))
  g5 : mg "BadWeights" = some (.ref (cl 5))
  g6 : mg "BadRound" = some (.ref (cl 6))
  g7 : mg "Endless" = some (.ref (cl 7))
  g8 : mg "Nothing" = some (.ref (cl 8))
  g9 : mg "Full" = some (.ref (cl 9))
  g10 : mg "BadText" = some (.ref (cl 10))
  bi : mg "isinstance" = none
  bs : mg "sum" = none
  bn : mg "int" = none
  bv : mg "ValueError" = none
/-- what one class must say so that its errors are told -/
structure TermC (K : PySem.W.Frag) (cl : Nat → Addr) (c : Nat) : Prop where
  lo : 1 ≤ c
  hi : c ≤ 10
  e : ExcC K (cl c)
  k : ∀ j, 1 ≤ j → j ≤ 10 → PySem.W.kitOne K (.ref (cl c)) (.ref (cl j)) = some (decide (j = c))
  v : PySem.W.kitOne K (.ref (cl c)) (.type "ValueError") = some true
theorem term_num {c : Nat} (h1 : 1 ≤ c) (h2 : c ≤ 10) : numB [decide (1 = c), decide (2 = c), decide (3 = c), decide (4 = c), decide (5 = c), decide (6 = c), decide (7 = c), decide (8 = c), decide (9 = c), decide (10 = c)] = 1 := by
  have : c = 1 ∨ c = 2 ∨ c = 3 ∨ c = 4 ∨ c = 5 ∨ c = 6 ∨ c = 7 ∨ c = 8 ∨ c = 9 ∨ c = 10 := by omega
  rcases this with rfl | rfl | rfl | rfl | rfl | rfl | rfl | rfl | rfl | rfl <;> rfl
theorem term_ix {c : Nat} (h1 : 1 ≤ c) (h2 : c ≤ 10) : ([V.bl (decide (1 = c)), V.bl (decide (2 = c)), V.bl (decide (3 = c)), V.bl (decide (4 = c))] ++ [V.bl (decide (5 = c)), V.bl (decide (6 = c))] ++ [V.bl (decide (7 = c)), V.bl (decide (8 = c)), V.bl (decide (9 = c)), V.bl (decide (10 = c))])[c - 1]? = some (V.bl true) ∧ (∀ (m : Nat) (z' : V), m < c - 1 → ([V.bl (decide (1 = c)), V.bl (decide (2 = c)), V.bl (decide (3 = c)), V.bl (decide (4 = c))] ++ [V.bl (decide (5 = c)), V.bl (decide (6 = c))] ++ [V.bl (decide (7 = c)), V.bl (decide (8 = c)), V.bl (decide (9 = c)), V.bl (decide (10 = c))])[m]? = some z' → eqV z' (V.bl true) = false) ∧
    L2.atI ([V.str "BadMoves", V.str "BadStanding", V.str "BadNumber", V.str "BadRow", V.str "BadWeights", V.str "BadRound"] ++ [V.str "Endless", V.str "Nothing", V.str "Full", V.str "BadText"]) ((c - 1 : Nat) : Int) = some (V.str (kindN c)) := by
  have : c = 1 ∨ c = 2 ∨ c = 3 ∨ c = 4 ∨ c = 5 ∨ c = 6 ∨ c = 7 ∨ c = 8 ∨ c = 9 ∨ c = 10 := by omega
  refine ⟨?_, ?_, ?_⟩
  · rcases this with rfl | rfl | rfl | rfl | rfl | rfl | rfl | rfl | rfl | rfl <;> rfl
  · intro m z' hm hz
    have hm' : m = 0 ∨ m = 1 ∨ m = 2 ∨ m = 3 ∨ m = 4 ∨ m = 5 ∨ m = 6 ∨ m = 7 ∨ m = 8 := by omega
    rcases hm' with rfl | rfl | rfl | rfl | rfl | rfl | rfl | rfl | rfl <;> (cases hz; show (decide _ == true) = false; rw [decide_eq_false (by omega)]; rfl)
  · rcases this with rfl | rfl | rfl | rfl | rfl | rfl | rfl | rfl | rfl | rfl <;> rfl
def tTerm (a : Addr) (c : Nat) : TS := fun D σ H => σ = [some (.ref a), none, none] ∧ ∀ p H', (∀ b o, H b = some o → H' b = some o) → H p = none → H' p = some (.tup [.str "refused", .str (kindN c)]) → D.rt (.ref p) H'
end Y
end
section
set_option Elab.async false
set_option Elab.async false
set_option linter.all false
set_option maxRecDepth 100000
set_option maxHeartbeats 2000000
/-! Tld: told(lambda: ..): what the lambda gives, or the kind of its refusal. -/
namespace Y
open PySem PySem.Spec PyProof.Rows L2
/-- the lambda's context: what it raises lies as L2N.CX says -/
abbrev lamX (X : Cx) (A : Around) (outer : List Env) (s : Shared) (H : Hp) (E : XK) (scope : Scope) (f c' : Addr) : Cx :=
  (LamX.lamCx X A outer s H E scope f c').tr [] (fun e s' => wpAny (model X.prog X.w) (A.deeper (LamX.lamEnv X scope s.heap.objs.size f c')) (leaving (LamX.lamEnv X scope s.heap.objs.size f c') e) (fun _ s'' => L2N.CX X.prog X.w outer H s E e s'') (fun e' s'' => L2N.CX X.prog X.w outer H s E e' s'') s')
theorem takesLam {X : Cx} {A : Around} {outer : List Env} {s : Shared} {H : Hp} {E : XK} {scope : Scope} {f c' : Addr} : L2N.Takes (lamX X A outer s H E scope f c') (fun cls d _ H => E cls d H) := L2N.takes_of rfl rfl rfl rfl
/-- all that told needs -/
structure ToldF (mg : Str → Option Value) (K : PySem.W.Frag) (cl : Nat → Addr) (cs : List Nat) (sT sM : Stmt) : Prop where
  t : ∃ (g : Addr) (fd : FuncData), Fun K "_law_told" "_law_told" sT g fd ∧ mg "_law_told" = some (.ref g) ∧ Binds K fd ["deed"] []
  m : ∃ (g : Addr) (fd : FuncData), Fun K "_law_term" "_law_term" sM g fd ∧ mg "_law_term" = some (.ref g) ∧ Binds K fd ["e"] []
  st : FnScope ["deed", "e"] ["deed"] (defScope sT)
  sm : FnScope ["e", "flags", "kinds"] ["e"] (defScope sM)
  le : (defScope sT).names.lookup ("e" : Str) = some .local
  ld : Vis (defScope sT) ("deed" : Str)
  gm : (defScope sT).names.lookup ("MoveError" : Str) = some .globalImplicit
  gt : (defScope sT).names.lookup ("_law_term" : Str) = some .globalImplicit
  bt : ∃ p1 p2 p3 p4 p5 p6 p7 p8 p9 p10 : Pos, defBody sT = [.Try [.Return (some (.Call (.Name "deed" p1) [] [] p2)) p3] [.ExceptHandler (some (.Name "MoveError" p4)) (some "e") [.Return (some (.Call (.Name "_law_term" p5) [.Name "e" p6] [] p7)) p8] p9] [] [] p10]
  bm : ∀ (P : Program) (w : World) (base : Heap) (f : Addr) (cdv : Value) (A : Around) (outer : List Env) (s : Shared) (H0 : Hp) (E : XK) (a : Addr) (oe : Obj) (c : Nat), c ∈ cs → L2H.Hot1 A (a, oe) → (oe.cls = .ref (cl c) ∧ oe.dict = none) → (∃ vs, oe.data = .fields vs) →
    PSs (L2H.cxH (L2N.CX P w) P w K mg base ["e", "flags", "kinds"] "_law_term" (defScope sM) f cdv A outer s H0 E (a, oe)) (defBody sM) (tTerm a c)
  ex : ∃ M : Addr, mg "MoveError" = some (.ref M) ∧ ∀ c ∈ cs, PySem.W.exmOne K (.ref (cl c)) (.ref M) = some true
section
variable {X : Cx}
/-- x(), x the lambda, in the def that got it -/
theorem pe_deed {pins : List (Addr × Obj)} {σ : L2.St} {H : Hp} {s : Shared} {CXg : CXT} {Eg : XK} {Ng : List Str} {qg : Str} {sg : Scope} {g f c' : Addr} {cdg pm ctv : Value} {params : Arguments} {body : Expr} {scope : Scope} {k i : Nat} {a : Str} {pn : List (Addr × Obj)} {xe : Value → Shared → Prop} {W : WX} {t : XK → TE} {p1 p2 : Pos}
    (I : Inv X pins σ H s) (L : LamX.LamS X.env.scope scope) (hf : s.heap.get? f = some (PySem.W.kla_obj "<lambda>" (X.env.qual ++ "<lambda>") params body scope (cloFrom X.env.cells scope.names []) pm c' ctv)) (hfn : H f = none) (hfr : f ∉ frs X.stack)
    (hbind : bindArgs (PySem.W.kla_fn "<lambda>" (X.env.qual ++ "<lambda>") params body scope (cloFrom X.env.cells scope.names []) pm (.ref c') ctv) ⟨[], []⟩ = pure [])
    (tk : L2N.Takes ((cxOf CXg X.prog X.w X.K X.mg X.base Ng qg sg g cdg X.A X.stack s H Eg).tr pn xe) W) (hr : Room (k + 1) (X.A.deeper (envOfC qg sg s.heap.objs.size g cdg)))
    (hbody : ∀ (A : Around) (outer : List Env) (s : Shared) (H : Hp) (E : XK), Room k (A.deeper (LamX.lamEnv X scope s.heap.objs.size f c')) → PE (lamX X A outer s H E scope f c') body (t E))
    (hN : Ng[i]? = some a) (hv : Vis sg a) (hd : (a == ("__debug__" : Str)) = false) (hcd : (a == ("__classdict__" : Str)) = false) :
    PE ((cxOf CXg X.prog X.w X.K X.mg X.base Ng qg sg g cdg X.A X.stack s H Eg).tr pn xe) (.Call (.Name a p1) [] [] p2)
      (fun σZ HZ Q => σZ[i]? = some (some (.ref f)) ∧ HZ c' = some (LamX.CodeO c' (X.env.qual ++ "<lambda>")) ∧ t (WE W σZ) σ HZ Q) := by
  refine ⟨fun pinsZ sZ σZ HZ Q IZ ⟨hs, hc, ht⟩ => ?_⟩
  refine wpAny_Call_Name_kw (thn ((pe_var (pos := p1) (i := i) hN hv hd hcd).run pinsZ sZ σZ HZ (fun v H1 => v = .ref f ∧ H1 = HZ) IZ ⟨.ref f, hs, rfl, rfl⟩) fun u s1 ⟨v, H1, I1, r1, ev, eH⟩ => ?_)
  subst ev
  rw [eH] at I1
  obtain rfl : u = Value.ref f := r1
  have un : Un (frs X.stack) [] H HZ s.heap s1.heap := I1.base
  have of1 := un.keep f _ hf hfn hfr (fun z => nomatch (show f ∈ ([] : List Addr) from z))
  obtain ⟨⟨oc, vs, tq, hoc, hdc, hvc⟩, _, _⟩ := I1.hok c' _ hc
  refine PySem.W.callWith_F0 ⟨_, _, _, _, of1⟩ (wpAny_call (codeAny_mono (R := CR (L2N.CX X.prog X.w) (envOfC qg sg s.heap.objs.size g cdg :: X.stack) X.prog X.w HZ s1 Q (WE W σZ)) ?_ fun r s' hq => ?_))
  · refine PySem.W.kla_callFunE hr.depth of1 rfl L.co L.gen rfl ⟨c', oc, vs, tq, rfl, hoc, hdc, hvc⟩ ?_
    rw [show ({ pos := [] ++ [] } : Args) = ⟨[], []⟩ from rfl, hbind]
    refine wpAny_pure (wpAny_newFunctionEnv (fun y hy => (L.own y hy).2) (fun y hy => absurd hy (by simp)) (fun h₁ hns hsb => ⟨I1.nolimit.fresh _ hsb, ?_⟩) L.kind)
    have kp : ∀ b o, s1.heap.get? b = some o → h₁.get? b = some o := fun b o e => hsb.extBut b o (Nat.ne_of_lt (Heap.lt_size e)) (Heap.get?_push_of_some _ e)
    have J := LamX.lam_start2 (E := WE W σZ) (f := f) (c' := c') (tk := s1.toks + ([] : List (Str × Value)).length) I L I1.env0 hr.hd un hns kp
    refine PySem.W.kla_codeExpr (wpAny_mono ((hbody _ _ s1 HZ (WE W σZ) (hr.deeper _)).run [] _ _ HZ Q (J.toTry _) ht) (fun v s' hq => ?_) fun e s' hq => hq)
    obtain ⟨w', H', J', rv, q⟩ := hq
    exact ⟨w', H', J'.os, J'.bare, J'.base, J'.hok, rv, q⟩
  · cases r with
    | error e => exact L2N.passAt tk σZ pinsZ HZ s1 e s' I1 hq
    | ok fl =>
      cases fl with
      | ret u => exact I1.after hq
      | next => exact False.elim hq
      | brk => exact False.elim hq
      | cont => exact False.elim hq
variable {G : Glo} {E : XK}
theorem Rep.extN {S F : Hp} {ρ : List Addr} {H H1 : Hp} {st : Store} (r : Rep G S F ρ H st) (e : LamX.ExtN H H1) (t : LamX.Tabs G.T H1) : Rep G S F ρ H1 st where
  sd := fun a o h => by
    obtain ⟨h1, h2, h3, h4⟩ := r.sd a o h
    refine ⟨e a o h1 (fun ps z => ?_), h2, h3, h4⟩
    obtain ⟨xs, h4⟩ := h4
    rw [h4] at z
    cases z
  ex := fun a o h => e a o (r.ex a o h) fun ps z => r.nt a ps (z ▸ h)
  nt := r.nt
  len := r.len
  nd := r.nd
  own := fun k ob h => by
    obtain ⟨a, ho, h1, h2, h3, h4⟩ := r.own k ob h
    refine ⟨a, ho, h1, h2, e a ho h3 fun ps z => ?_, h4⟩
    cases ob with
    | lst xs => obtain ⟨vs, e1, _⟩ := h4; rw [e1] at z; cases z
    | ins C fs => obtain ⟨dx, fv, e1, _⟩ := h4; rw [e1] at z; cases z
    | gone => obtain ⟨vs, e1⟩ := h4; rw [e1] at z; cases z
    | tup xs => obtain ⟨vs, e1, _⟩ := h4; rw [e1] at z; cases z
    | dct xs => obtain ⟨vs, e1, _⟩ := h4; rw [e1] at z; cases z
    | dcf xs => obtain ⟨od, vs, e1, _⟩ := h4; rw [e1] at z; cases z
    | exc c => obtain ⟨oe, x, vs, e1, _⟩ := h4; rw [e1] at z; cases z
  tab := t
/-- one more tuple of texts -/
theorem Rep.term {S F : Hp} {ρ : List Addr} {H H' : Hp} {st : Store} {p : Addr} {x y : Str} (r : Rep G S F ρ H st) (e : ∀ b o, H b = some o → H' b = some o) (hn : H p = none) (hp : H' p = some (.tup [.str x, .str y])) :
    ∃ F', Gr F ρ F' ρ ∧ Rep G S F' ρ H' st ∧ VR G F' ρ (.ref p) (.d (.tuple [.str x, .str y])) := by
  obtain ⟨r1, g1⟩ := r.new (o := .tup [.str x, .str y]) hn (fun ps z => by cases z)
  have en : ∀ b o, upd H p (.tup [.str x, .str y]) b = some o → H' b = some o := fun b o h => by
    by_cases hb : b = p
    · subst hb
      rw [upd_same] at h
      cases h
      exact hp
    · rw [upd_ne hb] at h
      exact e b o h
  exact ⟨_, g1, r1.extN (LamX.ExtN.of en) (r1.tab.ext en), .tup upd_same (.cons (.str x) (.cons (.str y) .nil))⟩
theorem takesN {X : Cx} : L2N.Takes X (fun _ _ _ _ => False) := fun _ _ x => by
  obtain ⟨_, _, _, _, _, _, _, _, _, _, _, _, _, _, _, _, z⟩ := x
  exact z.elim
/-- told(lambda: body) -/
theorem qe_told {cs : List Nat} {sT sM : Stmt} {c P : Addr} {k : Nat} {params : Arguments} {body : Expr} {scope : Scope} {fb : Y.E} {p lpos pos : Pos} (TF : ToldF X.mg X.K G.cl cs sT sM) (hg : Gl X "_law_told")
    (TB : LamX.TabB X.base X.mg c P) (hcode : X.env.code = .ref c) (hmT : (P, X.env.qual ++ "<lambda>") ∈ G.T) (hu : ∀ p ∈ G.T, p.1 = P → p.2 = X.env.qual ++ "<lambda>") (hr : Room (k + 3) X.A) (L : LamX.LamS X.env.scope scope) (hdef : defaultsOf params X.env = ([], []))
    (hbind : ∀ (q : Str) (cl : List (Str × Addr)) (pm cv ctv : Value), bindArgs (PySem.W.kla_fn "<lambda>" q params body scope cl pm cv ctv) ⟨[], []⟩ = pure [])
    (hbody : ∀ (A : Around) (outer : List Env) (s : Shared) (H : Hp) (E : XK) (f c' : Addr), Room k (A.deeper (LamX.lamEnv X scope s.heap.objs.size f c')) → PE (lamX X A outer s H E scope f c') body (lE G E fb)) :
    PE X (.Call (.Name "_law_told" p) [.Lambda params body scope lpos] [] pos) (lE G E (eTold cs fb)) := by
  refine ⟨fun pins s σ H Q I h => ?_⟩
  obtain ⟨S, F, ρ, loc, st, rp, l, o⟩ := h
  obtain ⟨g, fdT, FT, mT, bT⟩ := TF.t
  obtain ⟨f2, fdM, FM, mM, bM⟩ := TF.m
  obtain ⟨M, gM, exM⟩ := TF.ex
  obtain ⟨p1, p2, p3, p4, p5, p6, p7, p8, p9, p10, hbd⟩ := TF.bt
  refine wpAny_Call_Name_kw (ld_glob I hg mT ?_ (by decide))
  refine PySem.W.callWith_K (h₀ := X.base) I.ok.mod.kin FT.kp ?_ (by rfl) (by rfl)
  refine Calls.spliced_cons (LamX.lam_make2 I TB hcode hmT hu rp.tab hdef (L.has I.ok) fun f c' pm' ctv H1 s' I1 eN T1 hf hfn hfr hco => ?_)
  refine Calls.spliced_nil ⟨I1.kIn, ?_⟩
  have rp1 := rp.extN eN T1
  obtain ⟨oc, od, kV, doc, pm, an, cdv, ct, osl, rfl, lk, hcd⟩ := FT.ex
  have rc : codeAny (model X.prog X.w) X.A (.call (.ref g) ⟨[.ref f], []⟩) (CR (L2N.CX X.prog X.w) X.stack X.prog X.w H1 s' Q EF) s' := by
    refine LamX.run_ofS (k := k + 2) (N := ["deed", "e"]) (ps := ["deed"]) (us := [.ref f]) (vs := [.ref f]) lk hcd TF.st hr I1.env0 (bT s' [.ref f] I1.kIn rfl) (.cons rfl .nil) rfl fun hr' => ?_
    rw [hbd]
    refine ⟨_, pss_one (L2N.ps_try_as (X := cxOf (L2N.CX X.prog X.w) X.prog X.w X.K X.mg X.base ["deed", "e"] "_law_told" (defScope sT) g cdv X.A X.stack s' H1 EF) (i := 1) (c := .ref M)
      (tb := fun W D σZ HZ => σZ[0]? = some (some (.ref f)) ∧ HZ c' = some (LamX.CodeO c' (X.env.qual ++ "<lambda>")) ∧ lE G (WE W σZ) fb σ HZ D.rt)
      (ts := fun a cls d D σZ HZ => ∃ c ∈ cs, cls = .ref (G.cl c) ∧ d = none ∧ σZ[1]? = some (some (.ref a)) ∧ ∀ p H', (∀ b o, HZ b = some o → H' b = some o) → HZ p = none → H' p = some (.tup [.str "refused", .str (kindN c)]) → D.rt (.ref p) H')
      (Wout := fun _ _ _ _ => False) rfl rfl TF.st.nd rfl TF.le ⟨TF.gm, by decide, .inl gM⟩ takesN (fun W pn xe tk _ => ?_) (fun a oe cls d pn hz hf => ?_)), ?_⟩
    · exact pss_one (ps_ret (pe_deed (i := 0) (k := k) (t := fun E => lE G E fb) I1 L hf hfn hfr (hbind _ _ _ _ _) tk (hr'.mono (by omega)) (fun A outer s H E hr2 => hbody A outer s H E f c' hr2) rfl TF.ld (by decide) (by decide)))
    · refine ⟨fun pinsZ sZ σZ HZ DZ IZ hZ => ?_⟩
      obtain ⟨c, hc, rfl, rfl, h1, hq⟩ := hZ
      have hot : L2H.Hot1 ((cxOf (L2N.CX X.prog X.w) X.prog X.w X.K X.mg X.base ["deed", "e"] "_law_told" (defScope sT) g cdv X.A X.stack s' H1 EF).suite a ((a, oe) :: pn)).A (a, oe) := by
        obtain ⟨vs, hv⟩ := hf
        exact ⟨rfl, vs, hv, hz.2.2 vs hv⟩
      have pt := pss_one (ps_ret (pos := p8) (pe_hot (X := (cxOf (L2N.CX X.prog X.w) X.prog X.w X.K X.mg X.base ["deed", "e"] "_law_told" (defScope sT) g cdv X.A X.stack s' H1 EF).suite a ((a, oe) :: pn)) (CX := L2N.CX X.prog X.w) (k := 0) (t := tTerm a c) (i := 1) (q := p5) (q2 := p6) (pos := p7) FM TF.sm rfl ⟨(hr'.mono (show 1 ≤ k + 2 by omega)).dp, (hr'.mono (show 1 ≤ k + 2 by omega)).un⟩ hot List.mem_cons_self TF.gt mM bM
        (fun cdv outer s H E => TF.bm X.prog X.w X.base f2 cdv _ outer s H E a oe c hc hot ⟨hz.1, hz.2.1⟩ hf) pasF rfl (.inl TF.le) (by decide) (by decide) (by decide)))
      exact pt.run pinsZ sZ σZ HZ DZ IZ ⟨.ref a, h1, rfl, hq⟩
    · refine ⟨rfl, hco, S, F, ρ, loc, st, rp1, l, ?_⟩
      unfold eTold at o
      cases e : fb loc st with
      | ok v st' => rw [e] at o; exact o
      | bad => rw [e] at o; exact o
      | ex c st' =>
        rw [e] at o
        dsimp only at o
        split at o
        · rename_i hc
          intro F' ρ' H' gr rr
          refine ⟨true, exM c hc, fun _ a na => ⟨c, hc, rfl, rfl, rfl, fun p H'' ext hn hp => ?_⟩, fun z => nomatch z⟩
          obtain ⟨F'', g'', r'', v''⟩ := rr.term ext hn hp
          exact o F'' ρ' H'' (.ref p) (gr.trans g'') r'' v''
        · exact o.elim
  refine wpAny_call (codeAny_mono rc fun r s2 hq => ?_)
  cases r with
  | error e => exact (pasF (X := X) σ pins H1 s' e s2 I1 hq)
  | ok fl =>
    cases fl with
    | ret u => exact I1.after hq
    | next => exact False.elim hq
    | brk => exact False.elim hq
    | cont => exact False.elim hq
end
theorem spL_trueT {K : PySem.W.Frag} {sem : List Val → M Val} {H : Hp} {a P : Addr} {q : Str} {ns : List Int} (hT : H P = some (.tbl #[])) (hS : SqL K H a (ns.map V.int)) (ht : ∃ st, sem [.s ns] [] = .ok (.d (.bool true)) st) : spL K [(P, q)] sem [.ref a] H (fun v _ => v = .bl true) fun _ _ _ => False := by
  intro cl ic
  obtain ⟨st, e⟩ := ht
  let F : Hp := fun b => match H b with
    | some (.tbl _) => none
    | o => o
  have fH : ∀ b o, F b = some o → H b = some o := fun b o h => by
    have h : (match H b with | some (.tbl _) => none | o => o) = some o := h
    split at h
    · cases h
    · exact h
  have nF : ∀ b ps, F b ≠ some (.tbl ps) := fun b ps h => by
    have h : (match H b with | some (.tbl _) => none | o => o) = some (.tbl ps) := h
    split at h
    · cases h
    · rename_i hn; exact hn ps h
  have gF : ∀ b o, H b = some o → (∀ ps, o ≠ .tbl ps) → F b = some o := fun b o h hn => by
    show (match H b with | some (.tbl _) => none | o => o) = some o
    rw [h]
    split
    · rename_i ps hz; cases hz; exact absurd rfl (hn ps)
    · rfl
  have hS' : SqL K F a (ns.map V.int) := by
    rcases hS with (h | ⟨o, h⟩) | h
    · exact .inl (.inl (gF _ _ h fun ps z => by cases z))
    · exact .inl (.inr ⟨o, gF _ _ h fun ps z => by cases z⟩)
    · exact .inr h
  refine ⟨fun _ => none, F, [], [], [.s ns], ⟨(fun a o h => by cases h), fH, nF, rfl, List.nodup_nil, (fun k ob h => by simp at h), fun p hp => ?_⟩, .cons ⟨a, rfl, hS'⟩ .nil, rfl, ?_⟩
  · have hp : p = (P, q) := by simpa using hp
    rw [hp]
    exact LamX.TabS.nil hT
  · rw [e]
    intro F1 ρ1 u H1 g r v
    cases v
    rfl
end Y
end
section
set_option Elab.async false
set_option linter.all false
/-! Sx: more words of the plain reading. -/
namespace Y
open PySem (PyData Str)
/-- x is True, x is False -/
def bIsB (b : Bool) : Val → M Val
  | .d (.bool c) => ret (vB (c == b))
  | _ => die
def bNotB (b : Bool) : Val → M Val
  | .d (.bool c) => ret (vB (!(c == b)))
  | _ => die
def bInt1 : List Val → M Val
  | [.d (.bool b)] => ret (vI (if b then 1 else 0))
  | [.d (.int i)] => ret (vI i)
  | _ => die
/-- a list or a tuple of whole numbers -/
def seqI : Val → M (List Int)
  | .d (.list ds) => oget (toIs ds)
  | .d (.tuple ds) => oget (toIs ds)
  | _ => die
def bSumS : List Val → M Val
  | [v] => bd (seqI v) fun ns => ret (vI ns.sum)
  | _ => die
def minI : List Int → Option Int
  | [] => none
  | x :: r => some (r.foldl min x)
def bMinS : List Val → M Val
  | [v] => bd (seqI v) fun ns => bd (oget (minI ns)) fun m => ret (vI m)
  | _ => die
/-- an own list + a list -/
def bAddO : Val → Val → M Val
  | .o k, .d (.list ys) => fun st => match st[k]? with
    | some (.lst xs) => (match toDs xs with
      | some ds => if ds.length + ys.length ≤ lim then .ok (.d (.list (ds ++ ys))) st else .bad
      | none => .bad)
    | _ => .bad
  | a, b => bAdd a b
/-- enumerate of a list or a tuple -/
def kEnumS : List Val → M (List Val)
  | [.d (.list ds)] => ret (enumF 0 ds)
  | [.d (.tuple ds)] => ret (enumF 0 ds)
  | _ => die
/-- an own list becomes data: nobody changes it from now on -/
def bFrz : Val → M Val
  | .o k => fun st => match st[k]? with
    | some (.lst xs) => (match toDs xs with
      | some ds => if ds.length ≤ lim then .ok (.d (.list ds)) (st.set k .gone) else .bad
      | none => .bad)
    | _ => .bad
  | .d x => ret (.d x)
  | _ => die
theorem minI_spec : ∀ (r : List Int) (x : Int), r.foldl min x ∈ x :: r ∧ ∀ y ∈ x :: r, r.foldl min x ≤ y
  | [], x => by simp
  | y :: r, x => by
    obtain ⟨h1, h2⟩ := minI_spec r (min x y)
    refine ⟨?_, fun z hz => ?_⟩
    · show r.foldl min (min x y) ∈ _
      rcases List.mem_cons.mp h1 with e | e
      · rw [e]
        rcases Int.le_total x y with h | h
        · rw [Int.min_eq_left h]; simp
        · rw [Int.min_eq_right h]; simp
      · simp [e]
    · show r.foldl min (min x y) ≤ z
      have h0 := h2 (min x y) (by simp)
      rcases List.mem_cons.mp hz with e | hz
      · omega
      rcases List.mem_cons.mp hz with e | hz
      · omega
      · exact h2 z (by simp [hz])
end Y
end
section
set_option Elab.async false
set_option Elab.async false
set_option linter.all false
set_option maxRecDepth 100000
set_option maxHeartbeats 2000000
/-! Opx: rules for these words. -/
namespace Y
open PySem PySem.Spec PyProof.Rows L2
section
variable {X : Cx} {G : Glo}
theorem dt_bool {F : Hp} {u : V} {i : Bool} (h : Dt F u (.bool i)) : u = .bl i := by
  cases h with
  | bl _ => rfl
def rIsBl (k : Bool) : R2 := fun x y H Q => ∃ a b, x = .bl a ∧ y = .bl b ∧ Q (.bl (if k = true then !decide (a = b) else decide (a = b))) H
theorem qe_isB {E : XK} {a : Expr} {f : Y.E} {b : Bool} {j : Nat} {pos pos' : Pos} (h : PE X a (lE G E f)) (hm : behindInMarks .Is (.Constant (.bool b) j pos') = false := by rfl) : PE X (.Compare a [.Is] [.Constant (.bool b) j pos'] pos) (lE G E (eU (bIsB b) f)) := by
  refine PE.imp (pe_cmpR op_is_bl h pe_bl hm) fun σ H Q ⟨S, F, ρ, loc, st, rp, l, o⟩ => ⟨S, F, ρ, loc, st, rp, l, out.imp (fun x H1 h1 => ?_) (out.bd (Rl := VR G) o)⟩
  obtain ⟨F1, ρ1, a, st1, g1, r1, v1, o1⟩ := h1
  unfold bIsB at o1
  split at o1
  · rename_i c
    refine ⟨c, b, dt_bool v1, rfl, ?_⟩
    have e : decide (c = b) = (c == b) := by cases c <;> cases b <;> rfl
    rw [e]
    exact out.at (v := vB (c == b)) o1 r1 (.bl _)
  · exact o1.elim
theorem qe_notB {E : XK} {a : Expr} {f : Y.E} {b : Bool} {j : Nat} {pos pos' : Pos} (h : PE X a (lE G E f)) (hm : behindInMarks .IsNot (.Constant (.bool b) j pos') = false := by rfl) : PE X (.Compare a [.IsNot] [.Constant (.bool b) j pos'] pos) (lE G E (eU (bNotB b) f)) := by
  refine PE.imp (pe_cmpR op_isnot_bl h pe_bl hm) fun σ H Q ⟨S, F, ρ, loc, st, rp, l, o⟩ => ⟨S, F, ρ, loc, st, rp, l, out.imp (fun x H1 h1 => ?_) (out.bd (Rl := VR G) o)⟩
  obtain ⟨F1, ρ1, a, st1, g1, r1, v1, o1⟩ := h1
  unfold bNotB at o1
  split at o1
  · rename_i c
    refine ⟨c, b, dt_bool v1, rfl, ?_⟩
    have e : decide (c = b) = (c == b) := by cases c <;> cases b <;> rfl
    rw [e]
    exact out.at (v := vB (!(c == b))) o1 r1 (.bl _)
  · exact o1.elim
theorem qt_isB {E : XK} {a : Expr} {f : Y.E} {b : Bool} {j : Nat} {pos pos' : Pos} (h : PE X a (lE G E f)) (hm : behindInMarks .Is (.Constant (.bool b) j pos') = false := by rfl) : PT X (.Compare a [.Is] [.Constant (.bool b) j pos'] pos) (lT G E (tV (eU (bIsB b) f))) := by
  refine PT.imp (pt_cmpR op_is_bl h pe_bl hm) fun σ H Q ⟨S, F, ρ, loc, st, rp, l, o⟩ => ⟨S, F, ρ, loc, st, rp, l, ?_⟩
  have e : tV (eU (bIsB b) f) loc st = bd (f loc) (fun a => bd (bIsB b a) asB) st := by
    unfold tV eU bd
    cases f loc st <;> rfl
  rw [e] at o
  refine out.imp (fun x H1 h1 => ?_) (out.bd (Rl := VR G) o)
  obtain ⟨F1, ρ1, a, st1, g1, r1, v1, o1⟩ := h1
  cases a with
  | o k => exact o1.elim
  | s ns => exact o1.elim
  | d y =>
    cases y with
    | bool c =>
      refine ⟨c, b, dt_bool v1, rfl, _, rfl, ?_⟩
      have e : decide (c = b) = (c == b) := by cases c <;> cases b <;> rfl
      rw [e]
      exact out.at (v := (c == b)) o1 r1 rfl
    | _ => exact o1.elim
theorem qt_notB {E : XK} {a : Expr} {f : Y.E} {b : Bool} {j : Nat} {pos pos' : Pos} (h : PE X a (lE G E f)) (hm : behindInMarks .IsNot (.Constant (.bool b) j pos') = false := by rfl) : PT X (.Compare a [.IsNot] [.Constant (.bool b) j pos'] pos) (lT G E (tV (eU (bNotB b) f))) := by
  refine PT.imp (pt_cmpR op_isnot_bl h pe_bl hm) fun σ H Q ⟨S, F, ρ, loc, st, rp, l, o⟩ => ⟨S, F, ρ, loc, st, rp, l, ?_⟩
  have e : tV (eU (bNotB b) f) loc st = bd (f loc) (fun a => bd (bNotB b a) asB) st := by
    unfold tV eU bd
    cases f loc st <;> rfl
  rw [e] at o
  refine out.imp (fun x H1 h1 => ?_) (out.bd (Rl := VR G) o)
  obtain ⟨F1, ρ1, a, st1, g1, r1, v1, o1⟩ := h1
  cases a with
  | o k => exact o1.elim
  | s ns => exact o1.elim
  | d y =>
    cases y with
    | bool c =>
      refine ⟨c, b, dt_bool v1, rfl, _, rfl, ?_⟩
      have e : decide (c = b) = (c == b) := by cases c <;> cases b <;> rfl
      rw [e]
      exact out.at (v := (!(c == b))) o1 r1 rfl
    | _ => exact o1.elim
theorem bInt1_snd : BSnd G (fun xs H Q => (∃ i, xs = [.int i] ∧ Q (.int i) H) ∨ ∃ k, xs = [.bl k] ∧ Q (.int (if k then 1 else 0)) H) bInt1 := by
  intro S F ρ H st xs as Q E rp hx o
  unfold bInt1 at o
  split at o
  · rename_i b
    cases hx with
    | cons h hr =>
      cases hr
      rw [dt_bool h]
      exact .inr ⟨b, rfl, out.at (v := vI (if b then 1 else 0)) o rp (.int _)⟩
  · rename_i i
    cases hx with
    | cons h hr =>
      cases hr
      rw [dt_int h]
      exact .inl ⟨i, rfl, out.at (v := vI i) o rp (.int _)⟩
  · exact o.elim
theorem isTup_of {h : Heap} {a : Addr} {its : Array Value} (x : IsTup h a its) : h.IsTuple a its := by
  obtain ⟨o, h1, h2, n, h3⟩ := x
  exact ⟨o, h1, h2, n, h3⟩
/-! ### sums, least ones, of lists and tuples -/
def rSumS (K : PySem.W.Frag) : List V → Hp → VK → Prop := fun vs H Q => ∃ (a : Addr) (ns : List Int), vs = [V.ref a] ∧ (SqL K H a (ns.map V.int) ∨ SqT K H a (ns.map V.int)) ∧ Q (.int ns.sum) H
theorem cr_sumS (hc : X.calm = true) : CallR X (.builtin "sum") (rSumS X.K) := by
  intro pins s σ H vs us Q I r h
  obtain ⟨a, ns, rfl, hs | hs, q⟩ := h
  · exact cr_sum hc pins s σ H _ us Q I r ⟨a, ns, rfl, hs, q⟩
  · obtain ⟨its, rv, hl, _⟩ := I.tuple hs
    rw [Vals.ref1 r]
    obtain ⟨xs, e⟩ := rv.ints.allInts.items
    have hn : numsOf (intItems xs).toList = ns := e ▸ rv.ints.numsOf
    rw [nums_intItems] at hn
    rw [e] at hl
    refine PySem.W.ktm_sumG (I.ok.hd hc) (isTup_of hl) fun h' tk t' hk => ⟨.int ns.sum, H, I.kept hk, ⟨t', ?_⟩, q⟩
    rw [preSum_eq, List.take_of_length_le (by simp), hn]
def rMinS (K : PySem.W.Frag) : List V → Hp → VK → Prop := fun vs H Q => ∃ (a : Addr) (ns : List Int), vs = [V.ref a] ∧ (SqL K H a (ns.map V.int) ∨ SqT K H a (ns.map V.int)) ∧ 0 < ns.length ∧ ∀ m, m ∈ ns → (∀ y, y ∈ ns → m ≤ y) → Q (.int m) H
theorem min_tup {prog : Program} {w : World} {A : Around} {E : Value → Shared → Prop} {s : Shared} {t : Addr} {xs : Array (Int × Tok)} {Q : Value → Shared → Prop} (hh : A.handled = none) (ht : s.heap.IsTuple t (intItems xs)) (hne : 0 < xs.size)
    (h : ∀ v h' tk, (intItems xs)[argBest (fun i j => decide (numAt xs i < numAt xs j)) (xs.size - 1)]? = some v → (∀ b o, s.heap.get? b = some o → h'.get? b = some o) → Q v { s with heap := h', toks := tk }) :
    wpAny (model prog w) A (call (.builtin "min") [.ref t]) Q E s := by
  obtain ⟨o, ho, hc, n, hd⟩ := id ht
  have hnt : t ≠ s.heap.objs.size := Nat.ne_of_lt (Heap.lt_size ho)
  refine call_min_walk (wpAny_pyIter_tuple ht ?_)
  refine ⟨s.heap.objs.size, _, _, _, _, _, _, rfl, Walks.tuple (A := A.in1) hh _ t hnt (intItems xs), ⟨⟨_, Heap.get?_push_size _ rfl, rfl, rfl⟩, ht.at fun o e => Heap.get?_push_of_some _ e⟩, fun b hb => ?_, by simpa [intItems] using hne, CmpOf.ints_lt (numAt xs) (fun _ _ => intItems_at), fun v h' tk hP hk => ?_⟩
  · rcases List.mem_cons.mp hb with z | hb
    · rw [z]; exact Heap.lt_size (Heap.get?_push_size _ rfl)
    · have z : b = t := by simpa using hb
      rw [z]; exact Heap.lt_size (Heap.get?_push_of_some _ ho)
  · refine h v h' tk (by simpa [intItems] using hP) fun b o e => hk b o (fun hm => ?_) (Heap.get?_push_of_some _ e)
    have z : b = s.heap.objs.size := by simpa using hm
    exact absurd (z ▸ Heap.lt_size e) (Nat.lt_irrefl _)
theorem cr_minS (hc : X.calm = true) : CallR X (.builtin "min") (rMinS X.K) := by
  intro pins s σ H vs us Q I r h
  obtain ⟨a, ns, rfl, hs | hs, hne, q⟩ := h
  · exact cr_min hc pins s σ H _ us Q I r ⟨a, ns, rfl, hs, hne, q⟩
  · obtain ⟨its, rv, hl, _⟩ := I.tuple hs
    rw [Vals.ref1 r]
    obtain ⟨xs, e⟩ := rv.ints.allInts.items
    have hn : numsOf (intItems xs).toList = ns := e ▸ rv.ints.numsOf
    rw [nums_intItems] at hn
    rw [e] at hl
    subst hn
    have hsz : 0 < xs.size := by simpa using hne
    refine min_tup (I.ok.hd hc) (isTup_of hl) hsz fun v h' tk hv hk => ?_
    obtain ⟨t, rfl⟩ := intItems_at hv
    obtain ⟨h1, h2⟩ := argBest_lt (numAt xs) (xs.size - 1)
    refine ⟨V.int _, H, I.kept hk, ⟨t, rfl⟩, q _ ?_ fun y hy => ?_⟩
    · rw [numAt_eq]; exact PySem.getD_mem (by rw [List.length_map, Array.length_toList]; omega)
    · obtain ⟨j, hj, rfl⟩ := mem_getD hy
      rw [List.length_map, Array.length_toList] at hj
      rw [← numAt_eq]; exact h2 j (by omega)
theorem seqI_rel {S F : Hp} {ρ : List Addr} {H : Hp} {st s' : Store} {x : V} {a : Val} {ns : List Int} (rp : Rep G S F ρ H st) (h : VR G F ρ x a) (e : seqI a st = .ok ns s') : s' = st ∧ ∃ p, x = .ref p ∧ (SqL G.K H p (ns.map V.int) ∨ SqT G.K H p (ns.map V.int)) := by
  unfold seqI at e
  split at e
  · rename_i ds
    obtain ⟨p, us, rfl, ha, hu⟩ := dt_list h
    cases q : toIs ds with
    | none => rw [q] at e; cases e
    | some bs =>
      rw [q] at e
      have e' : R.ok bs st = R.ok ns s' := e
      cases e'
      have z := toIs_rel hu q
      subst z
      exact ⟨rfl, p, rfl, .inl (SqL.of (rp.ex _ _ ha))⟩
  · rename_i ds
    obtain ⟨p, us, rfl, ha, hu⟩ := dt_tup h
    cases q : toIs ds with
    | none => rw [q] at e; cases e
    | some bs =>
      rw [q] at e
      have e' : R.ok bs st = R.ok ns s' := e
      cases e'
      have z := toIs_rel hu q
      subst z
      exact ⟨rfl, p, rfl, .inr (SqT.of (rp.ex _ _ ha))⟩
  · cases e
theorem bSumS_snd : BSnd G (rSumS G.K) bSumS := by
  intro S F ρ H st xs as Q E rp hx o
  unfold bSumS at o
  split at o
  · rename_i v
    cases hx with
    | cons h hr =>
      cases hr
      cases e : seqI v st with
      | bad => unfold bd at o; rw [e] at o; exact o.elim
      | ex c s => exact absurd e (by unfold seqI; intro z; split at z <;> first | (cases q : toIs _ <;> (rw [q] at z; cases z)) | cases z)
      | ok ns s' =>
        unfold bd at o
        rw [e] at o
        obtain ⟨rfl, p, rfl, hs⟩ := seqI_rel rp h e
        exact ⟨p, ns, rfl, hs, out.at (v := vI ns.sum) o rp (.int _)⟩
  · exact o.elim
theorem bMinS_snd : BSnd G (rMinS G.K) bMinS := by
  intro S F ρ H st xs as Q E rp hx o
  unfold bMinS at o
  split at o
  · rename_i v
    cases hx with
    | cons h hr =>
      cases hr
      cases e : seqI v st with
      | bad => unfold bd at o; rw [e] at o; exact o.elim
      | ex c s => exact absurd e (by unfold seqI; intro z; split at z <;> first | (cases q : toIs _ <;> (rw [q] at z; cases z)) | cases z)
      | ok ns s' =>
        unfold bd at o
        rw [e] at o
        obtain ⟨rfl, p, rfl, hs⟩ := seqI_rel rp h e
        cases ns with
        | nil => exact o.elim
        | cons y r =>
          obtain ⟨m1, m2⟩ := minI_spec r y
          refine ⟨p, y :: r, rfl, hs, by simp, fun m hm hl => ?_⟩
          have em : m = r.foldl min y := Int.le_antisymm (hl _ m1) (m2 m hm)
          rw [em]
          exact out.at (v := vI (r.foldl min y)) o rp (.int _)
  · exact o.elim
/-! ### an own list + a list -/
theorem bAddO_snd : OSnd G (rAddA G.K) bAddO := by
  intro S F ρ H st x y a b Q E rp hx hy o
  unfold bAddO at o
  split at o
  · rename_i k ys
    obtain ⟨p, hp, rfl⟩ := hx
    obtain ⟨b, ws, rfl, hb, hw⟩ := dt_list hy
    cases q : st[k]? with
    | none => rw [q] at o; exact o.elim
    | some ob =>
      rw [q] at o
      cases ob with
      | ins _ _ => exact o.elim
      | gone => exact o.elim
      | tup _ => exact o.elim
      | dct _ => exact o.elim
      | dcf _ => exact o.elim
      | exc _ => exact o.elim
      | lst xs =>
        dsimp only at o
        cases q2 : toDs xs with
        | none => rw [q2] at o; exact o.elim
        | some ds =>
          rw [q2] at o
          dsimp only at o
          obtain ⟨p', h', e1, e2, e3, us, e4, hu⟩ := rp.own k _ q
          rw [hp] at e1
          cases e1
          subst e4
          have hu' := toDs_rel hu q2
          by_cases hl : ds.length + ys.length ≤ lim
          · rw [if_pos hl] at o
            exact .inr (.inl ⟨p, b, us, ws, rfl, rfl, e3, rp.ex _ _ hb, sz (by rw [hu'.length, hw.length]; exact hl), fun r hr => out_lst rp (hu'.append hw) o r hr⟩)
          · rw [if_neg hl] at o
            exact o.elim
  · exact bAdd_snd S F ρ H st x y _ _ Q E rp hx hy o
end
end Y
end
section
set_option Elab.async false
set_option Elab.async false
set_option linter.all false
set_option maxRecDepth 100000
set_option maxHeartbeats 2000000
/-! Enu: enumerate of a list or a tuple. -/
namespace Y
open PySem PySem.Spec PyProof.Rows L2
theorem meets_enum1 {v : Value} {o : Obj} {H : Heap → Prop} (B : Begins v o H) :
    Meets (Builtin.«enumerate.__new__» ⟨[.type "enumerate", v], []⟩) (fun _ R s => H s.heap ∧ R (.ok (.ret (.ref (s.heap.push o).objs.size))) { s with heap := (s.heap.push o).push { cls := .type "enumerate", data := .fields #[.none, .bool false, .ref s.heap.objs.size, rawInt 0, .none, .none] } }) :=
  .of_wp fun prog w A R s hh => by
    obtain ⟨hp, g, d, tk, os⟩ := s
    obtain ⟨h1, h⟩ := hh
    have hsub := sub_enumerate
    have q1 : ∀ {A' : Around} {E : Value → Shared → Prop} {Q : Value → Shared → Prop}, Q (.ref hp.objs.size) ⟨hp.push o, g, d, tk, os⟩ → wpAny (model prog w) A' (pyIter v) Q E ⟨hp, g, d, tk, os⟩ := fun q => B.iter prog w _ _ ⟨hp, g, d, tk, os⟩ _ h1 q
    wp_walk using q1
    refine wpAny_stack_any fun st => wpAny_pure ?_
    split
    · rename_i c _ _ _ _ _
      cases (c == Value.type "enumerate") <;> (wp_walk using q1; exact ⟨_, rfl, h⟩)
    · wp_walk using q1
      exact ⟨_, rfl, h⟩
section
variable {prog : Program} {w : World} {A : Around} {E : Value → Shared → Prop} {s : Shared}
theorem call_enumT {t : Addr} {items : Array Value} {Q : Value → Shared → Prop} (ht : s.heap.IsTuple t items)
    (k : ∀ h', IsEnum h' (s.heap.objs.size + 1) s.heap.objs.size 0 .none → h'.IsTupleIter s.heap.objs.size t 0 → (∀ b o, s.heap.get? b = some o → h'.get? b = some o) → Q (.ref (s.heap.objs.size + 1)) { s with heap := h' }) :
    wpAny (model prog w) A (call (.type "enumerate") [.ref t]) Q E s := by
  refine callType_new F.called_enumerate (by decide) (F.typeCall_enumerate_1 _) (F.newCall_enumerate_1 _) (fun obj => F.args_object_init_2 obj _) F.entry_enumerate_new (meets_enum1 (begins_tuple t items)) ⟨ht, ?_⟩
  have hz : ∀ o : Obj, (s.heap.push o).objs.size = s.heap.objs.size + 1 := fun o => Heap.size_push ..
  show _ ∧ _
  rw [hz]
  have he : ∀ o : Obj, IsEnum ((s.heap.push o).push { cls := .type "enumerate", data := .fields #[.none, .bool false, .ref s.heap.objs.size, rawInt 0, .none, .none] }) (s.heap.objs.size + 1) s.heap.objs.size 0 .none := fun o => by
    have := Heap.get?_push_size (s.heap.push o) (o := { cls := .type "enumerate", data := .fields #[.none, .bool false, .ref s.heap.objs.size, rawInt 0, .none, .none] }) rfl
    rw [hz] at this
    exact this
  exact ⟨⟨_, he _, rfl⟩, k _ (he _) ⟨_, Heap.get?_push_of_some _ (Heap.get?_push_size _ rfl), rfl, rfl⟩ fun b o x => Heap.get?_push_of_some _ (Heap.get?_push_of_some _ x)⟩
end
/-- the tuple at a, the items in new pairs -/
def IteT (K : PySem.W.Frag) (a : Addr) : It :=
  ⟨fun i H => ∃ (xs : List V) (x : V), SqT K H a xs ∧ xs[i]? = some x,
   fun i H v H' => ∃ T x, v = .ref T ∧ H T = none ∧ H' = upd H T (.tup [.int (i : Nat), x]) ∧ ∀ xs, SqT K H a xs → xs[i]? = some x,
   fun i H => ∃ xs : List V, SqT K H a xs ∧ xs.length ≤ i⟩
theorem turn_enumT {P : Program} {w : World} {K : PySem.W.Frag} {elts : List Expr} {kk : Nat} {tpos : Pos} (a e it : Addr) :
    Turn P w K (.Tuple elts kk tpos) (IteT K a) [e, it] e (fun i h => (∃ old, IsEnum h e it ((i : Nat) : Int) old) ∧ h.IsTupleIter it a i ∧ e ≠ it) where
  mem := by simp
  obj := fun i h st b hb => by
    obtain ⟨⟨old, he⟩, ⟨o, ho, hc, hd⟩, _⟩ := st
    rcases List.mem_cons.mp hb with rfl | hb
    · exact ⟨_, he, fun v q => nomatch q⟩
    · obtain rfl := List.mem_singleton.mp hb
      exact ⟨o, ho, fun v q => by rw [hd] at q; cases q⟩
  keep := fun i h h' st k => by
    obtain ⟨⟨old, he⟩, ⟨o, ho, hc, hd⟩, hne⟩ := st
    exact ⟨⟨old, k e (by simp) _ he⟩, ⟨o, k it (by simp) _ ho, hc, hd⟩, hne⟩
  item := by
    intro X hP hw hK hc i pins s σ H E I hf st hg
    subst hP hw hK
    obtain ⟨⟨old, he⟩, hit, hne⟩ := st
    obtain ⟨xs, x, hq, hx⟩ := hg
    obtain ⟨its, rv, p, hz⟩ := I.tuple hq
    obtain ⟨u, hu, ru⟩ := rv.get hx
    have hel : e < s.heap.objs.size := Heap.lt_size he
    have hil : it < s.heap.objs.size := by obtain ⟨_, q, _⟩ := hit; exact Heap.lt_size q
    have hat : a ≠ it := by
      intro z
      obtain ⟨o1, g1, c1, d1⟩ := hit
      obtain ⟨o2, g2, c2, _⟩ := isTup_of p
      rw [z, g1] at g2
      cases g2
      rw [c1] at c2
      injection c2 with c2
      exact absurd c2 (by decide)
    have hae : e ≠ a := by
      intro z
      obtain ⟨o2, g2, c2, _⟩ := isTup_of p
      rw [← z] at g2
      have he' : s.heap.get? e = _ := he
      rw [he'] at g2
      cases g2
      injection c2 with c2
      exact absurd c2 (by decide)
    have D := Draws.tuple (prog := X.prog) (w := X.w) (A := X.A.in1) (I.ok.hd hc) it a hat its.toArray
    have hlt : i < its.toArray.size := by
      have := (List.getElem?_eq_some_iff.mp hu).1
      simpa using this
    refine wpAny_pyNext_enum_itemD D he ⟨hit, isTup_of p⟩ hlt hne (by simp [hne, hae]) fun y h' tk hy ho st' hT hsz hk => ?_
    have ey : y = u := by
      have hy : its.toArray[i]? = some y := hy
      rw [List.getElem?_toArray, hu] at hy
      exact (Option.some.inj hy).symm
    subst ey
    refine ⟨_, rfl, wpAny_letOwnedTupleGo_enum (s := { s with heap := h', toks := tk + 1 }) ho fun h'' he' sb => ?_⟩
    have hT2 : h''.get? s.heap.objs.size = some { cls := .type "tuple", data := .seq #[.int i tk, y] } := (sb.2 _ (Nat.ne_of_gt hel)).trans hT
    have new : ObjOk X.prog X.w (upd H s.heap.objs.size (.tup [.int (i : Nat), x])) h'' s.heap.objs.size (.tup [.int (i : Nat), x]) := ⟨by show 2 ≤ sizeLine; decide, [.int i tk, y], .cons ⟨_, rfl⟩ (.cons ru .nil), ⟨_, hT2, rfl, _, rfl⟩⟩
    have I1 : Inv X pins σ (upd H s.heap.objs.size (.tup [.int (i : Nat), x])) { s with heap := h'', toks := tk + 1 } :=
      I.turnedNew (ch := [e, it]) (fun b ob hb q => (sb.2 b (fun z => hb (by simp [z]))).trans (hk b ob (fun z => hb (by simp [z])) (fun z => hb (by simp [z])) q)) hf (Nat.le_refl _) new
    refine ⟨.ref s.heap.objs.size, _, I1, rfl, ⟨_, x, rfl, I.hok.fresh (Nat.le_refl _), rfl, fun ys hy => by rw [I.tuple_inj hy hq]; exact hx⟩, ⟨⟨y, ?_⟩, ?_, hne⟩, fun b hb => ?_⟩
    · have e1 : ((i + 1 : Nat) : Int) = (i : Int) + 1 := by omega
      rw [e1]; exact he'
    · obtain ⟨o1, g1, c1, d1⟩ := st'.1
      exact ⟨o1, (sb.2 it (Ne.symm hne)).trans g1, c1, d1⟩
    · have hb' : b < s.heap.objs.size := by
        rcases List.mem_cons.mp hb with rfl | hb
        · exact hel
        · obtain rfl := List.mem_singleton.mp hb
          exact hil
      rw [upd_ne (Nat.ne_of_lt hb')]
      exact (hf b hb).1
  done := by
    intro X hP hw hK hc i pins s σ H E I hf st hg
    subst hP hw hK
    obtain ⟨⟨old, he⟩, hit, hne⟩ := st
    obtain ⟨xs, hq, hx⟩ := hg
    obtain ⟨its, rv, p, hz⟩ := I.tuple hq
    obtain ⟨f0, f1, f2, f3, f4, f5⟩ := hf it (by simp)
    have hl := rv.length
    have D : Draws X.prog X.w X.A.in1 it [it, a] i (fun _ _ => True) (fun j h => (h.IsTupleIter it a j ∧ h.IsTuple a its.toArray) ∧ i ≤ j) :=
      { live := fun _ _ st => let ⟨o, ho, _⟩ := st.1.1; ⟨o, ho⟩
        frame := fun _ _ _ st hk => by
          obtain ⟨⟨⟨o, ho, c1, d1⟩, ⟨o2, ho2, c2, d2⟩⟩, hj⟩ := st
          exact ⟨⟨⟨o, hk it (by simp) _ ho, c1, d1⟩, ⟨o2, hk a (by simp) _ ho2, c2, d2⟩⟩, hj⟩
        item := fun j s Q E hj st hQ => absurd hj (Nat.not_lt.mpr st.2)
        done := fun s Q E st hE => wpAny_nextOf_tuple_end (I.ok.hd hc) st.1.1 st.1.2 (by simp; omega) fun h' e' a b => hE h' e' a b }
    exact wpAny_pyNext_enum_endD D he ⟨⟨hit, isTup_of p⟩, Nat.le_refl _⟩ fun h' eb => ⟨rfl, I.turned (t' := s.toks) (fun b o hb q => eb b o hb q) f0 f1 f3 f4 f5⟩
  self := fun A i s Q E st h => let ⟨⟨_, he⟩, _⟩ := st; wpAny_pyIter_enum he h
def iEnumS (K : PySem.W.Frag) (ta : TA) : TI := fun σ H R => ta σ H fun vs H1 => ∃ a xs, vs = [.ref a] ∧ ((SqL K H1 a xs ∧ R (Ite K a) H1) ∨ (SqT K H1 a xs ∧ R (IteT K a) H1))
theorem pi_enumS {X : Cx} {e : Expr} {ta : TA} {p pos tpos : Pos} {elts : List Expr} {kk : Nat} (hg : Gl X "enumerate") (hm : X.mg "enumerate" = none) (ha : PA X [e] ta) (hs : starEach [e] X.env = [(false, eval e X.env)] := by rfl) :
    PI X (.Tuple elts kk tpos) (.Call (.Name "enumerate" p) [e] [] pos) (iEnumS X.K ta) := by
  refine ⟨fun pins s σ H R I h => ?_⟩
  refine Call_ (ld_blt I hg hm boot_enumerate (PyProof.Rows.callWith_type1 (thn (ha.run pos pins s σ H _ I h) fun us s1 ⟨vs, H1, I1, r1, q1⟩ => ?_) hs rfl))
  obtain ⟨a, xs, ex, q⟩ := q1
  subst ex
  rw [Vals.ref1 r1]
  have fr : ∀ b ∈ [s1.heap.objs.size + 1, s1.heap.objs.size], FpOk X pins H1 b := fun b hb => by
    have hle : s1.heap.objs.size ≤ b := by
      rcases List.mem_cons.mp hb with rfl | hb
      · exact Nat.le_add_right _ _
      · obtain rfl := List.mem_singleton.mp hb
        exact Nat.le_refl _
    exact I1.fpOk hle (I1.hok.fresh hle)
  rcases q with ⟨hq, q⟩ | ⟨hq, q⟩
  · obtain ⟨its, rv, p', hz⟩ := I1.list hq
    refine call_enumerate_list p'.isList fun h' he hit hsz hk => wpAny_pyIter_enum he ?_
    have I2 : Inv X pins σ H1 { s1 with heap := h' } := I1.kept (t' := s1.toks) hk
    exact ⟨s1.heap.objs.size + 1, [s1.heap.objs.size + 1, s1.heap.objs.size], _, _, H1, rfl, I2, turn_enum a (s1.heap.objs.size + 1) s1.heap.objs.size, ⟨⟨.none, he⟩, hit, Nat.succ_ne_self _⟩, fr, q⟩
  · obtain ⟨its, rv, p', hz⟩ := I1.tuple hq
    refine call_enumT (isTup_of p') fun h' he hit hk => wpAny_pyIter_enum he ?_
    have I2 : Inv X pins σ H1 { s1 with heap := h' } := I1.kept (t' := s1.toks) hk
    exact ⟨s1.heap.objs.size + 1, [s1.heap.objs.size + 1, s1.heap.objs.size], _, _, H1, rfl, I2, turn_enumT a (s1.heap.objs.size + 1) s1.heap.objs.size, ⟨⟨.none, he⟩, hit, Nat.succ_ne_self _⟩, fr, q⟩
section
variable {X : Cx} {G : Glo} {E : XK}
theorem jw_enumT {F : Hp} {ρ : List Addr} {a : Addr} {x1 : List V} {e1 : List D} (ha : F a = some (.tup x1)) (h1 : DtA F x1 e1) : JW G F ρ (IteT G.K a) (enumF 0 e1) := by
  have w1 := h1.length
  refine ⟨fun i H hi ex => ?_, fun H ex => ?_, fun i H x H' hi ex y => ?_⟩
  · rw [enum_len] at hi
    have a1 : i < x1.length := by omega
    exact ⟨x1, x1[i], SqT.of (ex _ _ ha), by simp [a1]⟩
  · exact ⟨x1, SqT.of (ex _ _ ha), by rw [enum_len]; omega⟩
  · obtain ⟨T, v1, rfl, hT, rfl, f1⟩ := y
    obtain ⟨y1, z1, t1⟩ := h1.get' (f1 x1 (SqT.of (ex _ _ ha)))
    refine .inr (.inl ⟨T, [.int (i : Nat), v1], [.int (i : Int), y1], hT, rfl, rfl, ?_, .cons (.int _) (.cons t1 .nil)⟩)
    have := enum_get (n := 0) z1
    rw [Nat.zero_add] at this
    exact this
theorem qi_enumS {e1 : Expr} {f : Y.A} {p pos tpos : Pos} {elts : List Expr} {kk : Nat} (hg : Gl X "enumerate") (hm : X.mg "enumerate" = none) (ha : PA X [e1] (lA G E f)) (hs : starEach [e1] X.env = [(false, eval e1 X.env)] := by rfl) (hK : X.K = G.K := by rfl) :
    PI X (.Tuple elts kk tpos) (.Call (.Name "enumerate" p) [e1] [] pos) (lI G E (iCall kEnumS f)) := by
  refine PI.imp (pi_enumS hg hm ha hs) fun σ H Q ⟨S, F, ρ, loc, st, rp, l, o⟩ => ⟨S, F, ρ, loc, st, rp, l, out.imp (fun x H1 h1 => ?_) (out.bd (Rl := VRs G) o)⟩
  obtain ⟨F1, ρ1, as, st1, g1, r1, v1, o1⟩ := h1
  unfold kEnumS at o1
  split at o1
  · rename_i ds
    cases v1 with
    | cons h1 hr =>
      cases hr
      obtain ⟨a, xs, rfl, ha, hd⟩ := dt_list h1
      rw [hK]
      exact ⟨a, xs, rfl, .inl ⟨SqL.of (r1.ex _ _ ha), out.at (v := enumF 0 ds) o1 r1 (jw_enumL ha hd)⟩⟩
  · rename_i ds
    cases v1 with
    | cons h1 hr =>
      cases hr
      obtain ⟨a, xs, rfl, ha, hd⟩ := dt_tup h1
      rw [hK]
      exact ⟨a, xs, rfl, .inr ⟨SqT.of (r1.ex _ _ ha), out.at (v := enumF 0 ds) o1 r1 (jw_enumT ha hd)⟩⟩
  · exact o1.elim
end
end Y
end
section
set_option Elab.async false
set_option Elab.async false
set_option linter.all false
set_option maxRecDepth 100000
set_option maxHeartbeats 2000000
/-! Frz: an own list becomes data. -/
namespace Y
open PySem PySem.Spec PyProof.Rows L2
theorem Rep.freeze {G : Glo} {S F : Hp} {ρ : List Addr} {H : Hp} {st : Store} (r : Rep G S F ρ H st) {k : Nat} {a : Addr} {xs : List Val} {vs : List V} (hk : st[k]? = some (.lst xs)) (ha : ρ[k]? = some a) (hh : H a = some (.lst vs)) : Rep G S (upd F a (.lst vs)) ρ H (st.set k .gone) ∧ Gr F ρ (upd F a (.lst vs)) ρ := by
  obtain ⟨a', h', e1, e2, e3, e4⟩ := r.own k _ hk
  rw [ha] at e1
  cases e1
  have fa : F a = none := e2.resolve_left (by intro z; cases z)
  have g : Gr F ρ (upd F a (.lst vs)) ρ := ⟨fun b u h => by rw [upd_ne (ne_of_none h fa)]; exact h, [], by simp⟩
  have hlt : k < st.length := (List.getElem?_eq_some_iff.mp hk).1
  refine ⟨⟨fun b u h => ?_, fun b u h => ?_, fun b ps h => ?_, by rw [List.length_set]; exact r.len, r.nd, fun j ob e => ?_, r.tab⟩, g⟩
  · obtain ⟨h1, h2, h3, h4⟩ := r.sd b u h
    have hb : b ≠ a := fun z => h3 (by rw [z]; exact List.mem_of_getElem? ha)
    exact ⟨h1, by rw [upd_ne hb]; exact h2, h3, h4⟩
  · by_cases hb : b = a
    · subst hb
      rw [upd_same] at h
      rw [hh]
      exact h
    · rw [upd_ne hb] at h
      exact r.ex b u h
  · by_cases hb : b = a
    · subst hb
      rw [upd_same] at h
      cases h
    · rw [upd_ne hb] at h
      exact r.nt b ps h
  · by_cases hj : k = j
    · subst hj
      rw [List.getElem?_set_self hlt] at e
      cases e
      exact ⟨a, _, ha, .inl trivial, hh, vs, rfl⟩
    · rw [List.getElem?_set_ne hj] at e
      obtain ⟨c, h, q1, q2, q3, q4⟩ := r.own j ob e
      have hc : c ≠ a := fun z => by
        subst z
        obtain ⟨i1, z1⟩ := List.getElem?_eq_some_iff.mp ha
        obtain ⟨i2, z2⟩ := List.getElem?_eq_some_iff.mp q1
        exact hj ((List.getElem_inj r.nd).mp (z1.trans z2.symm))
      exact ⟨c, h, q1, q2.imp id (fun z => by rw [upd_ne hc]; exact z), q3, q4.mono g⟩
theorem qe_frz {X : Cx} {G : Glo} {E : XK} {e : Expr} {f : Y.E} (h : PE X e (lE G E f)) : PE X e (lE G E (eU bFrz f)) := by
  refine PE.imp h fun σ H Q ⟨S, F, ρ, loc, st, rp, l, o⟩ => ⟨S, F, ρ, loc, st, rp, l, out.imp (fun x H1 h1 => ?_) (out.bd (Rl := VR G) o)⟩
  obtain ⟨F1, ρ1, v, st1, g1, r1, v1, o1⟩ := h1
  cases v with
  | d x => exact out.at (v := Val.d x) o1 r1 v1
  | s ns => exact o1.elim
  | o k =>
    obtain ⟨a, ha, rfl⟩ := v1
    have o1 : out G S F1 ρ1 (VR G) Q E (match st1[k]? with | some (.lst xs) => (match toDs xs with | some ds => if ds.length ≤ lim then R.ok (Val.d (.list ds)) (st1.set k .gone) else .bad | none => .bad) | _ => .bad) := o1
    cases q : st1[k]? with
    | none => rw [q] at o1; exact o1.elim
    | some ob =>
      rw [q] at o1
      cases ob with
      | ins _ _ => exact o1.elim
      | gone => exact o1.elim
      | tup _ => exact o1.elim
      | dct _ => exact o1.elim
      | dcf _ => exact o1.elim
      | exc _ => exact o1.elim
      | lst xs =>
        dsimp only at o1
        cases q2 : toDs xs with
        | none => rw [q2] at o1; exact o1.elim
        | some ds =>
          rw [q2] at o1
          dsimp only at o1
          obtain ⟨p', h', e1, e2, e3, us, e4, hu⟩ := r1.own k _ q
          rw [ha] at e1
          cases e1
          subst e4
          have hu' := toDs_rel hu q2
          by_cases hl : ds.length ≤ lim
          · rw [if_pos hl] at o1
            obtain ⟨r2, g2⟩ := r1.freeze q ha e3
            exact o1 _ ρ1 _ (.ref a) g2 r2 (Dt.lst upd_same (hu'.mono g2.f))
          · rw [if_neg hl] at o1
            exact o1.elim
end Y
end
section
set_option Elab.async false
set_option linter.all false
/-! Sy: still more words of the plain reading. -/
namespace Y
open PySem (PyData Str)
/-- list(x): a list that nobody changes -/
def bList : List Val → M Val
  | [.d (.list ds)] => ret (.d (.list ds))
  | [.d (.tuple ds)] => ret (.d (.list ds))
  | _ => die
/-- [x] * n: a new list that may change -/
def bMulN : Val → Val → M Val
  | .d (.list xs), .d (.int k) => fun st => if -1000 ≤ k ∧ k ≤ 1000 ∧ xs.length ≤ 1000 then .ok (.o st.length) (st ++ [.lst ((repD k xs).map .d)]) else .bad
  | _, _ => die
/-- l.count(n): whole numbers -/
def bCnt : Val → Val → M Val
  | .d (.list ds), .d (.int k) => bd (oget (toIs ds)) fun ns => ret (vI (ns.count k : Nat))
  | _, _ => die
def chkD : Val → M (List D)
  | .d (.list ds) => ret ds
  | _ => die
def eCnt (o e : E) : E := fun loc => bd (o loc) fun x => bd (chkD x) fun ds => bd (e loc) fun y => bCnt (.d (.list ds)) y
/-- a, b, c = e, f, g -/
def sPar3 (i j l : Nat) (a b c : E) : S := fun loc => bd (a loc) fun u => bd (b loc) fun v => bd (c loc) fun w => ret (.nx, ((loc.set i (some u)).set j (some v)).set l (some w))
/-- a rest of which nothing is said -/
def sDie : S := fun _ => die
end Y
end
section
set_option Elab.async false
set_option Elab.async false
set_option linter.all false
set_option maxRecDepth 100000
set_option maxHeartbeats 2000000
/-! Cnt: list(x), [x] * n that may change, l.count(n), a rest that is not read. -/
namespace Y
open PySem PySem.Spec PyProof.Rows L2
section
variable {X : Cx} {G : Glo}
theorem bList_snd : BSnd G (fun xs H Q => ∃ p ys, xs = [.ref p] ∧ (SqL G.K H p ys ∨ SqT G.K H p ys) ∧ ∀ l, H l = none → Q (.ref l) (upd H l (.lst ys))) bList := by
  intro S F ρ H st xs as Q E rp hx o
  unfold bList at o
  split at o
  · rename_i ds
    cases hx with
    | cons h hr =>
      cases hr
      obtain ⟨a, us, rfl, ha, hu⟩ := dt_list h
      exact ⟨a, us, rfl, .inl (SqL.of (rp.ex _ _ ha)), fun p hp => out_lst rp hu o p hp⟩
  · rename_i ds
    cases hx with
    | cons h hr =>
      cases hr
      obtain ⟨a, us, rfl, ha, hu⟩ := dt_tup h
      exact ⟨a, us, rfl, .inr (SqT.of (rp.ex _ _ ha)), fun p hp => out_lst rp hu o p hp⟩
  · exact o.elim
theorem vrs_of_dt {F : Hp} {ρ : List Addr} : ∀ {us : List V} {ds : List D}, DtA F us ds → VRs G F ρ us (ds.map .d)
  | _, _, .nil => .nil
  | _, _, .cons h hr => .cons h (vrs_of_dt hr)
theorem bMulN_snd : OSnd G (rMulA G.K) bMulN := by
  intro S F ρ H st x y a b Q E rp hx hy o
  unfold bMulN at o
  split at o
  · rename_i xs k
    obtain ⟨a, us, rfl, ha, hu⟩ := dt_list hx
    rw [dt_int hy]
    by_cases hl : -1000 ≤ k ∧ k ≤ 1000 ∧ xs.length ≤ 1000
    · rw [if_pos hl] at o
      refine .inr (.inl ⟨a, k, us, rfl, rfl, rp.ex _ _ ha, by omega, by omega, ?_, fun p hp => out_own rp (vrs_of_dt (hu.rep k.toNat)) o p hp⟩)
      rw [hu.length, sizeLine_eq]
      have : xs.length * k.toNat ≤ 1000 * 1000 := Nat.mul_le_mul (by omega) (by omega)
      omega
    · rw [if_neg hl] at o
      exact o.elim
  · exact o.elim
theorem vals_ints : ∀ {ns : List Int} {us : List Value}, Vals (ns.map V.int) us → IntsAre us ns
  | [], _, .nil => .nil
  | n :: ns, _, .cons r t => by
    obtain ⟨tk, rfl⟩ := r
    exact .cons n tk (vals_ints t)
def rCnt (K : PySem.W.Frag) : V → List V → Hp → VK → Prop := fun x xs H Q => ∃ (a : Addr) (ns : List Int) (k : Int), x = V.ref a ∧ xs = [V.int k] ∧ SqL K H a (ns.map V.int) ∧ Q (.int (ns.count k : Nat)) H
theorem mt_cnt : MtR X "list.count" (rCnt X.K) := by
  intro pins s σ H x xs v us Q I rx rxs h
  obtain ⟨a, ns, k, rfl, rfl, hs, q⟩ := h
  cases rx
  obtain ⟨u, rfl, t, rfl⟩ := rxs.one
  obtain ⟨its, rv, p, hlen⟩ := I.list hs
  exact count_list_ints p.isList (vals_ints rv) ⟨.int (ns.count k : Nat), H, I.tok _, ⟨_, rfl⟩, q⟩
theorem toIs_vi {F : Hp} : ∀ {us : List V} {ds : List D} {ns : List Int}, DtA F us ds → toIs ds = some ns → us = ns.map V.int
  | _, [], _, .nil, e => by
    cases e
    rfl
  | _, .int i :: r, ns, .cons h hr, e => by
    have e : (toIs r).map (i :: ·) = some ns := e
    cases q : toIs r with
    | none => rw [q] at e; cases e
    | some ms =>
      rw [q] at e
      cases e
      rw [toIs_vi hr q, dt_int h]
      rfl
  | _, .none :: r, ns, .cons h hr, e => by cases e
  | _, .bool _ :: r, ns, .cons h hr, e => by cases e
  | _, .str _ :: r, ns, .cons h hr, e => by cases e
  | _, .list _ :: r, ns, .cons h hr, e => by cases e
  | _, .tuple _ :: r, ns, .cons h hr, e => by cases e
  | _, .dict _ :: r, ns, .cons h hr, e => by cases e
/-- l.count(n) -/
theorem qe_cnt {E : XK} {o e : Expr} {fo fe : Y.E} {apos cpos : Pos} (ho : PE X o (lE G E fo)) (he : PE X e (lE G E fe)) (hs0 : starEach [e] X.env = (false, eval e X.env) :: starEach [] X.env := by rfl) (hbase : attributeBase o "count" X.env (eval o X.env) = eval o X.env := by rfl)
    (hfew : ((backTo cpos (starEach [e] X.env)).all (fun x => !x.1) && (backToKw cpos (keywordEach [] X.env)).all (fun x => x.1.isSome) && decide (([e] : List Expr).length + ([] : List Keyword).length + (if ([] : List Keyword).isEmpty then 0 else 1) < 30)) = true := by rfl)
    (hline : (apos.endLine == cpos.line) = true := by rfl) (hK : X.K = G.K := by rfl) : PE X (.Call (.Attribute o "count" apos) [e] [] cpos) (lE G E (eCnt fo fe)) := by
  refine PE.imp (pe_bm PySem.F.plainAttrs_list PySem.F.slot_list_count PySem.F.type_list_count mt_cnt ho (pa_cons he pa_nil hs0) hbase hfew hline hs0 rfl) fun σ H Q ⟨S, F, ρ, loc, st, rp, l, ou⟩ => ⟨S, F, ρ, loc, st, rp, l, out.imp (fun ov H1 h1 => ?_) (out.bd (Rl := VR G) ou)⟩
  obtain ⟨F1, ρ1, a, st1, g1, r1, v1, o1⟩ := h1
  cases a with
  | o _ => exact o1.elim
  | s _ => exact o1.elim
  | d x => ?_
  cases x with
  | list ds =>
    obtain ⟨p, us, rfl, ha, hu⟩ := dt_list v1
    have o1 : out G S F1 ρ1 (VR G) Q E (bd (fe loc) (fun y => bCnt (.d (.list ds)) y) st1) := o1
    refine ⟨.inl ⟨rfl, us, by rw [hK]; exact SqL.of (r1.ex _ _ ha)⟩, S, F1, ρ1, loc, st1, r1, l.mono g1, out.imp (fun w H2 h2 => ?_) (out.bd (Rl := VR G) o1)⟩
    obtain ⟨F2, ρ2, b, st2, g2, r2, v2, o2⟩ := h2
    cases b with
    | o _ => exact o2.elim
    | s _ => exact o2.elim
    | d y => ?_
    cases y with
    | int k =>
      have o2 : out G S F2 ρ2 (VR G) Q E (bd (oget (toIs ds)) (fun ns => ret (vI (ns.count k : Nat))) st2) := o2
      cases q : toIs ds with
      | none => rw [q] at o2; exact o2.elim
      | some ns =>
        rw [q] at o2
        rw [dt_int v2]
        refine ⟨p, ns, k, rfl, rfl, ?_, out.at (v := vI (ns.count k : Nat)) o2 r2 (.int _)⟩
        rw [hK, ← toIs_vi hu q]
        exact SqL.of (r2.ex _ _ (g2.f _ _ ha))
    | _ => exact o2.elim
  | _ => exact o1.elim
theorem qs_par3 (i j m : Nat) {E : XK} {x y z : Str} {a b c : Expr} {fa fb fc : Y.E} {px py pz pt pt2 pos : Pos} {kt k2 : Nat} (hc : X.calm = true) (hN : X.N.Nodup) (hi : X.N[i]? = some x) (hj : X.N[j]? = some y) (hm : X.N[m]? = some z) (hij : i ≠ j) (him : i ≠ m) (hjm : j ≠ m) (hx : X.env.scope.names.lookup x = some .local) (hy : X.env.scope.names.lookup y = some .local) (hz : X.env.scope.names.lookup z = some .local) (ha : PA X [a, b, c] (lA G E (aC fa (aC fb (aC fc aN)))))
    (hsw : swappedStores [.Tuple [.Name x px, .Name y py, .Name z pz] kt pt] (.Tuple [a, b, c] k2 pt2) X.env = pure (some [x, y, z])) (hso : swapsWithSole [.Tuple [.Name x px, .Name y py, .Name z pz] kt pt] (.Tuple [a, b, c] k2 pt2) pos.line X.env = pure false := by rfl) :
    PS X (.Assign [.Tuple [.Name x px, .Name y py, .Name z pz] kt pt] (.Tuple [a, b, c] k2 pt2) pos) (lS G E (sPar3 i j m fa fb fc)) := by
  refine PS.imp (ps_par3 hc hN hi hj hm hij him hjm hx hy hz ha hsw hso) fun D σ H ⟨S, F, ρ, loc, st, rp, l, o⟩ => ⟨S, F, ρ, loc, st, rp, l, ?_⟩
  have o' : out G S F ρ (FR G) (endQ D) E (bd (aC fa (aC fb (aC fc aN)) loc) (fun vs => match vs with | [u, v, w] => ret (Fl.nx, ((loc.set i (some u)).set j (some v)).set m (some w)) | _ => die) st) := by
    have e : bd (aC fa (aC fb (aC fc aN)) loc) (fun vs => match vs with | [u, v, w] => ret (Fl.nx, ((loc.set i (some u)).set j (some v)).set m (some w)) | _ => die) st = sPar3 i j m fa fb fc loc st := by
      unfold aC aN sPar3 bd ret
      cases fa loc st with
      | bad => rfl
      | ex _ _ => rfl
      | ok v s =>
        dsimp only
        cases fb loc s with
        | bad => rfl
        | ex _ _ => rfl
        | ok w s' =>
          dsimp only
          cases fc loc s' with
          | bad => rfl
          | ex _ _ => rfl
          | ok u s'' => rfl
    rw [e]
    exact o
  refine out.imp (fun us H1 h1 => ?_) (out.bd (Rl := VRs G) o')
  obtain ⟨F1, ρ1, vs, st1, g1, r1, vr, o1⟩ := h1
  cases vr with
  | nil => exact o1.elim
  | @cons v1 v1' _ _ h hr =>
    cases hr with
    | nil => exact o1.elim
    | @cons v2 v2' _ _ h' hr' =>
      cases hr' with
      | nil => exact o1.elim
      | @cons v3 v3' _ _ h'' hr'' =>
        cases hr'' with
        | cons _ _ => exact o1.elim
        | nil => exact ⟨v1, v2, v3, rfl, out.at (v := (Fl.nx, ((loc.set i (some v1')).set j (some v2')).set m (some v3'))) (u := FV.nx (((σ.set i (some v1)).set j (some v2)).set m (some v3))) o1 r1 ((((l.mono g1).set h i).set h' j).set h'' m)⟩
/-- nothing is said of the rest -/
theorem qss_die {E : XK} {sts : List Stmt} : PSs X sts (lS G E sDie) := ⟨fun _ _ _ _ _ _ ⟨_, _, _, _, _, _, _, o⟩ => o.elim⟩
end
section
variable {P : Program} {w : World} {mg : Str → Option Value} {base : Heap} {G : Glo}
/-- a def whose code's table is known -/
theorem def_okT {x : Str} {st : Stmt} {N ps : List Str} {k n : Nat} {b : Y.S} {f : Addr} {cdv oc kV doc pm ct : Value} {od an : Option Addr} {osl : Array (Option Value)} (lk : G.K.lookup f = some ⟨oc, od, .func (PySem.W.fnOf x x (defArgs st) (defBody st) (defScope st) .none kV doc pm an cdv ct), osl⟩) (hcd : PySem.W.codeIn G.K cdv x = true) (hm : mg x = some (.ref f)) (hk : PySem.W.keepIn G.K (.ref f) = true) (hbd : Binds G.K (PySem.W.fnOf x x (defArgs st) (defBody st) (defScope st) .none kV doc pm an cdv ct) ps []) (Sc : FnScope N ps (defScope st)) (hn : n = ps.length) (hN : n ≤ N.length)
    (hb : ∀ (A : Around) (outer : List Env) (s : Shared) (H : Hp) (E : XK), Room k (A.deeper (envOfC x (defScope st) s.heap.objs.size f cdv)) → PSs (cxOf (L2N.CX P w) P w G.K mg base N x (defScope st) f cdv A outer s H E) (defBody st) (lS G E b)) :
    DefOk P w mg base G (k + 1) x n (runF N.length b) := ⟨f, _, ps, law_okT lk hcd Sc hn hN hb, hm, hk, hbd⟩
end
theorem spL_trueTs {K : PySem.W.Frag} {sem : List Val → M Val} {H : Hp} {a : Addr} {T : List (Addr × Str)} {ns : List Int} (hT : ∀ p ∈ T, H p.1 = some (.tbl #[])) (hS : SqL K H a (ns.map V.int)) (ht : ∃ st, sem [.s ns] [] = .ok (.d (.bool true)) st) : spL K T sem [.ref a] H (fun v _ => v = .bl true) fun _ _ _ => False := by
  intro cl ic
  obtain ⟨st, e⟩ := ht
  let F : Hp := fun b => match H b with
    | some (.tbl _) => none
    | o => o
  have fH : ∀ b o, F b = some o → H b = some o := fun b o h => by
    have h : (match H b with | some (.tbl _) => none | o => o) = some o := h
    split at h
    · cases h
    · exact h
  have nF : ∀ b ps, F b ≠ some (.tbl ps) := fun b ps h => by
    have h : (match H b with | some (.tbl _) => none | o => o) = some (.tbl ps) := h
    split at h
    · cases h
    · rename_i hn; exact hn ps h
  have gF : ∀ b o, H b = some o → (∀ ps, o ≠ .tbl ps) → F b = some o := fun b o h hn => by
    show (match H b with | some (.tbl _) => none | o => o) = some o
    rw [h]
    split
    · rename_i ps hz; cases hz; exact absurd rfl (hn ps)
    · rfl
  have hS' : SqL K F a (ns.map V.int) := by
    rcases hS with (h | ⟨o, h⟩) | h
    · exact .inl (.inl (gF _ _ h fun ps z => by cases z))
    · exact .inl (.inr ⟨o, gF _ _ h fun ps z => by cases z⟩)
    · exact .inr h
  refine ⟨fun _ => none, F, [], [], [.s ns], ⟨(fun a o h => by cases h), fH, nF, rfl, List.nodup_nil, (fun k ob h => by simp at h), fun p hp => LamX.TabS.nil (hT p hp)⟩, .cons ⟨a, rfl, hS'⟩ .nil, rfl, ?_⟩
  rw [e]
  intro F1 ρ1 u H1 g r v
  cases v
  rfl
end Y
end
section
set_option Elab.async false
set_option linter.all false
/-! Sz: making an instance. -/
namespace Y
open PySem (PyData Str)
/-- C(..): a new instance, then its __init__, whose reading is f -/
def mkI (C : Nat) (f : List Val → M Val) : List Val → M Val := fun as st => match f (.o st.length :: as) (st ++ [.ins C []]) with
  | .ok (.d .none) st' => .ok (.o st.length) st'
  | .ok _ _ => .bad
  | .ex c st' => .ex c st'
  | .bad => .bad
end Y
end
section
set_option Elab.async false
set_option Elab.async false
set_option linter.all false
set_option maxRecDepth 100000
set_option maxHeartbeats 2000000
/-! Mak: an instance of an own class. -/
namespace Y
open PySem PySem.Spec PyProof.Rows L2
/-- one more entry that nobody speaks of -/
theorem Rep.extra {G : Glo} {S F : Hp} {ρ : List Addr} {H : Hp} {st : Store} (r : Rep G S F ρ H st) {p : Addr} {o : HO} (hp : H p = none) : Rep G S F ρ (upd H p o) st where
  sd := fun a u h => by
    obtain ⟨h1, h2, h3, h4⟩ := r.sd a u h
    exact ⟨by rw [upd_ne (ne_of_none h1 hp)]; exact h1, h2, h3, h4⟩
  ex := fun a u h => by
    have := r.ex a u h
    rw [upd_ne (ne_of_none this hp)]
    exact this
  nt := r.nt
  len := r.len
  nd := r.nd
  own := fun k ob e => by
    obtain ⟨a, h, q1, q2, q3, q4⟩ := r.own k ob e
    exact ⟨a, h, q1, q2, by rw [upd_ne (ne_of_none q3 hp)]; exact q3, q4⟩
  tab := r.tab.ext fun b u h => by rw [upd_ne (ne_of_none h hp)]; exact h
/-- a class of the program whose __init__ keeps its plain reading -/
structure ClsOk (P : Program) (w : World) (mg : Str → Option Value) (base : Heap) (G : Glo) (k : Nat) (x : Str) (c n : Nat) (sem : List Val → M Val) : Prop where
  ex : ∃ (f : Addr) (fd : FuncData) (ps : List Str), FnOk P w G.K mg base (L2N.CX P w) k f fd ps (spF G (n + 1) sem) ∧ mg x = some (.ref (G.ic c)) ∧ Mk G.K (G.ic c) f ∧ Binds G.K fd ps []
section
variable {X : Cx} {G : Glo} {E : XK}
theorem lE_make {C n : Nat} {f : List Val → M Val} {fa : Y.A} : ∀ σ H Q, lE G E (eB (fixN n (mkI C f)) fa) σ H Q → tMake (G.ic C) (spF G (n + 1) f) [] E (lA G E fa) σ H Q := fun σ H Q ⟨S, F, ρ, loc, st, rp, l, o⟩ => by
  refine ⟨S, F, ρ, loc, st, rp, l, out.imp (fun vs H1 h1 => ?_) (out.bd (Rl := VRs G) o)⟩
  obtain ⟨F1, ρ1, as, st1, g1, r1, v1, o1⟩ := h1
  intro x dx hx hdx hne
  unfold fixN at o1
  by_cases hl : as.length = n
  · rw [if_pos hl] at o1
    have r2 := r1.extra (o := .own x) hdx
    have hx2 : upd H1 dx (.own x) x = none := by rw [upd_ne (Ne.symm hne)]; exact hx
    obtain ⟨r3, g3⟩ := r2.push (o := .ins (G.ic C) dx []) (ob := .ins C []) hx2 ⟨dx, [], rfl, .nil⟩
    have hk : (ρ1 ++ [x])[st1.length]? = some x := by
      rw [List.getElem?_append_right (by rw [r1.len]; exact Nat.le_refl _), r1.len]
      simp
    refine ⟨S, F1, ρ1 ++ [x], st1 ++ [.ins C []], .o st1.length :: as, r3, .cons ⟨x, hk, rfl⟩ (by rw [List.append_nil]; exact v1.mono g3), by simp [hl], ?_⟩
    have o2 : out G S F1 ρ1 (VR G) Q E (match f (.o st1.length :: as) (st1 ++ [.ins C []]) with | .ok (.d .none) st' => .ok (.o st1.length) st' | .ok _ _ => .bad | .ex c st' => .ex c st' | .bad => .bad) := o1
    cases e : f (.o st1.length :: as) (st1 ++ [.ins C []]) with
    | bad => rw [e] at o2; exact o2.elim
    | ex c st' =>
      rw [e] at o2
      exact fun F' ρ' H' g r => o2 F' ρ' H' (g3.trans g) r
    | ok v st' =>
      rw [e] at o2
      cases v with
      | o _ => exact o2.elim
      | s _ => exact o2.elim
      | d y =>
        cases y with
        | none =>
          intro F' ρ' H' u g r vr
          cases vr
          exact ⟨rfl, o2 F' ρ' H' (.ref x) (g3.trans g) r ⟨x, g.get hk, rfl⟩⟩
        | _ => exact o2.elim
  · rw [if_neg hl] at o1
    exact o1.elim
theorem qe_makeD {k j c n : Nat} {sem : List Val → M Val} {x : Str} {p pos : Pos} {e : Expr} {es : List Expr} {fa : Y.A} (D : ClsOk X.prog X.w X.mg X.base G k x c n sem) (hr : Room j X.A) (hj : k + 1 ≤ j) (hg : Gl X x) (hx : ∀ σ, PassesAt (L2N.CX X.prog X.w) X σ E) (ha : PA X (e :: es) (lA G E fa)) (hK : X.K = G.K := by rfl)
    (hdb : (x == ("__debug__" : Str)) = false := by decide) (he : starEach (e :: es) X.env = (false, eval e X.env) :: starEach es X.env := by rfl) (hpl : (backTo pos (starEach es X.env)).any (·.1) = false := by rfl) :
    PE X (.Call (.Name x p) (e :: es) [] pos) (lE G E (eB (fixN n (mkI c sem)) fa)) := by
  obtain ⟨f, fd, ps, Fo, hm, M, hb⟩ := D.ex
  rw [← hK] at Fo M hb
  exact PE.imp (pe_make (dvs := []) M Fo (hr.mono hj) hg hm hb .nil (fun pins σ H s e s' I q => hx σ pins H s e s' I q) ha hdb he hpl) lE_make
end
section
variable {P : Program} {w : World} {mg : Str → Option Value} {base : Heap} {G : Glo}
theorem cls_ok {x qual : Str} {st : Stmt} {N ps : List Str} {k n c : Nat} {b : Y.S} {f : Addr} {fd : FuncData} (Fn : Fun G.K "__init__" qual st f fd) (hm : mg x = some (.ref (G.ic c))) (M : Mk G.K (G.ic c) f) (hbd : Binds G.K fd ps []) (Sc : FnScope N ps (defScope st)) (hn : n + 1 = ps.length) (hN : n + 1 ≤ N.length)
    (hb : ∀ (f : Addr) (cdv : Value) (A : Around) (outer : List Env) (s : Shared) (H : Hp) (E : XK), Room k (A.deeper (envOfC qual (defScope st) s.heap.objs.size f cdv)) → PSs (cxOf (L2N.CX P w) P w G.K mg base N qual (defScope st) f cdv A outer s H E) (defBody st) (lS G E b)) :
    ClsOk P w mg base G (k + 1) x c n (runF N.length b) := ⟨f, fd, ps, fn_ok Fn Sc hn hN fun cdv A outer s H E hr => hb f cdv A outer s H E hr, hm, M, hbd⟩
end
end Y
end
section
set_option Elab.async false
set_option linter.all false
/-! Sw: attributes and methods of instances. -/
namespace Y
open PySem (PyData Str)
def putA (f : Str) (v : Val) : List (Str × Val) → List (Str × Val)
  | [] => [(f, v)]
  | (g, x) :: r => if g = f then (g, v) :: r else (g, x) :: putA f v r
def insOf (c : Nat) : Val → M (Nat × List (Str × Val))
  | .o k => fun st => match st[k]? with
    | some (.ins d fs) => if d = c then .ok (k, fs) st else .bad
    | _ => .bad
  | _ => die
/-- o.f, o of the class c -/
def eAtt (c : Nat) (f : Str) (o : E) : E := fun loc => bd (o loc) fun x => bd (insOf c x) fun p => oget (p.2.lookup f)
/-- o.f = v -/
def gAtt (c : Nat) (f : Str) (o : E) : G := fun v loc => bd (o loc) fun x => bd (insOf c x) fun p st => if p.2.length < 900 then .ok loc (st.set p.1 (.ins c (putA f v p.2))) else .bad
/-- o.f, a list that nobody changes from now on -/
def eAtF (c : Nat) (f : Str) (o : E) : E := fun loc => bd (o loc) fun x => bd (insOf c x) fun p => bd (oget (p.2.lookup f)) fun v => match v with
  | .o j => fun st => match st[j]? with
    | some (.lst xs) => (match toDs xs with
      | some ds => if ds.length ≤ lim ∧ j ≠ p.1 then .ok (.d (.list ds)) ((st.set j .gone).set p.1 (.ins c (putA f (.d (.list ds)) p.2))) else .bad
      | none => .bad)
    | _ => .bad
  | v => ret v
/-- o.m(..) -/
def eMet (c : Nat) (m : Str) (f : List Val → M Val) (o : E) (as : A) : E := fun loc => bd (o loc) fun x => bd (insOf c x) fun p => if (p.2.lookup m).isNone = true then bd (as loc) fun vs => f (x :: vs) else die
def bAbs : List Val → M Val
  | [.d (.int i)] => ret (vI (if i < 0 then -i else i))
  | _ => die
end Y
end
section
set_option Elab.async false
set_option Elab.async false
set_option linter.all false
set_option maxRecDepth 100000
set_option maxHeartbeats 2000000
/-! Att: attributes and methods of instances. -/
namespace Y
open PySem PySem.Spec PyProof.Rows L2
/-- what of a class is needed -/
structure ClsA (K : PySem.W.Frag) (C : Addr) (fs : List Str) : Prop where
  c : Cls K C
  n : ∀ f ∈ fs, NoAttr K C f
abbrev FR2 (G : Glo) (F : Hp) (ρ : List Addr) : List (Str × V) → List (Str × Val) → Prop := Paired (fun (p : Str × V) (q : Str × Val) => p.1 = q.1 ∧ VR G F ρ p.2 q.2)
theorem fr_look {G : Glo} {F : Hp} {ρ : List Addr} {f : Str} : ∀ {fv : List (Str × V)} {fs : List (Str × Val)} {x : Val}, FR2 G F ρ fv fs → fs.lookup f = some x → ∃ v, fv.lookup f = some v ∧ VR G F ρ v x
  | [], [], x, .nil, e => by cases e
  | (a, v) :: fv, (b, y) :: fs, x, .cons h t, e => by
    obtain ⟨h1, h2⟩ := h
    have h1 : a = b := h1
    subst h1
    by_cases z : f == a
    · rw [List.lookup_cons, z] at e ⊢
      cases e
      exact ⟨v, rfl, h2⟩
    · have z : (f == a) = false := by simpa using z
      rw [List.lookup_cons, z] at e ⊢
      exact fr_look t e
theorem fr_none {G : Glo} {F : Hp} {ρ : List Addr} {f : Str} : ∀ {fv : List (Str × V)} {fs : List (Str × Val)}, FR2 G F ρ fv fs → fs.lookup f = none → fv.lookup f = none
  | [], [], .nil, _ => rfl
  | (a, v) :: fv, (b, y) :: fs, .cons h t, e => by
    obtain ⟨h1, h2⟩ := h
    have h1 : a = b := h1
    subst h1
    by_cases z : f == a
    · rw [List.lookup_cons, z] at e
      cases e
    · have z : (f == a) = false := by simpa using z
      rw [List.lookup_cons, z] at e ⊢
      exact fr_none t e
theorem fr_put {G : Glo} {F : Hp} {ρ : List Addr} {f : Str} {v : V} {x : Val} (r : VR G F ρ v x) : ∀ {fv : List (Str × V)} {fs : List (Str × Val)}, FR2 G F ρ fv fs → FR2 G F ρ (putF f v fv) (putA f x fs)
  | [], [], .nil => .cons ⟨rfl, r⟩ .nil
  | (a, u) :: fv, (b, y) :: fs, .cons h t => by
    obtain ⟨h1, h2⟩ := h
    have h1 : a = b := h1
    subst h1
    unfold putF putA
    by_cases z : a = f
    · rw [if_pos z, if_pos z]
      exact .cons ⟨rfl, r⟩ t
    · rw [if_neg z, if_neg z]
      exact .cons ⟨rfl, h2⟩ (fr_put r t)
section
variable {X : Cx} {G : Glo} {E : XK}
theorem own_ins {S F : Hp} {ρ : List Addr} {H : Hp} {st : Store} {x : V} {k c : Nat} {fs : List (Str × Val)} (rp : Rep G S F ρ H st) (h : VR G F ρ x (.o k)) (q : st[k]? = some (.ins c fs)) : ∃ a dx fv, x = .ref a ∧ ρ[k]? = some a ∧ H a = some (.ins (G.ic c) dx fv) ∧ FR2 G F ρ fv fs := by
  obtain ⟨a, ha, rfl⟩ := h
  obtain ⟨a', h', q1, q3, q4, dx, fv, q5, q6⟩ := rp.own k _ q
  rw [ha] at q1
  cases q1
  subst q5
  exact ⟨a, dx, fv, rfl, ha, q4, q6⟩
/-- the object behind a value -/
theorem ins_out {α β : Type} {Rl : Hp → List Addr → β → α → Prop} {Q : β → Hp → Prop} {S F : Hp} {ρ : List Addr} {st : Store} {c : Nat} {x : Val} {f : Nat × List (Str × Val) → M α} (o : out G S F ρ Rl Q E (bd (insOf c x) f st)) : ∃ k fs, x = .o k ∧ st[k]? = some (.ins c fs) ∧ out G S F ρ Rl Q E (f (k, fs) st) := by
  cases x with
  | d _ => exact o.elim
  | s _ => exact o.elim
  | o k =>
    unfold bd insOf at o
    cases q : st[k]? with
    | none => simp only [q] at o; exact o.elim
    | some ob =>
      simp only [q] at o
      cases ob with
      | lst _ => exact o.elim
      | gone => exact o.elim
      | tup _ => exact o.elim
      | dct _ => exact o.elim
      | dcf _ => exact o.elim
      | exc _ => exact o.elim
      | ins d fs =>
        dsimp only at o
        by_cases z : d = c
        · subst z
          rw [if_pos rfl] at o
          exact ⟨k, fs, rfl, q, o⟩
        · rw [if_neg z] at o
          exact o.elim
theorem oget_out {α β : Type} {Rl : Hp → List Addr → β → α → Prop} {Q : β → Hp → Prop} {S F : Hp} {ρ : List Addr} {st : Store} {γ : Type} {w : Option γ} {f : γ → M α} (o : out G S F ρ Rl Q E (bd (oget w) f st)) : ∃ y, w = some y ∧ out G S F ρ Rl Q E (f y st) := by
  cases w with
  | none => exact o.elim
  | some y => exact ⟨y, rfl, o⟩
theorem qe_att {c : Nat} {f : Str} {fl : List Str} {e : Expr} {fo : Y.E} {pos : Pos} (A : ClsA X.K (G.ic c) fl) (hf : f ∈ fl) (ho : PE X e (lE G E fo)) (hb : attributeBase e f X.env (eval e X.env) = eval e X.env := by rfl) : PE X (.Attribute e f pos) (lE G E (eAtt c f fo)) := by
  refine PE.imp (pe_fld ho hb) fun σ H Q ⟨S, F, ρ, loc, st, rp, l, ou⟩ => ⟨S, F, ρ, loc, st, rp, l, out.imp (fun ov H1 h1 => ?_) (out.bd (Rl := VR G) ou)⟩
  obtain ⟨F1, ρ1, a, st1, g1, r1, v1, o1⟩ := h1
  obtain ⟨k, fs, rfl, q, o2⟩ := ins_out o1
  obtain ⟨p, dx, fv, rfl, ha, hh, hv⟩ := own_ins r1 v1 q
  cases w : fs.lookup f with
  | none => dsimp only at o2; rw [w] at o2; exact o2.elim
  | some y =>
    dsimp only at o2
    rw [w] at o2
    obtain ⟨v, e1, e2⟩ := fr_look hv w
    exact ⟨p, G.ic c, dx, fv, v, rfl, hh, A.c, A.n f hf, e1, out.at (v := y) o2 r1 e2⟩
theorem Paired.len {α β : Type} {R : α → β → Prop} : ∀ {xs : List α} {ys : List β}, Paired R xs ys → xs.length = ys.length
  | _, _, .nil => rfl
  | _, _, .cons _ t => by simp [Paired.len t]
/-- o.f as a target -/
theorem pg_fld {X : Cx} {o : Expr} {ta : TE} {f : Str} {pos : Pos} (ho : PE X o ta) : PG X (.Attribute o f pos) (fun v σ H Q => ta σ H fun x H1 => ∃ a C dx fs, x = .ref a ∧ H1 a = some (.ins C dx fs) ∧ Cls X.K C ∧ NoAttr X.K C f ∧ fs.length < 1000 ∧ Q σ (upd H1 a (.ins C dx (putF f v fs)))) := by
  refine ⟨fun pins s σ H v u Q I r h => ?_⟩
  rw [PySem.assign_Attribute]
  refine wpAny_bind (wpAny_holding (thn (ho.run pins s σ H _ I h) fun ov s1 ⟨x, H1, I1, r1, a, C, dx, fs, ex, ea, c, n, l, q1⟩ => ?_))
  subst ex
  obtain rfl : ov = Value.ref a := r1
  refine wpAny_bind (wpAny_standAt (wpAny_bind (wpAny_holding (setattr_ok I1 ea c n l r fun s3 I3 => ?_))))
  exact wpAny_release ⟨σ, _, I3, q1⟩
theorem qg_att {c : Nat} {f : Str} {fl : List Str} {vs : List Nat} {o : Expr} {fo : Y.E} {pos : Pos} (A : ClsA X.K (G.ic c) fl) (hf : f ∈ fl) (ho : PE X o (lE G E fo)) : PG X (.Attribute o f pos) (lG G E vs (gAtt c f fo)) := by
  refine PG.imp (pg_fld ho) fun v σ H Q ⟨S, F, ρ, loc, st, x, rp, l, r, ou⟩ => ⟨S, F, ρ, loc, st, rp, l, out.imp (fun ov H1 h1 => ?_) (out.bd (Rl := VR G) ou)⟩
  obtain ⟨F1, ρ1, a, st1, g1, r1, v1, o1⟩ := h1
  obtain ⟨k, fs, rfl, q, o2⟩ := ins_out o1
  obtain ⟨p, dx, fv, rfl, ha, hh, hv⟩ := own_ins r1 v1 q
  dsimp only at o2
  by_cases hl : fs.length < 900
  · rw [if_pos hl] at o2
    refine ⟨p, G.ic c, dx, fv, rfl, hh, A.c, A.n f hf, by rw [Paired.len hv]; omega, ?_⟩
    have r2 : Rep G S F1 ρ1 (upd H1 p (.ins (G.ic c) dx (putF f v fv))) (st1.set k (.ins c (putA f x fs))) := r1.put' q ha hh trivial ⟨dx, _, rfl, fr_put (r.mono g1) hv⟩
    exact o2 F1 ρ1 _ _ Gr.refl r2 ⟨l.mono g1, rfl⟩
  · rw [if_neg hl] at o2
    exact o2.elim
theorem qe_met {c k j n : Nat} {m : Str} {sem : List Val → M Val} {fl : List Str} {fd : FuncData} {ps : List Str} {ff : Addr} {o e : Expr} {es : List Expr} {fo : Y.E} {fa : Y.A} {apos pos : Pos} {pl : Sem Bool} (A : ClsA X.K (G.ic c) fl) (hm : Meth X.K (G.ic c) m ff) (F : FnOk X.prog X.w X.K X.mg X.base (L2N.CX X.prog X.w) k ff fd ps (spF G (n + 1) sem)) (hr : Room j X.A) (hj : k ≤ j) (hb : Binds X.K fd ps []) (hx : ∀ σ, PassesAt (L2N.CX X.prog X.w) X σ E) (ho : PE X o (lE G E fo)) (ha : PA X (e :: es) (lA G E fa))
    (hst : starEach (e :: es) X.env = (false, eval e X.env) :: starEach es X.env := by rfl) (hpl : (backTo pos (starEach es X.env)).any (·.1) = false := by rfl)
    (ht : eval (.Call (.Attribute o m apos) (e :: es) [] pos) X.env = (do
      let ov ← eval o X.env
      standAt apos.atName
      let (f, first) ← holding [ov] (getMethod ov m pl)
      callWith pos f first (backTo pos (starEach (e :: es) X.env)) (backToKw pos (keywordEach [] X.env))) := by rfl) :
    PE X (.Call (.Attribute o m apos) (e :: es) [] pos) (lE G E (eMet c m (fixN (n + 1) sem) fo fa)) := by
  refine PE.imp (pe_meth (dvs := []) ho A.c hm F (hr.mono hj) hb .nil (fun pins σ H s e s' I q => hx σ pins H s e s' I q) ha hst hpl ht) fun σ H Q ⟨S, F', ρ, loc, st, rp, l, ou⟩ => ⟨S, F', ρ, loc, st, rp, l, out.imp (fun ov H1 h1 => ?_) (out.bd (Rl := VR G) ou)⟩
  obtain ⟨F1, ρ1, a, st1, g1, r1, v1, o1⟩ := h1
  obtain ⟨k, fs, rfl, q, o2⟩ := ins_out o1
  obtain ⟨p, dx, fv, rfl, hp, hh, hv⟩ := own_ins r1 v1 q
  dsimp only at o2
  cases w : fs.lookup m with
  | some _ => rw [w] at o2; exact o2.elim
  | none =>
    rw [w] at o2
    refine ⟨p, dx, fv, rfl, hh, fr_none hv w, S, F1, ρ1, loc, st1, r1, l.mono g1, out.imp (fun us H2 h2 => ?_) (out.bd (Rl := VRs G) o2)⟩
    obtain ⟨F2, ρ2, as, st2, g2, r2, v2, o3⟩ := h2
    unfold fixN at o3
    dsimp only at o3
    by_cases hl : (Val.o k :: as).length = n + 1
    · rw [if_pos hl] at o3
      exact ⟨S, F2, ρ2, st2, .o k :: as, r2, .cons (v1.mono g2) (by rw [List.append_nil]; exact v2), hl, o3⟩
    · rw [if_neg hl] at o3
      exact o3.elim
theorem qe_met0 {c k j : Nat} {m : Str} {sem : List Val → M Val} {fl : List Str} {fd : FuncData} {ps : List Str} {ff : Addr} {o : Expr} {fo : Y.E} {apos pos : Pos} {pl : Sem Bool} (A : ClsA X.K (G.ic c) fl) (hm : Meth X.K (G.ic c) m ff) (F : FnOk X.prog X.w X.K X.mg X.base (L2N.CX X.prog X.w) k ff fd ps (spF G 1 sem)) (hr : Room j X.A) (hj : k ≤ j) (hb : Binds X.K fd ps []) (hx : ∀ σ, PassesAt (L2N.CX X.prog X.w) X σ E) (ho : PE X o (lE G E fo))
    (ht : eval (.Call (.Attribute o m apos) [] [] pos) X.env = (do
      let ov ← eval o X.env
      standAt apos.atName
      let (f, first) ← holding [ov] (getMethod ov m pl)
      callWith pos f first (backTo pos (starEach [] X.env)) (backToKw pos (keywordEach [] X.env))) := by rfl) :
    PE X (.Call (.Attribute o m apos) [] [] pos) (lE G E (eMet c m (fixN 1 sem) fo aN)) := by
  refine PE.imp (pe_meth0 (dvs := []) ho A.c hm F (hr.mono hj) hb .nil (fun pins σ H s e s' I q => hx σ pins H s e s' I q) ht) fun σ H Q ⟨S, F', ρ, loc, st, rp, l, ou⟩ => ⟨S, F', ρ, loc, st, rp, l, out.imp (fun ov H1 h1 => ?_) (out.bd (Rl := VR G) ou)⟩
  obtain ⟨F1, ρ1, a, st1, g1, r1, v1, o1⟩ := h1
  obtain ⟨k, fs, rfl, q, o2⟩ := ins_out o1
  obtain ⟨p, dx, fv, rfl, hp, hh, hv⟩ := own_ins r1 v1 q
  dsimp only at o2
  cases w : fs.lookup m with
  | some _ => rw [w] at o2; exact o2.elim
  | none =>
    rw [w] at o2
    exact ⟨p, dx, fv, rfl, hh, fr_none hv w, S, F1, ρ1, st1, [.o k], r1, .cons v1 .nil, rfl, o2⟩
theorem fr_same {G : Glo} {F : Hp} {ρ : List Addr} {f : Str} {v : V} {x : Val} (r : VR G F ρ v x) : ∀ {fv : List (Str × V)} {fs : List (Str × Val)}, FR2 G F ρ fv fs → fv.lookup f = some v → FR2 G F ρ fv (putA f x fs)
  | [], [], .nil, e => by cases e
  | (a, u) :: fv, (b, y) :: fs, .cons h t, e => by
    obtain ⟨h1, h2⟩ := h
    have h1 : a = b := h1
    subst h1
    unfold putA
    by_cases z : a = f
    · subst z
      rw [List.lookup_cons, beq_self_eq_true] at e
      cases e
      rw [if_pos rfl]
      exact .cons ⟨rfl, r⟩ t
    · have z' : (f == a) = false := by simpa using Ne.symm z
      rw [List.lookup_cons, z'] at e
      rw [if_neg z]
      exact .cons ⟨rfl, h2⟩ (fr_same r t e)
theorem qe_atf {c : Nat} {f : Str} {fl : List Str} {e : Expr} {fo : Y.E} {pos : Pos} (A : ClsA X.K (G.ic c) fl) (hf : f ∈ fl) (ho : PE X e (lE G E fo)) (hb : attributeBase e f X.env (eval e X.env) = eval e X.env := by rfl) : PE X (.Attribute e f pos) (lE G E (eAtF c f fo)) := by
  refine PE.imp (pe_fld ho hb) fun σ H Q ⟨S, F, ρ, loc, st, rp, l, ou⟩ => ⟨S, F, ρ, loc, st, rp, l, out.imp (fun ov H1 h1 => ?_) (out.bd (Rl := VR G) ou)⟩
  obtain ⟨F1, ρ1, a, st1, g1, r1, v1, o1⟩ := h1
  obtain ⟨k, fs, rfl, q, o2⟩ := ins_out o1
  obtain ⟨p, dx, fv, rfl, ha, hh, hv⟩ := own_ins r1 v1 q
  obtain ⟨y, w, o3⟩ := oget_out o2
  dsimp only at w o3
  obtain ⟨v, e1, e2⟩ := fr_look hv w
  refine ⟨p, G.ic c, dx, fv, v, rfl, hh, A.c, A.n f hf, e1, ?_⟩
  cases y with
  | d x => exact out.at (v := Val.d x) o3 r1 e2
  | s ns => exact out.at (v := Val.s ns) o3 r1 e2
  | o j =>
    dsimp only at o3
    cases q2 : st1[j]? with
    | none => simp only [q2] at o3; exact o3.elim
    | some ob =>
      simp only [q2] at o3
      cases ob with
      | ins _ _ => exact o3.elim
      | gone => exact o3.elim
      | tup _ => exact o3.elim
      | dct _ => exact o3.elim
      | dcf _ => exact o3.elim
      | exc _ => exact o3.elim
      | lst xs =>
        dsimp only at o3
        cases q3 : toDs xs with
        | none => rw [q3] at o3; exact o3.elim
        | some ds =>
          rw [q3] at o3
          dsimp only at o3
          by_cases hl : ds.length ≤ lim ∧ j ≠ k
          · rw [if_pos hl] at o3
            obtain ⟨b, us, rfl, hb2, hh2, hu⟩ := own_lst r1 e2 q2
            obtain ⟨r2, g2⟩ := r1.freeze q2 hb2 hh2
            have hu' := toDs_rel hu q3
            have vr : VR G (upd F1 b (.lst us)) ρ1 (.ref b) (.d (.list ds)) := Dt.lst upd_same (hu'.mono g2.f)
            have hv2 : FR2 G (upd F1 b (.lst us)) ρ1 fv (putA f (.d (.list ds)) fs) := fr_same vr (Paired.mapP hv fun _ _ q => ⟨q.1, q.2.mono g2⟩) e1
            have q' : (st1.set j .gone)[k]? = some (.ins c fs) := by rw [List.getElem?_set_ne hl.2]; exact q
            have r3 := r2.put' q' ha hh trivial (ob' := .ins c (putA f (.d (.list ds)) fs)) ⟨dx, fv, rfl, hv2⟩
            have eH : upd H1 p (.ins (G.ic c) dx fv) = H1 := by
              funext z
              by_cases hz : z = p
              · subst hz; rw [upd_same, hh]
              · rw [upd_ne hz]
            rw [eH] at r3
            exact o3 _ ρ1 H1 (.ref b) g2 r3 vr
          · rw [if_neg hl] at o3
            exact o3.elim
theorem bAbs_snd : BSnd G (fun xs H Q => ∃ i, xs = [.int i] ∧ Q (.int (if i < 0 then -i else i)) H) bAbs := by
  intro S F ρ H st xs as Q E rp hx o
  unfold bAbs at o
  split at o
  · rename_i i
    cases hx with
    | cons h hr =>
      cases hr
      rw [dt_int h]
      exact ⟨i, rfl, out.at (v := vI (if i < 0 then -i else i)) o rp (.int _)⟩
  · exact o.elim
end
/-- a method that keeps its plain reading -/
structure MetOk (P : Program) (w : World) (mg : Str → Option Value) (base : Heap) (G : Glo) (k c : Nat) (m : Str) (n : Nat) (sem : List Val → M Val) : Prop where
  ex : ∃ (f : Addr) (fd : FuncData) (ps : List Str), FnOk P w G.K mg base (L2N.CX P w) k f fd ps (spF G (n + 1) sem) ∧ Meth G.K (G.ic c) m f ∧ Binds G.K fd ps []
section
variable {P : Program} {w : World} {mg : Str → Option Value} {base : Heap} {G : Glo}
theorem met_ok {m qual : Str} {st : Stmt} {N ps : List Str} {k n c : Nat} {b : Y.S} {f : Addr} {fd : FuncData} (Fn : Fun G.K m qual st f fd) (M : Meth G.K (G.ic c) m f) (hbd : Binds G.K fd ps []) (Sc : FnScope N ps (defScope st)) (hn : n + 1 = ps.length) (hN : n + 1 ≤ N.length)
    (hb : ∀ (f : Addr) (cdv : Value) (A : Around) (outer : List Env) (s : Shared) (H : Hp) (E : XK), Room k (A.deeper (envOfC qual (defScope st) s.heap.objs.size f cdv)) → PSs (cxOf (L2N.CX P w) P w G.K mg base N qual (defScope st) f cdv A outer s H E) (defBody st) (lS G E b)) :
    MetOk P w mg base G (k + 1) c m n (runF N.length b) := ⟨f, fd, ps, fn_ok Fn Sc hn hN fun cdv A outer s H E hr => hb f cdv A outer s H E hr, M, hbd⟩
end
section
variable {X : Cx} {G : Glo} {E : XK}
theorem qe_metD {c k j n : Nat} {m : Str} {sem : List Val → M Val} {fl : List Str} {o e : Expr} {es : List Expr} {fo : Y.E} {fa : Y.A} {apos pos : Pos} {pl : Sem Bool} (A : ClsA X.K (G.ic c) fl) (D : MetOk X.prog X.w X.mg X.base G k c m n sem) (hr : Room j X.A) (hj : k ≤ j) (hx : ∀ σ, PassesAt (L2N.CX X.prog X.w) X σ E) (ho : PE X o (lE G E fo)) (ha : PA X (e :: es) (lA G E fa)) (hK : X.K = G.K := by rfl)
    (hst : starEach (e :: es) X.env = (false, eval e X.env) :: starEach es X.env := by rfl) (hpl : (backTo pos (starEach es X.env)).any (·.1) = false := by rfl)
    (ht : eval (.Call (.Attribute o m apos) (e :: es) [] pos) X.env = (do
      let ov ← eval o X.env
      standAt apos.atName
      let (f, first) ← holding [ov] (getMethod ov m pl)
      callWith pos f first (backTo pos (starEach (e :: es) X.env)) (backToKw pos (keywordEach [] X.env))) := by rfl) :
    PE X (.Call (.Attribute o m apos) (e :: es) [] pos) (lE G E (eMet c m (fixN (n + 1) sem) fo fa)) := by
  obtain ⟨f, fd, ps, Fo, M, hb⟩ := D.ex
  rw [← hK] at Fo M hb
  exact qe_met A M Fo hr hj hb hx ho ha hst hpl ht
theorem qe_metD0 {c k j : Nat} {m : Str} {sem : List Val → M Val} {fl : List Str} {o : Expr} {fo : Y.E} {apos pos : Pos} {pl : Sem Bool} (A : ClsA X.K (G.ic c) fl) (D : MetOk X.prog X.w X.mg X.base G k c m 0 sem) (hr : Room j X.A) (hj : k ≤ j) (hx : ∀ σ, PassesAt (L2N.CX X.prog X.w) X σ E) (ho : PE X o (lE G E fo)) (hK : X.K = G.K := by rfl)
    (ht : eval (.Call (.Attribute o m apos) [] [] pos) X.env = (do
      let ov ← eval o X.env
      standAt apos.atName
      let (f, first) ← holding [ov] (getMethod ov m pl)
      callWith pos f first (backTo pos (starEach [] X.env)) (backToKw pos (keywordEach [] X.env))) := by rfl) :
    PE X (.Call (.Attribute o m apos) [] [] pos) (lE G E (eMet c m (fixN 1 sem) fo aN)) := by
  obtain ⟨f, fd, ps, Fo, M, hb⟩ := D.ex
  rw [← hK] at Fo M hb
  exact qe_met0 A M Fo hr hj hb hx ho ht
end
end Y
end
section
set_option Elab.async false
set_option linter.all false
/-! Su: copies of own lists; members of lists and tuples. -/
namespace Y
open PySem (PyData Str)
/-- list(x): a list that nobody changes; x may be an own list -/
def bListO : List Val → M Val
  | [.o k] => fun st => match st[k]? with
    | some (.lst xs) => (match toDs xs with
      | some ds => .ok (.d (.list ds)) st
      | none => .bad)
    | _ => .bad
  | vs => bList vs
/-- list(x): a new list that may change -/
def bListN : List Val → M Val
  | [.o k] => fun st => match st[k]? with
    | some (.lst xs) => .ok (.o st.length) (st ++ [.lst xs])
    | _ => .bad
  | _ => die
def flatD : D → Bool
  | .none => true
  | .bool _ => true
  | .int _ => true
  | .str _ => true
  | _ => false
def fEq : D → D → Bool
  | .none, .none => true
  | .bool a, .bool b => a == b
  | .bool a, .int b => (if a then 1 else 0) == b
  | .int a, .bool b => a == (if b then 1 else 0)
  | .int a, .int b => a == b
  | .str a, .str b => a == b
  | _, _ => false
def seqD : Val → Option (List D)
  | .d (.list ds) => some ds
  | .d (.tuple ds) => some ds
  | _ => none
def bInF (neg : Bool) (x y : Val) : M Val := match x, seqD y with
  | .d a, some ds => if flatD a = true ∧ ds.all flatD = true then ret (vB (if neg then !(ds.any fun b => fEq b a) else ds.any fun b => fEq b a)) else die
  | _, _ => die
def bIn : Val → Val → M Val := bInF false
def bNIn : Val → Val → M Val := bInF true
end Y
end
section
set_option Elab.async false
set_option Elab.async false
set_option linter.all false
set_option maxRecDepth 100000
set_option maxHeartbeats 2000000
/-! Hou: copies of own lists; members of lists and tuples. -/
namespace Y
open PySem PySem.Spec PyProof.Rows L2
section
variable {X : Cx} {G : Glo}
theorem bListO_snd : BSnd G (fun xs H Q => ∃ p ys, xs = [.ref p] ∧ (SqL G.K H p ys ∨ SqT G.K H p ys) ∧ ∀ l, H l = none → Q (.ref l) (upd H l (.lst ys))) bListO := by
  intro S F ρ H st xs as Q E rp hx o
  unfold bListO at o
  split at o
  · rename_i k
    cases hx with
    | cons h hr =>
      cases hr
      cases q : st[k]? with
      | none => simp only [q] at o; exact o.elim
      | some ob =>
        simp only [q] at o
        cases ob with
        | ins _ _ => exact o.elim
        | gone => exact o.elim
        | tup _ => exact o.elim
        | dct _ => exact o.elim
        | dcf _ => exact o.elim
        | exc _ => exact o.elim
        | lst ys =>
          dsimp only at o
          obtain ⟨a, vs, rfl, ha, hh, hv⟩ := own_lst rp h q
          cases q2 : toDs ys with
          | none => rw [q2] at o; exact o.elim
          | some ds =>
            rw [q2] at o
            exact ⟨a, vs, rfl, .inl (SqL.of hh), fun p hp => out_lst rp (toDs_rel hv q2) o p hp⟩
  · exact bList_snd S F ρ H st xs _ Q E rp hx o
theorem bListN_snd : BSnd G (fun xs H Q => ∃ p ys, xs = [.ref p] ∧ (SqL G.K H p ys ∨ SqT G.K H p ys) ∧ ∀ l, H l = none → Q (.ref l) (upd H l (.lst ys))) bListN := by
  intro S F ρ H st xs as Q E rp hx o
  unfold bListN at o
  split at o
  · rename_i k
    cases hx with
    | cons h hr =>
      cases hr
      cases q : st[k]? with
      | none => simp only [q] at o; exact o.elim
      | some ob =>
        simp only [q] at o
        cases ob with
        | ins _ _ => exact o.elim
        | gone => exact o.elim
        | tup _ => exact o.elim
        | dct _ => exact o.elim
        | dcf _ => exact o.elim
        | exc _ => exact o.elim
        | lst ys =>
          dsimp only at o
          obtain ⟨a, vs, rfl, ha, hh, hv⟩ := own_lst rp h q
          exact ⟨a, vs, rfl, .inl (SqL.of hh), fun p hp => out_own rp hv o p hp⟩
  · exact o.elim
theorem flat_rel {F : Hp} {v : V} {d : D} (h : Dt F v d) (hf : flatD d = true) : flatV v = true := by
  cases h with
  | non => rfl
  | bl _ => rfl
  | int _ => rfl
  | str _ => rfl
  | lst _ _ => cases hf
  | tup _ _ => cases hf
theorem flats_rel {F : Hp} : ∀ {vs : List V} {ds : List D}, DtA F vs ds → ds.all flatD = true → vs.all flatV = true
  | _, _, .nil, _ => rfl
  | _, _, .cons h k, hf => by
    rw [List.all_cons, Bool.and_eq_true] at hf ⊢
    exact ⟨flat_rel h hf.1, flats_rel k hf.2⟩
theorem eq_rel {F : Hp} {v u : V} {d e : D} (h : Dt F v d) (k : Dt F u e) (hf : flatD d = true) (hg : flatD e = true) : eqV v u = fEq d e := by
  cases h with
  | non => cases k <;> first | rfl | cases hg
  | bl a => cases k <;> first | rfl | cases hg
  | int a => cases k <;> first | rfl | cases hg
  | str a => cases k <;> first | rfl | cases hg
  | lst _ _ => cases hf
  | tup _ _ => cases hf
theorem any_rel {F : Hp} {x : V} {d : D} (hx : Dt F x d) (hd : flatD d = true) : ∀ {vs : List V} {ds : List D}, DtA F vs ds → ds.all flatD = true → inV x vs = ds.any fun b => fEq b d
  | _, _, .nil, _ => rfl
  | _, _, .cons h k, hf => by
    rw [List.all_cons, Bool.and_eq_true] at hf
    have := any_rel hx hd k hf.2
    unfold inV at this ⊢
    rw [List.any_cons, List.any_cons, eq_rel h hx hf.1 hd, this]
theorem bInF_snd (neg : Bool) : OSnd G (rIn G.K neg) (bInF neg) := by
  intro S F ρ H st x y a b Q E rp hx hy o
  cases a with
  | o _ => exact o.elim
  | s _ => exact o.elim
  | d d =>
    unfold bInF at o
    cases hs : seqD b with
    | none => rw [hs] at o; exact o.elim
    | some ds =>
      rw [hs] at o
      dsimp only at o
      by_cases hc : flatD d = true ∧ ds.all flatD = true
      · rw [if_pos hc] at o
        have key : ∀ p us, y = .ref p → (SqL G.K H p us ∨ SqT G.K H p us) → DtA F us ds → rIn G.K neg x y H Q := fun p us e hq hu => by
          refine ⟨p, us, e, hq, flat_rel hx hc.1, flats_rel hu hc.2, ?_⟩
          have e2 := any_rel hx hc.1 hu hc.2
          rw [e2]
          exact out.at (v := Val.d (.bool _)) (u := V.bl _) o rp (.bl _)
        cases b with
        | d z =>
          cases z with
          | list es =>
            have e : es = ds := Option.some.inj hs
            subst e
            obtain ⟨a, us, e, ha, hu⟩ := dt_list hy
            exact key a us e (.inl (SqL.of (rp.ex _ _ ha))) hu
          | tuple es =>
            have e : es = ds := Option.some.inj hs
            subst e
            obtain ⟨a, us, e, ha, hu⟩ := dt_tup hy
            exact key a us e (.inr (SqT.of (rp.ex _ _ ha))) hu
          | _ => cases hs
        | o _ => cases hs
        | s _ => cases hs
      · rw [if_neg hc] at o
        exact o.elim
theorem bIn_snd : OSnd G (rIn G.K false) bIn := bInF_snd false
theorem bNIn_snd : OSnd G (rIn G.K true) bNIn := bInF_snd true
end
end Y
end
section
set_option Elab.async false
set_option linter.all false
/-! St: tuples that hold things that may change; l.pop(). -/
namespace Y
open PySem (PyData Str)
/-- a tuple whose items may be objects of the store -/
def bTupN (vs : List Val) : M Val := fun st => if vs.length ≤ lim then .ok (.o st.length) (st ++ [.tup vs]) else .bad
/-- a, b, .. = such a tuple, or one of data -/
def gTO (n : Nat) (gs : Gs) : G := fun v loc => match v with
  | .o k => fun st => match st[k]? with
    | some (.tup xs) => if xs.length = n then gs xs loc st else .bad
    | _ => .bad
  | v => gT n gs v loc
/-- o.pop() -/
def popS (k : Nat) : M Val := fun st => match st[k]? with
  | some (.lst xs) => (match xs[xs.length - 1]? with
    | some v => .ok v (st.set k (.lst xs.dropLast))
    | none => .bad)
  | _ => .bad
def ePop (o : E) : E := fun loc => bd (o loc) fun x => bd (chkL x) popS
/-- an own list + a list: a new own list -/
def bAddN : Val → Val → M Val
  | .o k, .d (.list ys) => fun st => match st[k]? with
    | some (.lst xs) => if xs.length + ys.length ≤ lim then .ok (.o st.length) (st ++ [.lst (xs ++ ys.map .d)]) else .bad
    | _ => .bad
  | _, _ => die
end Y
namespace Y
open PySem (PyData Str)
/-- an own list == [] -/
def bEqE : Val → Val → M Val
  | .o k, .d (.list []) => fun st => match st[k]? with
    | some (.lst xs) => .ok (vB xs.isEmpty) st
    | _ => .bad
  | _, _ => die
end Y
end
section
set_option Elab.async false
set_option Elab.async false
set_option linter.all false
set_option maxRecDepth 100000
set_option maxHeartbeats 2000000
/-! Tpo: tuples that hold things that may change; l.pop(). -/
namespace Y
open PySem PySem.Spec PyProof.Rows L2
section
variable {X : Cx} {G : Glo} {E : XK} {vs : List Nat}
theorem qe_tupN {es : List Expr} {fa : Y.A} {x1 : Nat} {pos : Pos} (h : PA X es (lA G E fa)) : PE X (.Tuple es x1 pos) (lE G E (eB bTupN fa)) := by
  refine PE.imp (pe_tup h) fun σ H Q ⟨S, F, ρ, loc, st, rp, l, o⟩ => ⟨S, F, ρ, loc, st, rp, l, out.imp (fun x H1 h1 => ?_) (out.bd (Rl := VRs G) o)⟩
  obtain ⟨F1, ρ1, a, st1, g1, r1, v1, o1⟩ := h1
  unfold bTupN at o1
  split at o1
  · rename_i hl
    refine ⟨sz (by rw [v1.length]; exact hl), fun p hp => ?_⟩
    obtain ⟨r', g⟩ := r1.push (ob := .tup a) hp ⟨x, rfl, v1⟩
    refine o1 _ _ _ _ g r' ⟨p, ?_, rfl⟩
    rw [List.getElem?_append_right (by rw [r1.len]; exact Nat.le_refl _), r1.len]
    simp
  · exact o1.elim
theorem qg_tupO {es : List Expr} {k n : Nat} {gs : Y.Gs} {pos : Pos} (hc : X.calm = true) (h : PGs X es (lGs G E vs gs)) (hl : (assignEach es X.env).length = n := by rfl) (hf : List.findIdx? (fun x => x.fst) (assignEach es X.env) = none := by rfl) : PG X (.Tuple es k pos) (lG G E vs (gTO n gs)) := by
  have hd := qg_tup (k := k) (pos := pos) hc h hl hf
  refine PG.imp (pg_tup hc h hl hf) fun v σ H Q ⟨S, F, ρ, loc, st, y, rp, l, r, o⟩ => ?_
  cases y with
  | s _ => exact o.elim
  | o j =>
    have o : out G S F ρ (TR G vs σ) Q E ((match st[j]? with | some (.tup xs) => if xs.length = n then gs xs loc st else .bad | _ => .bad)) := o
    cases q : st[j]? with
    | none => rw [q] at o; exact o.elim
    | some ob =>
      rw [q] at o
      cases ob with
      | ins _ _ => exact o.elim
      | gone => exact o.elim
      | lst _ => exact o.elim
      | dct _ => exact o.elim
      | dcf _ => exact o.elim
      | exc _ => exact o.elim
      | tup xs =>
        dsimp only at o
        by_cases e : xs.length = n
        · rw [if_pos e] at o
          obtain ⟨a, ha, rfl⟩ := r
          obtain ⟨a', h', e1, e2, e3, us, e4, hu⟩ := rp.own j _ q
          rw [ha] at e1
          cases e1
          subst e4
          exact ⟨a, us, rfl, SqT.of e3, by rw [hu.length]; exact e, S, F, ρ, loc, st, xs, rp, l, hu, o⟩
        · rw [if_neg e] at o
          exact o.elim
  | d x =>
    cases x with
    | tuple ds =>
      cases (show Dt F v (.tuple ds) from r) with
      | @tup a xs ds ha hd =>
        have o' : out G S F ρ (TR G vs σ) Q E ((if ds.length = n then gs (ds.map .d) loc else die) st) := o
        by_cases e : ds.length = n
        · rw [if_pos e] at o'
          exact ⟨a, xs, rfl, SqT.of (rp.ex _ _ ha), by rw [hd.length]; exact e, S, F, ρ, loc, st, ds.map .d, rp, l, dt_vrs hd, o'⟩
        · rw [if_neg e] at o'
          exact o'.elim
    | none => exact o.elim
    | bool _ => exact o.elim
    | int _ => exact o.elim
    | str _ => exact o.elim
    | list _ => exact o.elim
    | dict _ => exact o.elim
theorem dropLast_rel {F : Hp} {ρ : List Addr} : ∀ {us : List V} {xs : List Val}, VRs G F ρ us xs → VRs G F ρ us.dropLast xs.dropLast
  | _, _, .nil => .nil
  | _, _, .cons h .nil => .nil
  | _, _, .cons h (.cons h2 k) => .cons h (dropLast_rel (.cons h2 k))
theorem get_rel {F : Hp} {ρ : List Addr} : ∀ {us : List V} {xs : List Val} {i : Nat} {x : Val}, VRs G F ρ us xs → xs[i]? = some x → ∃ u, us[i]? = some u ∧ VR G F ρ u x
  | _, _, _, _, .nil, e => by simp at e
  | _, _, 0, _, .cons h _, e => by simp at e; subst e; exact ⟨_, rfl, h⟩
  | _, _, i + 1, x, .cons _ k, e => by
    obtain ⟨u, h1, h2⟩ := get_rel (i := i) (x := x) k (by simpa using e)
    exact ⟨u, by simpa using h1, h2⟩
theorem qe_pop {o : Expr} {fo : Y.E} {apos cpos : Pos} (ho : PE X o (lE G E fo)) (hbase : attributeBase o "pop" X.env (eval o X.env) = eval o X.env := by rfl) (hline : (apos.endLine == cpos.line) = true := by rfl) : PE X (.Call (.Attribute o "pop" apos) [] [] cpos) (lE G E (ePop fo)) := by
  refine PE.imp (pe_bm0 PySem.F.plainAttrs_list PySem.F.slot_list_pop PySem.F.type_list_pop mt_pop ho hbase hline) fun σ H Q ⟨S, F, ρ, loc, st, rp, l, ou⟩ => ⟨S, F, ρ, loc, st, rp, l, out.imp (fun ov H1 h1 => ?_) (out.bd (Rl := VR G) ou)⟩
  obtain ⟨F1, ρ1, a, st1, g1, r1, v1, o1⟩ := h1
  cases a with
  | d _ => exact o1.elim
  | s _ => exact o1.elim
  | o k =>
    have o1 : out G S F1 ρ1 (VR G) Q E (bd (chkL (.o k)) popS st1) := o1
    unfold chkL at o1
    unfold bd at o1
    cases q : st1[k]? with
    | none => simp only [q] at o1; exact o1.elim
    | some ob =>
      simp only [q] at o1
      cases ob with
      | ins _ _ => exact o1.elim
      | gone => exact o1.elim
      | tup _ => exact o1.elim
      | dct _ => exact o1.elim
      | dcf _ => exact o1.elim
      | exc _ => exact o1.elim
      | lst ys =>
        dsimp only at o1
        obtain ⟨a, us, rfl, hk, hh, hv⟩ := own_lst r1 v1 q
        refine ⟨.inl ⟨rfl, us, SqL.of hh⟩, ?_⟩
        unfold popS at o1
        rw [q] at o1
        dsimp only at o1
        cases q2 : ys[ys.length - 1]? with
        | none => rw [q2] at o1; exact o1.elim
        | some y =>
          rw [q2] at o1
          dsimp only at o1
          obtain ⟨u, hu, ru⟩ := get_rel hv q2
          refine ⟨a, us, u, rfl, rfl, hh, by rw [hv.length]; exact hu, ?_⟩
          exact out.go (v := y) o1 Gr.refl (r1.put' q hk hh trivial ⟨us.dropLast, rfl, dropLast_rel hv⟩) ru
theorem vrs_app {F : Hp} {ρ : List Addr} : ∀ {us ws : List V} {xs ys : List Val}, VRs G F ρ us xs → VRs G F ρ ws ys → VRs G F ρ (us ++ ws) (xs ++ ys)
  | _, _, _, _, .nil, k => k
  | _, _, _, _, .cons h r, k => .cons h (vrs_app r k)
theorem bAddN_snd : OSnd G (rAddA G.K) bAddN := by
  intro S F ρ H st x y a b Q E rp hx hy o
  unfold bAddN at o
  split at o
  · rename_i k ys
    obtain ⟨p, hp, rfl⟩ := hx
    obtain ⟨b, ws, rfl, hb, hw⟩ := dt_list hy
    cases q : st[k]? with
    | none => rw [q] at o; exact o.elim
    | some ob =>
      rw [q] at o
      cases ob with
      | ins _ _ => exact o.elim
      | gone => exact o.elim
      | tup _ => exact o.elim
      | dct _ => exact o.elim
      | dcf _ => exact o.elim
      | exc _ => exact o.elim
      | lst xs =>
        dsimp only at o
        obtain ⟨p', h', e1, e2, e3, us, e4, hu⟩ := rp.own k _ q
        rw [hp] at e1
        cases e1
        subst e4
        by_cases hl : xs.length + ys.length ≤ lim
        · rw [if_pos hl] at o
          exact .inr (.inl ⟨p, b, us, ws, rfl, rfl, e3, rp.ex _ _ hb, sz (by rw [hu.length, hw.length]; exact hl), fun r hr => out_own rp (vrs_app hu (vrs_of_dt hw)) o r hr⟩)
        · rw [if_neg hl] at o
          exact o.elim
  · exact o.elim
/-- x == [], x a list -/
def rEqE (K : PySem.W.Frag) : R2 := fun x y H Q => ∃ a b us, x = V.ref a ∧ y = V.ref b ∧ SqL K H a us ∧ SqL K H b [] ∧ Q (.bl us.isEmpty) H
theorem op_eqE (hu : X.A.units + 64 < cLine) : OpR X (compareOp .Eq) (rEqE X.K) := by
  intro pins s σ H x y v u Q I rx ry h
  obtain ⟨a, b, us, rfl, rfl, h1, h2, q⟩ := h
  cases rx
  cases ry
  obtain ⟨its, r, pl, hz⟩ := I.list h1
  obtain ⟨its2, r2, pl2, hz2⟩ := I.list h2
  have e2 : its2 = [] := by
    have := r2.length
    cases its2 with
    | nil => rfl
    | cons _ _ => simp at this
  subst e2
  cases us with
  | nil =>
    have e1 : its = [] := by
      have := r.length
      cases its with
      | nil => rfl
      | cons _ _ => simp at this
    subst e1
    exact SeqAt.eq_listAt (e := fun _ => true) pl.isList pl2.isList rfl (by omega) (fun j h1 _ => absurd h1 (by simp)) ⟨.bl true, H, I, rfl, q⟩
  | cons u0 us =>
    have hl := r.length
    exact SeqAt.eq_list_lengthsAt pl.isList pl2.isList (by simp [← hl]) (by omega) ⟨.bl false, H, I, rfl, q⟩
theorem bEqE_snd : OSnd G (rEqE G.K) bEqE := by
  intro S F ρ H st x y a b Q E rp hx hy o
  unfold bEqE at o
  split at o
  · rename_i k
    obtain ⟨b, ws, rfl, hb, hw⟩ := dt_list hy
    cases hw
    cases q : st[k]? with
    | none => rw [q] at o; exact o.elim
    | some ob =>
      rw [q] at o
      cases ob with
      | ins _ _ => exact o.elim
      | gone => exact o.elim
      | tup _ => exact o.elim
      | dct _ => exact o.elim
      | dcf _ => exact o.elim
      | exc _ => exact o.elim
      | lst xs =>
        dsimp only at o
        obtain ⟨a, us, rfl, hk, hh, hv⟩ := own_lst rp hx q
        refine ⟨a, b, us, rfl, rfl, SqL.of hh, SqL.of (rp.ex _ _ hb), ?_⟩
        have e : us.isEmpty = xs.isEmpty := by
          cases hv <;> rfl
        rw [e]
        exact out.at (v := Val.d (.bool _)) (u := V.bl _) o rp (.bl _)
  · exact o.elim
end
end Y
end
section
set_option Elab.async false
set_option linter.all false
namespace Y
open PySem (PyData Str)
def maxI : List Int → Option Int
  | [] => none
  | x :: r => some (r.foldl max x)
def bMaxS : List Val → M Val
  | [v] => bd (seqI v) fun ns => bd (oget (maxI ns)) fun m => ret (vI m)
  | _ => die
theorem maxI_spec : ∀ (r : List Int) (x : Int), r.foldl max x ∈ x :: r ∧ ∀ y ∈ x :: r, y ≤ r.foldl max x
  | [], x => by simp
  | y :: r, x => by
    obtain ⟨h1, h2⟩ := maxI_spec r (max x y)
    refine ⟨?_, fun z hz => ?_⟩
    · show r.foldl max (max x y) ∈ _
      rcases List.mem_cons.mp h1 with e | e
      · rw [e]
        rcases Int.le_total x y with h | h
        · rw [Int.max_eq_right h]; simp
        · rw [Int.max_eq_left h]; simp
      · simp [e]
    · show z ≤ r.foldl max (max x y)
      have h0 := h2 (max x y) (by simp)
      rcases List.mem_cons.mp hz with rfl | hz
      · exact Int.le_trans (Int.le_max_left _ _) h0
      · rcases List.mem_cons.mp hz with rfl | hz
        · exact Int.le_trans (Int.le_max_right _ _) h0
        · exact h2 z (List.mem_cons_of_mem _ hz)
/-- l.count(x), by == of data -/
def bCntD (ds : List D) : Val → M Val
  | .d y => if PyData.plainAll ds = true ∧ y.plain = true ∧ PyData.depthAll ds ≤ 60 then ret (vI ((ds.countP fun z => PyData.eqv z y : Nat) : Int)) else die
  | _ => die
def eCntD (o e : E) : E := fun loc => bd (o loc) fun x => bd (chkD x) fun ds => bd (e loc) fun y => bCntD ds y
end Y
end
section
set_option Elab.async false
set_option Elab.async false
set_option linter.all false
set_option maxRecDepth 100000
set_option maxHeartbeats 2000000
/-! Tmx: the greatest of a list or a tuple of whole numbers. -/
namespace Y
open PySem PySem.Spec PyProof.Rows L2
section
variable {X : Cx} {G : Glo}
def rMaxS (K : PySem.W.Frag) : List V → Hp → VK → Prop := fun vs H Q => ∃ (a : Addr) (ns : List Int), vs = [V.ref a] ∧ (SqL K H a (ns.map V.int) ∨ SqT K H a (ns.map V.int)) ∧ 0 < ns.length ∧ ∀ m, m ∈ ns → (∀ y, y ∈ ns → y ≤ m) → Q (.int m) H
theorem max_tup {prog : Program} {w : World} {A : Around} {E : Value → Shared → Prop} {s : Shared} {t : Addr} {xs : Array (Int × Tok)} {Q : Value → Shared → Prop} (hh : A.handled = none) (ht : s.heap.IsTuple t (intItems xs)) (hne : 0 < xs.size)
    (h : ∀ v h' tk, (intItems xs)[argBest (fun i j => decide (numAt xs i > numAt xs j)) (xs.size - 1)]? = some v → (∀ b o, s.heap.get? b = some o → h'.get? b = some o) → Q v { s with heap := h', toks := tk }) :
    wpAny (model prog w) A (call (.builtin "max") [.ref t]) Q E s := by
  obtain ⟨o, ho, hc, n, hd⟩ := id ht
  have hnt : t ≠ s.heap.objs.size := Nat.ne_of_lt (Heap.lt_size ho)
  refine call_max_walk (wpAny_pyIter_tuple ht ?_)
  refine ⟨s.heap.objs.size, _, _, _, _, _, _, rfl, Walks.tuple (A := A.in1) hh _ t hnt (intItems xs), ⟨⟨_, Heap.get?_push_size _ rfl, rfl, rfl⟩, ht.at fun o e => Heap.get?_push_of_some _ e⟩, fun b hb => ?_, by simpa [intItems] using hne, CmpOf.ints_gt (numAt xs) (fun _ _ => intItems_at), fun v h' tk hP hk => ?_⟩
  · rcases List.mem_cons.mp hb with z | hb
    · rw [z]; exact Heap.lt_size (Heap.get?_push_size _ rfl)
    · have z : b = t := by simpa using hb
      rw [z]; exact Heap.lt_size (Heap.get?_push_of_some _ ho)
  · refine h v h' tk (by simpa [intItems] using hP) fun b o e => hk b o (fun hm => ?_) (Heap.get?_push_of_some _ e)
    have z : b = s.heap.objs.size := by simpa using hm
    exact absurd (z ▸ Heap.lt_size e) (Nat.lt_irrefl _)
theorem cr_maxS (hc : X.calm = true) : CallR X (.builtin "max") (rMaxS X.K) := by
  intro pins s σ H vs us Q I r h
  obtain ⟨a, ns, rfl, hs | hs, hne, q⟩ := h
  · exact cr_max hc pins s σ H _ us Q I r ⟨a, ns, rfl, hs, hne, q⟩
  · obtain ⟨its, rv, hl, _⟩ := I.tuple hs
    rw [Vals.ref1 r]
    obtain ⟨xs, e⟩ := rv.ints.allInts.items
    have hn : numsOf (intItems xs).toList = ns := e ▸ rv.ints.numsOf
    rw [nums_intItems] at hn
    rw [e] at hl
    subst hn
    have hsz : 0 < xs.size := by simpa using hne
    refine max_tup (I.ok.hd hc) (isTup_of hl) hsz fun v h' tk hv hk => ?_
    obtain ⟨t, rfl⟩ := intItems_at hv
    obtain ⟨h1, h2⟩ := argBest_gt (numAt xs) (xs.size - 1)
    refine ⟨V.int _, H, I.kept hk, ⟨t, rfl⟩, q _ ?_ fun y hy => ?_⟩
    · rw [numAt_eq]; exact PySem.getD_mem (by rw [List.length_map, Array.length_toList]; omega)
    · obtain ⟨j, hj, rfl⟩ := mem_getD hy
      rw [List.length_map, Array.length_toList] at hj
      rw [← numAt_eq]; exact h2 j (by omega)
theorem bMaxS_snd : BSnd G (rMaxS G.K) bMaxS := by
  intro S F ρ H st xs as Q E rp hx o
  unfold bMaxS at o
  split at o
  · rename_i v
    cases hx with
    | cons h hr =>
      cases hr
      cases e : seqI v st with
      | bad => unfold bd at o; rw [e] at o; exact o.elim
      | ex c s => exact absurd e (by unfold seqI; intro z; split at z <;> first | (cases q : toIs _ <;> (rw [q] at z; cases z)) | cases z)
      | ok ns s' =>
        unfold bd at o
        rw [e] at o
        obtain ⟨rfl, p, rfl, hs⟩ := seqI_rel rp h e
        cases ns with
        | nil => exact o.elim
        | cons y r =>
          obtain ⟨m1, m2⟩ := maxI_spec r y
          refine ⟨p, y :: r, rfl, hs, by simp, fun m hm hl => ?_⟩
          have em : m = r.foldl max y := Int.le_antisymm (m2 m hm) (hl _ m1)
          rw [em]
          exact out.at (v := vI (r.foldl max y)) o rp (.int _)
  · exact o.elim
/-! ### l.count(x) by == of data -/
def rCntD (K : PySem.W.Frag) : V → List V → Hp → VK → Prop := fun x xs H Q => ∃ (a : Addr) (vs : List V) (y : V) (ds : List PyData) (d : PyData), x = V.ref a ∧ xs = [y] ∧ SqL K H a vs ∧ DpAll K H vs ds ∧ Dp K H y d ∧ PyData.plainAll ds = true ∧ d.plain = true ∧ PyData.depthAll ds ≤ 60 ∧ Q (.int ((ds.countP fun z => PyData.eqv z d : Nat) : Int)) H
theorem mt_cntD (hu : X.A.units + 64 < cLine) : MtR X "list.count" (rCntD X.K) := by
  intro pins s σ H x xs v us Q I rx rxs h
  obtain ⟨a, vs, y, ds, d, rfl, rfl, hs, hds, hd, p1, p2, p3, q⟩ := h
  cases rx
  cases rxs with
  | cons r t =>
    cases t
    obtain ⟨its, rv, p, hlen⟩ := I.list hs
    obtain ⟨as, ra⟩ := Dp.readsAll I ds vs its hds rv
    obtain ⟨bs, rb⟩ := Dp.reads I d y _ hd r
    exact SeqAt.count_list_data p.isList ra rb p1 p2 (by have := Nat.min_le_left (PyData.depthAll ds) d.depth; omega) ⟨.int _, H, I.tok _, ⟨_, rfl⟩, q⟩
theorem qe_cntD (hu : X.A.units + 64 < cLine) {E : XK} {o e : Expr} {fo fe : Y.E} {apos cpos : Pos} (ho : PE X o (lE G E fo)) (he : PE X e (lE G E fe)) (hs0 : starEach [e] X.env = (false, eval e X.env) :: starEach [] X.env := by rfl) (hbase : attributeBase o "count" X.env (eval o X.env) = eval o X.env := by rfl)
    (hfew : ((backTo cpos (starEach [e] X.env)).all (fun x => !x.1) && (backToKw cpos (keywordEach [] X.env)).all (fun x => x.1.isSome) && decide (([e] : List Expr).length + ([] : List Keyword).length + (if ([] : List Keyword).isEmpty then 0 else 1) < 30)) = true := by rfl)
    (hline : (apos.endLine == cpos.line) = true := by rfl) (hK : X.K = G.K := by rfl) : PE X (.Call (.Attribute o "count" apos) [e] [] cpos) (lE G E (eCntD fo fe)) := by
  refine PE.imp (pe_bm PySem.F.plainAttrs_list PySem.F.slot_list_count PySem.F.type_list_count (mt_cntD hu) ho (pa_cons he pa_nil hs0) hbase hfew hline hs0 rfl) fun σ H Q ⟨S, F, ρ, loc, st, rp, l, ou⟩ => ⟨S, F, ρ, loc, st, rp, l, out.imp (fun ov H1 h1 => ?_) (out.bd (Rl := VR G) ou)⟩
  obtain ⟨F1, ρ1, a, st1, g1, r1, v1, o1⟩ := h1
  cases a with
  | o _ => exact o1.elim
  | s _ => exact o1.elim
  | d x => ?_
  cases x with
  | list ds =>
    obtain ⟨p, us, rfl, ha, hu'⟩ := dt_list v1
    have o1 : out G S F1 ρ1 (VR G) Q E (bd (fe loc) (fun y => bCntD ds y) st1) := o1
    refine ⟨.inl ⟨rfl, us, by rw [hK]; exact SqL.of (r1.ex _ _ ha)⟩, S, F1, ρ1, loc, st1, r1, l.mono g1, out.imp (fun w H2 h2 => ?_) (out.bd (Rl := VR G) o1)⟩
    obtain ⟨F2, ρ2, b, st2, g2, r2, v2, o2⟩ := h2
    cases b with
    | o _ => exact o2.elim
    | s _ => exact o2.elim
    | d y => ?_
    have o2 : out G S F2 ρ2 (VR G) Q E ((if PyData.plainAll ds = true ∧ y.plain = true ∧ PyData.depthAll ds ≤ 60 then ret (vI ((ds.countP fun z => PyData.eqv z y : Nat) : Int)) else die) st2) := o2
    by_cases hc : PyData.plainAll ds = true ∧ y.plain = true ∧ PyData.depthAll ds ≤ 60
    · rw [if_pos hc] at o2
      refine ⟨p, us, w, ds, y, rfl, rfl, ?_, ?_, ?_, hc.1, hc.2.1, hc.2.2, out.at (v := vI ((ds.countP fun z => PyData.eqv z y : Nat) : Int)) o2 r2 (.int _)⟩
      · rw [hK]; exact SqL.of (r2.ex _ _ (g2.f _ _ ha))
      · rw [hK]; exact DpAll.mono r2.ex (DtA.dp (DtA.mono g2.f hu'))
      · rw [hK]; exact Dp.mono r2.ex (Dt.dp v2)
    · rw [if_neg hc] at o2; exact o2.elim
  | _ => exact o1.elim
end
end Y
end
section
set_option Elab.async false
set_option linter.all false
namespace Y
open PySem (PyData Str)
/-- the items of a list, data or own -/
def seqAll : Val → M (List D)
  | .d (.list ds) => ret ds
  | .o k => fun st => match st[k]? with
    | some (.lst xs) => (match toDs xs with
      | some ds => .ok ds st
      | none => .bad)
    | _ => .bad
  | _ => die
noncomputable def sortD (ds : List D) : List D := ds.mergeSort (PySem.W.dataLe false fun d : D => d)
def sortOk (ds : List D) : Prop := PySem.W.AllAlike ds ∧ PySem.W.Sortable ds ∧ PyData.depthAll ds ≤ 60 ∧ ds.length ≤ lim
open Classical in
/-- sorted(l) -/
noncomputable def bSortD : List Val → M Val
  | [v] => bd (seqAll v) fun ds => if sortOk ds then ret (.d (.list (sortD ds))) else die
  | _ => die
open Classical in
/-- a comprehension over a list of the store that its parts leave as it is -/
noncomputable def compO (k : Nat) (xs0 : List Val) (body : Val → M (Option Val)) : List Val → M (List Val)
  | [] => fun st => if st[k]? = some (.lst xs0) then .ok [] st else .bad
  | x :: xs => fun st => if st[k]? = some (.lst xs0) then bd (body x) (fun o => bd (compO k xs0 body xs) fun ys => ret (consO o ys)) st else .bad
noncomputable def eLcO (e : E) (g : G) (t : Tst) (el : E) (vs : List Nat) : E := fun loc => bd (e loc) fun v => bd (getL v) fun p => if p.2.length ≤ lim then bd (noex (compO p.1 p.2 (cBody g t el (wip loc vs)) p.2)) bLst else die
end Y
end
section
set_option Elab.async false
set_option Elab.async false
set_option linter.all false
set_option maxRecDepth 100000
set_option maxHeartbeats 2000000
/-! Tsq: sorted of a list of like data. -/
namespace Y
open PySem PySem.Spec PyProof.Rows L2
section
variable {X : Cx} {G : Glo}
def rSortedD (K : PySem.W.Frag) : List V → Hp → VK → Prop := fun vs H Q => ∃ (a : Addr) (us : List V) (ds : List PyData), vs = [V.ref a] ∧ SqL K H a us ∧ DpAll K H us ds ∧ PySem.W.AllAlike ds ∧ PySem.W.Sortable ds ∧ PyData.depthAll ds ≤ 60 ∧
  ∀ p, H p = none → Q (.ref p) (upd H p (.lst (((us.zip ds).mergeSort (PySem.W.dataLe false Prod.snd)).map Prod.fst)))
theorem dpA_len {K : PySem.W.Frag} {H : Hp} : ∀ {us : List V} {ds : List PyData}, DpAll K H us ds → us.length = ds.length
  | _, _, .nil => rfl
  | _, _, .cons _ k => by rw [List.length_cons, List.length_cons, dpA_len k]
theorem each_vals : ∀ {us : List V} {ds : List PyData} {its : List Value}, us.length = ds.length → Vals us its → PySem.W.EachIs (fun (v : Value) (b : V × PyData) => RelV b.1 v) its (us.zip ds)
  | [], [], _, _, .nil => .nil
  | u :: us, d :: ds, _, hl, .cons r t => .cons r (each_vals (by simpa using hl) t)
theorem vals_each : ∀ {bs : List (V × PyData)} {out : List Value}, PySem.W.EachIs (fun (v : Value) (b : V × PyData) => RelV b.1 v) out bs → Vals (bs.map Prod.fst) out
  | _, _, .nil => .nil
  | _, _, .cons r t => .cons r (vals_each t)
theorem dep_le : ∀ {ds : List PyData} {d : PyData}, d ∈ ds → d.depth ≤ PyData.depthAll ds
  | e :: ds, d, h => by
    simp only [PyData.depthAll]
    rcases List.mem_cons.mp h with rfl | h
    · omega
    · have := dep_le h; omega
theorem cr_sortedD (hu : X.A.units + 64 < cLine) : CallR X (.builtin "sorted") (rSortedD X.K) := by
  intro pins s σ H vs us' Q I r h
  obtain ⟨a, us, ds, rfl, hs, hd, hal, hk, hdep, q⟩ := h
  obtain ⟨its, rv, hl, hz⟩ := I.list hs
  rw [Vals.ref1 r]
  have len := dpA_len hd
  obtain ⟨as, ra⟩ := Dp.readsAll I ds us its hd rv
  have ez : (us.zip ds).map Prod.snd = ds := List.map_snd_zip (by omega)
  have e := each_vals len rv
  have er := PySem.W.readsAll_each (h := s.heap) (Prod.snd : V × PyData → PyData) (vs := its) (bs := us.zip ds) (as := as) (by rw [ez]; exact ra)
  refine PySem.W.sorted_data (enc := (Prod.snd : V × PyData → PyData)) hl.isList e er (by rw [ez]; exact hal) (by rw [ez]; exact hk) ?_ (fun b hb => ?_) fun out ho he => ?_
  · rw [List.length_zip]; omega
  · have hm : b.2 ∈ ds := (List.of_mem_zip hb).2
    have := dep_le hm
    omega
  · obtain ⟨ep, he'⟩ := PyProof.Rows.sortedAll_at s.heap its out.toArray
    have hlen : (((us.zip ds).mergeSort (PySem.W.dataLe false Prod.snd)).map Prod.fst).length ≤ sizeLine := by
      rw [List.length_map, List.length_mergeSort, List.length_zip]; omega
    exact ⟨.ref _, upd H (s.heap.objs.size + 1) (.lst (((us.zip ds).mergeSort (PySem.W.dataLe false Prod.snd)).map Prod.fst)), I.laid (t' := s.toks) (fun _ _ => PyProof.Rows.sortedAll_old) (Nat.le_succ _) ⟨hlen, out, ep, vals_each he, he'⟩, rfl, q _ (I.hok.fresh (Nat.le_succ _))⟩
theorem dtA_zip {F : Hp} : ∀ {us : List V} {ds : List D}, DtA F us ds → ∀ p ∈ us.zip ds, Dt F p.1 p.2
  | _, _, .nil, p, hp => nomatch hp
  | _, _, .cons h k, p, hp => by
    rw [List.zip_cons_cons] at hp
    rcases List.mem_cons.mp hp with rfl | hp
    · exact h
    · exact dtA_zip k p hp
theorem dtA_of {F : Hp} : ∀ {bs : List (V × D)}, (∀ p ∈ bs, Dt F p.1 p.2) → DtA F (bs.map Prod.fst) (bs.map Prod.snd)
  | [], _ => .nil
  | b :: bs, h => .cons (h b List.mem_cons_self) (dtA_of fun p hp => h p (List.mem_cons_of_mem _ hp))
theorem dtA_sort {F : Hp} {us : List V} {ds : List D} (h : DtA F us ds) : DtA F (((us.zip ds).mergeSort (PySem.W.dataLe false Prod.snd)).map Prod.fst) (sortD ds) := by
  have z := dtA_of (F := F) (bs := (us.zip ds).mergeSort (PySem.W.dataLe false Prod.snd)) fun p hp => dtA_zip h p (List.mem_mergeSort.mp hp)
  have e : ((us.zip ds).mergeSort (PySem.W.dataLe false Prod.snd)).map Prod.snd = sortD ds := by
    unfold sortD
    have m := PySem.W.sort_maps (r := PySem.W.dataLe false (Prod.snd : V × D → D)) (s := PySem.W.dataLe false fun d : D => d) (Prod.snd : V × D → D) (l := us.zip ds) (fun _ _ _ _ => rfl)
    rw [m, List.map_snd_zip (by rw [h.length]; exact Nat.le_refl _)]
  rw [e] at z
  exact z
theorem seqAll_rel {S F : Hp} {ρ : List Addr} {H : Hp} {st s : Store} {x : V} {a : Val} {ds : List D} (rp : Rep G S F ρ H st) (h : VR G F ρ x a) (e : seqAll a st = .ok ds s) : s = st ∧ ∃ (p : Addr) (us : List V), x = .ref p ∧ H p = some (.lst us) ∧ DtA F us ds := by
  unfold seqAll at e
  split at e
  · rename_i es
    cases e
    obtain ⟨p, us, rfl, ha, hu⟩ := dt_list h
    exact ⟨rfl, p, us, rfl, rp.ex _ _ ha, hu⟩
  · rename_i k
    obtain ⟨a, ha, rfl⟩ := h
    cases q : st[k]? with
    | none => simp only [q] at e; cases e
    | some ob =>
      simp only [q] at e
      cases ob with
      | ins _ _ => cases e
      | gone => cases e
      | tup _ => cases e
      | dct _ => cases e
      | dcf _ => cases e
      | exc _ => cases e
      | lst xs =>
        dsimp only at e
        cases q2 : toDs xs with
        | none => rw [q2] at e; cases e
        | some ds' =>
          rw [q2] at e
          have e' : R.ok ds' st = R.ok ds s := e
          injection e' with e1 e2
          subst e1 e2
          obtain ⟨a', h', q1, q3, q4, vs, q5, q6⟩ := rp.own k _ q
          rw [ha] at q1
          cases q1
          subst q5
          exact ⟨rfl, a, vs, rfl, q4, toDs_rel q6 q2⟩
  · cases e
theorem seqAll_ex {v : Val} {st s : Store} {c : Nat} (e : seqAll v st = .ex c s) : False := by
  unfold seqAll at e
  split at e
  · cases e
  · split at e
    · split at e <;> cases e
    · cases e
  · cases e
theorem bSortD_snd : BSnd G (rSortedD G.K) bSortD := by
  intro S F ρ H st xs as Q E rp hx o
  unfold bSortD at o
  split at o
  · rename_i v
    cases hx with
    | cons h hr =>
      cases hr
      cases e : seqAll v st with
      | bad => unfold bd at o; rw [e] at o; exact o.elim
      | ex c s => exact (seqAll_ex e).elim
      | ok ds s' =>
        unfold bd at o
        rw [e] at o
        obtain ⟨rfl, p, us, rfl, ha, hu⟩ := seqAll_rel rp h e
        dsimp only at o
        by_cases hc : sortOk ds
        · rw [if_pos hc] at o
          refine ⟨p, us, ds, rfl, SqL.of ha, DpAll.mono rp.ex (DtA.dp hu), hc.1, hc.2.1, hc.2.2.1, fun l hl => out_lst rp (dtA_sort hu) o l hl⟩
        · rw [if_neg hc] at o
          exact o.elim
  · exact o.elim
end
end Y
end
section
set_option Elab.async false
set_option Elab.async false
set_option linter.all false
set_option maxRecDepth 100000
set_option maxHeartbeats 2000000
/-! Tco: a comprehension over a list of the store. -/
namespace Y
open PySem PySem.Spec PyProof.Rows L2
section
variable {X : Cx} {G : Glo} {E : XK} {tg : Expr}
theorem compO_chk {k : Nat} {xs0 xs ys : List Val} {body : Val → M (Option Val)} {st s : Store} (h : compO k xs0 body xs st = .ok ys s) : st[k]? = some (.lst xs0) := by
  cases xs with
  | nil =>
    unfold compO at h
    by_cases q : st[k]? = some (.lst xs0)
    · exact q
    · rw [if_neg q] at h; cases h
  | cons x xs =>
    unfold compO at h
    by_cases q : st[k]? = some (.lst xs0)
    · exact q
    · rw [if_neg q] at h; cases h
def CPO (G : Glo) (k : Nat) (xs0 : List Val) (S : Hp) (F : Hp) (ρ : List Addr) (Q : VK) (E : XK) (Dl : Addr) (body : Val → M (Option Val)) (xs : List Val) (n : Nat) (H : Hp) : Prop :=
  ∃ (F2 : Hp) (ρ2 : List Addr) (st2 : Store) (av : List V) (acc : List Val), Gr F ρ F2 ρ2 ∧ Rep G (upd S Dl (.lst av)) F2 ρ2 H st2 ∧ VRs G F2 ρ2 av acc ∧ acc.length + xs.length ≤ n ∧ out G S F2 ρ2 (VR G) Q E (bd (noex (compO k xs0 body xs)) (fun ys => bLst (acc ++ ys)) st2)
theorem compO_next {fin : List Val → M Val} {k : Nat} {xs0 : List Val} {body : Val → M (Option Val)} {rest : List Val} {acc ys : List Val} {s1 s : Store} (h : compO k xs0 body rest s1 = .ok ys s) : bd (noex (compO k xs0 body rest)) (fun ys => fin (acc ++ ys)) s1 = fin (acc ++ ys) s := by
  unfold bd
  rw [noex_ok h]
theorem vrs_getO {F2 : Hp} {ρ2 : List Addr} : ∀ {vs : List V} {as : List Val} {i : Nat} {v : Val}, VRs G F2 ρ2 vs as → as[i]? = some v → ∃ u, vs[i]? = some u ∧ VR G F2 ρ2 u v := by
  intro vs as i v h
  induction h generalizing i with
  | nil => intro e; simp at e
  | cons r _ ih =>
    intro e
    cases i with
    | zero => simp at e; subst e; exact ⟨_, rfl, r⟩
    | succ i => simpa using ih (by simpa using e)
theorem lE_lcO {f : Y.E} {g : Y.G} {t : Tst} {e : Y.E} {vs : List Nat} : ∀ σ H Q, lE G E (eLcO f g t e vs) σ H Q → tLc (iList G.K (lE G E f)) (lG G EF vs g) (lT G EF t) (lE G EF e) vs σ H Q := by
  rintro σ H Q ⟨S, F, ρ, loc, st, rp, l, o⟩
  refine ⟨S, F, ρ, loc, st, rp, l, out.imp (fun u H1 h1 => ?_) (out.bd (Rl := VR G) o)⟩
  obtain ⟨F1, ρ1, v, st1, g1, r1, vr, o1⟩ := h1
  cases v with
  | d _ => exact o1.elim
  | s _ => exact o1.elim
  | o k =>
    have o1 : out G S F1 ρ1 (VR G) Q E (bd (getL (.o k)) (fun p => if p.2.length ≤ lim then bd (noex (compO p.1 p.2 (cBody g t e (wip loc vs)) p.2)) bLst else die) st1) := o1
    unfold bd getL at o1
    cases q : st1[k]? with
    | none => simp only [q] at o1; exact o1.elim
    | some ob =>
      simp only [q] at o1
      cases ob with
      | ins _ _ => exact o1.elim
      | gone => exact o1.elim
      | tup _ => exact o1.elim
      | dct _ => exact o1.elim
      | dcf _ => exact o1.elim
      | exc _ => exact o1.elim
      | lst xs =>
        dsimp only at o1
        obtain ⟨a, ha, rfl⟩ := vr
        have sq : ∀ {S2 F2 : Hp} {ρ2 : List Addr} {H2 : Hp} {st2 : Store}, Gr F1 ρ1 F2 ρ2 → Rep G S2 F2 ρ2 H2 st2 → st2[k]? = some (.lst xs) → ∃ us, H2 a = some (.lst us) ∧ VRs G F2 ρ2 us xs := fun {S2 F2 ρ2 H2 st2} g2 r2 e => by
          obtain ⟨a', h', q1, q3, q4, us, q5, q6⟩ := r2.own k _ e
          rw [g2.get ha] at q1
          cases q1
          subst q5
          exact ⟨us, q4, q6⟩
        obtain ⟨us, hus, _⟩ := sq Gr.refl r1 q
        refine ⟨a, rfl, ⟨us, SqL.of hus⟩, ?_⟩
        intro Dl hD
        have hl : xs.length ≤ lim := by
          by_cases hl : xs.length ≤ lim
          · exact hl
          · rw [if_neg hl] at o1
            exact o1.elim
        rw [if_pos hl] at o1
        have o1 : out G S F1 ρ1 (VR G) Q E (bd (noex (compO k xs (cBody g t e (wip loc vs)) xs)) (fun ys => bLst ([] ++ ys)) st1) := o1
        have hS : S Dl = none := by
          cases q : S Dl with
          | none => rfl
          | some u => rw [(r1.sd Dl u q).1] at hD; cases hD
        refine ⟨fun i m H => m = xs.length - i ∧ i ≤ xs.length ∧ CPO G k xs S F1 ρ1 Q E Dl (cBody g t e (wip loc vs)) (xs.drop i) xs.length H, ⟨xs.length, by simp, Nat.zero_le _, F1, ρ1, st1, [], [], Gr.refl, r1.side hD, .nil, by simp, o1⟩, ?_⟩
        rintro i m H2 ⟨rfl, hi, F2, ρ2, st2, av, acc, g2, r2, va, hn, o2⟩
        obtain ⟨ys0, s0, hc0, _⟩ := out_noex (Rl := fun _ _ (_ : Unit) _ => True) o2
        have hst := compO_chk hc0
        obtain ⟨ws, hws, hv⟩ := sq g2 r2 hst
        have hwl := hv.length
        by_cases hlt : i < xs.length
        · refine .inr ⟨⟨ws, ws[i]'(by omega), SqL.of hws, by simp⟩, CPO G k xs S F1 ρ1 Q E Dl (cBody g t e (wip loc vs)) (xs.drop (i + 1)) xs.length, fun H' p => ⟨xs.length - (i + 1), by omega, rfl, hlt, p⟩, fun x H' yl => ?_⟩
          have hx : xs[i]? = some xs[i] := List.getElem?_eq_getElem hlt
          have hd : xs.drop i = xs[i] :: xs.drop (i + 1) := List.drop_eq_getElem_cons hlt
          obtain ⟨rfl, hyl⟩ := yl
          have hxw := hyl ws (SqL.of hws)
          obtain ⟨u', hu', v3⟩ := vrs_getO hv hx
          rw [hxw] at hu'
          cases hu'
          rw [hd] at o2 hn
          obtain ⟨ys, s, hc, o'⟩ := out_noex (Rl := fun _ _ (_ : Unit) _ => True) o2
          unfold compO at hc
          rw [if_pos hst] at hc
          obtain ⟨ob, s1, hb, hc⟩ := bd_ok hc
          obtain ⟨ys', s', hc2, hfin⟩ := bd_ok hc
          obtain ⟨l2, s2, hg, hb⟩ := bd_ok hb
          obtain ⟨b, s3, ht, hb⟩ := bd_ok hb
          have hfin : R.ok (consO ob ys') s' = R.ok ys s := hfin
          injection hfin with hys hss
          subst hss
          have lr3 : LR G F2 ρ2 (L2.wipe σ vs) (wip loc vs) := (l.mono (g1.trans g2)).wip vs
          refine ⟨upd S Dl (.lst av), F2, ρ2, wip loc vs, st2, xs[i], r2, lr3, v3, out_ok hg fun F4 ρ4 H4 σ2 g4 r4 lw => ?_⟩
          obtain ⟨lr4, w4⟩ := lw
          refine ⟨w4.trans wipe_wipe, upd S Dl (.lst av), F4, ρ4, l2, s2, r4, lr4, out_ok ht fun F5 ρ5 H5 b' g5 r5 hb' => ?_⟩
          cases hb'
          have gg : Gr F1 ρ1 F5 ρ5 := (g2.trans g4).trans g5
          have g25 : Gr F2 ρ2 F5 ρ5 := g4.trans g5
          rw [List.length_cons] at hn
          cases b with
          | false =>
            have hb2 : ob = none ∧ s3 = s1 := by
              have z : R.ok (none : Option Val) s3 = R.ok ob s1 := hb
              injection z with z1 z2
              exact ⟨z1.symm, z2⟩
            obtain ⟨rfl, rfl⟩ := hb2
            subst hys
            refine ⟨F5, ρ5, s3, av, acc, gg, r5, VRs.mono g25 va, by omega, ?_⟩
            rw [compO_next hc2]
            exact out.mono g25 o'
          | true =>
            obtain ⟨yv, s4, he, hb⟩ := bd_ok (show bd (e l2) (fun y => ret (some y)) s3 = R.ok ob s1 from hb)
            have hb2 : ob = some yv ∧ s4 = s1 := by
              have z : R.ok (some yv : Option Val) s4 = R.ok ob s1 := hb
              injection z with z1 z2
              exact ⟨z1.symm, z2⟩
            obtain ⟨rfl, rfl⟩ := hb2
            subst hys
            refine ⟨upd S Dl (.lst av), F5, ρ5, l2, s3, r5, lr4.mono g5, out_ok he fun F6 ρ6 H6 u g6 r6 vu => ?_⟩
            have hav : av.length = acc.length := va.length
            refine ⟨av, (r6.sd Dl _ upd_same).1, sz' (by omega), F6, ρ6, s4, av ++ [u], acc ++ [yv], gg.trans g6, r6.side2, Paired.snoc (VRs.mono (g25.trans g6) va) vu, by rw [List.length_append]; show acc.length + 1 + _ ≤ _; omega, ?_⟩
            rw [compO_next hc2]
            have ea : acc ++ [yv] ++ ys' = acc ++ (yv :: ys') := by simp
            rw [ea]
            exact out.mono (g25.trans g6) o'
        · have e : i = xs.length := by omega
          subst e
          refine .inl ⟨⟨ws, SqL.of hws, by omega⟩, ?_⟩
          rw [List.drop_length] at o2
          obtain ⟨ys, s, hc, o'⟩ := out_noex (Rl := fun _ _ (_ : Unit) _ => True) o2
          unfold compO at hc
          rw [if_pos hst] at hc
          have hc : R.ok ([] : List Val) st2 = R.ok ys s := hc
          injection hc with h1 h2
          subst h1 h2
          rw [List.append_nil] at o'
          exact fin_lst S F2 ρ2 H2 st2 av acc Dl Q E r2 va hS o'
theorem qe_lcO {elt tgt iter : Expr} {ifs : List Expr} {scope : Scope} {own : List (Str × Nat)} {pos : Pos} {f : Y.E} {g : Y.G} {t : Tst} {e : Y.E} (hc : X.calm = true) (hN : X.N.Nodup) (hi : PE X iter (lE G E f)) (ok : BlkOk X.N X.env.scope scope own)
    (hg : ∀ (s : Shared) (H : Hp) (C : Addr) (cl : List (Str × Addr)) (fp : List Addr), PG (X.blk s H scope (compEnvC scope cl C X.env) fp) tgt (lG G EF (own.map (·.2)) g)) (ht : ∀ (s : Shared) (H : Hp) (C : Addr) (cl : List (Str × Addr)) (fp : List Addr), PTs (X.blk s H scope (compEnvC scope cl C X.env) fp) ifs (lT G EF t))
    (he : ∀ (s : Shared) (H : Hp) (C : Addr) (cl : List (Str × Addr)) (fp : List Addr), PE (X.blk s H scope (compEnvC scope cl C X.env) fp) elt (lE G EF e)) (hs : ∀ x, foldedSetIterable iter X.env x = pure x := by intro _; rfl) (hK : X.K = G.K := by rfl) :
    PE X (.ListComp elt [⟨tgt, iter, ifs, 0⟩] scope pos) (lE G E (eLcO f g t e (own.map (·.2)))) := by
  have hi' : PI X tgt iter (iList G.K (lE G E f)) := by rw [← hK]; exact pi_list hi
  exact PE.imp (pe_lc hc hN hi' ok hg ht he hs) lE_lcO
theorem qs_setLcN (i : Nat) {y : Str} {py : Pos} {elt tgt iter : Expr} {ifs : List Expr} {scope : Scope} {own : List (Str × Nat)} {pos spos : Pos} {it : Y.I} {g : Y.G} {t : Tst} {e : Y.E} (hc : X.calm = true) (hN : X.N.Nodup) (hy : X.N[i]? = some y) (hyl : X.env.scope.names.lookup y = some .local)
    (hsw : swapsWith (.ListComp elt [⟨tgt, iter, ifs, 0⟩] scope pos) (some (.Name y py)) spos.line X.env = pure true) (hi : PI X tgt iter (lI G E it)) (ok : BlkOk X.N X.env.scope scope own)
    (hg : ∀ (s : Shared) (H : Hp) (C : Addr) (cl : List (Str × Addr)) (fp : List Addr), PG (X.blk s H scope (compEnvC scope cl C X.env) fp) tgt (lG G EF (own.map (·.2)) g)) (ht : ∀ (s : Shared) (H : Hp) (C : Addr) (cl : List (Str × Addr)) (fp : List Addr), PTs (X.blk s H scope (compEnvC scope cl C X.env) fp) ifs (lT G EF t))
    (he : ∀ (s : Shared) (H : Hp) (C : Addr) (cl : List (Str × Addr)) (fp : List Addr), PE (X.blk s H scope (compEnvC scope cl C X.env) fp) elt (lE G EF e)) (hs : ∀ x, foldedSetIterable iter X.env x = pure x := by intro _; rfl) :
    PS X (.Assign [.Name y py] (.ListComp elt [⟨tgt, iter, ifs, 0⟩] scope pos) spos) (lS G E (sAsg (eLcN it g t e (own.map (·.2))) (gN i))) := by
  refine PS.imp (ps_setLc hc hN hy hyl hsw hi ok hg ht he hs) fun D σ H h => ?_
  exact lE_lcN σ H _ (lS_asgN D σ H h)
theorem qs_setLcO (i : Nat) {y : Str} {py : Pos} {elt tgt iter : Expr} {ifs : List Expr} {scope : Scope} {own : List (Str × Nat)} {pos spos : Pos} {f : Y.E} {g : Y.G} {t : Tst} {e : Y.E} (hc : X.calm = true) (hN : X.N.Nodup) (hy : X.N[i]? = some y) (hyl : X.env.scope.names.lookup y = some .local)
    (hsw : swapsWith (.ListComp elt [⟨tgt, iter, ifs, 0⟩] scope pos) (some (.Name y py)) spos.line X.env = pure true) (hi : PE X iter (lE G E f)) (ok : BlkOk X.N X.env.scope scope own)
    (hg : ∀ (s : Shared) (H : Hp) (C : Addr) (cl : List (Str × Addr)) (fp : List Addr), PG (X.blk s H scope (compEnvC scope cl C X.env) fp) tgt (lG G EF (own.map (·.2)) g)) (ht : ∀ (s : Shared) (H : Hp) (C : Addr) (cl : List (Str × Addr)) (fp : List Addr), PTs (X.blk s H scope (compEnvC scope cl C X.env) fp) ifs (lT G EF t))
    (he : ∀ (s : Shared) (H : Hp) (C : Addr) (cl : List (Str × Addr)) (fp : List Addr), PE (X.blk s H scope (compEnvC scope cl C X.env) fp) elt (lE G EF e)) (hs : ∀ x, foldedSetIterable iter X.env x = pure x := by intro _; rfl) (hK : X.K = G.K := by rfl) :
    PS X (.Assign [.Name y py] (.ListComp elt [⟨tgt, iter, ifs, 0⟩] scope pos) spos) (lS G E (sAsg (eLcO f g t e (own.map (·.2))) (gN i))) := by
  have hi' : PI X tgt iter (iList G.K (lE G E f)) := by rw [← hK]; exact pi_list hi
  refine PS.imp (ps_setLc hc hN hy hyl hsw hi' ok hg ht he hs) fun D σ H h => ?_
  exact lE_lcO σ H _ (lS_asgN D σ H h)
end
end Y
end
section
set_option Elab.async false
set_option linter.all false
/-! Sd: dicts whose keys are tuples of whole numbers. -/
namespace Y
open PySem (PyData Str)
def keyOf : Val → Option (List Int)
  | .d (.tuple ds) => toIs ds
  | _ => none
def valK (kvs : List (List Int × D)) (k : List Int) : Option D := (kvs.find? fun kv => decide (kv.1 = k)).map (·.2)
def putD (kvs : List (List Int × D)) (k : List Int) (v : D) : List (List Int × D) := if (kvs.any fun kv => decide (kv.1 = k)) = true then kvs.map (fun kv => if kv.1 = k then (kv.1, v) else kv) else kvs ++ [(k, v)]
def dctOf : Val → M (List (List Int × D))
  | .o k => fun st => match st[k]? with
    | some (.dct kvs) => .ok kvs st
    | _ => .bad
  | _ => die
def dctR : Val → M (List (List Int × D))
  | .o k => fun st => match st[k]? with
    | some (.dct kvs) => .ok kvs st
    | some (.dcf kvs) => .ok kvs st
    | _ => .bad
  | _ => die
/-- the keys, from here on the dict changes no more -/
def iDct (f : E) : I := fun loc => bd (f loc) fun v => match v with
  | .o k => fun st => match st[k]? with
    | some (.dct kvs) => .ok (kvs.map fun p => .d (.tuple (p.1.map .int))) (st.set k (.dcf kvs))
    | some (.dcf kvs) => .ok (kvs.map fun p => .d (.tuple (p.1.map .int))) st
    | _ => .bad
  | _ => die
def eDNew : E := fun _ st => .ok (.o st.length) (st ++ [.dct []])
def bDGet (x y : Val) : M Val := bd (dctR x) fun kvs => bd (oget (keyOf y)) fun k => bd (oget (valK kvs k)) fun v => ret (.d v)
def bDInF (neg : Bool) (y x : Val) : M Val := bd (dctR x) fun kvs => bd (oget (keyOf y)) fun k => ret (vB (if neg then !(valK kvs k).isSome else (valK kvs k).isSome))
def putS (x y v : Val) : M Unit := match x, keyOf y, v with
  | .o k, some key, .d d => fun st => match st[k]? with
    | some (.dct kvs) => if kvs.length < lim then .ok () (st.set k (.dct (putD kvs key d))) else .bad
    | _ => .bad
  | _, _, _ => die
def sDPut (o i e : E) : S := fun loc => bd (e loc) fun v => bd (o loc) fun x => bd (i loc) fun y => bd (putS x y v) fun _ => ret (.nx, loc)
def bLenD : List Val → M Val
  | [v] => bd (dctOf v) fun kvs => ret (vI (kvs.length : Int))
  | _ => die
end Y
end
section
set_option Elab.async false
set_option Elab.async false
set_option linter.all false
set_option maxRecDepth 100000
set_option maxHeartbeats 2000000
/-! Tdc: dicts whose keys are tuples of whole numbers. -/
namespace Y
open PySem PySem.Spec PyProof.Rows L2
section
variable {X : Cx} {G : Glo}
abbrev DcR (F : Hp) : List (List Key × V) → List (List Int × D) → Prop := Paired (fun (p : List Key × V) (q : List Int × D) => p.1 = q.1.map Sum.inl ∧ Dt F p.2 q.2)
theorem inl_inj : ∀ {a b : List Int}, (a.map Sum.inl : List Key) = b.map Sum.inl → a = b
  | [], [], _ => rfl
  | [], _ :: _, e => by cases e
  | _ :: _, [], e => by cases e
  | x :: a, y :: b, e => by
    rw [List.map_cons, List.map_cons] at e
    injection e with e1 e2
    injection e1 with e1
    rw [e1, inl_inj e2]
theorem inl_iff {a b : List Int} : ((a.map Sum.inl : List Key) = b.map Sum.inl) ↔ a = b := ⟨inl_inj, fun e => by rw [e]⟩
theorem dc_val {F : Hp} {k : List Int} : ∀ {us : List (List Key × V)} {kvs : List (List Int × D)}, DcR F us kvs → (valK kvs k = none ∧ valV us (k.map Sum.inl) = none) ∨ ∃ d v, valK kvs k = some d ∧ valV us (k.map Sum.inl) = some v ∧ Dt F v d
  | [], [], .nil => .inl ⟨rfl, rfl⟩
  | (a, u) :: us, (b, d) :: kvs, .cons h t => by
    obtain ⟨h1, h2⟩ := h
    have h1 : a = b.map Sum.inl := h1
    by_cases z : b = k
    · refine .inr ⟨d, u, ?_, ?_, h2⟩
      · simp [valK, List.find?_cons, z]
      · exact valV_pos (by rw [h1, z])
    · have z' : ¬ a = k.map Sum.inl := fun e => z (inl_inj (h1.symm.trans e))
      have e1 : valK ((b, d) :: kvs) k = valK kvs k := by simp [valK, List.find?_cons, z]
      have e2 : valV ((a, u) :: us) (k.map Sum.inl) = valV us (k.map Sum.inl) := valV_neg z'
      rw [e1, e2]
      exact dc_val t
theorem dc_any {F : Hp} {k : List Int} : ∀ {us : List (List Key × V)} {kvs : List (List Int × D)}, DcR F us kvs → (us.any fun kv => decide (kv.1 = k.map Sum.inl)) = (kvs.any fun kv => decide (kv.1 = k))
  | [], [], .nil => rfl
  | (a, u) :: us, (b, d) :: kvs, .cons h t => by
    obtain ⟨h1, h2⟩ := h
    have h1 : a = b.map Sum.inl := h1
    rw [List.any_cons, List.any_cons, dc_any t]
    congr 1
    rw [h1]
    exact decide_eq_decide.mpr inl_iff
theorem dc_map {F : Hp} {k : List Int} {v : V} {d : D} (hv : Dt F v d) : ∀ {us : List (List Key × V)} {kvs : List (List Int × D)}, DcR F us kvs → DcR F (us.map fun kv => if kv.1 = k.map Sum.inl then (kv.1, v) else kv) (kvs.map fun kv => if kv.1 = k then (kv.1, d) else kv)
  | [], [], .nil => .nil
  | (a, u) :: us, (b, e) :: kvs, .cons h t => by
    obtain ⟨h1, h2⟩ := h
    have h1 : a = b.map Sum.inl := h1
    refine .cons ?_ (dc_map hv t)
    dsimp only
    by_cases z : b = k
    · rw [if_pos z, if_pos (by rw [h1, z])]
      exact ⟨h1, hv⟩
    · rw [if_neg z, if_neg (fun e => z (inl_inj (h1.symm.trans e)))]
      exact ⟨h1, h2⟩
theorem dc_put {F : Hp} {k : List Int} {v : V} {d : D} (hv : Dt F v d) {us : List (List Key × V)} {kvs : List (List Int × D)} (h : DcR F us kvs) : DcR F (putK us (k.map Sum.inl) v) (putD kvs k d) := by
  unfold putK putD
  rw [dc_any h]
  by_cases z : (kvs.any fun kv => decide (kv.1 = k)) = true
  · rw [if_pos z, if_pos z]
    exact dc_map hv h
  · rw [if_neg z, if_neg z]
    exact Paired.snoc h ⟨rfl, hv⟩
theorem own_dct {S F : Hp} {ρ : List Addr} {H : Hp} {st : Store} {x : V} {k : Nat} {kvs : List (List Int × D)} (rp : Rep G S F ρ H st) (h : VR G F ρ x (.o k)) (q : st[k]? = some (.dct kvs)) : ∃ a us, x = .ref a ∧ ρ[k]? = some a ∧ H a = some (.dT us) ∧ DcR F us kvs := by
  obtain ⟨a, ha, rfl⟩ := h
  obtain ⟨a', h', q1, q3, q4, us, q5, q6⟩ := rp.own k _ q
  rw [ha] at q1
  cases q1
  subst q5
  exact ⟨a, us, rfl, ha, q4, q6⟩
theorem dctOf_rel {S F : Hp} {ρ : List Addr} {H : Hp} {st s : Store} {x : V} {a : Val} {kvs : List (List Int × D)} (rp : Rep G S F ρ H st) (h : VR G F ρ x a) (e : dctOf a st = .ok kvs s) : s = st ∧ ∃ p us, x = .ref p ∧ H p = some (.dT us) ∧ DcR F us kvs := by
  unfold dctOf at e
  split at e
  · rename_i k
    cases q : st[k]? with
    | none => simp only [q] at e; cases e
    | some ob =>
      simp only [q] at e
      cases ob with
      | ins _ _ => cases e
      | gone => cases e
      | tup _ => cases e
      | lst _ => cases e
      | dct kvs' =>
        have e' : R.ok kvs' st = R.ok kvs s := e
        injection e' with e1 e2
        subst e1 e2
        obtain ⟨a, us, rfl, _, hh, hr⟩ := own_dct rp h q
        exact ⟨rfl, a, us, rfl, hh, hr⟩
      | dcf _ => cases e
      | exc _ => cases e
  · cases e
theorem dctOf_ex {v : Val} {st s : Store} {c : Nat} (e : dctOf v st = .ex c s) : False := by
  unfold dctOf at e
  split at e
  · split at e <;> cases e
  · cases e
theorem own_dcf {S F : Hp} {ρ : List Addr} {H : Hp} {st : Store} {x : V} {k : Nat} {kvs : List (List Int × D)} (rp : Rep G S F ρ H st) (h : VR G F ρ x (.o k)) (q : st[k]? = some (.dcf kvs)) : ∃ a od us, x = .ref a ∧ ρ[k]? = some a ∧ H a = some (.frz od (.dT us)) ∧ DcR F us kvs := by
  obtain ⟨a, ha, rfl⟩ := h
  obtain ⟨a', h', q1, q3, q4, od, us, q5, q6⟩ := rp.own k _ q
  rw [ha] at q1
  cases q1
  subst q5
  exact ⟨a, od, us, rfl, ha, q4, q6⟩
theorem dctR_rel {S F : Hp} {ρ : List Addr} {H : Hp} {st s : Store} {x : V} {a : Val} {kvs : List (List Int × D)} (rp : Rep G S F ρ H st) (h : VR G F ρ x a) (e : dctR a st = .ok kvs s) : s = st ∧ ∃ p us, x = .ref p ∧ Rd H p (.dT us) ∧ DcR F us kvs := by
  unfold dctR at e
  split at e
  · rename_i k
    cases q : st[k]? with
    | none => simp only [q] at e; cases e
    | some ob =>
      simp only [q] at e
      cases ob with
      | ins _ _ => cases e
      | gone => cases e
      | tup _ => cases e
      | lst _ => cases e
      | dct kvs' =>
        have e' : R.ok kvs' st = R.ok kvs s := e
        injection e' with e1 e2
        subst e1 e2
        obtain ⟨a, us, rfl, _, hh, hr⟩ := own_dct rp h q
        exact ⟨rfl, a, us, rfl, .inl hh, hr⟩
      | exc _ => cases e
      | dcf kvs' =>
        have e' : R.ok kvs' st = R.ok kvs s := e
        injection e' with e1 e2
        subst e1 e2
        obtain ⟨a, od, us, rfl, _, hh, hr⟩ := own_dcf rp h q
        exact ⟨rfl, a, us, rfl, .inr ⟨od, hh⟩, hr⟩
  · cases e
theorem dctR_ex {v : Val} {st s : Store} {c : Nat} (e : dctR v st = .ex c s) : False := by
  unfold dctR at e
  split at e
  · split at e <;> cases e
  · cases e
theorem key_rel {S F : Hp} {ρ : List Addr} {H : Hp} {st : Store} {y : V} {b : Val} {k : List Int} (rp : Rep G S F ρ H st) (h : VR G F ρ y b) (e : keyOf b = some k) : ∃ p, y = .ref p ∧ H p = some (.tup ((k.map Sum.inl : List Key).map kV)) := by
  unfold keyOf at e
  split at e
  · rename_i ds
    obtain ⟨p, us, rfl, ha, hu⟩ := dt_tup h
    have := toIs_vi hu e
    refine ⟨p, rfl, ?_⟩
    rw [rp.ex _ _ ha, this, List.map_map]
    rfl
  · cases e
def rDGet : V → V → Hp → VK → Prop := fun x y H Q => ∃ a v, x = .ref a ∧ DGet H a y (some v) ∧ Q v H
def rDIn (neg : Bool) : V → V → Hp → VK → Prop := fun y x H Q => ∃ a o, x = .ref a ∧ DGet H a y o ∧ Q (.bl (if neg then !o.isSome else o.isSome)) H
theorem DGet.tR {H : Hp} {a b : Addr} {kvs : List (List Key × V)} {k : List Key} (e : Rd H a (.dT kvs)) (eb : H b = some (.tup (k.map kV))) : DGet H a (.ref b) (valV kvs k) := .inr ⟨kvs, k, b, e, rfl, eb, rfl⟩
theorem bDGet_snd : OSnd G rDGet bDGet := by
  intro S F ρ H st x y a b Q E rp hx hy o
  unfold bDGet bd at o
  cases e1 : dctR a st with
  | bad => rw [e1] at o; exact o.elim
  | ex c s => exact (dctR_ex e1).elim
  | ok kvs s =>
    rw [e1] at o
    obtain ⟨rfl, p, us, rfl, hp, hr⟩ := dctR_rel rp hx e1
    cases e2 : keyOf b with
    | none => simp only [e2] at o; exact o.elim
    | some k =>
      simp only [e2] at o
      obtain ⟨p2, rfl, hp2⟩ := key_rel rp hy e2
      dsimp only [oget, ret] at o
      rcases dc_val (k := k) hr with ⟨z, _⟩ | ⟨d, v, z1, z2, z3⟩
      · rw [z] at o; exact o.elim
      · rw [z1] at o
        refine ⟨p, v, rfl, ?_, out.at (v := Val.d d) o rp z3⟩
        rw [← z2]
        exact DGet.tR hp hp2
theorem bDIn_snd (neg : Bool) : OSnd G (rDIn neg) (bDInF neg) := by
  intro S F ρ H st y x b a Q E rp hy hx o
  unfold bDInF bd at o
  cases e1 : dctR a st with
  | bad => rw [e1] at o; exact o.elim
  | ex c s => exact (dctR_ex e1).elim
  | ok kvs s =>
    rw [e1] at o
    obtain ⟨rfl, p, us, rfl, hp, hr⟩ := dctR_rel rp hx e1
    cases e2 : keyOf b with
    | none => simp only [e2] at o; exact o.elim
    | some k =>
      simp only [e2] at o
      obtain ⟨p2, rfl, hp2⟩ := key_rel rp hy e2
      have hs : (valV us (k.map Sum.inl)).isSome = (valK kvs k).isSome := by
        rcases dc_val (k := k) hr with ⟨z, z'⟩ | ⟨d, v, z1, z2, z3⟩
        · rw [z, z']; rfl
        · rw [z1, z2]; rfl
      refine ⟨p, valV us (k.map Sum.inl), rfl, DGet.tR hp hp2, ?_⟩
      rw [hs]
      exact out.at (v := vB (if neg then !(valK kvs k).isSome else (valK kvs k).isSome)) o rp (.bl _)
theorem op_dIn (hu : X.A.units + 64 < cLine) : OpR X (compareOp .In) (rDIn false) := by
  intro pins s σ H x y v u Q I rx ry h
  obtain ⟨a, o, rfl, hd, q⟩ := h
  cases ry
  exact d_in (by omega) I hd rx fun s' I' => ⟨.bl o.isSome, H, I', rfl, q⟩
theorem op_dNIn (hu : X.A.units + 64 < cLine) : OpR X (compareOp .NotIn) (rDIn true) := by
  intro pins s σ H x y v u Q I rx ry h
  obtain ⟨a, o, rfl, hd, q⟩ := h
  cases ry
  exact d_notIn (by omega) I hd rx fun s' I' => ⟨.bl (!o.isSome), H, I', rfl, q⟩
theorem qe_dget {E : XK} {o i : Expr} {fo fi : Y.E} {pos : Pos} (hu : X.A.units + 64 < cLine) (ho : PE X o (lE G E fo)) (hi : PE X i (lE G E fi)) (hs : NoSl i) : PE X (.Subscript o i pos) (lE G E (eO bDGet fo fi)) := PE.imp (pe_dget (by omega) ho hi hs) (lE_O bDGet_snd)
theorem qe_dnew {E : XK} {pos : Pos} : PE X (.Dict [] [] pos) (lE G E eDNew) := by
  refine PE.imp pe_dnewT fun σ H Q ⟨S, F, ρ, loc, st, rp, l, o⟩ p hp => ?_
  obtain ⟨r', g⟩ := rp.push (ob := .dct []) hp ⟨[], rfl, .nil⟩
  refine out.go (v := Val.o st.length) o g r' ⟨p, ?_, rfl⟩
  rw [List.getElem?_append_right (by rw [rp.len]; exact Nat.le_refl _), rp.len]
  simp
theorem Rep.putT {S F : Hp} {ρ : List Addr} {H : Hp} {st : Store} (r : Rep G S F ρ H st) {k : Nat} {a : Addr} {us : List (List Key × V)} {o : HO} {ob ob' : Ob} (hk : st[k]? = some ob) (ha : ρ[k]? = some a) (hh : H a = some (.dT us)) (ho : OR G F ρ o ob') (hob : ¬ Im ob := by intro z; exact z) : Rep G S F ρ (upd H a o) (st.set k ob') := by
  refine r.put hk ha ho (fun p q hm z => ?_) (fun c q e z => ?_) hob
  · obtain ⟨ps, h1, _⟩ := r.tab (p, q) hm
    rw [z, hh] at h1
    cases h1
  · rw [z, hh] at e
    cases e
theorem qs_dput {E : XK} {o i e : Expr} {fo fi fe : Y.E} {pos pos' : Pos} (hu : X.A.units + 64 < cLine) (ho : PE X o (lE G E fo)) (hi : PE X i (lE G E fi)) (he : PE X e (lE G E fe)) (hs : swapsWith e (some (.Subscript o i pos')) pos.line X.env = pure false := by rfl) : PS X (.Assign [.Subscript o i pos'] e pos) (lS G E (Y.sDPut fo fi fe)) := by
  refine PS.imp (ps_dput (by omega) ho hi he hs) fun D σ H ⟨S, F, ρ, loc, st, rp, l, o⟩ => ⟨S, F, ρ, loc, st, rp, l, out.imp (fun v H1 h1 => ?_) (out.bd (Rl := VR G) o)⟩
  obtain ⟨F1, ρ1, cv, st1, g1, r1, v1, o1⟩ := h1
  refine ⟨S, F1, ρ1, loc, st1, r1, l.mono g1, out.imp (fun x H2 h2 => ?_) (out.bd (Rl := VR G) o1)⟩
  obtain ⟨F2, ρ2, cx, st2, g2, r2, v2, o2⟩ := h2
  refine ⟨S, F2, ρ2, loc, st2, r2, (l.mono g1).mono g2, out.imp (fun y H3 h3 => ?_) (out.bd (Rl := VR G) o2)⟩
  obtain ⟨F3, ρ3, cy, st3, g3, r3, v3, o3⟩ := h3
  have v1' := v1.mono (g2.trans g3)
  have v2' := v2.mono g3
  unfold putS bd at o3
  cases cx with
  | d _ => exact o3.elim
  | s _ => exact o3.elim
  | o k =>
    cases e2 : keyOf cy with
    | none => simp only [e2] at o3; exact o3.elim
    | some key =>
      simp only [e2] at o3
      cases cv with
      | o _ => exact o3.elim
      | s _ => exact o3.elim
      | d d =>
        dsimp only at o3
        cases q : st3[k]? with
        | none => simp only [q] at o3; exact o3.elim
        | some ob =>
          simp only [q] at o3
          cases ob with
          | ins _ _ => exact o3.elim
          | gone => exact o3.elim
          | tup _ => exact o3.elim
          | lst _ => exact o3.elim
          | dcf _ => exact o3.elim
          | exc _ => exact o3.elim
          | dct kvs =>
            dsimp only at o3
            by_cases hl : kvs.length < lim
            · rw [if_pos hl] at o3
              obtain ⟨a, us, rfl, hk, hh, hr⟩ := own_dct r3 v2' q
              obtain ⟨p2, rfl, hp2⟩ := key_rel r3 v3 e2
              refine ⟨a, _, rfl, DPut.t hh hp2 (by rw [Paired.length hr]; exact sz' hl), ?_⟩
              have r4 := r3.putT q hk hh (ob' := .dct (putD kvs key d)) ⟨_, rfl, dc_put v1' hr⟩
              exact out.at (v := (Fl.nx, loc)) (u := FV.nx σ) o3 r4 (((l.mono g1).mono g2).mono g3)
            · rw [if_neg hl] at o3
              exact o3.elim
theorem bLenD_snd : BSnd G rLenT bLenD := by
  intro S F ρ H st xs as Q E rp hx o
  unfold bLenD at o
  split at o
  · rename_i v
    cases hx with
    | cons h hr =>
      cases hr
      cases e : dctOf v st with
      | bad => unfold bd at o; rw [e] at o; exact o.elim
      | ex c s => exact (dctOf_ex e).elim
      | ok kvs s' =>
        unfold bd at o
        rw [e] at o
        obtain ⟨rfl, p, us, rfl, ha, hu⟩ := dctOf_rel rp h e
        refine ⟨p, us, rfl, ha, ?_⟩
        rw [Paired.length hu]
        exact out.at (v := vI (kvs.length : Int)) o rp (.int _)
  · exact o.elim
end
end Y
end
section
set_option Elab.async false
set_option linter.all false
/-! Sk: sorted keys of a dict. -/
namespace Y
open PySem (PyData Str)
def tD (k : List Int) : D := .tuple (k.map .int)
noncomputable def sortK (ks : List (List Int)) : List (List Int) := ks.mergeSort (PySem.W.dataLe false tD)
open Classical in
/-- sorted(d) -/
noncomputable def bSortK : List Val → M Val
  | [v] => bd (dctOf v) fun kvs => if kvs.length ≤ lim ∧ ∀ p ∈ kvs, p.1 ≠ [] then ret (.d (.list ((sortK (kvs.map (·.1))).map tD))) else die
  | _ => die
end Y
end
section
set_option Elab.async false
set_option Elab.async false
set_option linter.all false
set_option maxRecDepth 100000
set_option maxHeartbeats 2000000
/-! Tsk: sorted(d), d a dict whose keys are tuples of whole numbers. -/
namespace Y
open PySem PySem.Spec PySem.Calls PyProof.Rows L2
section
variable {X : Cx} {G : Glo}
def KsAt (H : Hp) : List Addr → List (List Int) → Prop := Paired (fun b k => H b = some (.tup (k.map V.int)))
def rSortK : List V → Hp → VK → Prop := fun vs H Q => ∃ (d : Addr) (kvs : List (List Key × V)) (ks : List (List Int)), vs = [V.ref d] ∧ H d = some (.dT kvs) ∧ kvs.map (·.1) = ks.map (fun k => k.map Sum.inl) ∧ ks.length ≤ sizeLine ∧ (∀ k ∈ ks, k ≠ []) ∧
  ∀ (bs : List Addr) (p : Addr), H p = none → KsAt H bs (Y.sortK ks) → Q (.ref p) (upd H p (.lst (bs.map V.ref)))
theorem readsA_ints {h : Heap} : ∀ {k : List Int} {its : List Value}, Vals (k.map V.int) its → ReadsAll h its (k.map .int) []
  | [], _, .nil => .nil
  | i :: k, _, .cons r t => by
    obtain ⟨tk, rfl⟩ := r
    exact ReadsAll.cons (as := []) (bs := []) (.int i tk) (readsA_ints t)
theorem reads_tI {pins : List (Addr × Obj)} {σ : L2.St} {H : Hp} {s : Shared} (I : Inv X pins σ H s) {b : Addr} {k : List Int} (hb : H b = some (.tup (k.map V.int))) : Reads s.heap (.ref b) (tD k) [] := by
  obtain ⟨_, its, rv, o, ho, hc, n, hd⟩ := I.hok _ _ hb
  exact Reads.tuple ho hc hd (by simpa using readsA_ints rv)
theorem ks_of {H : Hp} : ∀ {kvs : List (List Key × V)} {bs : List Addr} {ks : List (List Int)}, IsKeys H kvs bs → kvs.map (·.1) = ks.map (fun k => k.map Sum.inl) → KsAt H bs ks
  | [], [], [], .nil, _ => .nil
  | [], [], _ :: _, .nil, e => by cases e
  | _ :: _, _ :: _, [], .cons _ _, e => by cases e
  | p :: kvs, b :: bs, k :: ks, .cons h t, e => by
    rw [List.map_cons, List.map_cons] at e
    injection e with e1 e2
    have h : H b = some (.tup (p.1.map kV)) := h
    refine .cons ?_ (ks_of t e2)
    show H b = some (.tup (k.map V.int))
    rw [h, e1, List.map_map]
    rfl
theorem alike_tD (a b : List Int) : PySem.W.alike (tD a) (tD b) = true := PySem.W.alike_ints a b
theorem dep_ints : ∀ xs : List Int, PyData.depthAll (xs.map PyData.int) = 0
  | [] => by simp [PyData.depthAll]
  | x :: xs => by simp [PyData.depthAll, PyData.depth, dep_ints xs]
theorem cr_sortedK (hc : X.calm = true) (hu : X.A.units + 64 < cLine) : CallR X (.builtin "sorted") rSortK := by
  intro pins s σ H xs us Q I r h
  obtain ⟨d, kvs, ks, rfl, hd, hks, hlen, hne, q⟩ := h
  obtain ⟨u, rfl, rx⟩ := r.one
  cases rx
  obtain ⟨z, hs, kx, pr, o, es, ep, ho, hx, hdt, he, hn⟩ := (show ObjOk X.prog X.w H s.heap d (.dT kvs) from I.hok d _ hd)
  have l1 : es.size = kx.length := size_of_entries he
  have l2 : kvs.length = kx.length := Paired.length pr
  have l3 : kvs.length = ks.length := by have := congrArg List.length hks; simpa using this
  have hh : X.A.handled = none := I.ok.hd hc
  refine call_function_entry kind_sorted plain_sorted entry_sorted (args_sorted1 _) ?_
  unfold Builtin.«sorted»
  refine wpAny_bind (m := checkCount "sorted" 1 1 _) (wpAny_pure ?_)
  refine wpAny_bind (PySem.W.kdu_collect (A := X.A.in1) (kdl_raw hs hx hdt) hh ho (by omega) fun h' tk acc' kp it => ?_)
  have ea : acc'.toList = (kx.map fun x => x.2.1).map Value.ref := by
    have hl : acc'.toList.length = kx.length := by rw [Array.length_toList, it.1]; exact l1
    rw [List.map_map]
    apply List.ext_getElem?
    intro j
    rw [List.getElem?_map]
    cases hj : acc'.toList[j]? with
    | none =>
      have h1 := List.getElem?_eq_none_iff.mp hj
      rw [List.getElem?_eq_none (by omega)]
      all_goals rfl
    | some v =>
      obtain ⟨en, hen, hv⟩ := it.2 j v (by rw [← Array.getElem?_toList]; exact hj)
      have qe := entry_at he j
      rw [hen] at qe
      cases hb : kx[j]? with
      | none =>
        rw [hb] at qe
        exact nomatch (show some en = none from qe)
      | some b =>
        rw [hb] at qe
        have e2 : en = entryOfKey (tupleKind (mixKind X.prog X.w)) b := Option.some.inj qe
        rw [hv, e2]
        all_goals rfl
  have kat : KsAt H (kx.map fun x => x.2.1) ks := ks_of (isKeys_of pr) hks
  generalize hbs : (kx.map fun x => x.2.1) = bs at ea kat
  have lb : bs.length = ks.length := Paired.length kat
  generalize acc'.toList = vs at ea ⊢
  subst ea
  have la : (bs.map Value.ref).length ≤ sizeLine := by rw [List.length_map, lb]; exact hlen
  refine wpAny_bind (wpAny_newList ?_ la)
  generalize hpo : h'.push { cls := .type "list", data := .seq (bs.map Value.ref).toArray } = h2
  have hob : h2.get? h'.objs.size = some (seqObj "list" (bs.map Value.ref).toArray 0) := by rw [← hpo]; exact Heap.get?_push_size _ rfl
  have k2 : ∀ b ob, h'.get? b = some ob → h2.get? b = some ob := fun b ob e => by rw [← hpo]; exact Heap.get?_push_of_some _ e
  have I1 : Inv X pins σ H { s with heap := h', toks := tk } := I.kept (t' := tk) kp
  have I2 : Inv X pins σ H { s with heap := h2, toks := tk } := I.kept (t' := tk) fun b ob e => k2 b ob (kp b ob e)
  have each1 : ∀ {as : List Addr} {ls : List (List Int)}, KsAt H as ls → PySem.W.EachIs (fun (v : Value) (b : Addr × List Int) => v = .ref b.1) (as.map Value.ref) (as.zip ls) := by
    intro as ls hk
    induction hk with
    | nil => exact .nil
    | cons h t ih => exact .cons rfl ih
  have each2 : ∀ {as : List Addr} {ls : List (List Int)}, KsAt H as ls → PySem.W.EachIs (fun (v : Value) (b : Addr × List Int) => ∃ l, Reads h2 v (tD b.2) l ∧ h'.objs.size ∉ l) (as.map Value.ref) (as.zip ls) := by
    intro as ls hk
    induction hk with
    | nil => exact .nil
    | cons h t ih => exact .cons ⟨[], reads_tI I2 h, by simp⟩ ih
  have ez : (bs.zip ks).map (fun b => tD b.2) = ks.map tD := by
    have : (fun b : Addr × List Int => tD b.2) = tD ∘ Prod.snd := rfl
    rw [this, ← List.map_map, List.map_snd_zip (by omega)]
  have call := PySem.W.list_sort_data (prog := X.prog) (w := X.w) (A := X.A.in1) (E := X.xe) (s := { s with heap := h2, toks := tk }) (vs := bs.map Value.ref) (bs := bs.zip ks) (enc := fun b => tD b.2) (R := fun v b => v = .ref b.1) (Q := fun _ s' => EP X pins σ Q (.ref h'.objs.size) s') hob (each1 kat) (each2 kat) (PySem.W.AllAlike.of fun a b => alike_tD _ _) (.inl fun d hd => by
      rw [ez] at hd
      obtain ⟨k, hk, rfl⟩ := List.mem_map.mp hd
      cases k with
      | nil => exact absurd rfl (hne [] hk)
      | cons x r => exact ⟨_, _, rfl⟩) (by rw [List.length_zip]; omega) (fun b hb => by
      show X.A.in1.units + 1 + (PyData.tuple (b.2.map PyData.int)).depth < cLine
      have hi : X.A.in1.units = X.A.units + 1 := rfl
      simp only [PyData.depth, dep_ints]
      omega) fun out hol heo => by
    have hperm := heo
    have so : (bs.zip ks).mergeSort (PySem.W.dataLe false fun b => tD b.2) = (bs.zip ks).mergeSort (PySem.W.dataLe false fun b : Addr × List Int => tD b.2) := rfl
    have hout : out = (((bs.zip ks).mergeSort (PySem.W.dataLe false fun b : Addr × List Int => tD b.2)).map Prod.fst).map Value.ref := by
      have : ∀ {l : List Value} {m : List (Addr × List Int)}, PySem.W.EachIs (fun (v : Value) (b : Addr × List Int) => v = .ref b.1) l m → l = (m.map Prod.fst).map Value.ref := by
        intro l m h
        induction h with
        | nil => rfl
        | cons h t ih => rw [h, ih]; rfl
      exact this heo
    have hsk : ((bs.zip ks).mergeSort (PySem.W.dataLe false fun b : Addr × List Int => tD b.2)).map Prod.snd = Y.sortK ks := by
      unfold Y.sortK
      have m := PySem.W.sort_maps (r := PySem.W.dataLe false fun b : Addr × List Int => tD b.2) (s := PySem.W.dataLe false tD) (Prod.snd : Addr × List Int → List Int) (l := bs.zip ks) (fun _ _ _ _ => rfl)
      rw [m, List.map_snd_zip (by omega)]
    have katS : KsAt H (((bs.zip ks).mergeSort (PySem.W.dataLe false fun b : Addr × List Int => tD b.2)).map Prod.fst) (Y.sortK ks) := by
      rw [← hsk]
      have memz : ∀ p ∈ bs.zip ks, H p.1 = some (.tup (p.2.map V.int)) := by
        have : ∀ {as : List Addr} {ls : List (List Int)}, KsAt H as ls → ∀ p ∈ as.zip ls, H p.1 = some (.tup (p.2.map V.int)) := by
          intro as ls hk
          induction hk with
          | nil => intro p hp; cases hp
          | cons h t ih =>
            intro p hp
            rw [List.zip_cons_cons] at hp
            rcases List.mem_cons.mp hp with rfl | hp
            · exact h
            · exact ih p hp
        exact this kat
      have : ∀ {m : List (Addr × List Int)}, (∀ p ∈ m, H p.1 = some (.tup (p.2.map V.int))) → KsAt H (m.map Prod.fst) (m.map Prod.snd) := by
        intro m
        induction m with
        | nil => intro _; exact .nil
        | cons p m ih => intro h; exact .cons (h p List.mem_cons_self) (ih fun q hq => h q (List.mem_cons_of_mem _ hq))
      exact this fun p hp => memz p (List.mem_mergeSort.mp hp)
    generalize hos : ((bs.zip ks).mergeSort (PySem.W.dataLe false fun b : Addr × List Int => tD b.2)).map Prod.fst = os at hout katS
    have los : os.length = ks.length := by rw [← hos, List.length_map, List.length_mergeSort, List.length_zip]; omega
    obtain ⟨ep', he'⟩ := PyProof.Rows.sortedHeap_at (vs := bs.map Value.ref) (out := out.toArray) hob
    have keep : ∀ b ob, h'.get? b = some ob → (sortedHeap h2 h'.objs.size (bs.map Value.ref) out.toArray).get? b = some ob := fun b ob e => by
      have e2 := k2 b ob e
      rw [PyProof.Rows.sortedHeap_old (Nat.ne_of_lt (Heap.lt_size e)) (Heap.lt_size e2)]
      exact e2
    have rv : Vals (os.map V.ref) out := by rw [hout]; exact vals_refs os
    have hln : (os.map V.ref).length ≤ sizeLine := by rw [List.length_map, los]; exact hlen
    exact ⟨.ref h'.objs.size, upd H h'.objs.size (.lst (os.map V.ref)), I1.laid (t' := tk) keep (Nat.le_refl _) ⟨hln, out, ep', rv, he'⟩, rfl, q os _ (I1.hok.fresh (Nat.le_refl _)) katS⟩
  refine wpAny_bind (wpAny_holding (wpAny_mono call (fun _ s' x => ?_) fun _ _ e => e))
  exact wpAny_pure ⟨_, rfl, x⟩
theorem dt_ks {F : Hp} : ∀ {bs : List Addr} {ks : List (List Int)}, KsAt F bs ks → DtA F (bs.map V.ref) (ks.map tD)
  | [], [], .nil => .nil
  | b :: bs, k :: ks, .cons h t => by
    have dints : ∀ l : List Int, DtA F (l.map V.int) (l.map .int) := fun l => by
      induction l with
      | nil => exact .nil
      | cons i l ih => exact .cons (.int i) ih
    exact .cons (.tup h (dints k)) (dt_ks t)
theorem bSortK_snd : BSnd G rSortK bSortK := by
  intro S F ρ H st xs as Q E rp hx o
  unfold bSortK at o
  split at o
  · rename_i v
    cases hx with
    | cons h hr =>
      cases hr
      cases e : dctOf v st with
      | bad => unfold bd at o; rw [e] at o; exact o.elim
      | ex c s => exact (dctOf_ex e).elim
      | ok kvs s' =>
        unfold bd at o
        rw [e] at o
        obtain ⟨rfl, p, us, rfl, ha, hu⟩ := dctOf_rel rp h e
        dsimp only at o
        by_cases hc : kvs.length ≤ lim ∧ ∀ p ∈ kvs, p.1 ≠ []
        · rw [if_pos hc] at o
          have hk : us.map (·.1) = (kvs.map (·.1)).map (fun k => k.map Sum.inl) := by
            clear o e ha hc h
            induction hu with
            | nil => rfl
            | cons h t ih => rw [List.map_cons, List.map_cons, List.map_cons, ih, h.1]
          refine ⟨p, us, kvs.map (·.1), rfl, ha, hk, by rw [List.length_map]; exact sz hc.1, fun k hk => ?_, fun bs l hl kat => ?_⟩
          · obtain ⟨q, hq, rfl⟩ := List.mem_map.mp hk
            exact hc.2 q hq
          · obtain ⟨F', r', g', hF⟩ := rp.adopt (bs := bs) (fun b hb => by
              have : ∀ {bs : List Addr} {ks : List (List Int)}, KsAt H bs ks → ∀ b ∈ bs, ∃ xs, H b = some (.tup xs) := by
                intro bs ks hk
                induction hk with
                | nil => intro b hb; cases hb
                | cons h t ih =>
                  intro b hb
                  rcases List.mem_cons.mp hb with rfl | hb
                  · exact ⟨_, h⟩
                  · exact ih b hb
              exact this kat b hb)
            have katF : KsAt F' bs (Y.sortK (kvs.map (·.1))) := by
              have : ∀ {bs : List Addr} {ks : List (List Int)}, KsAt H bs ks → (∀ b ∈ bs, F' b = H b) → KsAt F' bs ks := by
                intro bs ks hk
                induction hk with
                | nil => intro _; exact .nil
                | cons h t ih => intro hf; exact .cons ((hf _ List.mem_cons_self).trans h) (ih fun b hb => hf b (List.mem_cons_of_mem _ hb))
              exact this kat hF
            exact out_lst r' (dt_ks katF) (out.mono g' o) l hl
        · rw [if_neg hc] at o
          exact o.elim
  · exact o.elim
end
end Y
end
section
set_option Elab.async false
set_option linter.all false
/-! Sl: sorted(l, key=lambda x: ..), whole numbers as keys; max and min with a default. -/
namespace Y
open PySem (PyData Str)
def keyL (fb : E) (cap : Loc) : List D → M (List Int)
  | [] => ret []
  | d :: ds => bd (fb (some (.d d) :: cap)) fun v => bd (asI v) fun n => bd (keyL fb cap ds) fun ys => ret (n :: ys)
def capt (loc : Loc) (js : List Nat) : Loc := js.map fun j => (loc[j]?).join
def sortI (ds : List D) (ks : List Int) : List D := ((ds.zip ks).mergeSort fun p q => decide (p.2 ≤ q.2)).map Prod.fst
def eSortF (e : E) (js : List Nat) (fb : E) : E := fun loc => bd (e loc) fun v => bd (chkD v) fun ds => if ds.length ≤ lim then bd (noex (keyL fb (capt loc js) ds)) fun ks => ret (.d (.list (sortI ds ks))) else die
/-- max(l, default=d), min(l, default=d) -/
def bMaxF (le : Bool) (v z : Val) : M Val := bd (chkD v) fun ds => bd (oget (toIs ds)) fun ns => match ns with
  | [] => ret z
  | x :: r => ret (vI (if le then r.foldl max x else r.foldl min x))
def eMaxD (le : Bool) (e z : E) : E := fun loc => bd (e loc) fun v => bd (z loc) fun d => bMaxF le v d
/-- the list at i changes no more: it is data from now on -/
def sThaw (i : Nat) (s : S) : S := fun loc => bd (eV i loc) fun v => bd (bFrz v) fun w => s (loc.set i (some w))
end Y
end
section
set_option Elab.async false
set_option Elab.async false
set_option linter.all false
set_option maxRecDepth 100000
set_option maxHeartbeats 2000000
/-! Tsl: sorted(l, key=lambda x: ..). -/
namespace Y
open PySem PySem.Spec PySem.Calls PyProof.Rows L2
section
variable {P : Program} {w : World} {K : PySem.W.Frag} {mg : Str → Option Value} {base : Heap} {CX : CXT} {N ps fr : List Str} {F : NdefX.NF} {f : Addr} {A : Around} {outer : List Env} {s : Shared} {H : Hp} {E : XK} {us : List Value} {vs : List V} {ws : List (Option V)} {k : Nat}
/-- a lambda with parameters runs -/
theorem lam_callN {body : Expr} {pm ctv : Value} {t : TE} {Q : VK} (S : NdefX.NScope N ps fr F.scope) (hr : Room (k + 1) A) (e0 : Env0 P w K mg base A outer s H) (hf : s.heap.get? f = some (PySem.W.kla_obj F.name F.qual F.params body F.scope F.cl pm F.c ctv)) (hc : H F.c = some (LamX.CodeO F.c F.qual))
    (hb : bindArgs (PySem.W.kla_fn F.name F.qual F.params body F.scope F.cl pm (.ref F.c) ctv) ⟨us, []⟩ = pure (ps.zip us)) (C : NdefX.CellsAt F.cl fr ws s.heap H) (r : Vals vs us) (hl : vs.length = ps.length)
    (hbody : PE (NdefX.ncx CX P w K mg base N F f A outer s H E) body t) (ht : t (NdefX.startF N vs ws) H Q) : codeAny (model P w) A (.call (.ref f) ⟨us, []⟩) (CR CX outer P w H s Q E) s := by
  have lim : s.heap.NoLimit := e0.mod.nolimit.keeps fun b o e => (e0.bs b o e).1
  refine PySem.W.kla_callFunE hr.depth hf rfl S.co S.gen rfl (NdefX.codeO_at e0.hok hc) ?_
  rw [hb]
  refine wpAny_pure (wpAny_newFunctionEnv S.nocell (fun ⟨n, _⟩ hy => S.par n (List.of_mem_zip hy).1) (fun h₁ hns hsb => ⟨lim.fresh _ hsb, ?_⟩) S.kind)
  have kp : ∀ b o, s.heap.get? b = some o → h₁.get? b = some o := fun b o e => hsb.extBut b o (Nat.ne_of_lt (Heap.lt_size e)) (Heap.get?_push_of_some _ e)
  have I : Inv (NdefX.ncx CX P w K mg base N F f A outer s H E) [] (NdefX.startF N vs ws) H { s with heap := h₁, toks := s.toks + (ps.zip us).length } := NdefX.inv_startN S hr.hd e0 hl r C hns kp
  refine PySem.W.kla_codeExpr (wpAny_mono (hbody.run [] _ _ H Q I ht) (fun v s' hq => ?_) fun e s' hq => hq)
  obtain ⟨w', H', J', rv, q⟩ := hq
  exact ⟨w', H', J'.os, J'.bare, J'.base, J'.hok, rv, q⟩
end
section
variable {X : Cx} {G : Glo}
/-- an object of code becomes data: it stays -/
theorem Rep.adoptC {S F : Hp} {ρ : List Addr} {H : Hp} {st : Store} (r : Rep G S F ρ H st) {c : Addr} {q : Str} (hc : H c = some (LamX.CodeO c q)) : ∃ F', Rep G S F' ρ H st ∧ Gr F ρ F' ρ ∧ F' c = some (LamX.CodeO c q) := by
  have g : Gr F ρ (upd F c (LamX.CodeO c q)) ρ := by
    refine ⟨fun a o h => ?_, [], by simp⟩
    by_cases ha : a = c
    · subst ha
      rw [upd_same, ← hc]
      exact r.ex _ o h
    · rw [upd_ne ha]; exact h
  refine ⟨upd F c (LamX.CodeO c q), ⟨fun a o h => ?_, fun a o h => ?_, fun a ps h => ?_, r.len, r.nd, fun k ob e => ?_, r.tab⟩, g, upd_same⟩
  · obtain ⟨h1, h2, h3, xs, h4⟩ := r.sd a o h
    refine ⟨h1, ?_, h3, xs, h4⟩
    have ha : a ≠ c := fun z => by
      rw [z, hc, h4] at h1
      cases h1
    rw [upd_ne ha]; exact h2
  · by_cases ha : a = c
    · subst ha
      rw [upd_same] at h
      rw [← h]; exact hc
    · rw [upd_ne ha] at h; exact r.ex a o h
  · by_cases ha : a = c
    · subst ha
      rw [upd_same] at h
      exact LamX.codeO_ne ps (Option.some.inj h)
    · rw [upd_ne ha] at h; exact r.nt a ps h
  · obtain ⟨a, h, e1, e2, e3, e4⟩ := r.own k ob e
    have ha : a ≠ c := fun z => by
      rw [z, hc] at e3
      cases e3
      cases ob with
      | lst _ => obtain ⟨_, z, _⟩ := e4; cases z
      | ins _ _ => obtain ⟨_, _, z, _⟩ := e4; cases z
      | gone => obtain ⟨_, z⟩ := e4; cases z
      | tup _ => obtain ⟨_, z, _⟩ := e4; cases z
      | dct _ => obtain ⟨_, z, _⟩ := e4; cases z
      | dcf _ => obtain ⟨_, _, z, _⟩ := e4; cases z
      | exc _ => obtain ⟨_, _, _, z, _⟩ := e4; cases z
    exact ⟨a, h, e1, e2.imp id fun z => by rw [upd_ne ha]; exact z, e3, e4.mono g⟩
abbrev lamF (X : Cx) (params : Arguments) (scope : Scope) (c' : Addr) : NdefX.NF := ⟨"<lambda>", X.env.qual ++ "<lambda>", params, [], scope, cloFrom X.env.cells scope.names [], c'⟩
/-- the captured ones -/
theorem lr_capt {F : Hp} {ρ : List Addr} {σ : L2.St} {loc : Loc} (l : LR G F ρ σ loc) {N : List Str} {js : List Nat} {u : V} {d : D} (hd : Dt F u d) (hN : N.length = 1 + js.length) : LR G F ρ (NdefX.startF N [u] (js.map (NdefX.slotAt σ))) (some (.d d) :: capt loc js) := by
  have e : NdefX.startF N [u] (js.map (NdefX.slotAt σ)) = some u :: js.map (NdefX.slotAt σ) := by
    unfold NdefX.startF
    have z : N.length - [u].length - (js.map (NdefX.slotAt σ)).length = 0 := by rw [List.length_map, hN]; simp
    rw [z]
    simp
  rw [e]
  refine ⟨by simp [capt], fun i v h => ?_⟩
  cases i with
  | zero =>
    have h : some (some (Val.d d)) = some (some v) := h
    cases h
    exact ⟨u, rfl, hd⟩
  | succ i =>
    have h : (capt loc js)[i]? = some (some v) := h
    unfold capt at h
    rw [List.getElem?_map] at h
    cases hj : js[i]? with
    | none => rw [hj] at h; cases h
    | some j =>
      rw [hj] at h
      have h : some ((loc[j]?).join) = some (some v) := h
      have h2 : loc[j]? = some (some v) := by
        have := Option.some.inj h
        cases q : loc[j]? with
        | none => rw [q] at this; cases this
        | some o => rw [q] at this; exact congrArg some this
      obtain ⟨u', a, b⟩ := l.2 j v h2
      refine ⟨u', ?_, b⟩
      show (js.map (NdefX.slotAt σ))[i]? = _
      rw [List.getElem?_map, hj, Option.map_some, NdefX.slotAt_of a]
theorem asI_ok {v : Val} {st s : Store} {n : Int} (h : asI v st = .ok n s) : v = .d (.int n) ∧ s = st := by
  unfold asI at h
  split at h
  · rename_i i
    have h : R.ok i st = R.ok n s := h
    injection h with h1 h2
    exact ⟨by rw [h1], h2.symm⟩
  · cases h
/-- the key sort's data -/
theorem dtA_sortI {F : Hp} {us : List V} {ds : List D} {ns : List Int} (h : DtA F us ds) (hn : ns.length = ds.length) : DtA F (((us.zip (ds.zip ns)).mergeSort (PySem.W.dataLe false fun b => PyData.int b.2.2)).map Prod.fst) (sortI ds ns) := by
  have hl := h.length
  have z := dtA_of (F := F) (bs := ((us.zip (ds.zip ns)).mergeSort (PySem.W.dataLe false fun b => PyData.int b.2.2)).map fun b => (b.1, b.2.1)) fun p hp => by
    obtain ⟨b, hb, rfl⟩ := List.mem_map.mp hp
    have hb := List.mem_mergeSort.mp hb
    have : ∀ {us : List V} {ds : List D} {ns : List Int}, DtA F us ds → ∀ b ∈ us.zip (ds.zip ns), Dt F b.1 b.2.1 := by
      intro us ds ns hh b hb
      have hm : (b.1, b.2.1) ∈ us.zip ds := by
        obtain ⟨i, hi⟩ := List.mem_iff_getElem?.mp hb
        obtain ⟨h1, h2⟩ := List.getElem?_zip_eq_some.mp hi
        obtain ⟨h3, h4⟩ := List.getElem?_zip_eq_some.mp h2
        exact List.mem_iff_getElem?.mpr ⟨i, List.getElem?_zip_eq_some.mpr ⟨h1, h3⟩⟩
      exact dtA_zip hh _ hm
    exact this h b hb
  rw [List.map_map, List.map_map] at z
  have e2 : ((us.zip (ds.zip ns)).mergeSort (PySem.W.dataLe false fun b => PyData.int b.2.2)).map (Prod.snd ∘ fun b => (b.1, b.2.1)) = sortI ds ns := by
    unfold sortI
    have m := PySem.W.sort_maps (r := PySem.W.dataLe false fun b : V × D × Int => PyData.int b.2.2) (s := fun p q : D × Int => decide (p.2 ≤ q.2)) (Prod.snd : V × D × Int → D × Int) (l := us.zip (ds.zip ns)) (fun a _ b _ => by rw [PySem.W.dataLe_int])
    have m2 : (us.zip (ds.zip ns)).map Prod.snd = ds.zip ns := List.map_snd_zip (by rw [List.length_zip]; omega)
    rw [m2] at m
    rw [← m, List.map_map]
    rfl
  rw [e2] at z
  exact z
/-- sorted(l, key=lambda x: ..) -/
theorem qe_sortF {E : XK} {e body : Expr} {fe fb : Y.E} {x : Str} {N fr : List Str} {js : List Nat} {params : Arguments} {scope : Scope} {c P : Addr} {k : Nat} {p lpos kpos pos : Pos}
    (hg : Gl X "sorted") (hm : X.mg "sorted" = none) (hv : bootBuiltins "sorted" = some (.builtin "sorted")) (he : PE X e (lE G E fe)) (TB : LamX.TabB X.base X.mg c P) (hcode : X.env.code = .ref c) (hmT : (P, X.env.qual ++ "<lambda>") ∈ G.T)
    (hu : ∀ p ∈ G.T, p.1 = P → p.2 = X.env.qual ++ "<lambda>") (hr : Room (k + 5) X.A) (S : NdefX.NScope N [x] fr scope) (hfr : NdefX.ndefB X.env.scope scope fr = true) (hjs : js.map (fun j => X.N[j]?) = fr.map some) (hNl : N.length = 1 + fr.length) (hdef : defaultsOf params X.env = ([], []))
    (hbind : ∀ (q : Str) (cl : List (Str × Addr)) (pm cv ctv v : Value), bindArgs (PySem.W.kla_fn "<lambda>" q params body scope cl pm cv ctv) ⟨[v], []⟩ = pure [(x, v)])
    (hbody : ∀ (A : Around) (outer : List Env) (s : Shared) (H : Hp) (f c' : Addr), Room k (A.deeper (NdefX.envF (lamF X params scope c') f s.heap.objs.size)) → PE (NdefX.ncx (L2N.CX X.prog X.w) X.prog X.w X.K X.mg X.base N (lamF X params scope c') f A outer s H EF) body (lE G EF fb))
    (hst : starEach [e] X.env = (false, eval e X.env) :: starEach [] X.env := by rfl) (hK : X.K = G.K := by rfl)
    (hbe : backTo pos (starEach [e] X.env) = (false, eval e X.env) :: backTo pos (starEach [] X.env) := by rfl) (hpl : (backTo pos (starEach [e] X.env)).any (·.1) = false := by rfl) :
    PE X (.Call (.Name "sorted" p) [e] [⟨some "key", .Lambda params body scope lpos, kpos⟩] pos) (lE G E (eSortF fe js fb)) := by
  refine ⟨fun pins s σ H Q I h => ?_⟩
  obtain ⟨S0, F, ρ, loc, st, rp, l, o⟩ := h
  have hfree : ∀ y ∈ scope.names, y.2 = .free → ∃ c, X.env.cells.lookup y.1 = some c := fun y hy e => (NdefX.ndef_free hfr y hy e).elim (fun z => I.ok.has _ (.inl z)) fun z => I.ok.has _ (.inr z)
  refine wpAny_Call_Name_kw (ld_blt I hg hm hv ?_ (by decide) (by decide))
  refine PyProof.Rows.callWith_kw (thn ((pa_cons he pa_nil hst).run pos pins s σ H (fun vs H1 => ∃ u, vs = [u] ∧ Then G S0 F ρ (VR G) (VR G) Q E (fun v => bd (chkD v) fun ds => if ds.length ≤ lim then bd (noex (keyL fb (capt loc js) ds)) fun ks => ret (.d (.list (sortI ds ks))) else die) u H1) I ⟨S0, F, ρ, loc, st, rp, l, out.imp (fun u H1 h1 => ⟨u, rfl, h1⟩) (out.bd (Rl := VR G) o)⟩) fun us s1 ⟨vs, H1, I1, r1, u, hu1, q1⟩ => ?_) hbe hpl rfl rfl
  subst hu1
  obtain ⟨F1, ρ1, cv, st1, g1, rp1, v1, o1⟩ := q1
  cases cv with
  | o _ => exact o1.elim
  | s _ => exact o1.elim
  | d y => ?_
  cases y with
  | list ds => ?_
  | none => exact o1.elim
  | bool _ => exact o1.elim
  | int _ => exact o1.elim
  | str _ => exact o1.elim
  | tuple _ => exact o1.elim
  | dict _ => exact o1.elim
  have o1 : out G S0 F1 ρ1 (VR G) Q E ((if ds.length ≤ lim then bd (noex (keyL fb (capt loc js) ds)) fun ks => ret (.d (.list (sortI ds ks))) else die) st1) := o1
  have hlen : ds.length ≤ lim := by
    by_cases hl : ds.length ≤ lim
    · exact hl
    · rw [if_neg hl] at o1; exact o1.elim
  rw [if_pos hlen] at o1
  obtain ⟨a, xs, rfl, ha, hxs⟩ := dt_list v1
  obtain rfl := Vals.ref1 r1
  show wpAny _ _ (evalAll ((do let v ← eval (.Lambda params body scope lpos) X.env; standAt pos; pure v) :: [])) _ _ s1
  refine wpAny_evalAll_cons (wpAny_bind (LamX.lam_make2 I1 TB hcode hmT hu rp1.tab hdef hfree fun f c' pm ctv H2 s2 I2 eN T2 hf hfn hff hco => wpAny_bind (wpAny_standAt (wpAny_pure (wpAny_evalAll_nil ?_)))))
  show wpAny _ _ (call (.builtin "sorted") [.ref a] [(Str.ofString "key", .ref f)]) _ _ s2
  have rp2 := rp1.extN eN T2
  obtain ⟨F2, rp3, g3, hF2⟩ := rp2.adoptC hco
  have l1 : LR G F2 ρ1 σ loc := (l.mono g1).mono g3
  have hxs2 : DtA F2 xs ds := hxs.mono g3.f
  have o2 := out.mono g3 o1
  have hda : H2 a = some (.lst xs) := rp2.ex _ _ ha
  obtain ⟨its, rv, hl, hz⟩ := I2.list (SqL.of hda)
  have hxl := hxs.length
  have hil : its.length = xs.length := rv.length.symm
  have cap := NdefX.Caps.made (X := X) (scope := scope) (fr := fr) (js := js) I.ok (NdefX.ndef_free hfr) (NdefX.ndef_fr hfr) hjs
  have hjl : js.length = fr.length := by have := congrArg List.length hjs; simpa using this
  refine PySem.W.sorted_of_sort (w := X.w) hl.isList (by rw [hil]; exact hz) (PyProof.Rows.ksk_s1 _ _) (fun _ => PyProof.Rows.ksk_l1 _ _) fun E' => ?_
  rw [PyProof.Rows.ksk_t1]
  generalize hAL : s2.heap.objs.size + 1 = aL
  have ho := PySem.W.copyHeap_at s2.heap its
  rw [hAL] at ho
  have hZ : its.length ≤ sizeLine := by rw [hil]; exact hz
  obtain ⟨e1, ho1⟩ : ∃ e1, ((PySem.W.copyHeap s2.heap its).update aL (Obj.mapSeq fun _ => (#[] : Array Value))).get? aL = some (seqObj "list" #[] e1) := ⟨_, get?_update_seq ho fun _ => #[]⟩
  unfold PyProof.Rows.ksk_tree
  refine wpAny_bind (PyProof.Rows.listItems_at ho rfl ?_)
  refine wpAny_bind (PyProof.Rows.listUpdate_at ho rfl ?_ (by rw [List.size_toArray]; exact hZ) (Nat.zero_le _))
  refine wpAny_bind (PyProof.Rows.seqEpoch_at ho1 rfl ?_)
  refine wpAny_bind (wpAny_newTuple ?_ (by show its.length ≤ _; exact hZ))
  refine wpAny_bind (wpAny_newList ?_ (Nat.zero_le _))
  refine wpAny_holding ?_
  generalize hh2 : ((PySem.W.copyHeap s2.heap its).update aL (Obj.mapSeq fun _ => (#[] : Array Value))).push { cls := .type "tuple", data := .seq its.toArray.toList.toArray } = h2
  generalize hkS : h2.objs.size = kS
  have k2 : ∀ b ob, s2.heap.get? b = some ob → (h2.push { cls := .type "list", data := .seq ([] : List Value).toArray }).get? b = some ob := fun b ob e => by
    have hb : b ≠ aL := by
      have hlt : b < s2.heap.objs.size := Heap.lt_size e
      exact Nat.ne_of_lt (by rw [← hAL]; exact Nat.lt_succ_of_lt hlt)
    rw [← hh2]
    refine Heap.get?_push_of_some _ (Heap.get?_push_of_some _ ?_)
    rw [Heap.get?_update_ne _ _ _ _ hb]
    exact PySem.W.copyHeap_old e
  have szc : (PySem.W.copyHeap s2.heap its).objs.size = s2.heap.objs.size + 2 := by
    unfold PySem.W.copyHeap
    rw [size_push', Heap.size_update, size_push']
  have szk : kS = s2.heap.objs.size + 3 := by
    rw [← hkS, ← hh2, size_push', Heap.size_update, szc]
  have I3 : Inv X pins σ H2 { s2 with heap := h2.push { cls := .type "list", data := .seq ([] : List Value).toArray } } := I2.kept (t' := s2.toks) k2
  have fpA : FpOk X pins H2 aL := I2.fpOk (by omega) (I2.hok.fresh (by omega))
  have fpK : FpOk X pins H2 kS := I2.fpOk (by omega) (I2.hok.fresh (by omega))
  have nst : ∀ {b : Addr}, FpOk X pins H2 b → b ∉ frs X.stack := fun {b} fp z => by
    rcases List.mem_cons.mp (I2.stkSub _ z) with e | e
    · exact fp.2.1 e
    · exact fp.2.2.1 e
  have nkS : (h2.push { cls := .type "list", data := .seq ([] : List Value).toArray }).get? kS = some (seqObj "list" #[] 0) := by rw [← hkS]; exact Heap.get?_push_size _ rfl
  have naL : (h2.push { cls := .type "list", data := .seq ([] : List Value).toArray }).get? aL = some (seqObj "list" #[] e1) := by
    rw [← hh2]; exact Heap.get?_push_of_some _ (Heap.get?_push_of_some _ ho1)
  have hflt : f < s2.heap.objs.size := Heap.lt_size hf
  have hfk : f ≠ kS := Nat.ne_of_lt (by rw [szk]; exact Nat.lt_of_lt_of_le hflt (Nat.le_add_right _ _))
  have hfa : f ≠ aL := Nat.ne_of_lt (by rw [← hAL]; exact Nat.lt_succ_of_lt hflt)
  have hak : kS ≠ aL := by omega
  unfold PyProof.Rows.ksk_rest
  refine wpAny_bind (wpAny_rule ?_)
  first
    | rw [List.forIn_toArray]
    | (rw [← Array.forIn_toList]; simp only [List.toList_toArray])
    | rw [← Array.forIn_toList]
  refine wpAny_bind (PyProof.Rows.ksk_fold (fun i s' => ∃ (H' : Hp) (kA : Array Value) (ek : Nat) (ns : List Int) (F' : Hp) (ρ' : List Addr) (st' : Store), Inv X pins σ H' s' ∧ s'.heap.get? kS = some (seqObj "list" kA ek) ∧ s'.heap.get? aL = some (seqObj "list" #[] e1) ∧ s'.heap.get? f = some (PySem.W.kla_obj "<lambda>" (X.env.qual ++ "<lambda>") params body scope (cloFrom X.env.cells scope.names []) pm c' ctv) ∧ H' kS = none ∧ H' aL = none ∧ H' f = none ∧
      Vals (ns.map V.int) kA.toList ∧ ns.length = i ∧ Gr F2 ρ1 F' ρ' ∧ Rep G S0 F' ρ' H' st' ∧ out G S0 F' ρ' (VR G) Q E (bd (noex (keyL fb (capt loc js) (ds.drop i))) (fun ys => ret (.d (.list (sortI ds (ns ++ ys))))) st')) its 0 _
    ⟨H2, #[], 0, [], F2, ρ1, st1, I3, nkS, naL, k2 _ _ hf, fpK.1, fpA.1, hfn, .nil, rfl, Gr.refl, rp3, o2⟩ ?step ?done)
  case step =>
    rintro j v s' hjv ⟨H', kA, ek, ns, F', ρ', st', I', nk', na', hf', hk0, ha0, hf0, hva, hnl, g', r', o'⟩
    simp only [Nat.zero_add] at hnl o' ⊢
    have hj : j < its.length := (List.getElem?_eq_some_iff.mp hjv).1
    have hjx : j < xs.length := by omega
    have hjd : j < ds.length := by omega
    have hxj : xs[j]? = some xs[j] := List.getElem?_eq_getElem hjx
    have hdj : ds[j]? = some ds[j] := List.getElem?_eq_getElem hjd
    have hdt : Dt F' xs[j] ds[j] := Dt.mono g'.f (dtA_zip hxs2 (xs[j], ds[j]) (List.mem_iff_getElem?.mpr ⟨j, List.getElem?_zip_eq_some.mpr ⟨hxj, hdj⟩⟩))
    have rj : RelV xs[j] v := by
      have : ∀ {xs : List V} {its : List Value} {j : Nat} {a : V} {b : Value}, Vals xs its → xs[j]? = some a → its[j]? = some b → RelV a b := by
        intro xs its j a b h
        induction h generalizing j with
        | nil => intro e; simp at e
        | cons r _ ih =>
          intro e1 e2
          cases j with
          | zero => simp at e1 e2; subst e1 e2; exact r
          | succ j => exact ih (by simpa using e1) (by simpa using e2)
      exact this rv hxj hjv
    have hdr : ds.drop j = ds[j] :: ds.drop (j + 1) := List.drop_eq_getElem_cons hjd
    rw [hdr] at o'
    obtain ⟨ys, sf, hkl, ofin⟩ := out_noex (Rl := fun _ _ (_ : Unit) _ => True) o'
    obtain ⟨rv0, sa, hfb, hkl⟩ := bd_ok (show bd (fb (some (.d ds[j]) :: capt loc js)) (fun v => bd (asI v) fun n => bd (keyL fb (capt loc js) (ds.drop (j + 1))) fun ys => ret (n :: ys)) st' = .ok ys sf from hkl)
    obtain ⟨n, sb, hai, hkl⟩ := bd_ok hkl
    obtain ⟨ys', sc', hkr, hfin⟩ := bd_ok hkl
    obtain ⟨rfl, rfl⟩ := asI_ok hai
    have hfin : R.ok (n :: ys') sc' = R.ok ys sf := hfin
    injection hfin with hys hsf
    subst hys hsf
    have lr' : LR G F' ρ' (NdefX.startF N [xs[j]] (js.map (NdefX.slotAt σ))) (some (.d ds[j]) :: capt loc js) := lr_capt (l1.mono g') hdt (by rw [hNl, hjl])
    have hc' : H' c' = some (LamX.CodeO c' (X.env.qual ++ "<lambda>")) := r'.ex _ _ (g'.f _ _ hF2)
    have hrA : Room (k + 1) X.A.in1.in1 := ((hr.mono (show k + 3 ≤ k + 5 by omega)).in1).in1
    have e0 : Env0 X.prog X.w X.K X.mg X.base X.A.in1.in1 X.stack s' H' := I'.env0.in1.in1
    have run := lam_callN (CX := L2N.CX X.prog X.w) (E := EF) (ps := [x]) (us := [v]) (vs := [xs[j]]) (F := lamF X params scope c') (Q := fun v3 H3 => ∃ m, v3 = .int m ∧ ∃ (F3 : Hp) (ρ3 : List Addr) (st3 : Store), Gr F2 ρ1 F3 ρ3 ∧ Rep G S0 F3 ρ3 H3 st3 ∧ out G S0 F3 ρ3 (VR G) Q E (bd (noex (keyL fb (capt loc js) (ds.drop (j + 1)))) (fun ys => ret (.d (.list (sortI ds (ns ++ [m] ++ ys))))) st3))
      S hrA e0 hf' hc' (hbind _ _ _ _ _ _) (NdefX.cells_of I' cap) (.cons rj .nil) rfl (hbody X.A.in1.in1 X.stack s' H' f c' (hrA.deeper _)) ⟨S0, F', ρ', _, st', r', lr', out_ok hfb fun F3 ρ3 H3 u3 g4 r4 v4 => ⟨n, dt_int v4, F3, ρ3, _, g'.trans g4, r4, ?_⟩⟩
    · refine wpAny_bind (wpAny_attempt (wpAny_mono (wpAny_call run) (fun kv s3 he => ?_) fun ee s3 he => ?_))
      · obtain ⟨v3, H3, os3, bare3, un3, hok3, rel3, m, rfl, F3, ρ3, st3, g4, r4, o4⟩ := he
        obtain ⟨hh3, gg3, dd3, tt3, oo3⟩ := s3
        obtain rfl : oo3 = s'.os := os3
        have I4 : Inv X pins σ H3 ⟨hh3, gg3, dd3, tt3, s'.os⟩ := I'.call (h' := hh3) (g' := gg3) (d' := dd3) (t' := tt3) (ch := []) un3 hok3 bare3 (fun b z => absurd z (by simp))
        have nk4 : hh3.get? kS = some (seqObj "list" kA ek) := un3.keep kS _ nk' hk0 (nst fpK) (by simp)
        have na4 : hh3.get? aL = some (seqObj "list" #[] e1) := un3.keep aL _ na' ha0 (nst fpA) (by simp)
        have hf4 := un3.keep f _ hf' hf0 hff (by simp)
        have hk4 : H3 kS = none := un3.free kS _ nk' hk0 (by simp)
        have ha4 : H3 aL = none := un3.free aL _ na' ha0 (by simp)
        have hf4n : H3 f = none := un3.free f _ hf' hf0 (by simp)
        obtain ⟨tk, rfl⟩ := rel3
        have kz : kA.size ≤ sizeLine := by
          have h1 : (ns.map V.int).length = kA.toList.length := hva.length
          rw [List.length_map] at h1
          have h3 : kA.toList.length = kA.size := Array.length_toList
          omega
        have s1' := Heap.SameBut.update hh3 kS (Obj.mapSeq (·.push (Value.int m tk)))
        obtain ⟨c2, hc2⟩ : ∃ c2, (hh3.update kS (Obj.mapSeq (·.push (Value.int m tk)))).get? kS = some (seqObj "list" (kA.push (Value.int m tk)) c2) := ⟨_, get?_update_seq nk4 (·.push (Value.int m tk))⟩
        have fpK3 : FpOk X pins H3 kS := ⟨hk4, fpK.2⟩
        refine wpAny_bind (PyProof.Rows.listUpdate_at nk4 rfl ?_ kz (by rw [Array.size_push]; omega))
        refine wpAny_pure ⟨rfl, H3, kA.push (Value.int m tk), c2, ns ++ [m], F3, ρ3, st3, I4.turnedL (t' := tt3) (ch := [kS]) (fun b ob hb e => (s1'.2 b (fun z => hb (by simp [z]))).trans e) (fun b hb => by rw [List.mem_singleton.mp hb]; exact fpK3), hc2, (s1'.2 aL hak.symm).trans na4, (s1'.2 f hfk).trans hf4, hk4, ha4, hf4n, ?_, by rw [List.length_append, hnl]; simp, g4, r4, o4⟩
        rw [Array.toList_push, List.map_append]
        have : ∀ {as : List V} {bs : List Value} {a : V} {b : Value}, Vals as bs → RelV a b → Vals (as ++ [a]) (bs ++ [b]) := by
          intro as bs a b h r
          induction h with
          | nil => exact .cons r .nil
          | cons r0 _ ih => exact .cons r0 ih
        exact this hva ⟨tk, rfl⟩
      · obtain ⟨_, _, _, _, _, _, _, _, _, _, _, _, z⟩ := he
        exact z.elim
    · have e5 : bd (noex (keyL fb (capt loc js) (ds.drop (j + 1)))) (fun ys => ret (Val.d (.list (sortI ds (ns ++ [n] ++ ys))))) sb = ret (Val.d (.list (sortI ds (ns ++ (n :: ys'))))) sc' := by
        unfold bd
        rw [noex_ok hkr]
        show R.ok _ _ = R.ok _ _
        rw [List.append_assoc]
        rfl
      rw [e5]
      exact out.mono g4 ofin
  case done =>
    rintro s' ⟨H', kA, ek, ns, F', ρ', st', I', nk', na', hf', hk0, ha0, hf0, hva, hnl, g', r', o'⟩
    simp only [Nat.zero_add] at hnl o'
    have h1 : (ns.map V.int).length = kA.toList.length := hva.length
    rw [List.length_map] at h1
    have h3 : kA.toList.length = kA.size := Array.length_toList
    have hsz : kA.size = its.length := by omega
    have hnd : ns.length = ds.length := by omega
    refine wpAny_bind (PyProof.Rows.listItems_at nk' rfl ?_)
    obtain ⟨hR, hR1, hR2⟩ := L2.restrict s'.heap (fun b => !decide (b = kS))
    have kp1 : PySem.W.KeepsBut aL hR s'.heap := fun b ob hb e => by
      by_cases hbk : b = kS
      · rw [hR2 b (by simp [hbk])] at e; cases e
      · rw [hR1 b (by simp [hbk])] at e; exact e
    have ez : (xs.zip (ds.zip ns)).map (fun b => PyData.int b.2.2) = ns.map PyData.int := by
      have q : (fun b : V × D × Int => PyData.int b.2.2) = PyData.int ∘ (Prod.snd ∘ Prod.snd) := rfl
      rw [q, ← List.map_map, ← List.map_map, List.map_snd_zip (by rw [List.length_zip]; omega), List.map_snd_zip (by omega)]
    have hk' : PySem.W.EachIs (fun v d => ∃ as, Reads s'.heap v d as) kA.toList (ns.map PyData.int) := by
      have : ∀ {ns : List Int} {vs : List Value}, Vals (ns.map V.int) vs → PySem.W.EachIs (fun v d => ∃ as, Reads s'.heap v d as) vs (ns.map PyData.int) := by
        intro ns
        induction ns with
        | nil => intro vs h; cases h; exact .nil
        | cons n ns ih =>
          intro vs h
          cases h with
          | cons r t =>
            obtain ⟨tk, rfl⟩ := r
            exact .cons ⟨[], .int n tk⟩ (ih t)
      exact this hva
    have hal : PySem.W.AllAlike (ns.map PyData.int) := PySem.W.AllAlike.of fun a b => rfl
    have hsk : PySem.W.Sortable (ns.map PyData.int) := PySem.W.Sortable.others fun b => ⟨(fun z => by cases z), (fun xs z => by cases z)⟩
    have hud : ∀ d, d ∈ ns.map PyData.int → X.A.in1.in1.units + d.depth < cLine := fun d hd => by
      obtain ⟨n, _, rfl⟩ := List.mem_map.mp hd
      have hi : X.A.in1.in1.units = X.A.units + 1 + 1 := rfl
      have := hr.units
      have hdp : (PyData.int n).depth ≤ 1 := by simp [PyData.depth]
      omega
    refine PySem.W.keyH_end (prog := X.prog) (w := X.w) (h₁ := hR) (κ := PySem.W.dataKind s'.heap (ns.map PyData.int)) kp1 (hR2 kS (by simp)) nk' na' hak (PySem.W.SortsAt.data hk' hal hsk hud) hsz hZ fun h5 tk5 c5 kp5 na5 => ⟨rfl, ?_⟩
    have ev : PySem.W.EachIs (fun (v : Value) (b : V × D × Int) => RelV b.1 v) its (xs.zip (ds.zip ns)) := by
      have : ∀ {xs : List V} {its : List Value} {m : List (D × Int)}, Vals xs its → xs.length = m.length → PySem.W.EachIs (fun (v : Value) (b : V × D × Int) => RelV b.1 v) its (xs.zip m) := by
        intro xs its m h
        induction h generalizing m with
        | nil => intro e; cases m with
          | nil => exact .nil
          | cons _ _ => cases e
        | cons r _ ih => intro e; cases m with
          | nil => cases e
          | cons y m => exact .cons r (ih (by simpa using e))
      exact this rv (by rw [List.length_zip]; omega)
    have eo := PySem.W.keyedOut_each (rev := false) (fun b : V × D × Int => PyData.int b.2.2) (bs := xs.zip (ds.zip ns)) (vs := its) (out := PySem.W.sortVals (PySem.W.dataKind s'.heap (ns.map PyData.int)) false kA.toList its) (by rw [ez]; exact ⟨s'.heap, kA.toList, hal, rfl, hk'⟩) ev
    generalize PySem.W.sortVals (PySem.W.dataKind s'.heap (ns.map PyData.int)) false kA.toList its = outV at eo na5
    have vo : Vals (((xs.zip (ds.zip ns)).mergeSort (PySem.W.dataLe false fun b => PyData.int b.2.2)).map Prod.fst) outV := by
      have : ∀ {vs : List Value} {m : List (V × D × Int)}, PySem.W.EachIs (fun (v : Value) (b : V × D × Int) => RelV b.1 v) vs m → Vals (m.map Prod.fst) vs := by
        intro vs m h
        induction h with
        | nil => exact .nil
        | cons r _ ih => exact .cons r ih
      exact this eo
    have dso := dtA_sortI (hxs2.mono g'.f) hnd
    have ln : (((xs.zip (ds.zip ns)).mergeSort (PySem.W.dataLe false fun b => PyData.int b.2.2)).map Prod.fst).length ≤ sizeLine := by
      rw [List.length_map, List.length_mergeSort, List.length_zip]; omega
    generalize ((xs.zip (ds.zip ns)).mergeSort (PySem.W.dataLe false fun b => PyData.int b.2.2)).map Prod.fst = outs at vo dso ln
    have I5 : Inv X pins σ H' { s' with heap := h5, toks := tk5 } := I'.turnedL (t' := tk5) (ch := [kS, aL]) (fun b ob hb e => by
      simp only [List.mem_cons, List.not_mem_nil, or_false, not_or] at hb
      exact kp5 b ob hb.2 (by rw [hR1 b (by simp [hb.1])]; exact e)) (fun b hb => by
      simp only [List.mem_cons, List.not_mem_nil, or_false] at hb
      rcases hb with rfl | rfl
      · exact ⟨hk0, fpK.2⟩
      · exact ⟨ha0, fpA.2⟩)
    have I6 : Inv X pins σ (upd H' aL (.lst outs)) { s' with heap := h5, toks := tk5 } := I5.take (t' := tk5) (fun b ob _ e => e) ⟨ha0, fpA.2⟩ ⟨ln, outV, c5, vo, na5⟩
    have dz : ds.drop its.length = [] := List.drop_eq_nil_of_le (by omega)
    rw [dz] at o'
    have o' : out G S0 F' ρ' (VR G) Q E (.ok (.d (.list (sortI ds (ns ++ [])))) st') := o'
    rw [List.append_nil] at o'
    exact ⟨.ref aL, upd H' aL (.lst outs), I6, rfl, out_lst r' dso o' aL ha0⟩
end
end Y
end
section
set_option Elab.async false
set_option Elab.async false
set_option linter.all false
set_option maxRecDepth 100000
set_option maxHeartbeats 2000000
/-! Tmd: max(l, default=d), min(l, default=d), whole numbers. -/
namespace Y
open PySem PySem.Spec PySem.Calls PyProof.Rows L2
section
variable {X : Cx} {G : Glo}
def rMaxD (le : Bool) (K : PySem.W.Frag) : List V → List V → Hp → VK → Prop := fun vs zs H Q => ∃ (a : Addr) (ns : List Int) (d : V), vs = [V.ref a] ∧ zs = [d] ∧ SqL K H a (ns.map V.int) ∧
  (match ns with | [] => Q d H | x :: r => Q (.int (if le then r.foldl max x else r.foldl min x)) H)
theorem alikeA_ints (ns : List Int) : PySem.W.AlikeAll (ns.map PyData.int) := by
  refine ⟨fun x hx y hy => ?_, fun x hx z => ?_⟩
  · obtain ⟨a, _, rfl⟩ := List.mem_map.mp hx
    obtain ⟨b, _, rfl⟩ := List.mem_map.mp hy
    rfl
  · obtain ⟨a, _, rfl⟩ := List.mem_map.mp hx
    cases z
theorem cr_maxD (hc : X.calm = true) (hu : X.A.units + 64 < cLine) : CallRK X (.builtin "max") [Str.ofString "default"] (rMaxD true X.K) := by
  intro pins s σ H xs zs us ws Q I r rz h
  obtain ⟨a, ns, d, rfl, rfl, hs, q⟩ := h
  obtain rfl := Vals.ref1 r
  obtain ⟨w1, rfl, e1⟩ := vals1 rz
  obtain ⟨its, rv, hl, hz⟩ := I.list hs
  refine PySem.W.max_list_default (xs := ns.map PyData.int) (as := []) (I.ok.hd hc) hl.isList (by simpa using readsA_ints rv) (alikeA_ints ns) (by rw [dep_ints]; omega) (fun h0 h' tk kp => ?_) fun y ys i v h' tk bs h1 h2 h3 kp => ?_
  · have : ns = [] := by cases ns with | nil => rfl | cons _ _ => cases h0
    subst this
    exact ⟨d, H, I.kept (t' := tk) kp, e1, q⟩
  · cases ns with
    | nil => cases h1
    | cons x r =>
      rw [List.map_cons] at h1
      injection h1 with h1 h4
      subst h1 h4
      rw [PySem.W.maxD_ints] at h3
      cases h3 with
      | int n t => exact ⟨.int _, H, I.kept (t' := tk) kp, ⟨t, rfl⟩, q⟩
theorem cr_minD (hc : X.calm = true) (hu : X.A.units + 64 < cLine) : CallRK X (.builtin "min") [Str.ofString "default"] (rMaxD false X.K) := by
  intro pins s σ H xs zs us ws Q I r rz h
  obtain ⟨a, ns, d, rfl, rfl, hs, q⟩ := h
  obtain rfl := Vals.ref1 r
  obtain ⟨w1, rfl, e1⟩ := vals1 rz
  obtain ⟨its, rv, hl, hz⟩ := I.list hs
  refine PySem.W.min_list_default (xs := ns.map PyData.int) (as := []) (I.ok.hd hc) hl.isList (by simpa using readsA_ints rv) (alikeA_ints ns) (by rw [dep_ints]; omega) (fun h0 h' tk kp => ?_) fun y ys i v h' tk bs h1 h2 h3 kp => ?_
  · have : ns = [] := by cases ns with | nil => rfl | cons _ _ => cases h0
    subst this
    exact ⟨d, H, I.kept (t' := tk) kp, e1, q⟩
  · cases ns with
    | nil => cases h1
    | cons x r =>
      rw [List.map_cons] at h1
      injection h1 with h1 h4
      subst h1 h4
      rw [PySem.W.minD_ints] at h3
      cases h3 with
      | int n t => exact ⟨.int _, H, I.kept (t' := tk) kp, ⟨t, rfl⟩, q⟩
theorem lE_maxD {E : XK} {le : Bool} {fe fz : Y.E} : ∀ σ H Q, lE G E (eMaxD le fe fz) σ H Q → tCKw (rMaxD le G.K) (tCons (lE G E fe) tNil) (tCons (lE G E fz) tNil) σ H Q := by
  rintro σ H Q ⟨S, F, ρ, loc, st, rp, l, o⟩
  refine ⟨S, F, ρ, loc, st, rp, l, out.imp (fun x H1 h1 => ?_) (out.bd (Rl := VR G) o)⟩
  obtain ⟨F1, ρ1, a, st1, g1, r1, v1, o1⟩ := h1
  refine ⟨S, F1, ρ1, loc, st1, r1, l.mono g1, out.imp (fun y H2 h2 => ?_) (out.bd (Rl := VR G) o1)⟩
  obtain ⟨F2, ρ2, b, st2, g2, r2, v2, o2⟩ := h2
  have v1' := v1.mono g2
  cases a with
  | o _ => exact o2.elim
  | s _ => exact o2.elim
  | d z => ?_
  cases z with
  | list ds => ?_
  | none => exact o2.elim
  | bool _ => exact o2.elim
  | int _ => exact o2.elim
  | str _ => exact o2.elim
  | tuple _ => exact o2.elim
  | dict _ => exact o2.elim
  obtain ⟨p, us, rfl, ha, hu⟩ := dt_list v1'
  cases e : toIs ds with
  | none =>
    unfold bMaxF bd chkD ret at o2
    dsimp only at o2
    rw [e] at o2
    exact o2.elim
  | some ns =>
    have hus := toIs_vi hu e
    have o3 : out G S F2 ρ2 (VR G) Q E ((match ns with
      | [] => ret b
      | x :: r => ret (vI (if le then r.foldl max x else r.foldl min x))) st2) := by
      have : bMaxF le (.d (.list ds)) b st2 = (match ns with
        | [] => ret b
        | x :: r => ret (vI (if le then r.foldl max x else r.foldl min x))) st2 := by
        unfold bMaxF bd chkD ret
        dsimp only
        rw [e]
        rfl
      rw [← this]
      exact o2
    refine ⟨p, ns, y, rfl, rfl, ?_, ?_⟩
    · rw [← hus]; exact SqL.of (r2.ex _ _ ha)
    · cases ns with
      | nil => exact out.at (v := b) o3 r2 v2
      | cons x r => exact out.at (v := vI (if le then r.foldl max x else r.foldl min x)) o3 r2 (.int _)
theorem qe_maxD {E : XK} {e z : Expr} {fe fz : Y.E} {p kpos pos : Pos} (hc : X.calm = true) (hu : X.A.units + 64 < cLine) (hg : Gl X "max") (hm : X.mg "max" = none) (hv : bootBuiltins "max" = some (.builtin "max")) (he : PE X e (lE G E fe)) (hz : PE X z (lE G E fz))
    (hst : starEach [e] X.env = (false, eval e X.env) :: starEach [] X.env := by rfl) (hbe : backTo pos (starEach [e] X.env) = (false, eval e X.env) :: backTo pos (starEach [] X.env) := by rfl) (hpl : (backTo pos (starEach [e] X.env)).any (·.1) = false := by rfl) (hK : X.K = G.K := by rfl) :
    PE X (.Call (.Name "max" p) [e] [⟨some "default", z, kpos⟩] pos) (lE G E (eMaxD true fe fz)) := PE.imp (pe_callBK (cr_maxD hc hu) hg hm hv (pa_cons he pa_nil hst) (pk_cons hz pk_nil) (by decide) (by decide) hbe hpl rfl rfl rfl) (by rw [hK]; exact lE_maxD)
theorem qe_minD {E : XK} {e z : Expr} {fe fz : Y.E} {p kpos pos : Pos} (hc : X.calm = true) (hu : X.A.units + 64 < cLine) (hg : Gl X "min") (hm : X.mg "min" = none) (hv : bootBuiltins "min" = some (.builtin "min")) (he : PE X e (lE G E fe)) (hz : PE X z (lE G E fz))
    (hst : starEach [e] X.env = (false, eval e X.env) :: starEach [] X.env := by rfl) (hbe : backTo pos (starEach [e] X.env) = (false, eval e X.env) :: backTo pos (starEach [] X.env) := by rfl) (hpl : (backTo pos (starEach [e] X.env)).any (·.1) = false := by rfl) (hK : X.K = G.K := by rfl) :
    PE X (.Call (.Name "min" p) [e] [⟨some "default", z, kpos⟩] pos) (lE G E (eMaxD false fe fz)) := PE.imp (pe_callBK (cr_minD hc hu) hg hm hv (pa_cons he pa_nil hst) (pk_cons hz pk_nil) (by decide) (by decide) hbe hpl rfl rfl rfl) (by rw [hK]; exact lE_maxD)
end
end Y
end
section
set_option Elab.async false
set_option Elab.async false
set_option linter.all false
set_option maxRecDepth 100000
set_option maxHeartbeats 2000000
/-! Tpl: a class whose __init__ makes a lambda. -/
namespace Y
open PySem PySem.Spec PyProof.Rows L2
section
variable {P : Program} {w : World} {mg : Str → Option Value} {base : Heap} {G : Glo}
theorem fn_okQ {nm qual : Str} {st : Stmt} {N ps : List Str} {k n : Nat} {b : Y.S} {f : Addr} {cdv oc kV doc pm ct : Value} {od an : Option Addr} {osl : Array (Option Value)} (lk : G.K.lookup f = some ⟨oc, od, .func (PySem.W.fnOf nm qual (defArgs st) (defBody st) (defScope st) .none kV doc pm an cdv ct), osl⟩) (hcd : PySem.W.codeIn G.K cdv qual = true) (Sc : FnScope N ps (defScope st)) (hn : n = ps.length) (hN : n ≤ N.length)
    (hb : ∀ (A : Around) (outer : List Env) (s : Shared) (H : Hp) (E : XK), Room k (A.deeper (envOfC qual (defScope st) s.heap.objs.size f cdv)) → PSs (cxOf (L2N.CX P w) P w G.K mg base N qual (defScope st) f cdv A outer s H E) (defBody st) (lS G E b)) :
    FnOk P w G.K mg base (L2N.CX P w) (k + 1) f (PySem.W.fnOf nm qual (defArgs st) (defBody st) (defScope st) .none kV doc pm an cdv ct) ps (spF G n (runF N.length b)) := by
  refine fn_of lk hcd Sc (fun vs H Q E h => ?_) fun A outer s H vs Q E hr h => ⟨lS G E b, hb A outer s H E hr, fn_body hN h⟩
  obtain ⟨S, F, ρ, st, as, rp, vr, hl, o⟩ := h
  rw [vr.length, hl, hn]
theorem cls_okT {x qual : Str} {st : Stmt} {N ps : List Str} {k n c : Nat} {b : Y.S} {f : Addr} {cdv oc kV doc pm ct : Value} {od an : Option Addr} {osl : Array (Option Value)} (lk : G.K.lookup f = some ⟨oc, od, .func (PySem.W.fnOf "__init__" qual (defArgs st) (defBody st) (defScope st) .none kV doc pm an cdv ct), osl⟩) (hcd : PySem.W.codeIn G.K cdv qual = true) (hm : mg x = some (.ref (G.ic c))) (M : Mk G.K (G.ic c) f) (hbd : Binds G.K (PySem.W.fnOf "__init__" qual (defArgs st) (defBody st) (defScope st) .none kV doc pm an cdv ct) ps []) (Sc : FnScope N ps (defScope st)) (hn : n + 1 = ps.length) (hN : n + 1 ≤ N.length)
    (hb : ∀ (A : Around) (outer : List Env) (s : Shared) (H : Hp) (E : XK), Room k (A.deeper (envOfC qual (defScope st) s.heap.objs.size f cdv)) → PSs (cxOf (L2N.CX P w) P w G.K mg base N qual (defScope st) f cdv A outer s H E) (defBody st) (lS G E b)) :
    ClsOk P w mg base G (k + 1) x c n (runF N.length b) := ⟨f, _, ps, fn_okQ lk hcd Sc hn hN hb, hm, M, hbd⟩
end
section
variable {X : Cx} {G : Glo} {E : XK}
theorem set_same {α : Type} : ∀ {l : List α} {i : Nat} {x : α}, l[i]? = some x → l.set i x = l
  | [], i, x, h => by simp at h
  | a :: l, 0, x, h => by simp at h; subst h; rfl
  | a :: l, i + 1, x, h => by
    have h : l[i]? = some x := h
    show a :: l.set i x = a :: l
    rw [set_same h]
theorem qs_thaw (i : Nat) {stm : Stmt} {s : Y.S} (h : PS X stm (lS G E s)) : PS X stm (lS G E (sThaw i s)) := by
  refine PS.imp h fun D σ H ⟨S, F, ρ, loc, st, rp, l, o⟩ => ?_
  unfold sThaw at o
  cases hv : loc[i]? with
  | none =>
    have : eV i loc = die := by unfold eV; rw [hv]
    rw [this] at o
    exact o.elim
  | some ov =>
    cases ov with
    | none =>
      have : eV i loc = die := by unfold eV; rw [hv]
      rw [this] at o
      exact o.elim
    | some v =>
      have ev : eV i loc = ret v := by unfold eV; rw [hv]
      rw [ev] at o
      obtain ⟨u, hu, vr⟩ := l.2 i v hv
      have ss : σ.set i (some u) = σ := set_same hu
      cases v with
      | s ns => exact o.elim
      | d x =>
        have o : out G S F ρ (FR G) (endQ D) E (s (loc.set i (some (.d x))) st) := o
        rw [set_same hv] at o
        exact ⟨S, F, ρ, loc, st, rp, l, o⟩
      | o k =>
        obtain ⟨a, ha, rfl⟩ := vr
        have o : out G S F ρ (FR G) (endQ D) E (bd (bFrz (.o k)) (fun w => s (loc.set i (some w))) st) := o
        cases q : st[k]? with
        | none =>
          have : bFrz (.o k) st = .bad := by
            show (match st[k]? with | some (.lst xs) => (match toDs xs with | some ds => if ds.length ≤ lim then R.ok (Val.d (.list ds)) (st.set k .gone) else .bad | none => .bad) | _ => .bad) = _
            rw [q]
          unfold bd at o
          rw [this] at o
          exact o.elim
        | some ob =>
          have e : bFrz (.o k) st = (match some ob with | some (.lst xs) => (match toDs xs with | some ds => if ds.length ≤ lim then R.ok (Val.d (.list ds)) (st.set k .gone) else .bad | none => .bad) | _ => .bad) := by
            rw [← q]
            rfl
          unfold bd at o
          rw [e] at o
          cases ob with
          | ins _ _ => exact o.elim
          | gone => exact o.elim
          | tup _ => exact o.elim
          | dct _ => exact o.elim
          | dcf _ => exact o.elim
          | exc _ => exact o.elim
          | lst xs =>
            dsimp only at o
            cases q2 : toDs xs with
            | none => rw [q2] at o; exact o.elim
            | some ds =>
              rw [q2] at o
              dsimp only at o
              obtain ⟨p', h', e1, e2, e3, us, e4, hus⟩ := rp.own k _ q
              rw [ha] at e1
              cases e1
              subst e4
              have hu' := toDs_rel hus q2
              by_cases hl : ds.length ≤ lim
              · rw [if_pos hl] at o
                obtain ⟨r2, g2⟩ := rp.freeze q ha e3
                have l2 := (l.mono g2).set (u := .ref a) (v := Val.d (.list ds)) (Dt.lst upd_same (hu'.mono g2.f)) i
                rw [ss] at l2
                exact ⟨S, _, ρ, _, _, r2, l2, out.mono g2 o⟩
              · rw [if_neg hl] at o
                exact o.elim
end
end Y
end
section
set_option Elab.async false
set_option Elab.async false
set_option linter.all false
set_option maxRecDepth 100000
set_option maxHeartbeats 2000000
/-! Tdi: the keys of a dict that changes no more, walked. -/
namespace Y
open PySem PySem.Spec PyProof.Rows L2
section
variable {X : Cx} {G : Glo}
def iKeysL (td : TE) : TI := fun σ H R => td σ H fun x H1 => ∃ d, x = .ref d ∧ ((∃ kvs, H1 d = some (.dT kvs) ∧ ∀ o, R (Itkt d o kvs) (upd H1 d (.frz o (.dT kvs)))) ∨ ∃ o kvs, H1 d = some (.frz o (.dT kvs)) ∧ R (Itkt d o kvs) H1)
theorem pi_keysL {tg e : Expr} {td : TE} (he : PE X e td) : PI X tg e (iKeysL td) := by
  refine ⟨fun pins s σ H R I h => ?_⟩
  refine thn (he.run pins s σ H _ I h) fun u s1 ⟨x, H1, I1, rx, d, ex, q⟩ => ?_
  subst ex
  obtain rfl : u = Value.ref d := rx
  rcases q with ⟨kvs, hd, q⟩ | ⟨o, kvs, hd, q⟩
  · obtain ⟨od, I2⟩ := I1.lock hd trivial
    have hd2 : (upd H1 d (.frz od (.dT kvs))) d = some (.frz od (.dT kvs)) := upd_same
    obtain ⟨hs, hgd, hx, es, ep, hdt, hsz, ent⟩ := I2.frzT hd2
    refine iter_keys hs hgd hx hdt (pi_one (tk := s1.toks) I2 _ (turn_keysT _ hdt) ⟨_, Heap.get?_push_size _ rfl, rfl, ?_⟩ (q od))
    rw [hsz] <;> rfl
  · obtain ⟨hs, hgd, hx, es, ep, hdt, hsz, ent⟩ := I1.frzT hd
    refine iter_keys hs hgd hx hdt (pi_one (tk := s1.toks) I1 _ (turn_keysT _ hdt) ⟨_, Heap.get?_push_size _ rfl, rfl, ?_⟩ q)
    rw [hsz] <;> rfl
/-- a dict that changes no more stands among the data -/
theorem Rep.adoptD {S F : Hp} {ρ : List Addr} {H : Hp} {st : Store} (r : Rep G S F ρ H st) {a : Addr} {od : Obj} {us : List (List Key × V)} (ha : H a = some (.frz od (.dT us))) : ∃ F', Rep G S F' ρ H st ∧ Gr F ρ F' ρ ∧ F' a = some (.frz od (.dT us)) := by
  have f1 : (if a = a then H a else F a) = H a := if_pos rfl
  have f2 : ∀ b, b ≠ a → (if b = a then H b else F b) = F b := fun b hb => if_neg hb
  have g : Gr F ρ (fun b => if b = a then H b else F b) ρ := by
    refine ⟨fun b o h => ?_, [], by simp⟩
    show (if b = a then H b else F b) = some o
    by_cases hb : b = a
    · rw [if_pos hb]; exact r.ex b o h
    · rw [f2 b hb]; exact h
  refine ⟨fun b => if b = a then H b else F b, ⟨fun b o h => ?_, fun b o h => ?_, fun b ps h => ?_, r.len, r.nd, fun k ob e => ?_, r.tab⟩, g, ?_⟩
  · obtain ⟨h1, h2, h3, xs, h4⟩ := r.sd b o h
    refine ⟨h1, ?_, h3, xs, h4⟩
    show (if b = a then H b else F b) = none
    by_cases hb : b = a
    · rw [hb, ha, h4] at h1
      cases h1
    · rw [f2 b hb]; exact h2
  · have h : (if b = a then H b else F b) = some o := h
    by_cases hb : b = a
    · rw [if_pos hb] at h; exact h
    · rw [f2 b hb] at h; exact r.ex b o h
  · have h : (if b = a then H b else F b) = some (.tbl ps) := h
    by_cases hb : b = a
    · rw [if_pos hb, hb, ha] at h
      cases h
    · rw [f2 b hb] at h; exact r.nt b ps h
  · obtain ⟨b, h, e1, e2, e3, e4⟩ := r.own k ob e
    refine ⟨b, h, e1, ?_, e3, e4.mono g⟩
    by_cases hb : b = a
    · left
      rw [hb, ha] at e3
      cases e3
      cases ob with
      | lst _ => obtain ⟨_, z, _⟩ := e4; cases z
      | ins _ _ => obtain ⟨_, _, z, _⟩ := e4; cases z
      | gone => trivial
      | tup _ => trivial
      | dct _ => obtain ⟨_, z, _⟩ := e4; cases z
      | dcf _ => trivial
      | exc _ => trivial
    · rcases e2 with e2 | e2
      · exact .inl e2
      · right
        show (if b = a then H b else F b) = none
        rw [f2 b hb]; exact e2
  · show (if a = a then H a else F a) = _
    rw [if_pos rfl, ha]
theorem dtA_ints {F : Hp} : ∀ k : List Int, DtA F (((k.map Sum.inl : List Key)).map kV) (k.map .int)
  | [] => .nil
  | i :: k => .cons (.int i) (dtA_ints k)
theorem jw_keys {F : Hp} {ρ : List Addr} {a : Addr} {od : Obj} {us : List (List Key × V)} {kvs : List (List Int × D)} (ha : F a = some (.frz od (.dT us))) (hr : DcR F us kvs) : JW G F ρ (Itkt a od us) (kvs.map fun p => Val.d (.tuple (p.1.map .int))) := by
  have hl : us.length = kvs.length := Paired.length hr
  refine ⟨fun i H hi e => ?_, fun H e => ?_, fun i H x H' hi e y => ?_⟩
  · rw [List.length_map] at hi
    exact ⟨e _ _ ha, by omega⟩
  · rw [List.length_map]
    exact ⟨e _ _ ha, by omega⟩
  · obtain ⟨e1, k, v, q, h1, h2, h3⟩ := y
    rw [List.length_map] at hi
    obtain ⟨p, hp⟩ : ∃ p, kvs[i]? = some p := ⟨kvs[i], List.getElem?_eq_getElem hi⟩
    have hk : k = p.1.map Sum.inl := by
      have key : ∀ {us : List (List Key × V)} {kvs : List (List Int × D)}, DcR F us kvs → ∀ (i : Nat) (u : List Key × V) (p : List Int × D), us[i]? = some u → kvs[i]? = some p → u.1 = p.1.map Sum.inl := by
        intro us kvs h
        induction h with
        | nil => intro i u p hu; simp at hu
        | cons z t ih =>
          intro i u p hu hp
          cases i with
          | zero =>
            simp at hu hp
            subst hu hp
            exact z.1
          | succ i =>
            simp at hu hp
            exact ih i u p hu hp
      exact key hr i (k, v) p h1 hp
    refine .inr (.inr ⟨q, k.map kV, p.1.map .int, h3, e1, h2, by rw [List.getElem?_map, hp]; rfl, ?_⟩)
    rw [hk]
    exact dtA_ints p.1
theorem qi_dct {E : XK} {tg l : Expr} {f : Y.E} (hl : PE X l (lE G E f)) : PI X tg l (lI G E (iDct f)) := by
  refine PI.imp (pi_keysL hl) fun σ H Q ⟨S, F, ρ, loc, st, rp, l, o⟩ => ⟨S, F, ρ, loc, st, rp, l, out.imp (fun x H1 h1 => ?_) (out.bd (Rl := VR G) o)⟩
  obtain ⟨F1, ρ1, a, st1, g1, r1, v1, o1⟩ := h1
  cases a with
  | d _ => exact o1.elim
  | s _ => exact o1.elim
  | o k =>
    cases q : st1[k]? with
    | none => simp only [q] at o1; exact o1.elim
    | some ob =>
      simp only [q] at o1
      cases ob with
      | ins _ _ => exact o1.elim
      | gone => exact o1.elim
      | tup _ => exact o1.elim
      | lst _ => exact o1.elim
      | dct kvs =>
        obtain ⟨a, us, rfl, hk, hh, hr⟩ := own_dct r1 v1 q
        refine ⟨a, rfl, .inl ⟨us, hh, fun od => ?_⟩⟩
        have r2 := r1.putT q hk hh (o := .frz od (.dT us)) (ob' := .dcf kvs) ⟨od, us, rfl, hr⟩
        obtain ⟨F2, r3, g3, hF⟩ := r2.adoptD (a := a) (od := od) (us := us) upd_same
        exact out.go o1 g3 r3 (jw_keys hF (Paired.mapP hr fun _ _ z => ⟨z.1, z.2.mono g3.f⟩))
      | exc _ => exact o1.elim
      | dcf kvs =>
        obtain ⟨a, od, us, rfl, hk, hh, hr⟩ := own_dcf r1 v1 q
        refine ⟨a, rfl, .inr ⟨od, us, hh, ?_⟩⟩
        obtain ⟨F2, r3, g3, hF⟩ := r1.adoptD hh
        exact out.go o1 g3 r3 (jw_keys hF (Paired.mapP hr fun _ _ z => ⟨z.1, z.2.mono g3.f⟩))
end
end Y
end
section
set_option Elab.async false
set_option linter.all false
namespace Y
open PySem (PyData Str)
/-- x in l, of data of any depth -/
def bInD (neg : Bool) : Val → Val → M Val
  | .d a, .d (.list ds) => if PySem.SeqAt.shaped a = true ∧ PySem.SeqAt.shaped (.list ds) = true then ret (vB (if neg then !(ds.any fun z => PyData.eqv z a) else ds.any fun z => PyData.eqv z a)) else die
  | _, _ => die
end Y
end
section
set_option Elab.async false
set_option Elab.async false
set_option linter.all false
set_option maxRecDepth 100000
set_option maxHeartbeats 2000000
/-! Tin: x in l, of data of any depth. -/
namespace Y
open PySem PySem.Spec PyProof.Rows L2
section
variable {X : Cx} {G : Glo}
theorem units65 {k : Nat} {A : Around} (r : Room k A) : A.units + 65 < cLine := by have := r.un; omega
theorem bInD_snd : OSnd G (rInD G.K) (bInD false) := by
  intro S F ρ H st x y a b Q E rp hx hy o
  unfold bInD at o
  split at o
  · rename_i d ds
    by_cases c : SeqAt.shaped d = true ∧ SeqAt.shaped (.list ds) = true
    · rw [if_pos c] at o
      exact ⟨d, ds, Dp.mono rp.ex (Dt.dp hx), Dp.mono rp.ex (Dt.dp hy), c.1, c.2, out.at (v := vB (ds.any fun z => PyData.eqv z d)) o rp (.bl _)⟩
    · rw [if_neg c] at o
      exact o.elim
  · exact o.elim
theorem bNInD_snd : OSnd G (rNotInD G.K) (bInD true) := by
  intro S F ρ H st x y a b Q E rp hx hy o
  unfold bInD at o
  split at o
  · rename_i d ds
    by_cases c : SeqAt.shaped d = true ∧ SeqAt.shaped (.list ds) = true
    · rw [if_pos c] at o
      exact ⟨d, ds, Dp.mono rp.ex (Dt.dp hx), Dp.mono rp.ex (Dt.dp hy), c.1, c.2, out.at (v := vB (!(ds.any fun z => PyData.eqv z d))) o rp (.bl _)⟩
    · rw [if_neg c] at o
      exact o.elim
  · exact o.elim
end
end Y
end
section
set_option Elab.async false
set_option linter.all false
/-! Ss: texts. -/
namespace Y
open PySem (PyData Str)
open TL (tl spl joinL numL)
/-- the text of some signs -/
def tx (l : List Nat) : Str := ⟨l.toArray⟩
theorem tl_tx (l : List Nat) : tl (tx l) = l := rfl
theorem tx_tl (x : Str) : tx (tl x) = x := TL.mk_tl x
theorem len_tx (l : List Nat) : (tx l).length = l.length := by
  show l.toArray.size = _
  simp
theorem tx_app (l m : List Nat) : tx l ++ tx m = tx (l ++ m) := TL.ext_tl (by rw [TL.tl_append]; rfl)
def strOf : Val → M Str
  | .d (.str x) => ret x
  | _ => die
abbrev vS (l : List Nat) : Val := .d (.str (tx l))
/-- a lone sign -/
def sg : List Nat → Option Nat
  | [c] => some c
  | _ => none
theorem sg_some {l : List Nat} {c : Nat} (h : sg l = some c) : l = [c] := by
  match l, h with
  | [d], h => cases h; rfl
/-- {x} within a text: a text, or a whole number from 0 on -/
def fmt1 : Val → M Val
  | .d (.str y) => if y.length ≤ lim then ret (.d (.str y)) else die
  | .d (.int i) => if 0 ≤ i ∧ i.natAbs.log2 < 1900 then ret (vS (numL i.toNat)) else die
  | _ => die
def eFmt (f : E) : E := fun loc => bd (f loc) fmt1
def eJl : List E → Str → E
  | [], acc => fun _ => ret (.d (.str acc))
  | f :: fs, acc => fun loc => bd (f loc) fun v => bd (strOf v) fun y => if (acc ++ y).length ≤ lim then eJl fs (acc ++ y) loc else die
def toSs : List D → Option (List Str)
  | [] => some []
  | .str i :: r => (toSs r).map (i :: ·)
  | _ :: _ => none
def bJoin (a : Str) : Val → M Val
  | .d (.list ds) => bd (oget (toSs ds)) fun ys => if (ys.map (·.length)).sum + ys.length * a.length ≤ lim then ret (.d (.str (Str.join a ys))) else die
  | .o k => fun st => match st[k]? with
    | some (.lst xs) => (match toDs xs with
      | some ds => (bd (oget (toSs ds)) fun ys => if (ys.map (·.length)).sum + ys.length * a.length ≤ lim then ret (.d (.str (Str.join a ys))) else die) st
      | none => .bad)
    | _ => .bad
  | _ => die
/-- o.join(e) -/
def eJoin (o e : E) : E := fun loc => bd (o loc) fun x => bd (strOf x) fun a => bd (e loc) (bJoin a)
def bSplit (a : Str) : Val → M Val
  | .d (.str b) => if tl b ≠ [] ∧ b.cps.all (· < 256) = true ∧ a.length ≤ lim then ret (.d (.list ((spl (tl b) 0 [] (tl a)).map fun l => .str (tx l)))) else die
  | _ => die
/-- o.split(e) -/
def eSplit (o e : E) : E := fun loc => bd (o loc) fun x => bd (strOf x) fun a => bd (e loc) (bSplit a)
/-- "abcd".index(e) -/
def bIdx (a : Str) : Val → M Val
  | .d (.str b) => bd (oget (sg (tl b))) fun c => if tl a = [97, 98, 99, 100] ∧ 97 ≤ c ∧ c ≤ 100 then ret (vI ((c - 97 : Nat) : Int)) else die
  | _ => die
def eIdx (o e : E) : E := fun loc => bd (o loc) fun x => bd (strOf x) fun a => bd (e loc) (bIdx a)
def bLenT : List Val → M Val
  | [.d (.str x)] => if x.length ≤ lim then ret (vI (x.length : Int)) else die
  | _ => die
def bIxT : Val → Val → M Val
  | .d (.str x), .d (.int i) => if x.length ≤ lim then bd (oget (atI (tl x) i)) fun c => ret (vS [c]) else die
  | _, _ => die
def bSlT : Val → Option Int → Option Int → M Val
  | .d (.str z), lo, hi => if z.length ≤ lim then ret (vS (((tl z).drop (sIx z.length 0 lo)).take (sIx z.length z.length hi - sIx z.length 0 lo))) else die
  | _, _, _ => die
def eSlT (e : E) (lo hi : Oe) : E := fun loc => bd (e loc) fun x => bd (lo loc) fun a => bd (hi loc) fun b => bSlT x a b
def iTxt (e : E) : I := fun loc => bd (e loc) fun v => bd (strOf v) fun x => ret ((tl x).map fun c => vS [c])
def bInT (neg : Bool) : Val → Val → M Val
  | .d (.str x), .d (.str z) => bd (oget (sg (tl x))) fun c => ret (vB (if neg then !decide (c ∈ tl z) else decide (c ∈ tl z)))
  | _, _ => die
def bMulT : Val → Val → M Val
  | .d (.str x), .d (.int k) => if 0 ≤ k ∧ k ≤ 100 ∧ x.length ≤ 100 then ret (vS ((List.replicate k.toNat (tl x)).flatten)) else die
  | _, _ => die
/-- str(n), n from 0 on -/
def bStrI : List Val → M Val
  | [.d (.int i)] => if 0 ≤ i ∧ i.natAbs.log2 < 1900 then ret (vS (numL i.toNat)) else die
  | _ => die
def digs (l : List Nat) : Bool := decide (l ≠ []) && l.all fun c => decide (48 ≤ c) && decide (c ≤ 57)
def valL (l : List Nat) : Nat := l.foldl (fun a c => a * 10 + (c - 48)) 0
/-- int(t), t of figures alone -/
def bIntT : List Val → M Val
  | [.d (.str x)] => if digs (tl x) = true ∧ x.length ≤ 600 then ret (vI (valL (tl x) : Int)) else die
  | _ => die
/-- a comprehension whose parts may refuse -/
def eLcX (it : I) (g : G) (t : Tst) (e : E) (vs : List Nat) : E := fun loc => bd (it loc) fun xs => if xs.length ≤ lim then bd (compL (cBody g t e (wip loc vs)) xs) bLst else die
/-- an own list != [] -/
def bNeE : Val → Val → M Val
  | .o k, .d (.list []) => fun st => match st[k]? with
    | some (.lst xs) => .ok (vB (!xs.isEmpty)) st
    | _ => .bad
  | _, _ => die
/-- a, b, .. = an own list -/
def gLO (n : Nat) (gs : Gs) : G := fun v loc => match v with
  | .o k => fun st => match st[k]? with
    | some (.lst xs) => if xs.length = n then gs xs loc st else .bad
    | _ => .bad
  | _ => die
end Y
end
section
set_option Elab.async false
set_option Elab.async false
set_option linter.all false
set_option maxRecDepth 100000
set_option maxHeartbeats 2000000
/-! Tss: texts. -/
namespace Y
open PySem PySem.Spec PyProof.Rows L2
open TL (tl spl joinL numL)
section
variable {X : Cx} {G : Glo} {E : XK}
theorem qe_txt {x : Str} {l : List Nat} {j pos} (h : x = tx l := by decide +kernel) : PE X (.Constant (.str x) j pos) (lE G E (eC (.str (tx l)))) := by
  subst h
  exact qe_str
theorem qe_gT {x i : Str} {l : List Nat} {pos : Pos} (hm : ∃ t, X.mg x = some (.str i t)) (hg : Gl X x) (h : i = tx l := by decide +kernel) (hd : (x == ("__debug__" : Str)) = false := by decide) : PE X (.Name x pos) (lE G E (eC (.str (tx l)))) := by
  subst h
  exact qe_gS hm hg hd
theorem num_txt {i : Int} (h : 0 ≤ i) : (Str.ofString (toString i) : Str) = tx (numL i.toNat) := by
  obtain ⟨n, rfl⟩ := Int.eq_ofNat_of_zero_le h
  exact TL.ext_tl ((TL.tl_num n).trans rfl)
theorem strOf_out {α β : Type} {Rl : Hp → List Addr → β → α → Prop} {Q : β → Hp → Prop} {S F : Hp} {ρ : List Addr} {st : Store} {v : Val} {f : Str → M α} (o : out G S F ρ Rl Q E (bd (strOf v) f st)) : ∃ x, v = .d (.str x) ∧ out G S F ρ Rl Q E (f x st) := by
  cases v with
  | o _ => exact o.elim
  | s _ => exact o.elim
  | d x =>
    cases x with
    | str y => exact ⟨y, rfl, o⟩
    | none => exact o.elim
    | bool _ => exact o.elim
    | int _ => exact o.elim
    | list _ => exact o.elim
    | tuple _ => exact o.elim
    | dict _ => exact o.elim
/-! ### f-strings -/
theorem qe_fmt {e : Expr} {f : Y.E} {pos : Pos} (h : PE X e (lE G E f)) : PE X (.FormattedValue e (-1) none pos) (lE G E (eFmt f)) := by
  refine PE.imp (pe_fmt h) fun σ H Q ⟨S, F, ρ, loc, st, rp, l, o⟩ => ⟨S, F, ρ, loc, st, rp, l, out.imp (fun x H1 h1 => ?_) (out.bd (Rl := VR G) o)⟩
  obtain ⟨F1, ρ1, a, st1, g1, r1, v1, o1⟩ := h1
  unfold fmt1 at o1
  split at o1
  · rename_i y
    rw [dt_str v1]
    by_cases hl : y.length ≤ lim
    · rw [if_pos hl] at o1
      exact .inl ⟨y, rfl, sz hl, out.at (v := Val.d (.str y)) o1 r1 (.str y)⟩
    · rw [if_neg hl] at o1
      exact o1.elim
  · rename_i i
    rw [dt_int v1]
    by_cases hl : 0 ≤ i ∧ i.natAbs.log2 < 1900
    · rw [if_pos hl] at o1
      refine .inr ⟨i, rfl, by omega, ?_⟩
      have e : (Str.ofString (toString i) : Str) = tx (numL i.toNat) := num_txt hl.1
      show Q (.str (Str.ofString (toString i))) H1
      rw [e]
      exact out.at (v := vS (numL i.toNat)) o1 r1 (.str _)
    · rw [if_neg hl] at o1
      exact o1.elim
  · exact o1.elim
theorem lE_jl {Q : VK} {σ : L2.St} : ∀ (fs : List Y.E) (acc : Str) (H : Hp), lE G E (eJl fs acc) σ H Q → tJs (fs.map (lE G E)) acc σ H fun out H1 => Q (.str out) H1
  | [], acc, H, ⟨S, F, ρ, loc, st, rp, l, o⟩ => out.at (v := Val.d (.str acc)) o rp (.str acc)
  | f :: fs, acc, H, ⟨S, F, ρ, loc, st, rp, l, o⟩ => by
    refine ⟨S, F, ρ, loc, st, rp, l, out.imp (fun x H1 h1 => ?_) (out.bd (Rl := VR G) o)⟩
    obtain ⟨F1, ρ1, a, st1, g1, r1, v1, o1⟩ := h1
    obtain ⟨y, rfl, o2⟩ := strOf_out (f := fun y => if (acc ++ y).length ≤ lim then eJl fs (acc ++ y) loc else die) o1
    rw [dt_str v1]
    by_cases hl : (acc ++ y).length ≤ lim
    · rw [if_pos hl] at o2
      exact ⟨y, rfl, sz hl, lE_jl fs (acc ++ y) H1 ⟨S, F1, ρ1, loc, st1, r1, l.mono g1, o2⟩⟩
    · rw [if_neg hl] at o2
      exact o2.elim
theorem qj_nil : PJ X [] (([] : List Y.E).map (lE G E)) := .nil
theorem qj_cons {e : Expr} {es : List Expr} {f : Y.E} {fs : List Y.E} (h : PE X e (lE G E f)) (r : PJ X es (fs.map (lE G E))) : PJ X (e :: es) ((f :: fs).map (lE G E)) := .cons h r
theorem qe_joined {v1 v2 : Expr} {rest : List Expr} {fs : List Y.E} {pos : Pos} (h : PJ X (v1 :: v2 :: rest) (fs.map (lE G E))) : PE X (.JoinedStr (v1 :: v2 :: rest) pos) (lE G E (eJl fs (tx []))) := PE.imp (pe_joined h) fun σ H Q q => lE_jl fs _ H q
/-! ### methods -/
theorem lE_m1 {r : V → List V → Hp → VK → Prop} {fo fe : Y.E} {b : Str → Val → M Val} (hs : ∀ (S F : Hp) (ρ : List Addr) (H : Hp) (st : Store) (a : Str) (y : V) (w : Val) (Q : VK), Rep G S F ρ H st → VR G F ρ y w → out G S F ρ (VR G) Q E (b a w st) → r (.str a) [y] H Q) :
    ∀ σ H Q, lE G E (fun loc => bd (fo loc) fun x => bd (strOf x) fun a => bd (fe loc) (b a)) σ H Q → tM1 r (lE G E fo) (lE G E fe) σ H Q := fun σ H Q ⟨S, F, ρ, loc, st, rp, l, o⟩ => by
  refine ⟨S, F, ρ, loc, st, rp, l, out.imp (fun x H1 h1 => ?_) (out.bd (Rl := VR G) o)⟩
  obtain ⟨F1, ρ1, a, st1, g1, r1, v1, o1⟩ := h1
  obtain ⟨y, rfl, o1⟩ := strOf_out o1
  rw [dt_str v1]
  refine ⟨⟨y, rfl⟩, S, F1, ρ1, loc, st1, r1, l.mono g1, out.imp (fun w H2 h2 => ?_) (out.bd (Rl := VR G) o1)⟩
  obtain ⟨F2, ρ2, b', st2, g2, r2, v2, o2⟩ := h2
  exact hs S F2 ρ2 H2 st2 y w b' Q r2 v2 o2
theorem toSs_vi {F : Hp} : ∀ {us : List V} {ds : List D} {ns : List Str}, DtA F us ds → toSs ds = some ns → us = ns.map V.str
  | _, [], _, .nil, e => by
    cases e
    rfl
  | _, .str i :: r, ns, .cons h hr, e => by
    have e : (toSs r).map (i :: ·) = some ns := e
    cases q : toSs r with
    | none => rw [q] at e; cases e
    | some ms =>
      rw [q] at e
      cases e
      rw [toSs_vi hr q, dt_str h]
      rfl
  | _, .none :: r, ns, .cons h hr, e => by cases e
  | _, .bool _ :: r, ns, .cons h hr, e => by cases e
  | _, .int _ :: r, ns, .cons h hr, e => by cases e
  | _, .list _ :: r, ns, .cons h hr, e => by cases e
  | _, .tuple _ :: r, ns, .cons h hr, e => by cases e
  | _, .dict _ :: r, ns, .cons h hr, e => by cases e
theorem qe_join {o e : Expr} {fo fe : Y.E} {apos pos : Pos} (ho : PE X o (lE G E fo)) (he : PE X e (lE G E fe)) (hs : starEach [e] X.env = [(false, eval e X.env)] := by rfl) (hbase : attributeBase o "join" X.env (eval o X.env) = eval o X.env := by rfl) (hline : (apos.endLine == pos.line) = true := by rfl) (hK : X.K = G.K := by rfl) :
    PE X (.Call (.Attribute o "join" apos) [e] [] pos) (lE G E (eJoin fo fe)) := by
  refine PE.imp (pe_join ho he hs hbase hline) (lE_m1 (b := bJoin) fun S F ρ H st a y w Q rp hy o => ?_)
  have key : ∀ (p : Addr) (us : List V) (ds : List D), y = .ref p → H p = some (.lst us) → DtA F us ds → out G S F ρ (VR G) Q E ((bd (oget (toSs ds)) fun ys => if (ys.map (·.length)).sum + ys.length * a.length ≤ lim then ret (.d (.str (Str.join a ys))) else die) st) → ∃ (a' : Str) (p : Addr) (ys : List Str), V.str a = .str a' ∧ [y] = [.ref p] ∧ (SqL X.K H p (ys.map V.str) ∨ SqT X.K H p (ys.map V.str)) ∧ (ys.map (·.length)).sum + ys.length * a'.length ≤ 16777216 ∧ Q (.str (Txt.join a' ys)) H := by
    intro p us ds ey hp hd o
    obtain ⟨ys, hq, o⟩ := oget_out o
    have hu := toSs_vi hd hq
    subst hu ey
    by_cases hl : (ys.map (·.length)).sum + ys.length * a.length ≤ lim
    · rw [if_pos hl] at o
      refine ⟨a, p, ys, rfl, rfl, .inl (SqL.of hp), Nat.le_trans hl (by decide), ?_⟩
      rw [TL.join_eq]
      exact out.at (v := Val.d (.str (Str.join a ys))) o rp (.str _)
    · rw [if_neg hl] at o
      exact o.elim
  cases w with
  | s _ => exact o.elim
  | d x =>
    cases x with
    | list ds =>
      obtain ⟨p, us, rfl, ha, hu⟩ := dt_list hy
      exact key p us ds rfl (rp.ex _ _ ha) hu o
    | none => exact o.elim
    | bool _ => exact o.elim
    | int _ => exact o.elim
    | str _ => exact o.elim
    | tuple _ => exact o.elim
    | dict _ => exact o.elim
  | o k =>
    have o : out G S F ρ (VR G) Q E (match st[k]? with
      | some (.lst xs) => (match toDs xs with
        | some ds => (bd (oget (toSs ds)) fun ys => if (ys.map (·.length)).sum + ys.length * a.length ≤ lim then ret (.d (.str (Str.join a ys))) else die) st
        | none => .bad)
      | _ => .bad) := o
    obtain ⟨p, hp, rfl⟩ := hy
    cases q : st[k]? with
    | none => rw [q] at o; exact o.elim
    | some ob =>
      rw [q] at o
      cases ob with
      | ins _ _ => exact o.elim
      | gone => exact o.elim
      | tup _ => exact o.elim
      | dct _ => exact o.elim
      | dcf _ => exact o.elim
      | exc _ => exact o.elim
      | lst xs =>
        dsimp only at o
        cases q2 : toDs xs with
        | none => rw [q2] at o; exact o.elim
        | some ds =>
          rw [q2] at o
          obtain ⟨a', h', e1, e2, e3, us, e4, hu⟩ := rp.own k _ q
          rw [hp] at e1
          cases e1
          subst e4
          exact key p us ds rfl e3 (toDs_rel hu q2) o
theorem dtA_strs {F : Hp} : ∀ ls : List (List Nat), DtA F ((ls.map tx).map V.str) (ls.map fun l => PyData.str (tx l))
  | [] => .nil
  | l :: ls => .cons (.str _) (dtA_strs ls)
theorem spl_len {S : List Nat} : ∀ (l : List Nat) (k : Nat) (acc : List Nat), (spl S k acc l).length ≤ l.length + 1
  | [], k, acc => by rw [TL.spl_nil]; simp
  | c :: r, 0, acc => by
    unfold spl
    split
    · have := spl_len (S := S) r (S.length - 1) []
      simp only [List.length_cons]; omega
    · have := spl_len (S := S) r 0 (acc ++ [c])
      simp only [List.length_cons]; omega
  | c :: r, k + 1, acc => by
    unfold spl
    have := spl_len (S := S) r k acc
    simp only [List.length_cons]; omega
theorem qe_split {o e : Expr} {fo fe : Y.E} {apos pos : Pos} (ho : PE X o (lE G E fo)) (he : PE X e (lE G E fe)) (hs : starEach [e] X.env = [(false, eval e X.env)] := by rfl) (hbase : attributeBase o "split" X.env (eval o X.env) = eval o X.env := by rfl) (hline : (apos.endLine == pos.line) = true := by rfl) :
    PE X (.Call (.Attribute o "split" apos) [e] [] pos) (lE G E (eSplit fo fe)) := by
  refine PE.imp (pe_split ho he hs hbase hline) (lE_m1 (b := bSplit) fun S F ρ H st a y w Q rp hy o => ?_)
  unfold bSplit at o
  split at o
  · rename_i b
    rw [dt_str hy]
    by_cases hl : tl b ≠ [] ∧ b.cps.all (· < 256) = true ∧ a.length ≤ lim
    · rw [if_pos hl] at o
      have e1 : Txt.split a b = (spl (tl b) 0 [] (tl a)).map tx := by
        refine TL.map_tl_inj ?_
        rw [TL.split_spl a b hl.1 (TL.kind_ok hl.2.1), List.map_map]
        exact (List.map_id _).symm
      refine ⟨a, b, rfl, rfl, ?_, ?_, fun p hp => ?_⟩
      · have := TL.len_tl b
        cases q : tl b with
        | nil => exact absurd q hl.1
        | cons c r => rw [q] at this; rw [this]; simp
      · have : a.length + 2 ≤ 100000 + 2 := Nat.add_le_add_right hl.2.2 2
        rw [sizeLine_eq]; omega
      · rw [e1]
        exact out_lst rp (dtA_strs _) o p hp
    · rw [if_neg hl] at o
      exact o.elim
  · exact o.elim
theorem idx_abcd : ∀ c : Nat, 97 ≤ c → c ≤ 100 → ∃ r, Builtin.Str.occurrences (tx [97, 98, 99, 100]) (tx [c]) 0 (tx [97, 98, 99, 100]).length 1 = (c - 97) :: r := by
  intro c h1 h2
  have : c = 97 ∨ c = 98 ∨ c = 99 ∨ c = 100 := by omega
  rcases this with rfl | rfl | rfl | rfl
  · exact ⟨[], by decide +kernel⟩
  · exact ⟨[], by decide +kernel⟩
  · exact ⟨[], by decide +kernel⟩
  · exact ⟨[], by decide +kernel⟩
theorem qe_idx {o e : Expr} {fo fe : Y.E} {apos pos : Pos} (ho : PE X o (lE G E fo)) (he : PE X e (lE G E fe)) (hs : starEach [e] X.env = [(false, eval e X.env)] := by rfl) (hbase : attributeBase o "index" X.env (eval o X.env) = eval o X.env := by rfl) (hline : (apos.endLine == pos.line) = true := by rfl) :
    PE X (.Call (.Attribute o "index" apos) [e] [] pos) (lE G E (eIdx fo fe)) := by
  refine PE.imp (pe_m1 PySem.F.slot_str_index PySem.F.type_str_index mt_sindex ho he hs hbase hline) (lE_m1 (b := bIdx) fun S F ρ H st a y w Q rp hy o => ?_)
  unfold bIdx at o
  split at o
  · rename_i b
    rw [dt_str hy]
    obtain ⟨c, hc, o2⟩ := oget_out o
    have hc := sg_some hc
    by_cases hl : tl a = [97, 98, 99, 100] ∧ 97 ≤ c ∧ c ≤ 100
    · rw [if_pos hl] at o2
      have ea : a = tx [97, 98, 99, 100] := TL.ext_tl hl.1
      have eb : b = tx [c] := TL.ext_tl hc
      obtain ⟨r, hr⟩ := idx_abcd c hl.2.1 hl.2.2
      subst ea eb
      exact ⟨_, _, c - 97, r, rfl, rfl, hr, out.at (v := vI ((c - 97 : Nat) : Int)) o2 rp (.int _)⟩
    · rw [if_neg hl] at o2
      exact o2.elim
  · exact o.elim
/-! ### built-ins, operators -/
theorem bLenT_snd : BSnd G (fun xs H Q => ∃ z, xs = [.str z] ∧ z.length ≤ sizeLine ∧ Q (.int z.length) H) bLenT := by
  intro S F ρ H st xs as Q E rp hx o
  unfold bLenT at o
  split at o
  · rename_i x
    cases hx with
    | cons h hr =>
      cases hr
      rw [dt_str h]
      by_cases hl : x.length ≤ lim
      · rw [if_pos hl] at o
        exact ⟨x, rfl, sz hl, out.at (v := vI (x.length : Int)) o rp (.int _)⟩
      · rw [if_neg hl] at o
        exact o.elim
  · exact o.elim
theorem bStrI_snd : BSnd G (fun xs H Q => ∃ i, xs = [.int i] ∧ i.natAbs.log2 < 1920 ∧ Q (.str (toString i)) H) bStrI := by
  intro S F ρ H st xs as Q E rp hx o
  unfold bStrI at o
  split at o
  · rename_i i
    cases hx with
    | cons h hr =>
      cases hr
      rw [dt_int h]
      by_cases hl : 0 ≤ i ∧ i.natAbs.log2 < 1900
      · rw [if_pos hl] at o
        refine ⟨i, rfl, by omega, ?_⟩
        have e : (Str.ofString (toString i) : Str) = tx (numL i.toNat) := num_txt hl.1
        show Q (.str (Str.ofString (toString i))) H
        rw [e]
        exact out.at (v := vS (numL i.toNat)) o rp (.str _)
      · rw [if_neg hl] at o
        exact o.elim
  · exact o.elim
theorem bIntT_snd : BSnd G (fun xs H Q => ∃ a n, xs = [.str a] ∧ PySem.intText? a = some n ∧ a.length ≤ 640 ∧ Q (.int n) H) bIntT := by
  intro S F ρ H st xs as Q E rp hx o
  unfold bIntT at o
  split at o
  · rename_i x
    cases hx with
    | cons h hr =>
      cases hr
      rw [dt_str h]
      by_cases hl : digs (tl x) = true ∧ x.length ≤ 600
      · rw [if_pos hl] at o
        obtain ⟨hd, hz⟩ := hl
        unfold digs at hd
        rw [Bool.and_eq_true] at hd
        refine ⟨x, _, rfl, PySem.intText_digits (fun c hc => ?_) (by simpa using hd.1) (by omega), by omega, out.at (v := vI (valL (tl x) : Int)) o rp (.int _)⟩
        have := List.all_eq_true.mp hd.2 c hc
        simpa using this
      · rw [if_neg hl] at o
        exact o.elim
  · exact o.elim
theorem bIxT_snd : OSnd G (rIx G.K) bIxT := by
  intro S F ρ H st x y a b Q E rp hx hy o
  unfold bIxT at o
  split at o
  · rename_i z i
    rw [dt_str hx, dt_int hy]
    by_cases hl : z.length ≤ lim
    · rw [if_pos hl] at o
      obtain ⟨c, hq, o⟩ := oget_out o
      refine .inr (.inr ⟨z, i, c, rfl, rfl, sz hl, ?_, out.at (v := vS [c]) o rp (.str _)⟩)
      unfold Y.atI at hq
      unfold L2.atI
      rw [← ixN_eq]
      exact hq
    · rw [if_neg hl] at o
      exact o.elim
  · exact o.elim
theorem bSlT_snd : LSnd G rSlS bSlT := by
  intro S F ρ H st x a lo hi Q E rp hx o
  unfold bSlT at o
  split at o
  · rename_i z
    rw [dt_str hx]
    by_cases hl : z.length ≤ lim
    · rw [if_pos hl] at o
      exact ⟨z, rfl, sz hl, out.at (v := Val.d (.str (cutS z lo hi))) o rp (.str _)⟩
    · rw [if_neg hl] at o
      exact o.elim
  · exact o.elim
theorem qe_sliceT {e : Expr} {lo hi : Option Expr} {f : Y.E} {fl fh : Oe} {p2 pos : Pos} (he : PE X e (lE G E f)) (hl : PO X lo (lO G E fl)) (hu : PO X hi (lO G E fh)) : PE X (.Subscript e (.Slice lo hi none p2) pos) (lE G E (eSlT f fl fh)) := by
  refine PE.imp (pe_slice sl_str he hl hu) fun σ H Q ⟨S, F, ρ, loc, st, rp, l, o⟩ => ⟨S, F, ρ, loc, st, rp, l, out.imp (fun x H1 h1 => ?_) (out.bd (Rl := VR G) o)⟩
  obtain ⟨F1, ρ1, a, st1, g1, r1, v1, o1⟩ := h1
  refine ⟨S, F1, ρ1, loc, st1, r1, l.mono g1, out.imp (fun y H2 h2 => ?_) (out.bd (Rl := IR) o1)⟩
  obtain ⟨F2, ρ2, b, st2, g2, r2, v2, o2⟩ := h2
  refine ⟨S, F2, ρ2, loc, st2, r2, l.mono (g1.trans g2), out.imp (fun z H3 h3 => ?_) (out.bd (Rl := IR) o2)⟩
  obtain ⟨F3, ρ3, c, st3, g3, r3, v3, o3⟩ := h3
  cases v2
  cases v3
  exact bSlT_snd S F3 ρ3 H3 st3 x a _ _ Q E r3 (v1.mono (g2.trans g3)) o3
theorem jw_str {F : Hp} {ρ : List Addr} (z : Str) : JW G F ρ (Its z) ((tl z).map fun c => vS [c]) := by
  have hl : ((tl z).map fun c => vS [c]).length = z.cps.size := by simp [tl]
  have w := walk_str (z := z)
  refine ⟨fun i H hi _ => w.goes i H (by omega) trivial, fun H _ => ?_, fun i H x H' hi _ y => ?_⟩
  · rw [hl]; exact w.stops H trivial
  · obtain ⟨e, c, hc, rfl⟩ := w.yields i H x H' (by omega) trivial y
    refine .inl ⟨e, vS [c], ?_, .str _⟩
    rw [List.getElem?_map, show (tl z)[i]? = some c from by rw [Array.getElem?_toList]; exact hc]
    rfl
theorem qi_txt {tg e : Expr} {f : Y.E} (he : PE X e (lE G E f)) : PI X tg e (lI G E (iTxt f)) := by
  refine PI.imp (pi_str he) fun σ H Q ⟨S, F, ρ, loc, st, rp, l, o⟩ => ⟨S, F, ρ, loc, st, rp, l, out.imp (fun x H1 h1 => ?_) (out.bd (Rl := VR G) o)⟩
  obtain ⟨F1, ρ1, a, st1, g1, r1, v1, o1⟩ := h1
  obtain ⟨z, rfl, o1⟩ := strOf_out o1
  rw [dt_str v1]
  exact ⟨z, rfl, out.at (v := (tl z).map fun c => vS [c]) o1 r1 (jw_str z)⟩
theorem bInT_snd : OSnd G (fun x y H Q => ∃ (c : Nat) (z : Str), x = .str ⟨#[c]⟩ ∧ y = .str z ∧ Q (.bl (decide (c ∈ z.cps.toList))) H) (bInT false) := by
  intro S F ρ H st x y a b Q E rp hx hy o
  unfold bInT at o
  split at o
  · rename_i u z
    rw [dt_str hx, dt_str hy]
    obtain ⟨c, hc, o2⟩ := oget_out o
    have e : u = tx [c] := TL.ext_tl (sg_some hc)
    exact ⟨c, z, by rw [e]; rfl, rfl, out.at (v := vB (decide (c ∈ tl z))) o2 rp (.bl _)⟩
  · exact o.elim
theorem bNInT_snd : OSnd G (fun x y H Q => ∃ (c : Nat) (z : Str), x = .str ⟨#[c]⟩ ∧ y = .str z ∧ Q (.bl (!decide (c ∈ z.cps.toList))) H) (bInT true) := by
  intro S F ρ H st x y a b Q E rp hx hy o
  unfold bInT at o
  split at o
  · rename_i u z
    rw [dt_str hx, dt_str hy]
    obtain ⟨c, hc, o2⟩ := oget_out o
    have e : u = tx [c] := TL.ext_tl (sg_some hc)
    exact ⟨c, z, by rw [e]; rfl, rfl, out.at (v := vB (!decide (c ∈ tl z))) o2 rp (.bl _)⟩
  · exact o.elim
theorem fold_rep (a : Array Nat) : ∀ (n : Nat) (acc : Array Nat), ((List.replicate n a).foldl (· ++ ·) acc).toList = acc.toList ++ (List.replicate n a.toList).flatten
  | 0, acc => by simp
  | n + 1, acc => by
    rw [List.replicate_succ, List.foldl_cons, fold_rep a n, Array.toList_append, List.replicate_succ, List.flatten_cons, List.append_assoc]
def rMulT : R2 := fun x y H Q => ∃ (z : Str) (k : Int), x = .str z ∧ y = .int k ∧ 0 ≤ k ∧ k ≤ 100 ∧ z.length ≤ 100 ∧ Q (.str (tx ((List.replicate k.toNat (tl z)).flatten))) H
theorem op_mulT : OpR X (binaryOp .Mult) rMulT := by
  intro pins s σ H x y v u Q I rx ry h
  obtain ⟨z, k, rfl, rfl, h0, h1, hz, q⟩ := h
  obtain ⟨t, rfl⟩ := rx
  obtain ⟨t', rfl⟩ := ry
  have hm : z.length * k.toNat ≤ 100 * 100 := Nat.mul_le_mul hz (by omega)
  refine PySem.P.mul_str (by rw [decide_eq_false (by omega), decide_eq_false (by omega)]; rfl) (fun hk _ hgt => ?_) (fun _ _ => ?_) ?_
  · have : (100 : Int) ≤ (2 ^ 63 - 1) / k := by
      rw [Int.le_ediv_iff_mul_le (by omega)]
      omega
    omega
  · unfold Builtin.Str.tooLong
    rw [decide_eq_false]
    have : sizeLine = 16777216 := sizeLine_eq
    omega
  · by_cases hk : k < 1
    · rw [if_pos hk]
      have ek : k.toNat = 0 := by omega
      rw [ek] at q
      exact ⟨by decide, .str Str.empty, H, I.tok _, ⟨_, rfl⟩, q⟩
    · rw [if_neg hk]
      by_cases hc : (k == 1 || z.length == 0) = true
      · rw [if_pos hc]
        have e : tx ((List.replicate k.toNat (tl z)).flatten) = z := by
          rcases Bool.or_eq_true _ _ ▸ hc with h | h
          · have : k = 1 := by simpa using h
            subst this
            refine TL.ext_tl ?_
            show (List.replicate 1 (tl z)).flatten = tl z
            simp
          · have h : z.length = 0 := by simpa using h
            have h : tl z = [] := (TL.len0_tl z).mp h
            refine TL.ext_tl ?_
            show (List.replicate k.toNat (tl z)).flatten = tl z
            rw [h]; simp
        rw [e] at q
        exact ⟨.str z, H, I, ⟨t, rfl⟩, q⟩
      · rw [if_neg hc]
        have e : (⟨(List.replicate k.toNat z.cps).foldl (· ++ ·) #[]⟩ : Str) = tx ((List.replicate k.toNat (tl z)).flatten) := by
          refine TL.ext_tl ?_
          show ((List.replicate k.toNat z.cps).foldl (· ++ ·) #[]).toList = _
          rw [fold_rep]
          rfl
        refine ⟨?_, ?_⟩
        · rw [e, len_tx, List.length_flatten, List.map_replicate, List.sum_replicate_nat, ← TL.len_tl, sizeLine_eq]
          have := Nat.mul_comm z.length k.toNat
          omega
        · rw [e]
          exact ⟨.str _, H, I.tok _, ⟨_, rfl⟩, q⟩
theorem bMulT_snd : OSnd G rMulT bMulT := by
  intro S F ρ H st x y a b Q E rp hx hy o
  unfold bMulT at o
  split at o
  · rename_i z k
    rw [dt_str hx, dt_int hy]
    by_cases hl : 0 ≤ k ∧ k ≤ 100 ∧ z.length ≤ 100
    · rw [if_pos hl] at o
      exact ⟨z, k, rfl, rfl, hl.1, hl.2.1, hl.2.2, out.at (v := vS ((List.replicate k.toNat (tl z)).flatten)) o rp (.str _)⟩
    · rw [if_neg hl] at o
      exact o.elim
  · exact o.elim
end
end Y
end
section
set_option Elab.async false
set_option Elab.async false
set_option linter.all false
set_option maxRecDepth 100000
set_option maxHeartbeats 2000000
/-! Tlx: a list comprehension whose parts may let an exception out. -/
namespace Y
open PySem PySem.Spec PyProof.Rows L2
section
variable {M : Model} {A : Around} {Ex : Value → Shared → Prop} {s : Shared} {env : Env}
abbrev cEnv (scope : Scope) (env cenv : Env) : Env := { cenv with scope := relabel scope env }
/-- the ends of a comprehension's block -/
def cEnds (M : Model) (A : Around) (Ex : Value → Shared → Prop) (Q : Value → Shared → Prop) (acc : Value) (ce : Env) (r : Result) (s' : Shared) : Prop :=
  ∃ m, s'.heap.Ns ce.locals m ∧ ∀ h', Heap.SameBut ce.locals s'.heap h' → match r with
    | .ok _ => Q acc { s' with heap := h' }
    | .error u => wpAny M A (passOn "comprehension.variables-let-go" u ce : Sem Value) (fun _ _ => False) Ex { s' with heap := h' }
theorem comp_ends {e : Expr} {scope : Scope} {pos : Pos} {mk src : Sem Value} {g : Comprehension} {gs : List Comprehension} {cl : List (Str × Addr)} {Q : Value → Shared → Prop}
    (h1 : clausesOf e = g :: gs) (h2 : ∀ x, foldedSetIterable g.iter env x = pure x) (h3 : closureFor scope env = pure cl) (h4 : scope.kind = .function) (h5 : ∀ x ∈ scope.names, x.2 = .local → scope.names.lookup x.1 = some .local)
    (hrun : wpAny M A src (fun x sa => wpAny M A (pyIter x) (fun it sb => wpAny M A mk (fun acc sc => wpAny M A (newFunctionEnv scope env.globals cl [] env.qual none .none (some env)) (fun cenv sd =>
      codeAny M A (.compStart e 0 it acc (cEnv scope env cenv)) (cEnds M A Ex Q acc (cEnv scope env cenv)) sd) Ex sc) Ex sb) Ex sa) Ex s) :
    wpAny M A (comprehension e scope env pos mk false src none) Q Ex s := by
  unfold comprehension
  rw [h3, h1]
  refine wpAny_bind (wpAny_mono hrun (fun x sa qa => ?_) fun _ _ z => z)
  refine wpAny_bind (wpAny_standAt (wpAny_bind (wpAny_of_eq (h2 x) (wpAny_bind (wpAny_holding (wpAny_mono qa (fun it sb qb => ?_) fun _ _ z => z))))))
  refine wpAny_standIf (wpAny_bind (wpAny_mono qb (fun acc sc qc => ?_) fun _ _ z => z))
  refine wpAny_bind (wpAny_pure (wpAny_bind (wpAny_mono qc (fun cenv sd qd => ?_) fun _ _ z => z)))
  dsimp only
  have own : ∀ x ∈ (scope.names.filter fun x => (x.2 == .local || x.2 == .cell) && x.1 != (".0" : Str)).reverse, x.2 = .local → (cEnv scope env cenv).kindOf x.1 = some .local :=
    fun x hx hl => lookup_relabel_local (h5 x (List.mem_filter.mp (List.mem_reverse.mp hx)).1 hl)
  refine wpAny_holding (wpAny_bind (wpAny_attempt (wpAny_holding (wpAny_run (codeAny_mono qd fun r se qe => ?_)))))
  obtain ⟨m, hn, q⟩ := qe
  have go := @wpAny_comp_letGo
  cases r with
  | ok f => exact wpAny_bind (wpAny_holding (wpAny_comp_letGo (cenv := cEnv scope env cenv) h4 _ se m own hn fun h' _ _ sb => wpAny_pure (q h' sb)))
  | error u => exact wpAny_bind (wpAny_holding (wpAny_comp_letGo (cenv := cEnv scope env cenv) h4 _ se m own hn fun h' _ _ sb => wpAny_mono (q h' sb) (fun _ _ z => z.elim) fun _ _ z => z))
theorem note_same {u : Value} {e1 e2 : Env} (h : e1.frame = e2.frame) : noteFrame u e1 = noteFrame u e2 := by
  unfold noteFrame PySem.frameOf
  rw [h]
end
section
variable {X : Cx} {pins : List (Addr × Obj)} {σ : L2.St} {H : Hp} {s s' : Shared} {E : XK}
/-- a call's exception, in flight; the state without it -/
theorem in_air (I : Inv X pins σ H s) {u : Value} (c : L2N.CX X.prog X.w X.stack H s E u s') : ∃ (a : Addr) (B : Heap) (sI : Shared) (H' : Hp) (cls : Value) (d : Option Addr),
    u = .ref a ∧ Inv X pins σ H' sI ∧ (∀ b o, sI.heap.get? b = some o → b ∉ frs X.stack → B.get? b = some o) ∧ sI.heap.UpToSlots s'.heap ∧ HandSPX.FlyingZ B X.stack a (L2N.Zn cls d) s'.heap ∧ H' a = none ∧ s'.os = sI.os ∧ AllBare s'.gens ∧ E cls d H' := by
  obtain ⟨a, B, H', cls, d, rfl, fl, hok, ub, na, os, ag, hE⟩ := c
  obtain ⟨R, t1, t2⟩ := L2.restrict s'.heap fun b => (B.get? b).isSome || decide (b ∈ frs X.stack)
  have hB : ∀ b o, B.get? b = some o → R.get? b = some o := fun b o e => (t1 b (by simp [e])).trans (fl.1 b o e)
  have hF : ∀ b, b ∈ frs X.stack → R.get? b = s'.heap.get? b := fun b hb => t1 b (by simp [hb])
  have un : ∀ b o, R.get? b = some o → s'.heap.get? b = some o ∧ ((B.get? b).isSome = true ∨ b ∈ frs X.stack) := fun b o e => by
    by_cases q : ((B.get? b).isSome || decide (b ∈ frs X.stack)) = true
    · rw [t1 b q] at e
      exact ⟨e, by simpa [Bool.or_eq_true] using q⟩
    · rw [t2 b (by simpa using q)] at e
      cases e
  refine ⟨a, B, { s with heap := R, gens := s'.gens, drawn := s'.drawn, toks := s'.toks }, H', cls, d, rfl, ?_, fun b o e hb => ?_, Heap.UpToSlots.of_keeps fun b o e => (un b o e).1, fl, na, os, ag, hE⟩
  · refine I.call (ch := []) ⟨fun b o e n hb _ => hB b o (ub.keep b o e n hb), fun b o e n hb _ => ?_, fun b o e n _ => ub.free b o e n, fun b o e _ => ?_, ub.tups, ub.frzs, ub.tbls⟩ (hok.kept hB) ag (fun _ z => nomatch z)
    · obtain ⟨sl, q⟩ := ub.slot b o e hb
      exact ⟨sl, (hF b hb).trans q⟩
    · rcases Classical.em (b ∈ frs X.stack) with hb | hb
      · obtain ⟨sl, q⟩ := ub.slot b o e hb
        exact ⟨_, (hF b hb).trans q⟩
      · obtain ⟨o', q⟩ := ub.there b o e hb
        exact ⟨o', hB b o' q⟩
  · obtain ⟨e', z⟩ := un b o e
    rcases z with z | z
    · obtain ⟨o', q⟩ := Option.isSome_iff_exists.mp z
      have w := fl.1 b o' q
      rw [e'] at w
      cases w
      exact q
    · exact absurd z hb
end
section
variable {X : Cx} {G : Glo} {E : XK}
/-- the block, what it lets out goes to xe -/
abbrev blkE (X : Cx) (s : Shared) (H : Hp) (scope : Scope) (ce : Env) (fp : List Addr) (xe : Value → Shared → Prop) : Cx := (X.blk s H scope ce fp).tr [] xe
theorem traced_but {h h' base base' : Heap} {e C : Addr} {Z : Obj → Prop} {fl : Value} (t : HandSPX.TracedZ h base e Z fl) (hs : Heap.SameBut C h h') (hC : ∃ o, base.get? C = some o) (he : base.get? e = none) (hb : ∀ b, base.get? b = none → base'.get? b = none) : HandSPX.TracedZ h' base' e Z fl := by
  obtain ⟨oe, vs, T, oT, ts, k1, k2, k3, k4, k5, k6, k7, k8, k9⟩ := t
  obtain ⟨o, hC⟩ := hC
  have n1 : e ≠ C := fun z => by rw [z, hC] at he; cases he
  have n2 : T ≠ C := fun z => by rw [z, hC] at k5; cases k5
  exact ⟨oe, vs, T, oT, ts, (hs.2 e n1).trans k1, k2, k3, k4, hb T k5, k6, (hs.2 T n2).trans k7, k8, k9⟩
theorem frames_but {h h' base base' : Heap} (hb : ∀ b, base.get? b = none → base'.get? b = none) : ∀ {l : List Env}, (∀ b ∈ frs l, ∀ o, h.get? b = some o → h'.get? b = some o) → h.FunFrames base l → h'.FunFrames base' l
  | [], _, _ => trivial
  | env :: l, hk, ⟨k1, ⟨L, o, k2, k3, k4, k5⟩, k6⟩ => by
    have hm : L ∈ frs (env :: l) := by
      unfold frs
      rw [List.filterMap_cons, k2]
      exact List.mem_cons_self
    refine ⟨k1, ⟨L, o, k2, hb L k3, hk L hm o k4, k5⟩, frames_but hb (fun b hm' => hk b ?_) k6⟩
    unfold frs at hm' ⊢
    rw [List.filterMap_cons, k2]
    exact List.mem_cons_of_mem _ hm'
/-- [elt for target in iter ..], as lc_core has it, but an exception of the block leaves -/
theorem lcX {pins : List (Addr × Obj)} {s : Shared} {σ : L2.St} {H : Hp} {Q : VK} {elt tg iter : Expr} {ifs : List Expr} {scope : Scope} {own : List (Str × Nat)} {pos pos' : Pos} {wi : TI} {g : TG} {tt : TT} {te : TE}
    (hc : X.calm = true) (hN : X.N.Nodup) (hst : X.stack = X.env :: X.outer) (hfr : X.env.frame = some X.env.locals) (tk : L2N.Takes X (fun cls d _ H => E cls d H)) (I : Inv X pins σ H s) (hi : PI X tg iter wi) (ok : BlkOk X.N X.env.scope scope own)
    (hg : ∀ (s : Shared) (H : Hp) (C : Addr) (cl : List (Str × Addr)) (fp : List Addr) (xe : Value → Shared → Prop), PG (blkE X s H scope (compEnvC scope cl C X.env) fp xe) tg g)
    (ht : ∀ (s : Shared) (H : Hp) (C : Addr) (cl : List (Str × Addr)) (fp : List Addr) (xe : Value → Shared → Prop), PTs (blkE X s H scope (compEnvC scope cl C X.env) fp xe) ifs tt)
    (he : ∀ (s : Shared) (H : Hp) (C : Addr) (cl : List (Str × Addr)) (fp : List Addr) (xe : Value → Shared → Prop), (∀ σ, PassesAt (L2N.CX X.prog X.w) (blkE X s H scope (compEnvC scope cl C X.env) fp xe) σ E) → PE (blkE X s H scope (compEnvC scope cl C X.env) fp xe) elt te)
    (hs : ∀ x, foldedSetIterable iter X.env x = pure x) (h : tLc wi g tt te (own.map (·.2)) σ H Q) :
    wpAny (model X.prog X.w) X.A (comprehension (.ListComp elt [⟨tg, iter, ifs, 0⟩] scope pos) scope X.env pos' (newList []) false (eval iter X.env) none) (EP X pins σ Q) X.xe s := by
  have hfree : ∀ y ∈ scope.names, y.2 = .free → ∃ c, X.env.cells.lookup y.1 = some c := fun y hy e => (ok.free y hy e).elim (fun k => I.ok.has _ (.inl k)) fun k => I.ok.has _ (.inr k)
  refine comp_ends rfl hs (closure_ok hfree) ok.kind (fun y hy e => (ok.uniq y hy).trans (congrArg some e)) (thn (hi.run pins s σ H _ I h) fun xv s1 hx => thn hx fun itv s2 q2 => ?_)
  obtain ⟨it, fp, tn, J, H2, rfl, I2, T, st2, f2, q⟩ := q2
  refine wpAny_newObj_type (newEnv_comp ?_) (by show 0 ≤ sizeLine; decide)
  obtain ⟨D, hD⟩ : ∃ D, D = s2.heap.objs.size := ⟨_, rfl⟩
  rw [← hD]
  have hDn : H2 D = none := I2.hok.fresh (Nat.le_of_eq hD.symm)
  obtain ⟨W, ⟨m0, w0⟩, turn⟩ := q D hDn
  obtain ⟨s3, hs3⟩ : ∃ s3 : Shared, s3 = { s2 with heap := s2.heap.push { cls := .type "list", data := .seq ([] : List Value).toArray } } := ⟨_, rfl⟩
  have h3 : s3.heap = s2.heap.push { cls := .type "list", data := .seq ([] : List Value).toArray } := by rw [hs3]
  have I3 : Inv X pins σ (upd H2 D (.lst [])) s3 := by
    rw [hs3]
    refine I2.laid (t' := s2.toks) (fun b o e => Heap.get?_push_of_some _ e) (Nat.le_of_eq hD.symm) ⟨Nat.zero_le _, [], 0, .nil, ?_⟩
    rw [hD]
    exact Heap.get?_push_size _ rfl
  have small : ∀ b ∈ fp, b < s2.heap.objs.size := fun b hb => (T.obj _ _ st2 b hb).elim fun o e => Heap.lt_size e.1
  have f3 : ∀ b ∈ fp, FpOk X pins (upd H2 D (.lst [])) b ∧ b < s3.heap.objs.size := fun b hb => by
    have lt := small b hb
    refine ⟨⟨?_, (f2 b hb).2⟩, by rw [h3, Heap.size_push]; exact Nat.lt_succ_of_lt lt⟩
    rw [upd_ne (by rw [hD]; exact Nat.ne_of_lt lt)]
    exact (f2 b hb).1
  have st3 : tn 0 s3.heap := T.keep _ _ _ st2 fun b _ o e => by rw [h3]; exact Heap.get?_push_of_some _ e
  obtain ⟨C, hCe⟩ : ∃ C, C = s3.heap.objs.size := ⟨_, rfl⟩
  obtain ⟨cl, hcl⟩ : ∃ cl, cl = cellsFrom (C + 1) scope.names (cloFrom X.env.cells scope.names []) := ⟨_, rfl⟩
  obtain ⟨ce, hce⟩ : ∃ ce, ce = compEnvC scope cl C X.env := ⟨_, rfl⟩
  have I40 := block_start I3 ok hN f3
  rw [← hCe, ← hcl, ← hce] at I40
  have cL : ce.locals = C := by rw [hce]; rfl
  have cF : ce.frame = X.env.frame := by rw [hce]; rfl
  have start : codeAny (model X.prog X.w) X.A (.compStart (.ListComp elt [⟨tg, iter, ifs, 0⟩] scope pos) 0 (.ref it) (.ref D) ce) (cEnds (model X.prog X.w) X.A X.xe (EP X pins σ Q) (.ref D) ce) { s3 with heap := pushCells (s3.heap.push { cls := .type "dict", data := .dict #[] }) scope.names } := ?_
  · rw [hce, hcl, hCe, hs3] at start
    exact start
  obtain ⟨s4, hs4⟩ : ∃ s4 : Shared, s4 = { s3 with heap := pushCells (s3.heap.push { cls := .type "dict", data := .dict #[] }) scope.names } := ⟨_, rfl⟩
  rw [← hs4] at I40
  obtain ⟨H3, hH3⟩ : ∃ H3, H3 = upd H2 D (.lst []) := ⟨_, rfl⟩
  rw [← hH3] at I40 I3 f3 w0
  rw [← hs4]
  -- what leaves
  obtain ⟨xe, hxe⟩ : ∃ xe : Value → Shared → Prop, xe = notedBy (model X.prog X.w) X.A ce fun u s' => cEnds (model X.prog X.w) X.A X.xe (EP X pins σ Q) (.ref D) ce (.error u) s' := ⟨_, rfl⟩
  have I4 : Inv (blkE X s3 H3 scope ce fp xe) [] (wipe σ (own.map (·.2))) H3 s4 := I40.toTry xe
  have hfm : X.A.frames = some (X.env :: X.outer) := by rw [I.ok.frames, hst]
  have nCf : C ∉ frs X.stack := fun hm => by
    obtain ⟨_, o, e, _⟩ := I3.stack.mem hm
    have lt := Heap.lt_size e
    rw [hCe] at lt
    exact absurd lt (Nat.lt_irrefl _)
  have back : ∀ {s' : Shared} {H' : Hp}, s'.os = s3.os → Un (frs X.stack) fp H3 H' s3.heap s'.heap → HOk X.prog X.w H' s'.heap → AllBare s'.gens → Inv X pins σ H' s' := fun {s' H'} a b c d =>
    I3.call' (ch := fp) a b c d fun b hb => ⟨(f3 b hb).1.2.2.2.1, (f3 b hb).1.2.1, (f3 b hb).1.2.2.2.2.1, (f3 b hb).1.2.2.2.2.2⟩
  have pas : ∀ σ', PassesAt (L2N.CX X.prog X.w) (blkE X s3 H3 scope ce fp xe) σ' E := fun σ' pinsZ HZ sZ u s' IZ c => by
    obtain ⟨a, B, sI, H', cls, d, rfl, I', nb, up, fl, na, os, ag, hE⟩ := in_air IZ c
    have fl : HandSPX.FlyingZ B X.stack a (L2N.Zn cls d) s'.heap := fl
    have nb : ∀ b o, sI.heap.get? b = some o → b ∉ frs X.stack → B.get? b = some o := nb
    show xe (.ref a) s'
    rw [hxe]
    show wpAny _ X.A (noteFrame (.ref a) ce) _ _ s'
    rw [note_same cF]
    rw [hst] at fl
    refine PXN.looks_onZ L2N.Zn.steady hfm hfr fl fun h1 held up1 => ?_
    rw [← hst] at held
    obtain ⟨m, hn, _⟩ := I'.loc
    have hn : sI.heap.Ns C m := by rw [← cL]; exact hn
    obtain ⟨oC, hoC⟩ : ∃ o, sI.heap.get? C = some o := by
      obtain ⟨o, _, _, e, _⟩ := hn
      exact ⟨o, e⟩
    have bC : B.get? C = some oC := nb C oC hoC nCf
    have hC1 : h1.get? C = some oC := held.1 C oC bC
    have fC : H' C = none := by
      have z : H' ce.locals = none := I'.free
      rw [cL] at z
      exact z
    refine ⟨m, ?_, fun h' sb => ?_⟩
    · rw [cL]
      exact hn.at' fun o e => by rw [hoC] at e; cases e; exact hC1
    · rw [cL] at sb
      have sb : Heap.SameBut C h1 h' := sb
      obtain ⟨B', b1, b2⟩ := L2.restrict B fun b => !decide (b = C)
      obtain ⟨Rs, r1, r2⟩ := L2.restrict sI.heap fun b => !decide (b = C)
      have bB : ∀ b o, B'.get? b = some o → b ≠ C ∧ B.get? b = some o := fun b o e => by
        by_cases z : b = C
        · rw [b2 b (by simp [z])] at e; cases e
        · rw [b1 b (by simp [z])] at e; exact ⟨z, e⟩
      have bN : ∀ b, B.get? b = none → B'.get? b = none := fun b e => by
        cases q : B'.get? b with
        | none => rfl
        | some o => rw [(bB b o q).2] at e; cases e
      have rR : ∀ b o, Rs.get? b = some o → b ≠ C ∧ sI.heap.get? b = some o := fun b o e => by
        by_cases z : b = C
        · rw [r2 b (by simp [z])] at e; cases e
        · rw [r1 b (by simp [z])] at e; exact ⟨z, e⟩
      have held' : HandSPX.HeldZ B' X.stack a (L2N.Zn cls d) X.env.locals h' := ⟨fun b o e => (sb.2 b (bB b o e).1).trans (held.1 b o (bB b o e).2), bN a held.2.1, frames_but bN (fun b hb o e => (sb.2 b fun z => nCf (z ▸ hb)).trans e) held.2.2.1, traced_but held.2.2.2 sb ⟨oC, bC⟩ held.2.1 bN⟩
      have fresh : ∀ b o, s3.heap.get? b = some o → b ≠ C := fun b o e z => by
        have lt := Heap.lt_size e
        rw [z, hCe] at lt
        exact absurd lt (Nat.lt_irrefl _)
      have toR : ∀ b o, b ≠ C → sI.heap.get? b = some o → Rs.get? b = some o := fun b o z e => (r1 b (by simp [z])).trans e
      have I7 : Inv X pins σ H' { sI with heap := Rs } := by
        have bs : Un (frs X.stack) fp H3 H' s3.heap sI.heap := I'.base
        refine back I'.os ⟨fun b o e n hb hx => toR b o (fresh b o e) (bs.keep b o e n hb hx), fun b o e n hb hx => ?_, bs.free, fun b o e hx => ?_, bs.tups, bs.frzs, bs.tbls⟩ (fun b o e => ?_) I'.bare
        · obtain ⟨sl, q⟩ := bs.slot b o e n hb hx
          exact ⟨sl, toR b _ (fresh b o e) q⟩
        · obtain ⟨o', q⟩ := bs.there b o e hx
          exact ⟨o', toR b o' (fresh b o e) q⟩
        · refine (I'.hok b o e).stay (fun c w hc q => toR c w (fun z => ?_) q) (fun _ r => r) fun _ _ r => r
          rcases hc with hc | hc
          · rw [← hc, z, fC] at e; cases e
          · rw [z, fC] at hc; cases hc
      obtain ⟨oe, vs, Tb, oT, ts, k1, k2, k3, k4, k5, k6, k7, k8, k9⟩ := held'.2.2.2
      unfold PySem.passOn
      refine wpAny_bind (wpAny_field k1 k3 k4 ?_)
      rw [if_neg (by simp), cF, hfr]
      refine wpAny_bind (HandSPX.setFlight_onZ held' fun h2 held2 up2 => wpAny_throw ?_)
      refine tk _ _ ⟨a, B', { sI with heap := Rs }, pins, σ, H', cls, d, rfl, I7, fun b o e hb => ?_, fun b o e hnf => ?_, .inr (.inr held2), na, os, ag, hE⟩
      · obtain ⟨z, q⟩ := rR b o e
        exact (b1 b (by simp [z])).trans (nb b o q hb)
      · obtain ⟨z, q⟩ := rR b o e
        obtain ⟨sl, q1⟩ := up b o q hnf
        obtain ⟨sl1, q2⟩ := up1 b _ q1 hnf
        obtain ⟨sl2, q3⟩ := up2 b _ ((sb.2 b z).trans q2) hnf
        exact ⟨sl2, q3⟩
  have pg := hg s3 H3 C cl fp xe
  have pt := ht s3 H3 C cl fp xe
  have pe := he s3 H3 C cl fp xe
  rw [← hce] at pg pt pe
  have pe := pe pas
  have st4 : tn 0 s4.heap := T.keep _ _ _ st3 fun b _ o e => by rw [hs4]; exact pushCells_keeps _ _ _ _ (Heap.get?_push_of_some _ e)
  have nfp : ∀ b ∈ fp, H3 b = none := fun b hb => (f3 b hb).1.1
  have keepFp : ∀ {σ' : L2.St} {H' : Hp} {s' : Shared}, Inv (blkE X s3 H3 scope ce fp xe) [] σ' H' s' → (∀ b ∈ fp, H' b = none) → ∀ b ∈ fp, FpOk (blkE X s3 H3 scope ce fp xe) [] H' b := fun {σ' H' s'} J hn b hb =>
    ⟨hn b hb, (J.ok.exf b hb).1, J.ok.exfs b hb, .inl hb, fun x c e => (J.ok.exf b hb).2 x c e, fun p hp => absurd (show p ∈ ([] : List (Addr × Obj)) ++ [] from hp) (by simp)⟩
  have loop : codeAny (model X.prog X.w) X.A (.compLoop (.ListComp elt [⟨tg, iter, ifs, 0⟩] scope pos) 0 (.ref it) (.ref D) ce) (cEnds (model X.prog X.w) X.A X.xe (EP X pins σ Q) (.ref D) ce) s4 := by
    refine compLoop_any (fun n s' => ∃ i H', Inv (blkE X s3 H3 scope ce fp xe) [] (wipe σ (own.map (·.2))) H' s' ∧ tn i s'.heap ∧ (∀ b ∈ fp, H' b = none) ∧ W i n H') ?_ m0 ⟨0, H3, I4, st4, nfp, w0⟩
    rw [← hxe]
    rintro n s5 ⟨i, H5, I5, st5, n5, w5⟩
    rcases turn i n H5 w5 with ⟨stop, qq⟩ | ⟨go, Nx, hNx, step⟩
    · refine thnF (T.done (blkE X s3 H3 scope ce fp xe) rfl rfl rfl hc i [] s5 _ H5 (fun _ _ => False) I5 (keepFp I5 n5) st5 stop) fun r s6 ⟨hr, I6⟩ => ?_
      subst hr
      obtain ⟨m, hn, _⟩ := I6.loc
      have nC : H5 ce.locals = none := I6.free
      have I7 : Inv X pins σ H5 s6 := back I6.os I6.base I6.hok I6.bare
      have fpC : FpOk X pins H5 C := I3.fpOk (Nat.le_of_eq hCe.symm) (by rw [← cL]; exact nC)
      refine ⟨m, hn, fun h' sb => ?_⟩
      rw [cL] at sb
      exact ⟨.ref D, H5, I7.turned (t' := s6.toks) (fun b o hb e => (sb.2 b hb).trans e) fpC.1 fpC.2.1 fpC.2.2.2.1 fpC.2.2.2.2.1 fpC.2.2.2.2.2, rfl, qq⟩
    · refine thnF (T.item (blkE X s3 H3 scope ce fp xe) rfl rfl rfl hc i [] s5 _ H5 (fun _ _ => False) I5 (keepFp I5 n5) st5 go) fun r s6 ⟨u, hr, h6⟩ => ?_
      subst hr
      refine thnF h6 fun _ s7 ⟨x, H7, I7, r7, y7, st7, n7⟩ => ?_
      have I7' := I7.pinned (keepFp I7 n7) (T.obj _ _ st7)
      refine thn (pg.run _ s7 _ H7 x u _ I7' r7 (step x H7 y7)) fun _ s8 ⟨σ8, H8, I8, hw8, q8⟩ => ?_
      refine thn (pt.run _ s8 σ8 H8 _ I8 q8) fun b s9 ⟨H9, I9, q9⟩ => ?_
      have fin : ∀ {s' : Shared} {H' : Hp}, Inv (blkE X s3 H3 scope ce fp xe) ([] ++ pinsAt fp s7.heap) σ8 H' s' → Nx H' → ∃ m, m < n ∧ ∃ i H', Inv (blkE X s3 H3 scope ce fp xe) [] (wipe σ (own.map (·.2))) H' s' ∧ tn i s'.heap ∧ (∀ b ∈ fp, H' b = none) ∧ W i m H' := fun {s' H'} J nx => by
        obtain ⟨m', hm, w'⟩ := hNx H' nx
        have pin' : ∀ b ∈ fp, ∀ o, s7.heap.get? b = some o → s'.heap.get? b = some o ∧ H' b = none := fun b hb o e =>
          (J.pin (b, o) (List.mem_append_right _ (List.mem_append_right _ (mem_pinsAt hb e)))).imp id fun z => z.1
        have hl : (wipe σ (own.map (·.2))).length = σ8.length := by rw [← hw8, wipe_length]
        refine ⟨m', hm, i + 1, H', (J.unpinned (pins := [])).weak hl (fun j v e => ?_), T.keep _ _ _ st7 fun b hb o e => (pin' b hb o e).1, fun b hb => ?_, w'⟩
        · rw [← hw8] at e
          exact (wipe_some e).1
        · obtain ⟨o, e, _⟩ := T.obj _ _ st7 b hb
          exact (pin' b hb o e).2
      cases b with
      | false =>
        simp only [Bool.false_eq_true, if_false] at q9 ⊢
        exact fin I9 q9
      | true =>
        simp only [if_true] at q9 ⊢
        refine thn (pe.run _ s9 σ8 H9 _ I9 q9) fun z s10 ⟨yv, H10, I10, r10, acc, hD10, hz10, nx⟩ => ?_
        exact app_ok (X := blkE X s3 H3 scope ce fp xe) I10 hD10 hz10 r10 fun s11 I11 => fin I11 nx
  exact codeAny_compStart_list loop (T.self X.A 0 _ _ _ st4 loop)
end
end Y
end
section
set_option Elab.async false
set_option Elab.async false
set_option linter.all false
set_option maxRecDepth 100000
set_option maxHeartbeats 2000000
/-! Tly: the reading of a comprehension whose parts may refuse; own lists taken apart; an own list != []. -/
namespace Y
open PySem PySem.Spec PyProof.Rows L2
section
variable {X : Cx} {G : Glo} {E : XK} {vs : List Nat}
theorem Rep.less {S F : Hp} {ρ : List Addr} {H : Hp} {st : Store} {p : Addr} {o : HO} (r : Rep G (upd S p o) F ρ H st) (hs : S p = none) : Rep G S F ρ H st :=
  ⟨fun a u h => r.sd a u (by rw [upd_ne (ne_of_none h hs)]; exact h), r.ex, r.nt, r.len, r.nd, r.own, r.tab⟩
/-- what is wanted behind the side list holds without it -/
theorem out.side {α β : Type} {Rl : Hp → List Addr → β → α → Prop} {Q : β → Hp → Prop} {S F : Hp} {ρ : List Addr} {p : Addr} {o : HO} (hs : S p = none) {m : M α} {st : Store} (ho : ∀ v s, m st = .ok v s → ∀ F' ρ' H' u, Gr F ρ F' ρ' → Rep G (upd S p o) F' ρ' H' s → Rl F' ρ' u v → Q u H')
    (hx : ∀ c s, m st = .ex c s → ∀ F' ρ' H', Gr F ρ F' ρ' → Rep G S F' ρ' H' s → E (.ref (G.cl c)) none H') (hb : m st ≠ .bad) : out G (upd S p o) F ρ Rl Q E (m st) := by
  cases e : m st with
  | ok v s => exact ho v s e
  | ex c s => exact fun F' ρ' H' g r => hx c s e F' ρ' H' g (r.less hs)
  | bad => exact (hb e).elim
/-- a first part of something that is wanted -/
theorem out_first {α γ δ : Type} {Rk : Hp → List Addr → δ → γ → Prop} {Qk : δ → Hp → Prop} {S F : Hp} {ρ : List Addr} {m : M α} {f : α → M γ} {st : Store} (h : out G S F ρ Rk Qk E (bd m f st)) :
    (∃ a s, m st = .ok a s ∧ out G S F ρ Rk Qk E (f a s)) ∨ (∃ c s, m st = .ex c s ∧ ∀ F' ρ' H', Gr F ρ F' ρ' → Rep G S F' ρ' H' s → E (.ref (G.cl c)) none H') := by
  unfold bd at h
  cases e : m st with
  | ok a s => rw [e] at h; exact .inl ⟨a, s, rfl, h⟩
  | ex c s => rw [e] at h; exact .inr ⟨c, s, rfl, h⟩
  | bad => rw [e] at h; exact h.elim
theorem bdA {α β γ : Type} (m : M α) (f : α → M β) (g : β → M γ) : bd (bd m f) g = bd m fun a => bd (f a) g := by
  funext st
  unfold bd
  cases m st <;> rfl
theorem bdR {α β : Type} (a : α) (f : α → M β) : bd (ret a) f = f a := rfl
def CPX (G : Glo) (S : Hp) (F : Hp) (ρ : List Addr) (Q : VK) (E : XK) (Dl : Addr) (body : Val → M (Option Val)) (xs : List Val) (n : Nat) (H : Hp) : Prop :=
  ∃ (F' : Hp) (ρ' : List Addr) (st : Store) (av : List V) (acc : List Val), Gr F ρ F' ρ' ∧ Rep G (upd S Dl (.lst av)) F' ρ' H st ∧ VRs G F' ρ' av acc ∧ acc.length + xs.length ≤ n ∧ out G S F' ρ' (VR G) Q E (bd (compL body xs) (fun ys => bLst (acc ++ ys)) st)
theorem lE_lcX {it : Y.I} {g : Y.G} {t : Tst} {e : Y.E} {vs : List Nat} : ∀ σ H Q, lE G E (eLcX it g t e vs) σ H Q → tLc (lI G E it) (lG G E vs g) (lT G E t) (lE G E e) vs σ H Q := by
  rintro σ H Q ⟨S, F, ρ, loc, st, rp, l, o⟩
  refine ⟨S, F, ρ, loc, st, rp, l, out.imp (fun J H1 h1 => ?_) (out.bd (Rl := JR G) o)⟩
  obtain ⟨F1, ρ1, xs, st1, g1, r1, jw, o1⟩ := h1
  intro Dl hD
  have o1 : out G S F1 ρ1 (VR G) Q E ((if xs.length ≤ lim then bd (compL (cBody g t e (wip loc vs)) xs) bLst else die) st1) := o1
  have hl : xs.length ≤ lim := by
    by_cases hl : xs.length ≤ lim
    · exact hl
    · rw [if_neg hl] at o1
      exact o1.elim
  rw [if_pos hl] at o1
  have hS : S Dl = none := by
    cases q : S Dl with
    | none => rfl
    | some u => rw [(r1.sd Dl u q).1] at hD; cases hD
  refine ⟨fun i m H => m = xs.length - i ∧ i ≤ xs.length ∧ CPX G S F1 ρ1 Q E Dl (cBody g t e (wip loc vs)) (xs.drop i) xs.length H, ⟨xs.length, by simp, Nat.zero_le _, F1, ρ1, st1, [], [], Gr.refl, r1.side hD, .nil, by simp, o1⟩, ?_⟩
  rintro i m H2 ⟨rfl, hi, F2, ρ2, st2, av, acc, g2, r2, va, hn, o2⟩
  have ex2 : Exn F1 H2 := fun a o h => r2.ex a o (g2.f a o h)
  by_cases hlt : i < xs.length
  · refine .inr ⟨jw.goes i H2 hlt ex2, CPX G S F1 ρ1 Q E Dl (cBody g t e (wip loc vs)) (xs.drop (i + 1)) xs.length, fun H' p => ⟨xs.length - (i + 1), by omega, rfl, hlt, p⟩, fun x H' yl => ?_⟩
    have hx : xs[i]? = some xs[i] := List.getElem?_eq_getElem hlt
    have hd : xs.drop i = xs[i] :: xs.drop (i + 1) := List.drop_eq_getElem_cons hlt
    obtain ⟨F3, g3, r3, v3⟩ := turn_rep jw g2 r2 hx yl
    rw [hd] at o2 hn
    rw [List.length_cons] at hn
    have o3 : out G S F3 ρ2 (VR G) Q E (bd (g xs[i] (wip loc vs)) (fun l => bd (t l) fun b => bd (if b = true then bd (e l) fun y => ret (some y) else ret none) fun ob => bd (compL (cBody g t e (wip loc vs)) (xs.drop (i + 1))) fun ys => bLst (acc ++ consO ob ys)) st2) := by
      have z : bd (compL (cBody g t e (wip loc vs)) (xs[i] :: xs.drop (i + 1))) (fun ys => bLst (acc ++ ys)) = bd (g xs[i] (wip loc vs)) (fun l => bd (t l) fun b => bd (if b = true then bd (e l) fun y => ret (some y) else ret none) fun ob => bd (compL (cBody g t e (wip loc vs)) (xs.drop (i + 1))) fun ys => bLst (acc ++ consO ob ys)) := by
        show bd (bd (cBody g t e (wip loc vs) xs[i]) fun o => bd (compL (cBody g t e (wip loc vs)) (xs.drop (i + 1))) fun ys => ret (consO o ys)) _ = _
        unfold cBody
        simp only [bdA, bdR]
      rw [z] at o2
      exact out.mono g3 o2
    have lr3 : LR G F3 ρ2 (L2.wipe σ vs) (wip loc vs) := (l.mono ((g1.trans g2).trans g3)).wip vs
    refine ⟨upd S Dl (.lst av), F3, ρ2, wip loc vs, st2, xs[i], r3, lr3, v3, ?_⟩
    rcases out_first o3 with ⟨l2, s2, hg, o4⟩ | ⟨c, s, hg, hx⟩
    · refine out_ok hg fun F4 ρ4 H4 σ2 g4 r4 lw => ?_
      obtain ⟨lr4, w4⟩ := lw
      refine ⟨w4.trans wipe_wipe, upd S Dl (.lst av), F4, ρ4, l2, s2, r4, lr4, ?_⟩
      have o4 := out.mono g4 o4
      rcases out_first o4 with ⟨b, s3, ht, o5⟩ | ⟨c, s, ht, hx⟩
      · refine out_ok ht fun F5 ρ5 H5 b' g5 r5 hb' => ?_
        cases hb'
        have gg : Gr F1 ρ1 F5 ρ5 := ((g2.trans g3).trans g4).trans g5
        have g25 : Gr F2 ρ2 F5 ρ5 := (g3.trans g4).trans g5
        have o5 := out.mono g5 o5
        cases b with
        | false => exact ⟨F5, ρ5, s3, av, acc, gg, r5, VRs.mono g25 va, by omega, o5⟩
        | true =>
          have o5 : out G S F5 ρ5 (VR G) Q E (bd (e l2) (fun y => bd (compL (cBody g t e (wip loc vs)) (xs.drop (i + 1))) fun ys => bLst (acc ++ y :: ys)) s3) := by
            have z : bd (bd (e l2) fun y => ret (some y)) (fun ob => bd (compL (cBody g t e (wip loc vs)) (xs.drop (i + 1))) fun ys => bLst (acc ++ consO ob ys)) = bd (e l2) (fun y => bd (compL (cBody g t e (wip loc vs)) (xs.drop (i + 1))) fun ys => bLst (acc ++ y :: ys)) := by
              simp only [bdA, bdR]
              rfl
            rw [← z]
            exact o5
          refine ⟨upd S Dl (.lst av), F5, ρ5, l2, s3, r5, lr4.mono g5, ?_⟩
          rcases out_first o5 with ⟨yv, s4, he, o6⟩ | ⟨c, s, he, hx⟩
          · refine out_ok he fun F6 ρ6 H6 u g6 r6 vu => ?_
            have hav : av.length = acc.length := va.length
            refine ⟨av, (r6.sd Dl _ upd_same).1, sz' (by omega), F6, ρ6, s4, av ++ [u], acc ++ [yv], gg.trans g6, r6.side2, Paired.snoc (VRs.mono (g25.trans g6) va) vu, by rw [List.length_append]; show acc.length + 1 + _ ≤ _; omega, ?_⟩
            have ea : (fun ys => bLst (acc ++ [yv] ++ ys)) = fun ys => bLst (acc ++ yv :: ys) := by
              funext ys
              simp
            rw [ea]
            exact out.mono g6 o6
          · rw [he]
            exact fun F' ρ' H' gr rr => hx F' ρ' H' gr (rr.less hS)
      · rw [ht]
        exact fun F' ρ' H' gr rr => hx F' ρ' H' gr (rr.less hS)
    · rw [hg]
      exact fun F' ρ' H' gr rr => hx F' ρ' H' gr (rr.less hS)
  · have e : i = xs.length := by omega
    subst e
    refine .inl ⟨jw.stops H2 ex2, ?_⟩
    rw [List.drop_length] at o2
    have o3 : out G S F2 ρ2 (VR G) Q E (bLst (acc ++ []) st2) := o2
    rw [List.append_nil] at o3
    exact fin_lst S F2 ρ2 H2 st2 av acc Dl Q E r2 va hS o3
theorem qe_lcX {elt tgt iter : Expr} {ifs : List Expr} {scope : Scope} {own : List (Str × Nat)} {pos : Pos} {it : Y.I} {g : Y.G} {t : Tst} {e : Y.E} (hc : X.calm = true) (hN : X.N.Nodup) (hst : X.stack = X.env :: X.outer) (hfr : X.env.frame = some X.env.locals) (tk : L2N.Takes X (fun cls d _ H => E cls d H)) (hi : PI X tgt iter (lI G E it)) (ok : BlkOk X.N X.env.scope scope own)
    (hg : ∀ (s : Shared) (H : Hp) (C : Addr) (cl : List (Str × Addr)) (fp : List Addr) (xe : Value → Shared → Prop), PG (blkE X s H scope (compEnvC scope cl C X.env) fp xe) tgt (lG G E (own.map (·.2)) g))
    (ht : ∀ (s : Shared) (H : Hp) (C : Addr) (cl : List (Str × Addr)) (fp : List Addr) (xe : Value → Shared → Prop), PTs (blkE X s H scope (compEnvC scope cl C X.env) fp xe) ifs (lT G E t))
    (he : ∀ (s : Shared) (H : Hp) (C : Addr) (cl : List (Str × Addr)) (fp : List Addr) (xe : Value → Shared → Prop), (∀ σ, PassesAt (L2N.CX X.prog X.w) (blkE X s H scope (compEnvC scope cl C X.env) fp xe) σ E) → PE (blkE X s H scope (compEnvC scope cl C X.env) fp xe) elt (lE G E e))
    (hs : ∀ x, foldedSetIterable iter X.env x = pure x := by intro _; rfl) : PE X (.ListComp elt [⟨tgt, iter, ifs, 0⟩] scope pos) (lE G E (eLcX it g t e (own.map (·.2)))) := by
  refine ⟨fun pins s σ H Q I h => ?_⟩
  rw [eval_ListComp]
  exact lcX hc hN hst hfr tk I hi ok hg ht he hs (lE_lcX σ H Q h)
/-- a, b, .. = an own list -/
theorem qg_lstO {es : List Expr} {k n : Nat} {gs : Y.Gs} {pos : Pos} (hc : X.calm = true) (h : PGs X es (lGs G E vs gs)) (hl : (assignEach es X.env).length = n := by rfl) (hf : List.findIdx? (fun x => x.fst) (assignEach es X.env) = none := by rfl) : PG X (.Tuple es k pos) (lG G E vs (gLO n gs)) := by
  refine PG.imp (pg_lst hc h hl hf) fun v σ H Q ⟨S, F, ρ, loc, st, y, rp, l, r, o⟩ => ?_
  cases y with
  | s _ => exact o.elim
  | d _ => exact o.elim
  | o j =>
    have o : out G S F ρ (TR G vs σ) Q E ((match st[j]? with | some (.lst xs) => if xs.length = n then gs xs loc st else .bad | _ => .bad)) := o
    cases q : st[j]? with
    | none => rw [q] at o; exact o.elim
    | some ob =>
      rw [q] at o
      cases ob with
      | ins _ _ => exact o.elim
      | gone => exact o.elim
      | tup _ => exact o.elim
      | dct _ => exact o.elim
      | dcf _ => exact o.elim
      | exc _ => exact o.elim
      | lst xs =>
        dsimp only at o
        by_cases e : xs.length = n
        · rw [if_pos e] at o
          obtain ⟨a, ha, rfl⟩ := r
          obtain ⟨a', h', e1, e2, e3, us, e4, hu⟩ := rp.own j _ q
          rw [ha] at e1
          cases e1
          subst e4
          exact ⟨a, us, rfl, SqL.of e3, by rw [hu.length]; exact e, S, F, ρ, loc, st, xs, rp, l, hu, o⟩
        · rw [if_neg e] at o
          exact o.elim
end
end Y
namespace Y
open PySem PySem.Spec PyProof.Rows L2
section
variable {X : Cx} {G : Glo}
def rNeE (K : PySem.W.Frag) : R2 := fun x y H Q => ∃ a b us, x = V.ref a ∧ y = V.ref b ∧ SqL K H a us ∧ SqL K H b [] ∧ Q (.bl (!us.isEmpty)) H
theorem op_neE (hu : X.A.units + 64 < cLine) : OpR X (compareOp .NotEq) (rNeE X.K) := by
  intro pins s σ H x y v u Q I rx ry h
  obtain ⟨a, b, us, rfl, rfl, h1, h2, q⟩ := h
  cases rx
  cases ry
  obtain ⟨its, r, pl, hz⟩ := I.list h1
  obtain ⟨its2, r2, pl2, hz2⟩ := I.list h2
  have n2 : its2 = [] := List.length_eq_zero_iff.mp (by rw [← r2.length]; rfl)
  subst n2
  cases us with
  | nil =>
    have n1 : its = [] := List.length_eq_zero_iff.mp (by rw [← r.length]; rfl)
    subst n1
    exact SeqAt.RcNeAt.lists (e := fun _ => true) pl.isList pl2.isList rfl (by omega) (fun j h1 _ => absurd h1 (by simp)) _ _ _ _ ⟨.bl false, H, I, rfl, q⟩
  | cons u0 us =>
    have hl := r.length
    exact SeqAt.RcNeAt.lists_lengths pl.isList pl2.isList (by simp [← hl]) (by omega) _ _ _ _ ⟨.bl true, H, I, rfl, q⟩
theorem bNeE_snd : OSnd G (rNeE G.K) bNeE := by
  intro S F ρ H st x y a b Q E rp hx hy o
  unfold bNeE at o
  split at o
  · rename_i k
    obtain ⟨b, ws, rfl, hb, hw⟩ := dt_list hy
    cases hw
    cases q : st[k]? with
    | none => rw [q] at o; exact o.elim
    | some ob =>
      rw [q] at o
      cases ob with
      | ins _ _ => exact o.elim
      | gone => exact o.elim
      | tup _ => exact o.elim
      | dct _ => exact o.elim
      | dcf _ => exact o.elim
      | exc _ => exact o.elim
      | lst xs =>
        dsimp only at o
        obtain ⟨a, us, rfl, hk, hh, hv⟩ := own_lst rp hx q
        refine ⟨a, b, us, rfl, rfl, SqL.of hh, SqL.of (rp.ex _ _ hb), ?_⟩
        have e : us.isEmpty = xs.isEmpty := by
          cases hv <;> rfl
        rw [e]
        exact out.at (v := vB (!xs.isEmpty)) (u := V.bl _) o rp (.bl _)
  · exact o.elim
end
end Y
end
section
set_option Elab.async false
set_option Elab.async false
set_option linter.all false
set_option maxRecDepth 100000
set_option maxHeartbeats 2000000
/-! Tmt: a caught exception is given back as a value. -/
namespace Y
open PySem PySem.Spec PyProof.Rows L2
/-- a caught exception, which nobody writes at any more -/
abbrev ExH (a : Addr) (oe : Obj) : HO := .frz oe (.own a)
section
variable {X : Cx} {pins : List (Addr × Obj)} {σ : L2.St} {H : Hp} {s : Shared}
theorem inv_hold {a : Addr} {oe : Obj} {vs : Array Value} (I : Inv X pins σ H s) (h0 : X.s_0.heap.get? a = none) (hn : H a = none) (ha : s.heap.get? a = some oe) (hd : oe.data = .fields vs) (nL : a ≠ X.env.locals) (np : ∀ p ∈ X.pn ++ pins, p.1 ≠ a) :
    Inv X pins σ (upd H a (ExH a oe)) s := by
  have up : ∀ b u, H b = some u → upd H a (ExH a oe) b = some u := fun b u e => by
    rw [upd_ne (ne_of_none e hn)]
    exact e
  have n0 : ∀ b o, X.s_0.heap.get? b = some o → b ≠ a := fun b o e z => by
    rw [z, h0] at e
    cases e
  refine ⟨I.ok, I.os, I.bare, ⟨I.base.keep, I.base.slot, fun b o e n x => ?_, I.base.there, fun b xs e => up b _ (I.base.tups b xs e), fun b o u e => up b _ (I.base.frzs b o u e), fun b ps e => ?_⟩, I.loc, I.cell, ?_, fun x c e => ?_, fun p hp => ?_, fun b u e => ?_, I.len⟩
  · rw [upd_ne (n0 b o e)]
    exact I.base.free b o e n x
  · obtain ⟨more, z⟩ := I.base.tbls b ps e
    exact ⟨more, up b _ z⟩
  · rw [upd_ne (Ne.symm nL)]
    exact I.free
  · have hc : c ≠ a := fun z => by
      obtain ⟨v, o, q, q2⟩ := I.cell x c e
      rw [z, ha] at q
      cases q
      rw [hd] at q2
      cases q2
    rw [upd_ne hc]
    exact I.freeC x c e
  · obtain ⟨q1, q2, q3⟩ := I.pin p hp
    exact ⟨q1, by rw [upd_ne (np p hp)]; exact q2, q3⟩
  · by_cases hb : b = a
    · subst hb
      rw [upd_same] at e
      cases e
      exact ⟨ha, oe, ha⟩
    · rw [upd_ne hb] at e
      exact (I.hok b u e).stay (fun _ _ _ q => q) (fun c q => up c _ q) fun c _ q => up c _ q
end
/-- what is wished of an exception that is caught and given back -/
def wBack (K : PySem.W.Frag) (c : Value) (D : Ends) : L2.WX := fun cls d _ H =>
  PySem.W.exmOne K cls c = some true ∧ ∀ (a : Addr) (oe : Obj) (vs : Array Value), H a = none → oe.cls = cls → oe.dict = d → oe.data = .fields vs → D.rt (.ref a) (upd H a (ExH a oe))
section
variable {X : Cx} {x n : Str} {c : Value} {i : Nat} {body : List Stmt} {np p1 p2 pos pos' : Pos} {tb : L2.WX → TS}
/-- try: body, except x as n: return n -/
theorem ps_back (hst : X.stack = X.env :: X.outer) (hfm : X.env.frame = some X.env.locals) (hN : X.N.Nodup) (hi : X.N[i]? = some n) (hln : X.env.kindOf n = some .local) (hc : Names X x c) (hex : X.ex = []) (hd1 : (n == ("__debug__" : Str)) = false) (hd2 : (n == ("__classdict__" : Str)) = false)
    (hb : ∀ (W : L2.WX) (pn : List (Addr × Obj)) (xe : Value → Shared → Prop), L2N.Takes (X.tr pn xe) W → PSs (X.tr pn xe) body (tb W)) :
    PS X (.Try body [.ExceptHandler (some (.Name x np)) (some n) [.Return (some (.Name n p1)) p2] pos'] [] [] pos) (fun D σ H => tb (wBack X.K c D) D σ H) := by
  refine ⟨fun pins s σ H D I0 h => ?_⟩
  have okX := I0.ok
  have frX : X.A.frames = some (X.env :: X.outer) := okX.frames.trans (congrArg some hst)
  refine wpAny_Try_except ?_
  refine wpAny_mono ((hb (wBack X.K c D) (X.pn ++ pins) (fun e t1 => wpAny (model X.prog X.w) X.A (noteFrame e X.env) (fun _ t2 => wpAny (model X.prog X.w) X.A (setFlight e none) (fun _ t3 =>
    wpAny (model X.prog X.w) X.A (handleBy e X.env [.ExceptHandler (some (.Name x np)) (some n) [.Return (some (.Name n p1)) p2] pos']) (SP X pins D) X.xe t3) X.xe t2) X.xe t1) (fun u s' air => ?_)).run [] s σ H D (I0.toTry _) h) (fun f t1 q => ?_) (fun e t1 q => q)
  · obtain ⟨a, B, sI, pI, σ1, H1, cls, d, rfl, JI, nb, upI, sky, na, hos, hag, ⟨hm, back⟩⟩ := air
    have J0 : Inv X pins σ1 H1 sI := JI.ofTry okX
    have hBa : B.get? a = none := by
      rcases sky with z | z | z
      · exact z.2.1
      · exact z.2.1
      · exact z.2.1
    have sky1 : Sky B (X.env :: X.outer) a (L2N.Zn cls d) X.env.locals s'.heap := hst ▸ sky
    show wpAny (model X.prog X.w) X.A (noteFrame (.ref a) X.env) _ _ _
    refine L2N.Sky.land L2N.Zn.steady frX hfm sky1 fun h3 fl up3 => ?_
    have notIn : ∀ {hp : Heap}, HandSPX.FlyingZ B (X.env :: X.outer) a (L2N.Zn cls d) hp → a ∉ frs (X.env :: X.outer) := fun {hp} z hm' => by
      obtain ⟨o1, v1, y1, _, y3⟩ := z.there
      obtain ⟨_, o2, y4, y5⟩ := z.2.2.1.mem hm'
      rw [y1] at y4
      cases y4
      exact y5 _ y3
    have nfr := notIn fl
    have aL : a ≠ X.env.locals := fun z => nfr (List.mem_filterMap.mpr ⟨X.env, List.mem_cons_self, by rw [hfm, z]⟩)
    have aF : a ∉ X.fs := fun z => by
      obtain ⟨e, he, q⟩ := List.mem_filterMap.mp z
      exact nfr (List.mem_filterMap.mpr ⟨e, List.mem_cons_of_mem _ he, q⟩)
    have nI : sI.heap.get? a = none := by
      cases q : sI.heap.get? a with
      | none => rfl
      | some o => rw [nb a o q (by rw [hst]; exact nfr)] at hBa; cases hBa
    have n0 : X.s_0.heap.get? a = none := by
      cases q : X.s_0.heap.get? a with
      | none => rfl
      | some o =>
        obtain ⟨o', z⟩ := J0.base.there a o q (by rw [hex]; exact fun z => nomatch z)
        rw [nI] at z
        cases z
    have nP : ∀ p ∈ X.pn ++ pins, p.1 ≠ a := fun p hp z => by
      have z1 := (J0.pin p hp).1
      rw [z, nI] at z1
      cases z1
    have land : ∀ hp, HandSPX.FlyingZ B (X.env :: X.outer) a (L2N.Zn cls d) hp → s'.heap.UpToSlots hp → ∃ oe vs, Inv X pins σ1 H1 { s' with heap := hp } ∧ hp.get? a = some oe ∧ L2N.Zn cls d oe ∧ oe.data = .fields vs := fun hp z zu => by
      obtain ⟨oe, vs, y1, y2, y3⟩ := z.there
      exact ⟨oe, vs, J0.landed nb z.1 (upI.trans zu) hos hag, y1, y2, y3⟩
    obtain ⟨o3, v3, J3, g3, z3, d3⟩ := land h3 fl up3
    have U3 := J3.suite g3 d3 na aL aF
    refine wpAny_handleBy_cons (codeAny_handlers_test ?_) (by intro q; cases q)
    have tyE : PySem.W.Looks (model X.prog X.w) h3 (typeOf (.ref a)) cls := fun A' Q' E' t k q => wpAny_typeOf_ref (k _ _ g3) (by rw [z3.1]; exact q)
    have isE := PySem.W.exm_one (M := model X.prog X.w) J3.kIn tyE hm
    have nameE : ∀ {Q : Value → Shared → Prop} {E : Value → Shared → Prop}, Q c { s' with heap := h3 } → wpAny (model X.prog X.w) (X.A.mark (some (.ref a))) (eval (.Name x np) X.env) Q E { s' with heap := h3 } := fun {Q E} q => by
      obtain ⟨k1, k2, k3⟩ := hc
      rcases k3 with k3 | ⟨k3, k4, k5⟩
      · exact ld_glob (X := X.suite a ((a, o3) :: (X.pn ++ pins))) U3 k1 k3 q k2
      · exact ld_blt (X := X.suite a ((a, o3) :: (X.pn ++ pins))) U3 k1 k3 k4 q k5 k2
    refine nameE (isE.here (codeAny_handlers_suite_as (HandSPX.lands_againZ fl fun h4 fl4 up4 => ?_)))
    obtain ⟨o4, v4, J4, g4, z4, d4⟩ := land h4 fl4 (up3.trans up4)
    have U4 := J4.suite g4 d4 na aL aF
    refine store_ok (X := X.suite a ((a, o4) :: (X.pn ++ pins))) (v := .ref a) U4 hN hi (.inl hln) rfl (fun t5 U5 => ?_) (.inr hln)
    have run := (pss_one (ps_ret (X := X.suite a ((a, o4) :: (X.pn ++ pins))) (pos := p2) (pe_var (pos := p1) (i := i) hi (.inl hln) hd1 hd2))).run [] t5 _ H1 { nx := fun _ _ => False, rt := fun v H' => v = .ref a ∧ H' = H1, bk := fun _ _ => False, ct := fun _ _ => False } U5
      ⟨.ref a, by rw [List.getElem?_set_self (by rw [J4.len]; exact (List.getElem?_eq_some_iff.mp hi).1)], rfl, rfl⟩
    refine wpAny_mono run (fun f t6 q => ?_) (fun _ _ z => False.elim z)
    cases f with
    | next => obtain ⟨_, _, _, z⟩ := q; exact z.elim
    | brk => obtain ⟨_, _, _, z⟩ := q; exact z.elim
    | cont => obtain ⟨_, _, _, z⟩ := q; exact z.elim
    | ret u =>
      obtain ⟨v6, σ6, H6, U6, r6, rfl, rfl⟩ := q
      have g6 : t6.heap.get? a = some o4 := (U6.pin (a, o4) (List.mem_append_left _ List.mem_cons_self)).1
      have J6 := inv_hold (U6.unsuite okX) n0 na g6 d4 aL nP
      exact gone_ok J6 hN hi hln fun t7 J7 => ⟨_, _, _, J7, r6, back a o4 v4 na z4.1 z4.2.1 d4⟩
  · cases f with
    | next =>
      obtain ⟨σ', H', J', q⟩ := q
      exact wpAny_execs_nil ⟨σ', H', J'.ofTry okX, q⟩
    | brk =>
      obtain ⟨σ', H', J', q⟩ := q
      exact ⟨σ', H', J'.ofTry okX, q⟩
    | cont =>
      obtain ⟨σ', H', J', q⟩ := q
      exact ⟨σ', H', J'.ofTry okX, q⟩
    | ret u =>
      obtain ⟨v', σ', H', J', r', q⟩ := q
      exact ⟨v', σ', H', J'.ofTry okX, r', q⟩
end
end Y
end
section
set_option Elab.async false
set_option linter.all false
/-! Sv: caught exceptions as values; a list of the store walked with its numbers. -/
namespace Y
/-- met(lambda: ..): the refusal itself, or None -/
def eMetX (cs : List Nat) (f : E) : E := fun loc st => match f loc st with
  | .ok _ st' => .ok (.d .none) st'
  | .ex c st' => if c ∈ cs then .ok (.o st'.length) (st' ++ [.exc c]) else .bad
  | .bad => .bad
/-- isinstance(x, the n-th class) of a caught exception; 0: ValueError -/
def bIsX (cs : List Nat) (n : Nat) : Val → M Val
  | .o k => fun st => match st[k]? with
    | some (.exc c) => if c ∈ cs then .ok (vB (if n = 0 then true else decide (n = c))) st else .bad
    | _ => .bad
  | _ => die
open Classical in
noncomputable def compE (k : Nat) (xs0 : List Val) (body : Nat → Val → M Val) : Nat → List Val → M (List Val)
  | _, [] => fun st => if st[k]? = some (.lst xs0) then .ok [] st else .bad
  | i, x :: xs => fun st => if st[k]? = some (.lst xs0) then bd (body i x) (fun y => bd (compE k xs0 body (i + 1) xs) fun ys => ret (y :: ys)) st else .bad
def one1 : List Val → M Val
  | [v] => ret v
  | _ => die
noncomputable def eLcE (f : A) (i1 i2 : Nat) (el : E) (vs : List Nat) : E := fun loc => bd (f loc) fun as => bd (one1 as) fun v => bd (getL v) fun p =>
  if p.2.length ≤ lim then bd (noex (compE p.1 p.2 (fun i x => el (((wip loc vs).set i1 (some (vI (i : Int)))).set i2 (some x))) 0 p.2)) bLst else die
end Y
end
section
set_option Elab.async false
set_option Elab.async false
set_option linter.all false
set_option maxRecDepth 100000
set_option maxHeartbeats 2000000
/-! Tmv: caught exceptions as values: the rules. -/
namespace Y
open PySem PySem.Spec PyProof.Rows L2
section
variable {X : Cx} {G : Glo} {E : XK}
/-! ### isinstance -/
def rIsT (K : PySem.W.Frag) (cv : Value) : List V → Hp → VK → Prop := fun xs H Q => ∃ (a D : Addr) (oe : Obj) (u : HO) (vs : Array Value) (c : V) (b : Bool), xs = [.ref a, c] ∧ H a = some (.frz oe u) ∧ oe.cls = .ref D ∧ oe.dict = none ∧ oe.data = .fields vs ∧ ExcC K D ∧ (∀ u, RelV c u → u = cv) ∧ PySem.W.kitOne K (.ref D) cv = some b ∧ Q (.bl b) H
theorem call_isT {cv : Value} : CallR X (.builtin "isinstance") (rIsT X.K cv) := by
  intro pins s σ H xs us Q I r h
  obtain ⟨a, D, oe, u, vs, c, b, rfl, ha, h1, h2, h3, C, hcv, e, q⟩ := h
  match us, r with
  | [u1, u2], .cons rx (.cons rt .nil) =>
    cases rx
    obtain rfl := hcv _ rt
    have hget : s.heap.get? a = some oe := (I.hok a _ ha).1
    have J : PySem.W.InstAt s.heap a oe D none := by
      obtain ⟨oc, od, oda, osl⟩ := oe
      dsimp only at h1 h2 h3
      subst h1 h2 h3
      exact ⟨hget, rfl, rfl, trivial⟩
    exact PySem.W.kia_one (PySem.W.handS_kitx_exc C.hg C.hk C.hs C.hd C.ha C.hn C.ht C.hm) I.kIn J e (fun z => nomatch z) fun tk => ⟨V.bl b, H, I.kept (t' := tk) fun _ _ z => z, rfl, q⟩
theorem isX_snd {cs : List Nat} {n : Nat} {cv : Value} {c0 : V} (hc0 : ∀ u, RelV c0 u → u = cv) (hC : ∀ c ∈ cs, ExcC G.K (G.cl c) ∧ PySem.W.kitOne G.K (.ref (G.cl c)) cv = some (if n = 0 then true else decide (n = c))) {S F : Hp} {ρ : List Addr} {H : Hp} {st : Store} {x : V} {y : Val} {Q : VK} {E : XK}
    (rp : Rep G S F ρ H st) (hx : VR G F ρ x y) (o : out G S F ρ (VR G) Q E (bIsX cs n y st)) : rIsT G.K cv [x, c0] H Q := by
  cases y with
  | d _ => exact o.elim
  | s _ => exact o.elim
  | o k =>
    unfold bIsX at o
    cases q : st[k]? with
    | none => simp only [q] at o; exact o.elim
    | some ob =>
      simp only [q] at o
      cases ob with
      | ins _ _ => exact o.elim
      | gone => exact o.elim
      | tup _ => exact o.elim
      | dct _ => exact o.elim
      | dcf _ => exact o.elim
      | lst _ => exact o.elim
      | exc c =>
        dsimp only at o
        by_cases hc : c ∈ cs
        · rw [if_pos hc] at o
          obtain ⟨a, h, e1, e2, e3, oe, xx, vs, rfl, e4, e5, e6⟩ := rp.own k _ q
          obtain ⟨a', e7, rfl⟩ := hx
          rw [e1] at e7
          cases e7
          exact ⟨a, G.cl c, oe, _, vs, c0, _, rfl, e3, e4, e5, e6, (hC c hc).1, hc0, (hC c hc).2, out.at (v := vB (if n = 0 then true else decide (n = c))) o rp (.bl _)⟩
        · rw [if_neg hc] at o
          exact o.elim
theorem qe_isX (n : Nat) {cs : List Nat} {a : Expr} {fa : Y.E} {x : Str} {p p3 pos : Pos} (ha : PE X a (lE G E fa)) (hm : X.mg x = some (.ref (G.cl n))) (h0 : n ≠ 0) (hC : ∀ c ∈ cs, ExcC G.K (G.cl c) ∧ PySem.W.kitOne G.K (.ref (G.cl c)) (.ref (G.cl n)) = some (decide (n = c))) (hi : X.mg "isinstance" = none) (hgi : Gl X "isinstance" := by rfl) (hg : Gl X x := by rfl) (hdx : (x == ("__debug__" : Str)) = false := by decide)
    (he : starEach [a, .Name x p3] X.env = (false, eval a X.env) :: starEach [.Name x p3] X.env := by rfl) (hpl : (backTo pos (starEach [.Name x p3] X.env)).any (·.1) = false := by rfl) (hK : X.K = G.K := by rfl) :
    PE X (.Call (.Name "isinstance" p) [a, .Name x p3] [] pos) (lE G E (eU (bIsX cs n) fa)) := by
  refine PE.imp (pe_callB (call_isT (cv := .ref (G.cl n))) hgi hi (by decide +kernel) (pa_cons (hs := he) ha (pa_cons (pe_glob hg hm (v := .ref (G.cl n)) rfl hdx) pa_nil)) (by decide) (by decide) he hpl) fun σ H Q ⟨S, F, ρ, loc, st, rp, l, o⟩ => ⟨S, F, ρ, loc, st, rp, l, out.imp (fun u H1 h1 => ?_) (out.bd (Rl := VR G) o)⟩
  obtain ⟨F1, ρ1, v, st1, g1, r1, v1, o1⟩ := h1
  rw [hK]
  exact isX_snd (c0 := .ref (G.cl n)) (cv := .ref (G.cl n)) (fun u r => r) (fun c hc => ⟨(hC c hc).1, by rw [(hC c hc).2, if_neg h0]⟩) r1 v1 o1
theorem qe_isV {cs : List Nat} {T : String} {a : Expr} {fa : Y.E} {x : Str} {p p3 pos : Pos} (ha : PE X a (lE G E fa)) (hm : X.mg x = none) (hT : bootBuiltins x = some (.type T)) (hC : ∀ c ∈ cs, ExcC G.K (G.cl c) ∧ PySem.W.kitOne G.K (.ref (G.cl c)) (.type T) = some true) (hi : X.mg "isinstance" = none) (hgi : Gl X "isinstance" := by rfl) (hg : Gl X x := by rfl) (hn : x ≠ "__name__" := by decide) (hdx : (x == ("__debug__" : Str)) = false := by decide)
    (he : starEach [a, .Name x p3] X.env = (false, eval a X.env) :: starEach [.Name x p3] X.env := by rfl) (hpl : (backTo pos (starEach [.Name x p3] X.env)).any (·.1) = false := by rfl) (hK : X.K = G.K := by rfl) :
    PE X (.Call (.Name "isinstance" p) [a, .Name x p3] [] pos) (lE G E (eU (bIsX cs 0) fa)) := by
  refine PE.imp (pe_callB (call_isT (cv := .type T)) hgi hi (by decide +kernel) (pa_cons (hs := he) ha (pa_cons (pe_bltn hg hm hT (v := .ty T) rfl hn hdx) pa_nil)) (by decide) (by decide) he hpl) fun σ H Q ⟨S, F, ρ, loc, st, rp, l, o⟩ => ⟨S, F, ρ, loc, st, rp, l, out.imp (fun u H1 h1 => ?_) (out.bd (Rl := VR G) o)⟩
  obtain ⟨F1, ρ1, v, st1, g1, r1, v1, o1⟩ := h1
  rw [hK]
  exact isX_snd (n := 0) (c0 := .ty T) (cv := .type T) (fun u r => r) (fun c hc => ⟨(hC c hc).1, by rw [(hC c hc).2, if_pos rfl]⟩) r1 v1 o1
/-! ### [.. for i, x in enumerate(l)], l a list of the store -/
theorem compE_chk {k : Nat} {xs0 xs ys : List Val} {body : Nat → Val → M Val} {i : Nat} {st s : Store} (h : compE k xs0 body i xs st = .ok ys s) : st[k]? = some (.lst xs0) := by
  cases xs <;>
  · unfold compE at h
    by_cases q : st[k]? = some (.lst xs0)
    · exact q
    · rw [if_neg q] at h; cases h
def CPE (G : Glo) (k : Nat) (xs0 : List Val) (S : Hp) (F : Hp) (ρ : List Addr) (Q : VK) (E : XK) (Dl : Addr) (body : Nat → Val → M Val) (i : Nat) (xs : List Val) (n : Nat) (H : Hp) : Prop :=
  ∃ (F2 : Hp) (ρ2 : List Addr) (st2 : Store) (av : List V) (acc : List Val), Gr F ρ F2 ρ2 ∧ Rep G (upd S Dl (.lst av)) F2 ρ2 H st2 ∧ VRs G F2 ρ2 av acc ∧ acc.length + xs.length ≤ n ∧ out G S F2 ρ2 (VR G) Q E (bd (noex (compE k xs0 body i xs)) (fun ys => bLst (acc ++ ys)) st2)
theorem compE_next {fin : List Val → M Val} {k : Nat} {xs0 : List Val} {body : Nat → Val → M Val} {i : Nat} {rest : List Val} {acc ys : List Val} {s1 s : Store} (h : compE k xs0 body i rest s1 = .ok ys s) : bd (noex (compE k xs0 body i rest)) (fun ys => fin (acc ++ ys)) s1 = fin (acc ++ ys) s := by
  unfold bd
  rw [noex_ok h]
theorem lE_lcE {f : Y.A} {i1 i2 : Nat} {e : Y.E} {vs : List Nat} (v1 : i1 ∈ vs) (v2 : i2 ∈ vs) : ∀ σ H Q, lE G E (eLcE f i1 i2 e vs) σ H Q → tLc (iEnumS G.K (lA G E f)) (gTup G.K 2 (gCons (gName i1) (gCons (gName i2) gNil))) (lT G EF tTr) (lE G EF e) vs σ H Q := by
  rintro σ H Q ⟨S, F, ρ, loc, st, rp, l, o⟩
  refine ⟨S, F, ρ, loc, st, rp, l, out.imp (fun u H1 h1 => ?_) (out.bd (Rl := VRs G) o)⟩
  obtain ⟨F1, ρ1, as, st1, g1, r1, vr, o1⟩ := h1
  cases vr with
  | nil => exact o1.elim
  | @cons x v xr ar vr vr' =>
  cases vr' with
  | cons _ _ => exact o1.elim
  | nil =>
  cases v with
  | d _ => exact o1.elim
  | s _ => exact o1.elim
  | o k =>
    have o1 : out G S F1 ρ1 (VR G) Q E (bd (getL (.o k)) (fun p => if p.2.length ≤ lim then bd (noex (compE p.1 p.2 (fun (i : Nat) (x : Val) => e (((wip loc vs).set i1 (some (vI (i : Int)))).set i2 (some x))) 0 p.2)) bLst else die) st1) := o1
    unfold bd getL at o1
    cases q : st1[k]? with
    | none => simp only [q] at o1; exact o1.elim
    | some ob =>
      simp only [q] at o1
      cases ob with
      | ins _ _ => exact o1.elim
      | gone => exact o1.elim
      | tup _ => exact o1.elim
      | dct _ => exact o1.elim
      | dcf _ => exact o1.elim
      | exc _ => exact o1.elim
      | lst xs =>
        dsimp only at o1
        obtain ⟨a, ha, rfl⟩ := vr
        have sq : ∀ {S2 F2 : Hp} {ρ2 : List Addr} {H2 : Hp} {st2 : Store}, Gr F1 ρ1 F2 ρ2 → Rep G S2 F2 ρ2 H2 st2 → st2[k]? = some (.lst xs) → ∃ us, H2 a = some (.lst us) ∧ VRs G F2 ρ2 us xs := fun {S2 F2 ρ2 H2 st2} g2 r2 e => by
          obtain ⟨a', h', q1, q3, q4, us, q5, q6⟩ := r2.own k _ e
          rw [g2.get ha] at q1
          cases q1
          subst q5
          exact ⟨us, q4, q6⟩
        obtain ⟨us, hus, _⟩ := sq Gr.refl r1 q
        refine ⟨a, us, rfl, .inl ⟨SqL.of hus, ?_⟩⟩
        intro Dl hD
        have hl : xs.length ≤ lim := by
          by_cases hl : xs.length ≤ lim
          · exact hl
          · rw [if_neg hl] at o1
            exact o1.elim
        rw [if_pos hl] at o1
        obtain ⟨body, hbody⟩ : ∃ body : Nat → Val → M Val, body = fun (i : Nat) (x : Val) => e (((wip loc vs).set i1 (some (vI (i : Int)))).set i2 (some x)) := ⟨_, rfl⟩
        rw [← hbody] at o1
        have o1 : out G S F1 ρ1 (VR G) Q E (bd (noex (compE k xs body 0 xs)) (fun ys => bLst ([] ++ ys)) st1) := o1
        have hS : S Dl = none := by
          cases q : S Dl with
          | none => rfl
          | some u => rw [(r1.sd Dl u q).1] at hD; cases hD
        refine ⟨fun i m H => m = xs.length - i ∧ i ≤ xs.length ∧ CPE G k xs S F1 ρ1 Q E Dl body i (xs.drop i) xs.length H, ⟨xs.length, by simp, Nat.zero_le _, F1, ρ1, st1, [], [], Gr.refl, r1.side hD, .nil, by simp, o1⟩, ?_⟩
        rintro i m H2 ⟨rfl, hi, F2, ρ2, st2, av, acc, g2, r2, va, hn, o2⟩
        obtain ⟨ys0, s0, hc0, _⟩ := out_noex (Rl := fun _ _ (_ : Unit) _ => True) o2
        have hst := compE_chk hc0
        obtain ⟨ws, hws, hv⟩ := sq g2 r2 hst
        have hwl := hv.length
        by_cases hlt : i < xs.length
        · refine .inr ⟨⟨ws, ws[i]'(by omega), SqL.of hws, by simp⟩, CPE G k xs S F1 ρ1 Q E Dl body (i + 1) (xs.drop (i + 1)) xs.length, fun H' p => ⟨xs.length - (i + 1), by omega, rfl, hlt, p⟩, fun x H' yl => ?_⟩
          have hx : xs[i]? = some xs[i] := List.getElem?_eq_getElem hlt
          have hd : xs.drop i = xs[i] :: xs.drop (i + 1) := List.drop_eq_getElem_cons hlt
          obtain ⟨T, x1, rfl, hT, rfl, hyl⟩ := yl
          have hxw := hyl ws (SqL.of hws)
          obtain ⟨u', hu', v3⟩ := vrs_getO hv hx
          rw [hxw] at hu'
          cases hu'
          rw [hd] at o2 hn
          obtain ⟨ys, s, hc, o'⟩ := out_noex (Rl := fun _ _ (_ : Unit) _ => True) o2
          unfold compE at hc
          rw [if_pos hst] at hc
          obtain ⟨yv, s1, hb, hc⟩ := bd_ok hc
          obtain ⟨ys', s', hc2, hfin⟩ := bd_ok hc
          have hfin : R.ok (yv :: ys') s' = R.ok ys s := hfin
          injection hfin with hys hss
          subst hss hys
          obtain ⟨r3, g3⟩ := r2.new (o := .tup [.int (i : Nat), x1]) hT (fun ps z => by cases z)
          have lr3 : LR G _ ρ2 (L2.wipe σ vs) (wip loc vs) := (l.mono ((g1.trans g2).trans g3)).wip vs
          have lr4 := (lr3.set (show VR G _ ρ2 (.int (i : Nat)) (vI (i : Int)) from .int _) i1).set (VR.mono g3 v3) i2
          refine ⟨T, [.int (i : Nat), x1], rfl, SqT.of upd_same, rfl, .int (i : Nat), [x1], rfl, x1, [], rfl, rfl, ?_⟩
          refine ⟨(wipe_set v2).trans ((wipe_set v1).trans wipe_wipe), upd S Dl (.lst av), _, ρ2, _, st2, r3, lr4, ?_⟩
          intro F5 ρ5 H5 b' g5 r5 hb'
          cases hb'
          rw [hbody] at hb
          have gg : Gr F1 ρ1 F5 ρ5 := (g2.trans g3).trans g5
          have g25 : Gr F2 ρ2 F5 ρ5 := g3.trans g5
          rw [List.length_cons] at hn
          refine ⟨upd S Dl (.lst av), F5, ρ5, _, st2, r5, lr4.mono g5, out_ok hb fun F6 ρ6 H6 u g6 r6 vu => ?_⟩
          have hav : av.length = acc.length := va.length
          refine ⟨av, (r6.sd Dl _ upd_same).1, sz' (by omega), F6, ρ6, s1, av ++ [u], acc ++ [yv], gg.trans g6, r6.side2, Paired.snoc (VRs.mono (g25.trans g6) va) vu, by rw [List.length_append]; show acc.length + 1 + _ ≤ _; omega, ?_⟩
          rw [compE_next hc2]
          have ea : acc ++ [yv] ++ ys' = acc ++ (yv :: ys') := by simp
          rw [ea]
          exact out.mono (g25.trans g6) o'
        · have e : i = xs.length := by omega
          subst e
          refine .inl ⟨⟨ws, SqL.of hws, by omega⟩, ?_⟩
          rw [List.drop_length] at o2
          obtain ⟨ys, s, hc, o'⟩ := out_noex (Rl := fun _ _ (_ : Unit) _ => True) o2
          unfold compE at hc
          rw [if_pos hst] at hc
          have hc : R.ok ([] : List Val) st2 = R.ok ys s := hc
          injection hc with h1 h2
          subst h1 h2
          rw [List.append_nil] at o'
          exact fin_lst S F2 ρ2 H2 st2 av acc Dl Q E r2 va hS o'
theorem qe_lcE (i1 i2 : Nat) {elt e1 : Expr} {x1 x2 : Str} {scope : Scope} {own : List (Str × Nat)} {kk : Nat} {p p1 p2 pt pc pos : Pos} {f : Y.A} {e : Y.E} (hc : X.calm = true) (hN : X.N.Nodup) (hge : Gl X "enumerate") (hme : X.mg "enumerate" = none) (ha : PA X [e1] (lA G E f)) (ok : BlkOk X.N X.env.scope scope own)
    (hg : ∀ (s : Shared) (H : Hp) (C : Addr) (cl : List (Str × Addr)) (fp : List Addr), PG (X.blk s H scope (compEnvC scope cl C X.env) fp) (.Tuple [.Name x1 p1, .Name x2 p2] kk pt) (gTup X.K 2 (gCons (gName i1) (gCons (gName i2) gNil))))
    (he : ∀ (s : Shared) (H : Hp) (C : Addr) (cl : List (Str × Addr)) (fp : List Addr), PE (X.blk s H scope (compEnvC scope cl C X.env) fp) elt (lE G EF e)) (v1 : i1 ∈ own.map (·.2)) (v2 : i2 ∈ own.map (·.2)) (hst : starEach [e1] X.env = [(false, eval e1 X.env)] := by rfl) (hs : ∀ x, foldedSetIterable (.Call (.Name "enumerate" p) [e1] [] pc) X.env x = pure x := by intro _; rfl) (hK : X.K = G.K := by rfl) :
    PE X (.ListComp elt [⟨.Tuple [.Name x1 p1, .Name x2 p2] kk pt, .Call (.Name "enumerate" p) [e1] [] pc, [], 0⟩] scope pos) (lE G E (eLcE f i1 i2 e (own.map (·.2)))) := by
  have hi' : PI X (.Tuple [.Name x1 p1, .Name x2 p2] kk pt) (.Call (.Name "enumerate" p) [e1] [] pc) (iEnumS G.K (lA G E f)) := by rw [← hK]; exact pi_enumS hge hme ha hst
  rw [hK] at hg
  exact PE.imp (pe_lc hc hN hi' ok hg (fun s H C cl fp => qts_nil) he hs) (lE_lcE v1 v2)
end
end Y
end
section
set_option Elab.async false
set_option Elab.async false
set_option linter.all false
set_option maxRecDepth 100000
set_option maxHeartbeats 2000000
/-! Tmu: met(lambda: ..): the refusal itself, or None. -/
namespace Y
open PySem PySem.Spec PyProof.Rows L2
/-- all that met needs -/
structure MetF (mg : Str → Option Value) (K : PySem.W.Frag) (cl : Nat → Addr) (cs : List Nat) (sM : Stmt) : Prop where
  t : ∃ (g : Addr) (fd : FuncData), Fun K "_law_met" "_law_met" sM g fd ∧ mg "_law_met" = some (.ref g) ∧ Binds K fd ["deed"] []
  st : FnScope ["deed", "e"] ["deed"] (defScope sM)
  le : (defScope sM).names.lookup ("e" : Str) = some .local
  ld : Vis (defScope sM) ("deed" : Str)
  gm : (defScope sM).names.lookup ("MoveError" : Str) = some .globalImplicit
  bt : ∃ (p1 p2 p3 p4 p5 p6 p7 p8 p9 p10 : Pos) (j : _), defBody sM = [.Try [.Expr (.Call (.Name "deed" p1) [] [] p2) p3] [.ExceptHandler (some (.Name "MoveError" p4)) (some "e") [.Return (some (.Name "e" p5)) p6] p7] [] [] p8, .Return (some (.Constant .none j p9)) p10]
  ex : ∃ M : Addr, mg "MoveError" = some (.ref M) ∧ ∀ c ∈ cs, PySem.W.exmOne K (.ref (cl c)) (.ref M) = some true
section
variable {X : Cx} {G : Glo} {E : XK}
theorem qe_metL {cs : List Nat} {sM : Stmt} {c P : Addr} {k : Nat} {params : Arguments} {body : Expr} {scope : Scope} {fb : Y.E} {p lpos pos : Pos} (TF : MetF X.mg X.K G.cl cs sM) (hg : Gl X "_law_met")
    (TB : LamX.TabB X.base X.mg c P) (hcode : X.env.code = .ref c) (hmT : (P, X.env.qual ++ "<lambda>") ∈ G.T) (hu : ∀ p ∈ G.T, p.1 = P → p.2 = X.env.qual ++ "<lambda>") (hr : Room (k + 3) X.A) (L : LamX.LamS X.env.scope scope) (hdef : defaultsOf params X.env = ([], []))
    (hbind : ∀ (q : Str) (cl : List (Str × Addr)) (pm cv ctv : Value), bindArgs (PySem.W.kla_fn "<lambda>" q params body scope cl pm cv ctv) ⟨[], []⟩ = pure [])
    (hbody : ∀ (A : Around) (outer : List Env) (s : Shared) (H : Hp) (E : XK) (f c' : Addr), Room k (A.deeper (LamX.lamEnv X scope s.heap.objs.size f c')) → PE (lamX X A outer s H E scope f c') body (lE G E fb)) :
    PE X (.Call (.Name "_law_met" p) [.Lambda params body scope lpos] [] pos) (lE G E (eMetX cs fb)) := by
  refine ⟨fun pins s σ H Q I h => ?_⟩
  obtain ⟨S, F, ρ, loc, st, rp, l, o⟩ := h
  obtain ⟨g, fdT, FT, mT, bT⟩ := TF.t
  obtain ⟨M, gM, exM⟩ := TF.ex
  obtain ⟨p1, p2, p3, p4, p5, p6, p7, p8, p9, p10, j, hbd⟩ := TF.bt
  refine wpAny_Call_Name_kw (ld_glob I hg mT ?_ (by decide))
  refine PySem.W.callWith_K (h₀ := X.base) I.ok.mod.kin FT.kp ?_ (by rfl) (by rfl)
  refine Calls.spliced_cons (LamX.lam_make2 I TB hcode hmT hu rp.tab hdef (L.has I.ok) fun f c' pm' ctv H1 s' I1 eN T1 hf hfn hfr hco => ?_)
  refine Calls.spliced_nil ⟨I1.kIn, ?_⟩
  have rp1 := rp.extN eN T1
  obtain ⟨oc, od, kV, doc, pm, an, cdv, ct, osl, rfl, lk, hcd⟩ := FT.ex
  have rc : codeAny (model X.prog X.w) X.A (.call (.ref g) ⟨[.ref f], []⟩) (CR (L2N.CX X.prog X.w) X.stack X.prog X.w H1 s' Q EF) s' := by
    refine LamX.run_ofS (k := k + 2) (N := ["deed", "e"]) (ps := ["deed"]) (us := [.ref f]) (vs := [.ref f]) lk hcd TF.st hr I1.env0 (bT s' [.ref f] I1.kIn rfl) (.cons rfl .nil) rfl fun hr' => ?_
    rw [hbd]
    refine ⟨_, pss_cons (ps_back (X := cxOf (L2N.CX X.prog X.w) X.prog X.w X.K X.mg X.base ["deed", "e"] "_law_met" (defScope sM) g cdv X.A X.stack s' H1 EF) (i := 1) (c := .ref M)
      (tb := fun W D σZ HZ => σZ[0]? = some (some (.ref f)) ∧ HZ c' = some (LamX.CodeO c' (X.env.qual ++ "<lambda>")) ∧ lE G (WE W σZ) fb σ HZ (fun _ H2 => D.nx σZ H2))
      rfl rfl TF.st.nd rfl TF.le ⟨TF.gm, by decide, .inl gM⟩ rfl (by decide) (by decide) (fun W pn xe tk => ?_)) (pss_one (ps_ret pe_non)), ?_⟩
    · exact pss_one (ps_expr (pe_deed (i := 0) (k := k) (t := fun E => lE G E fb) I1 L hf hfn hfr (hbind _ _ _ _ _) tk (hr'.mono (by omega)) (fun A outer s H E hr2 => hbody A outer s H E f c' hr2) rfl TF.ld (by decide) (by decide)))
    · refine ⟨rfl, hco, S, F, ρ, loc, st, rp1, l, ?_⟩
      unfold eMetX at o
      cases e : fb loc st with
      | ok v st' =>
        rw [e] at o
        intro F' ρ' H' u gr rr _
        exact o F' ρ' H' .non gr rr .non
      | bad => rw [e] at o; exact o
      | ex c st' =>
        rw [e] at o
        dsimp only at o
        split at o
        · rename_i hc
          intro F' ρ' H' gr rr
          refine ⟨exM c hc, fun a oe vs na h1 h2 h3 => ?_⟩
          obtain ⟨r', g'⟩ := rr.push (p := a) (o := ExH a oe) (ob := .exc c) na ⟨oe, a, vs, rfl, h1, h2, h3⟩
          refine o F' (ρ' ++ [a]) _ (.ref a) (gr.trans g') r' ⟨a, ?_, rfl⟩
          rw [← rr.len, List.getElem?_append_right (Nat.le_refl _), Nat.sub_self]
          rfl
        · exact o.elim
  refine wpAny_call (codeAny_mono rc fun r s2 hq => ?_)
  cases r with
  | error e => exact (pasF (X := X) σ pins H1 s' e s2 I1 hq)
  | ok fl =>
    cases fl with
    | ret u => exact I1.after hq
    | next => exact False.elim hq
    | brk => exact False.elim hq
    | cont => exact False.elim hq
end
section
variable {mg : Str → Option Value} {K : PySem.W.Frag}
theorem metL_mk {cl : Nat → Addr} {cs : List Nat} {sM : Stmt} {g M : Addr} {fd : FuncData} (F : Fun K "_law_met" "_law_met" sM g fd) (hm : mg "_law_met" = some (.ref g)) (hb : Binds K fd ["deed"] []) (st : FnScope ["deed", "e"] ["deed"] (defScope sM)) (le : (defScope sM).names.lookup ("e" : Str) = some .local) (ld : Vis (defScope sM) ("deed" : Str))
    (gm : (defScope sM).names.lookup ("MoveError" : Str) = some .globalImplicit) (bt : ∃ (p1 p2 p3 p4 p5 p6 p7 p8 p9 p10 : Pos) (j : _), defBody sM = [.Try [.Expr (.Call (.Name "deed" p1) [] [] p2) p3] [.ExceptHandler (some (.Name "MoveError" p4)) (some "e") [.Return (some (.Name "e" p5)) p6] p7] [] [] p8, .Return (some (.Constant .none j p9)) p10])
    (hM : mg "MoveError" = some (.ref M)) (hx : ∀ c ∈ cs, PySem.W.exmOne K (.ref (cl c)) (.ref M) = some true) : MetF mg K cl cs sM := ⟨⟨g, fd, F, hm, hb⟩, st, le, ld, gm, bt, ⟨M, hM, hx⟩⟩
end
end Y
end
section
set_option Elab.async false
set_option Elab.async false
set_option linter.all false
set_option maxRecDepth 100000
set_option maxHeartbeats 2000000
/-! Sga: tables of sets, of any of the sizes 8, 32, 128, 512, 2048. -/
namespace Y
open PySem PySem.Spec PyProof.Rows L2
/-! ### the numbers 0, 1, 6, 31, .. -/
def gsum : Nat → Nat
  | 0 => 0
  | n + 1 => 5 * gsum n + 1
theorem gsum_add (a : Nat) : ∀ b, gsum (a + b) = gsum a + gsum b + 4 * (gsum a * gsum b)
  | 0 => by simp [gsum]
  | b + 1 => by
    have ih := gsum_add a b
    show 5 * gsum (a + b) + 1 = gsum a + (5 * gsum b + 1) + 4 * (gsum a * (5 * gsum b + 1))
    rw [ih]
    grind
theorem gsum_pow : ∀ k, ∃ c, gsum (2 ^ k) = 2 ^ k * (2 * c + 1)
  | 0 => ⟨0, rfl⟩
  | k + 1 => by
    obtain ⟨c, e⟩ := gsum_pow k
    refine ⟨2 * (c * gsum (2 ^ k)) + c + gsum (2 ^ k), ?_⟩
    have h : 2 ^ (k + 1) = 2 ^ k + 2 ^ k := by rw [Nat.pow_succ]; omega
    rw [h, gsum_add]
    have e2 : gsum (2 ^ k) * gsum (2 ^ k) = 2 ^ k * (2 * c + 1) * gsum (2 ^ k) := by rw [e]
    generalize gsum (2 ^ k) = g at e e2 ⊢
    generalize 2 ^ k = M at e e2 ⊢
    grind
theorem two_up {M c G g j b q : Nat} (hp : 0 < M) (h : j < 2 * M) (e : G % M = j % M) (add : g = G + M * (2 * c + 1) + 4 * (G * (M * (2 * c + 1)))) : G % (2 * M) = j ∨ g % (2 * M) = j := by
  have dv := Nat.div_add_mod G M
  rw [e] at dv
  have jv : j = j % M ∨ j = j % M + M := by
    have z := Nat.div_add_mod j M
    have lt : j / M < 2 := (Nat.div_lt_iff_lt_mul hp).mpr h
    generalize j / M = d at z lt
    match d, lt with
    | 0, _ => exact .inl (by rw [Nat.mul_zero] at z; omega)
    | 1, _ => exact .inr (by rw [Nat.mul_one] at z; omega)
  have jl : j % M < M := Nat.mod_lt _ hp
  generalize j % M = r at *
  generalize G / M = q at dv
  have ev : ∀ (A u : Nat), A = M * (2 * u) + r → A % (2 * M) = r := fun A u z => by
    have : A = 2 * M * u + r := by rw [z]; grind
    rw [this, Nat.mul_add_mod, Nat.mod_eq_of_lt (by omega)]
  have od : ∀ (A u : Nat), A = M * (2 * u + 1) + r → A % (2 * M) = r + M := fun A u z => by
    have : A = 2 * M * u + (r + M) := by rw [z]; grind
    rw [this, Nat.mul_add_mod, Nat.mod_eq_of_lt (by omega)]
  have g2 : g = M * (q + 2 * (c + 2 * (G * c) + (G * c) * 2 + 2 * G) + 1) + r := by
    rw [add]
    have : G * (M * (2 * c + 1)) = M * (2 * (G * c) + G) := by grind
    rw [this]
    clear this add ev od e jv
    generalize G * c = u
    have : M * (q + 2 * (c + 2 * u + u * 2 + 2 * G) + 1) + r = M * q + r + M * (2 * c + 1) + 4 * (M * (2 * u + G)) := by grind
    rw [this, dv]
  generalize c + 2 * (G * c) + (G * c) * 2 + 2 * G = t at g2
  have hq : q = 2 * (q / 2) ∨ q = 2 * (q / 2) + 1 := by omega
  rcases jv with z | z <;> rcases hq with y | y
  · exact .inl ((ev G (q / 2) (by rw [← dv, ← y])).trans z.symm)
  · exact .inr ((ev g (q / 2 + t + 1) (by rw [g2]; congr 2; omega)).trans z.symm)
  · exact .inr ((od g (q / 2 + t) (by rw [g2]; congr 2; omega)).trans z.symm)
  · exact .inl ((od G (q / 2) (by rw [← dv, ← y])).trans z.symm)
theorem gsum_hit : ∀ (k j : Nat), j < 2 ^ k → ∃ b, b < 2 ^ k ∧ gsum b % 2 ^ k = j
  | 0, j, h => ⟨0, by simp, by simp at h; simp [h, gsum]⟩
  | k + 1, j, h => by
    have hM : 2 ^ (k + 1) = 2 * 2 ^ k := by rw [Nat.pow_succ]; omega
    have hp : 0 < 2 ^ k := Nat.pow_pos (by omega)
    obtain ⟨c, eM⟩ := gsum_pow k
    obtain ⟨b, hb, e⟩ := gsum_hit k (j % 2 ^ k) (Nat.mod_lt _ hp)
    have add := gsum_add b (2 ^ k)
    rw [eM] at add
    rw [hM] at h ⊢
    rcases two_up (b := b) (q := 0) hp h e add with z | z
    · exact ⟨b, by omega, z⟩
    · exact ⟨b + 2 ^ k, by omega, z⟩
theorem lcg_gsum (m : Nat) : ∀ n, lcgN m n = gsum n % (m + 1)
  | 0 => rfl
  | n + 1 => by
    show (lcgN m n * 5 + 1) % (m + 1) = (5 * gsum n + 1) % (m + 1)
    rw [lcg_gsum m n, Nat.add_mod, Nat.mul_mod, Nat.mod_mod, ← Nat.mul_mod, ← Nat.add_mod, Nat.mul_comm]
/-- the masks that may come -/
def Msk (m : Nat) : Prop := m = 7 ∨ m = 31 ∨ m = 127 ∨ m = 511 ∨ m = 2047
theorem Msk.pow {m : Nat} (h : Msk m) : ∃ k, m + 1 = 2 ^ k := by
  rcases h with rfl | rfl | rfl | rfl | rfl
  · exact ⟨3, rfl⟩
  · exact ⟨5, rfl⟩
  · exact ⟨7, rfl⟩
  · exact ⟨9, rfl⟩
  · exact ⟨11, rfl⟩
theorem Msk.odd {m : Nat} (h : Msk m) : m % 2 = 1 := by
  rcases h with rfl | rfl | rfl | rfl | rfl <;> rfl
theorem Msk.le {m : Nat} (h : Msk m) : m ≤ 2047 := by
  rcases h with rfl | rfl | rfl | rfl | rfl <;> omega
theorem Msk.hit {m : Nat} (hm : Msk m) {i j : Nat} (hi : i ≤ m) (hj : j ≤ m) : ∃ k, k ≤ m ∧ lcgI m i k = j := by
  obtain ⟨k, e⟩ := hm.pow
  obtain ⟨a, ha, ea⟩ := gsum_hit k i (by omega)
  obtain ⟨b, hb, eb⟩ := gsum_hit k j (by omega)
  have ia : lcgN m a = i := by rw [lcg_gsum, e]; exact ea
  have whole : gsum (b + 2 ^ k) % 2 ^ k = j := by
    obtain ⟨c, ec⟩ := gsum_pow k
    rw [gsum_add, ec]
    have : gsum b + 2 ^ k * (2 * c + 1) + 4 * (gsum b * (2 ^ k * (2 * c + 1))) = 2 ^ k * ((2 * c + 1) + 4 * (gsum b * (2 * c + 1))) + gsum b := by grind
    rw [this, Nat.mul_add_mod]
    exact eb
  rcases Nat.lt_or_ge b a with c | c
  · refine ⟨b + 2 ^ k - a, by omega, ?_⟩
    rw [← ia, lcgN_add, lcg_gsum, e, show a + (b + 2 ^ k - a) = b + 2 ^ k by omega]
    exact whole
  · refine ⟨b - a, by omega, ?_⟩
    rw [← ia, lcgN_add, lcg_gsum, e, show a + (b - a) = b by omega]
    exact eb
theorem Msk.runs {m : Nat} (hm : Msk m) (h : Int) {j : Nat} (hj : j ≤ m) : ∃ n, n ≤ m + 12 ∧ runI m (SetTable.bits h) n = j := by
  obtain ⟨k, hk, e⟩ := hm.hit (runI_le m (SetTable.bits h) 12) hj
  refine ⟨12 + k, by omega, ?_⟩
  rw [runI_tail (bits_lt h)]
  exact e
/-- the steps -/
theorem step_in (m : Nat) (h : Int) (c : Nat) : way m h c ≤ m := by
  have hi : SetTable.bits h % (m + 1) ≤ m := Nat.le_of_lt_succ (Nat.mod_lt _ (Nat.succ_pos m))
  have r := runEnd_bd hi
  have z : (runAt m (SetTable.bits h % (m + 1)) (SetTable.bits h)).j + (runAt m (SetTable.bits h % (m + 1)) (SetTable.bits h)).more ≤ m := by
    unfold runAt
    dsimp only
    omega
  have := nth_in c _ z
  unfold way
  omega
theorem Msk.step_at {m : Nat} (hm : Msk m) (h : Int) {j : Nat} (hj : j ≤ m) : ∃ c, c < 10 * SetTable.turns m ∧ way m h c = j := by
  obtain ⟨n, hn, e⟩ := hm.runs h hj
  obtain ⟨c, hc, e2⟩ := run_nth m (SetTable.bits h) n
  refine ⟨c, by unfold SetTable.turns; omega, ?_⟩
  unfold way
  rw [e2]
  exact e
/-! ### a table and the hashes of what it holds -/
structure Tb (t : SetTable) (hs : List Int) : Prop where
  ris : Ris t.place.toList
  dum : t.dummies = #[]
  len : t.place.size = hs.length
  msk : Msk t.mask
  top : ∀ x ∈ t.place.toList, x ≤ t.mask
  via : ∀ (i : Nat) (h : Int) (j : Nat), hs[i]? = some h → t.place.toList[i]? = some j → ∃ c, way t.mask h c = j ∧ ∀ c', c' < c → way t.mask h c' ∈ t.place.toList
theorem Tb.free {t : SetTable} {hs : List Int} (T : Tb t hs) (hl : hs.length ≤ t.mask) (h : Int) : ∃ n, n < 10 * SetTable.turns t.mask ∧ way t.mask h n ∉ t.place.toList ∧ ∀ c, c < n → way t.mask h c ∈ t.place.toList := by
  have few : t.place.toList.length < t.mask + 1 := by
    have := T.len
    rw [Array.length_toList]
    omega
  obtain ⟨j, h1, h2⟩ := st_missing _ _ few
  obtain ⟨c, h3, e⟩ := T.msk.step_at h (j := j) (by omega)
  obtain ⟨n, g1, g2, g3⟩ := st_least (p := fun x => way t.mask h x ∉ t.place.toList) c (show way t.mask h c ∉ t.place.toList by rw [e]; exact h2)
  exact ⟨n, by omega, g2, fun x hx => Classical.not_not.mp (g3 x hx)⟩
theorem Tb.ahead {t : SetTable} {hs : List Int} (T : Tb t hs) {h : Int} {n i j : Nat} (hn : way t.mask h n ∉ t.place.toList) (hi : hs[i]? = some h) (hj : t.place.toList[i]? = some j) : ∃ c, c < n ∧ way t.mask h c = j := by
  obtain ⟨c, e, hb⟩ := T.via i h j hi hj
  refine ⟨c, ?_, e⟩
  rcases Nat.lt_trichotomy c n with z | z | z
  · exact z
  · exact absurd (List.mem_of_getElem? hj) (by rw [← e, z]; exact hn)
  · exact absurd (hb n z) hn
/-- one more at the first free place of its way -/
theorem Tb.ins {t : SetTable} {hs : List Int} (T : Tb t hs) {h : Int} {n : Nat} (hn : way t.mask h n ∉ t.place.toList) (hb : ∀ c, c < n → way t.mask h c ∈ t.place.toList) :
    SetTable.below t.place (way t.mask h n) ≤ hs.length ∧ Tb (t.put (way t.mask h n)).1 (hs.take (SetTable.below t.place (way t.mask h n)) ++ h :: hs.drop (SetTable.below t.place (way t.mask h n))) := by
  have jm := step_in t.mask h n
  obtain ⟨j, ej⟩ : ∃ j, way t.mask h n = j := ⟨_, rfl⟩
  rw [ej] at hn jm ⊢
  have cut := (below_cut T.ris j).1
  have pl : SetTable.below t.place j ≤ t.place.toList.length := by rw [Array.length_toList]; exact cut
  have ph : SetTable.below t.place j ≤ hs.length := by rw [← T.len]; exact cut
  have nw : t.place[SetTable.below t.place j]? ≠ some j := fun z => hn (List.mem_of_getElem? ((Array.getElem?_toList).trans z))
  have pp := put_place t j
  have sz : t.place.toList.length = hs.length := by rw [Array.length_toList]; exact T.len
  have up : ∀ x, x ∈ t.place.toList → x ∈ (t.put j).1.place.toList := fun x hx => by
    rw [pp, mem_ins]
    exact Or.inr hx
  refine ⟨ph, ris_insert T.ris nw, put_dm T.dum j, ?_, T.msk, fun x hx => ?_, fun i h' j' g1 g2 => ?_⟩
  · rw [← Array.length_toList, pp, len_ins _ pl, len_ins _ ph, sz]
  · rw [pp, mem_ins] at hx
    exact hx.elim (fun z => z ▸ jm) (T.top x)
  · rw [tins_get hs ph] at g1
    rw [pp, tins_get _ pl] at g2
    generalize SetTable.below t.place j = p at g1 g2
    have old : ∀ i, hs[i]? = some h' → t.place.toList[i]? = some j' → ∃ c, way (t.put j).1.mask h' c = j' ∧ ∀ c', c' < c → way (t.put j).1.mask h' c' ∈ (t.put j).1.place.toList := fun i a b => by
      obtain ⟨c, e, z⟩ := T.via i h' j' a b
      exact ⟨c, e, fun c' hc' => up _ (z c' hc')⟩
    by_cases lt : i < p
    · rw [if_pos lt] at g1 g2
      exact old i g1 g2
    · rw [if_neg lt] at g1 g2
      by_cases eq : i = p
      · rw [if_pos eq] at g1 g2
        obtain rfl : h = h' := Option.some.inj g1
        obtain rfl : j = j' := Option.some.inj g2
        exact ⟨n, ej, fun c' hc' => up _ (hb c' hc')⟩
      · rw [if_neg eq] at g1 g2
        exact old (i - 1) g1 g2
/-! ### all laid anew -/
theorem Msk.lays {m : Nat} (hm : Msk m) (ow : Array (Option Nat)) (h : Int) {j : Nat} (hj : j ≤ m) (hf : oAt ow j = none) :
    ∃ n, SetTable.layClean.free m ow (SetTable.turns m) (SetTable.bits h % (m + 1)) (SetTable.bits h) = some (way m h n) ∧ oAt ow (way m h n) = none ∧ ∀ c, c < n → oAt ow (way m h c) ≠ none := by
  obtain ⟨r, hr, e⟩ := hm.runs h hj
  have ew : way m h (off m (SetTable.bits h % (m + 1)) (SetTable.bits h) r) = j := by
    have z := congrArg SetTable.Probe.j (nth_off m r (SetTable.bits h % (m + 1)) (SetTable.bits h))
    rw [itL_run] at z
    exact z.trans e
  obtain ⟨n, g1, g2, g3⟩ := st_least (p := fun c => oAt ow (way m h c) = none) _ (show oAt ow (way m h (off m (SetTable.bits h % (m + 1)) (SetTable.bits h) r)) = none by rw [ew]; exact hf)
  refine ⟨n, free_spec m ow _ r _ _ n (by unfold SetTable.turns; omega) g1 (fun c hc => ?_) ?_, g2, g3⟩
  · have z := g3 c hc
    show (oAt ow (way m h c)).isNone = false
    cases y : oAt ow (way m h c) with
    | none => exact absurd y z
    | some _ => rfl
  · show (oAt ow (way m h n)).isNone = true
    rw [g2]
    rfl
theorem own_more {m : Nat} (hm : Msk m) {done : List Int} {ow : Array (Option Nat)} (W : Own m done ow) (hl : done.length ≤ m) (h : Int) :
    ∃ j, SetTable.layClean.free m ow (SetTable.turns m) (SetTable.bits h % (m + 1)) (SetTable.bits h) = some j ∧ Own m (done ++ [h]) (ow.setIfInBounds j (some done.length)) := by
  obtain ⟨ps, lp, ip⟩ := W.ps
  obtain ⟨j0, a0, b0⟩ := st_missing ps (m + 1) (by omega)
  have f0 : oAt ow j0 = none := by
    by_cases z : oAt ow j0 = none
    · exact z
    · exact absurd (ip j0 (by omega) z) b0
  obtain ⟨n, e1, e2, e3⟩ := hm.lays ow h (show j0 ≤ m by omega) f0
  have le := step_in m h n
  have inb : way m h n < ow.size := by have := W.sz; omega
  have here := oAt_set_self (some done.length) inb
  have stay : ∀ i, oAt ow i ≠ none → oAt (ow.setIfInBounds (way m h n) (some done.length)) i ≠ none := fun i hi => by
    by_cases c : i = way m h n
    · rw [c, here]
      simp
    · rw [oAt_set_ne _ c]
      exact hi
  refine ⟨_, e1, (Array.size_setIfInBounds ..).trans W.sz, fun j k hj e => ?_, fun k hk => ?_, way m h n :: ps, by simp [lp], fun j hj e => ?_⟩
  · by_cases c : j = way m h n
    · subst c
      rw [here] at e
      obtain rfl := Option.some.inj e
      exact ⟨h, n, by simp, rfl, fun c' hc' => stay _ (e3 c' hc')⟩
    · rw [oAt_set_ne _ c] at e
      obtain ⟨h', n', g1, g2, g3⟩ := W.at_ j k hj e
      exact ⟨h', n', by rw [List.getElem?_append_left (List.getElem?_eq_some_iff.mp g1).1]; exact g1, g2, fun c' hc' => stay _ (g3 c' hc')⟩
  · rw [List.length_append, List.length_singleton] at hk
    rcases Nat.lt_or_ge k done.length with c | c
    · obtain ⟨j, hj, e⟩ := W.all k c
      exact ⟨j, hj, by rw [oAt_set_ne _ (fun z => by rw [z, e2] at e; cases e)]; exact e⟩
    · obtain rfl : k = done.length := by omega
      exact ⟨_, le, here⟩
  · by_cases c : j = way m h n
    · rw [c]; simp
    · rw [oAt_set_ne _ c] at e
      exact List.mem_cons_of_mem _ (ip j hj e)
theorem own_fold {m : Nat} (hm : Msk m) : ∀ (more done : List Int) (ow : Array (Option Nat)), Own m done ow → done.length + more.length ≤ m →
    ∃ ow', more.foldl (stepF m) (some (ow, done.length)) = some (ow', (done ++ more).length) ∧ Own m (done ++ more) ow'
  | [], done, ow, W, _ => ⟨ow, by simp, by simpa using W⟩
  | h :: more, done, ow, W, hl => by
    rw [List.length_cons] at hl
    obtain ⟨j, e, W'⟩ := own_more hm W (by omega) h
    obtain ⟨ow', f, W2⟩ := own_fold hm more (done ++ [h]) _ W' (by simp; omega)
    rw [List.append_assoc] at f W2
    refine ⟨ow', ?_, W2⟩
    rw [List.foldl_cons, stepF_some e]
    simpa using f
/-- the new table -/
theorem Msk.relay {M : Nat} (hM : Msk M) (t : SetTable) {hs : Array Int} {wanted : Nat} (hw : SetTable.sizeAbove wanted - 1 = M) (hn : hs.size ≤ M) :
    ∃ t' od, t.relaid hs wanted = some (t', od) ∧ od.toList.Perm (List.range hs.size) ∧ Tb t' (od.toList.map fun i => hs.getD i 0) ∧ t'.mask = M ∧ t'.led = t.led ∧ t'.plain = t.plain := by
  obtain ⟨ow, f, W⟩ := own_fold hM hs.toList [] _ (Own.init M) (by simpa using hn)
  rw [List.nil_append] at W f
  have lay : SetTable.layClean M hs = some ow := by
    rw [layClean_eq]
    have f : hs.toList.foldl (stepF M) (some (Array.replicate (M + 1) none, 0)) = some (ow, hs.toList.length) := f
    rw [f]
    rfl
  have hr : t.relaid hs wanted = some (tabOf t M ow, ((liveOf M ow).map (·.2)).toArray) := by
    rw [relaid_eq, hw, lay]
    rfl
  obtain ⟨r1, r2⟩ := ris_live (fun j => ow.getD j none) (List.range (M + 1)) (by
    unfold Ris
    exact List.pairwise_lt_range)
  have r1 : Ris ((liveOf M ow).map (·.1)) := r1
  have r2 : ∀ x ∈ (liveOf M ow).map (·.1), x ∈ List.range (M + 1) := r2
  have lo : (liveOf M ow).length = hs.size := by
    obtain ⟨ps, lp, ip⟩ := W.ps
    have u1 := nat_nodup_len ((liveOf M ow).map (·.1)) ps (show List.Pairwise (fun a b => a ≠ b) _ from r1.imp fun h => Nat.ne_of_lt h) fun x hx => by
      obtain ⟨⟨y, k⟩, hq, rfl⟩ := List.mem_map.mp hx
      obtain ⟨b1, b2⟩ := (mem_live W.sz).1 hq
      exact ip y b1 (by rw [b2]; simp)
    have u2 := nat_nodup_len (List.range hs.size) ((liveOf M ow).map (·.2)) List.nodup_range fun k hk => by
      obtain ⟨j, b1, b2⟩ := W.all k (by simpa using hk)
      exact List.mem_map.mpr ⟨(j, k), (mem_live W.sz).2 ⟨b1, b2⟩, rfl⟩
    simp only [List.length_map, List.length_range, lp, Array.length_toList] at u1 u2
    omega
  refine ⟨_, _, hr, perm_range _ _ (by simpa using lo) fun k hk => ?_, ⟨r1, rfl, by simp [tabOf], hM, fun x hx => ?_, fun i h j g1 g2 => ?_⟩, rfl, rfl, rfl⟩
  · obtain ⟨j, b1, b2⟩ := W.all k (by simpa using hk)
    exact List.mem_map.mpr ⟨(j, k), (mem_live W.sz).2 ⟨b1, b2⟩, rfl⟩
  · have := List.mem_range.mp (r2 x hx)
    show x ≤ M
    omega
  · have g1 : (((liveOf M ow).map (·.2)).map fun i => hs.getD i 0)[i]? = some h := g1
    have g2 : ((liveOf M ow).map (·.1))[i]? = some j := g2
    simp only [List.getElem?_map, Option.map_eq_some_iff] at g1 g2
    obtain ⟨⟨y, k⟩, q, rfl⟩ := g2
    obtain ⟨_, ⟨⟨_, _⟩, q', rfl⟩, rfl⟩ := g1
    rw [q] at q'
    cases q'
    obtain ⟨b1, b2⟩ := (mem_live W.sz).1 (List.mem_of_getElem? q)
    obtain ⟨h0, n, a1, a2, a3⟩ := W.at_ y k b1 b2
    have e0 : hs.getD k 0 = h0 := by
      rw [Array.getD_eq_getD_getElem?, ← Array.getElem?_toList, a1]
      rfl
    show ∃ c, way M (hs.getD k 0) c = y ∧ ∀ c', c' < c → way M (hs.getD k 0) c' ∈ (liveOf M ow).map (·.1)
    rw [e0]
    refine ⟨n, a2, fun c hc => ?_⟩
    cases z : oAt ow (way M h0 c) with
    | none => exact absurd z (a3 c hc)
    | some k2 => exact List.mem_map.mpr ⟨(way M h0 c, k2), (mem_live W.sz).2 ⟨step_in M h0 c, z⟩, rfl⟩
end Y
end
section
set_option Elab.async false
set_option Elab.async false
set_option linter.all false
set_option maxRecDepth 100000
set_option maxHeartbeats 4000000
/-! Sgb: a set of up to 1200 tuples of ints. -/
namespace Y
open PySem PySem.Spec PyProof.Rows L2
abbrev Ent := List (Addr × List Int)
structure SetN (P : Program) (w : World) (h : Heap) (a : Addr) (L : Ent) (es : Array (Int × Value)) (ep : Nat) (t : SetTable) : Prop where
  ob : ∃ o, h.get? a = some o ∧ o.ExactSet ∧ o.data = .set es ep t
  row : es.toList = rowsOf P w L
  tb : Tb t (L.map fun p => thash P w p.2)
  nd : (L.map (·.2)).Nodup
  tup : ∀ p ∈ L, IsT P w h p.2 p.1
  pl : t.plain = true
  ld : w.params.followText "set-order" = true ∨ t.led = true
  room : L.length * 5 < t.mask * 3
  few : L.length ≤ 1200
section
variable {P : Program} {w : World} {A : Around} {E : Value → Shared → Prop} {s : Shared} {a : Addr} {L : Ent} {es : Array (Int × Value)} {ep : Nat} {t : SetTable}
theorem rows_len {es : Array (Int × Value)} {L : Ent} (h : es.toList = rowsOf P w L) : es.size = L.length := by
  rw [← Array.length_toList, h]
  unfold rowsOf
  exact List.length_map ..
theorem rows_get {es : Array (Int × Value)} {L : Ent} (h : es.toList = rowsOf P w L) {i : Nat} {p : Addr × List Int} (hp : L[i]? = some p) : es[i]? = some (thash P w p.2, Value.ref p.1) := by
  rw [← Array.getElem?_toList, h]
  unfold rowsOf
  rw [List.getElem?_map, hp]
  rfl
theorem tb_fits {t : SetTable} {n : Nat} (hs : t.place.size = n) (hd : t.dummies = #[]) (hl : n ≤ t.mask) : t.fits n = true := by
  unfold SetTable.fits SetTable.fill
  rw [hd]
  simp [hs]
  exact hl
theorem SetN.fits (R : SetN P w s.heap a L es ep t) : t.fits es.size = true := by
  have h1 := R.tb.len
  have h2 := rows_len R.row
  have h3 := R.room
  rw [List.length_map] at h1
  exact tb_fits (by omega) R.tb.dum (by omega)
theorem SetN.whole (R : SetN P w s.heap a L es ep t) : ¬ t.gaveWay = true := by
  unfold SetTable.gaveWay
  rw [R.tb.msk.odd]
  decide
theorem nth_plain (m : Nat) : ∀ (n : Nat) (p : SetTable.Probe), p.dummy = none → (nth m p n).dummy = none
  | 0, _, h => h
  | n + 1, p, h => nth_plain m n (adv m p) (by
    unfold adv
    split <;> exact h)
/-- where the search stands behind c steps -/
abbrev atStep (m : Nat) (h : Int) (c : Nat) : SetTable.Probe := nth m (runAt m (SetTable.bits h % (m + 1)) (SetTable.bits h)) c
/-- the search from the c-th step on: the key stands there, or the first free place is told -/
theorem seekN (R : SetN P w s.heap a L es ep t) {x : Addr} {k : List Int} (hx : IsT P w s.heap k x) (hu : A.units < cLine) {n : Nat} (hn : n < 10 * SetTable.turns t.mask) (hfree : way t.mask (thash P w k) n ∉ t.place.toList)
    (hocc : ∀ c, c < n → way t.mask (thash P w k) c ∈ t.place.toList) {Q : SetFound → Shared → Prop} (yes : k ∈ L.map (·.2) → Q (.there none) s) (no : k ∉ L.map (·.2) → Q (.free (way t.mask (thash P w k) n) false) s) :
    ∀ (fuel c : Nat) (from_ : Option SetTable.Probe), from_.getD (t.probeStart (thash P w k)) = atStep t.mask (thash P w k) c → c ≤ n → n < fuel + c →
      (∀ (i : Nat) p, L[i]? = some p → p.2 = k → ∃ d, c ≤ d ∧ d < n ∧ t.place.toList[i]? = some (way t.mask (thash P w k) d)) → wpAny (model P w) A (setSearchFrom a (.ref x) (thash P w k) true fuel from_) Q E s := by
  obtain ⟨o, ho, hex, hd⟩ := R.ob
  generalize hh : thash P w k = h at *
  intro fuel
  induction fuel with
  | zero => intro c _ _ h1 h2; omega
  | succ fuel ih =>
    intro c from_ hst hc hf hre
    rw [setSearchFrom_succ]
    refine wpAny_bind (wpAny_setState_of ho hd R.fits ?_)
    dsimp only
    refine wp_if_neg R.whole ?_
    try refine wpAny_bind (wpAny_pure ?_)
    have shift : ∀ q, nth t.mask (atStep t.mask h c) q = atStep t.mask h (c + q) := fun q => (nth_add t.mask c _ q).symm
    have shiftJ : ∀ q, (nth t.mask (atStep t.mask h c) q).j = way t.mask h (c + q) := fun q => congrArg SetTable.Probe.j (shift q)
    have cn : c + (n - c) = n := by omega
    have told := go_spec t R.tb.ris R.tb.dum (fun i => (es[i]?.map (·.1)).getD 0) h (10 * SetTable.turns t.mask) (n - c) (atStep t.mask h c) (nth_plain _ c _ rfl) (by omega)
      (fun q hq => by rw [shiftJ]; exact hocc _ (by omega)) (by rw [shiftJ, cn]; exact hfree)
    have hashOf : ∀ (i : Nat) p, L[i]? = some p → p.2 = k → (fun i => (es[i]?.map (·.1)).getD 0) i = h := fun i p hp hk => by
      show (es[i]?.map (·.1)).getD 0 = h
      rw [rows_get R.row hp, hk, hh]
      rfl
    rcases told with ⟨q, i, hq, hi, _, first, pr⟩ | ⟨first, pr⟩
    · -- an entry of the same hash
      have pr' : t.probe (fun i => (es[i]?.map (·.1)).getD 0) h (from_.getD (t.probeStart h)) = some (.candidate (way t.mask h (c + q)) i (atStep t.mask h (c + (q + 1)))) := by
        rw [hst, ← shiftJ, ← shift]
        exact pr
      rw [pr']
      dsimp only
      rw [shiftJ] at hi
      have il : i < L.length := by
        have h1 := (List.getElem?_eq_some_iff.mp hi).1
        have h2 := R.tb.len
        rw [List.length_map] at h2
        rw [Array.length_toList] at h1
        omega
      obtain ⟨p, hp⟩ : ∃ p, L[i]? = some p := ⟨_, List.getElem?_eq_getElem il⟩
      have pm : p ∈ L := List.mem_of_getElem? hp
      have ent := rows_get R.row hp
      have live : t.slot (way t.mask h (c + q)) = .live i := slot_live R.tb.ris hi
      have body : wpAny (model P w) A (searchRest a (.ref x) h true fuel es t (way t.mask h (c + q)) i (atStep t.mask h (c + (q + 1)))) Q E s := by
        unfold searchRest
        rw [ent]
        dsimp only
        refine wpAny_bind (wpAny_holding (wpAny_eqBool_tuple hu (R.tup p pm) hx ?_))
        refine wpAny_bind (wpAny_setState_of ho hd R.fits ?_)
        dsimp only
        by_cases same : p.2 = k
        · exact wp_if_pos (by simp [same]) (wpAny_pure (yes (List.mem_map.mpr ⟨p, pm, same⟩)))
        · refine wp_if_neg (by simp [same]) ?_
          try refine wpAny_bind (wpAny_pure ?_)
          rw [sameMem]
          dsimp only
          simp only [if_true, live, ent]
          refine wpAny_bind (wpAny_isSame_ref_self (wpAny_bind (wpAny_pure ?_)))
          simp only [if_true]
          refine wp_if_neg (by simp [same]) ?_
          refine ih (c + (q + 1)) _ rfl (by omega) (by omega) fun i0 p0 h0 hk0 => ?_
          obtain ⟨d, d1, d2, d3⟩ := hre i0 p0 h0 hk0
          refine ⟨d, ?_, d2, d3⟩
          rcases Nat.lt_trichotomy d (c + q) with z | z | z
          · refine absurd (hashOf i0 p0 h0 hk0) (first (d - c) i0 (by omega) ?_)
            rw [shiftJ, show c + (d - c) = d by omega]
            exact d3
          · subst z
            have := slot_live R.tb.ris d3
            rw [live] at this
            injection this with e
            rw [← e, hp] at h0
            cases h0
            exact absurd hk0 same
          · omega
      by_cases hl : t.led = true
      · refine wp_if_neg (by simp [hl]) ?_
        try refine wpAny_bind (wpAny_pure ?_)
        exact body
      · refine wp_if_pos (by simp [hl]) (wpAny_bind (seen_tup hx (fun y hy => ?_) ?_))
        · simp only [List.mem_map] at hy
          obtain ⟨e, he, rfl⟩ := hy
          have he : e ∈ es.toList := by
            have : e ∈ es ∧ e.1 = h := by simpa using he
            simpa using this.1
          rw [R.row] at he
          obtain ⟨p2, m2, rfl⟩ := List.mem_map.mp he
          exact ⟨p2.2, p2.1, rfl, R.tup p2 m2⟩
        · refine wp_if_neg (by decide) ?_
          try refine wpAny_bind (wpAny_pure ?_)
          exact body
    · -- nothing of it up to the free place
      have pr' : t.probe (fun i => (es[i]?.map (·.1)).getD 0) h (from_.getD (t.probeStart h)) = some (.empty (way t.mask h n) none) := by
        have e := shiftJ (n - c)
        rw [cn] at e
        rw [hst, ← e]
        exact pr
      rw [pr']
      dsimp only
      refine wpAny_pure (no fun hm => ?_)
      obtain ⟨p, pm, hk⟩ := List.mem_map.mp hm
      obtain ⟨i, hp⟩ := List.mem_iff_getElem?.mp pm
      obtain ⟨d, d1, d2, d3⟩ := hre i p hp hk
      refine first (d - c) i (by omega) ?_ (hashOf i p hp hk)
      rw [shiftJ, show c + (d - c) = d by omega]
      exact d3
theorem seek (R : SetN P w s.heap a L es ep t) {x : Addr} {k : List Int} (hx : IsT P w s.heap k x) (hu : A.units < cLine) {Q : SetFound → Shared → Prop} (yes : k ∈ L.map (·.2) → Q (.there none) s)
    (no : ∀ n, k ∉ L.map (·.2) → way t.mask (thash P w k) n ∉ t.place.toList → (∀ c, c < n → way t.mask (thash P w k) c ∈ t.place.toList) → Q (.free (way t.mask (thash P w k) n) false) s) :
    wpAny (model P w) A (setSearch a (.ref x) (thash P w k) true) Q E s := by
  have room := R.room
  have ml := R.tb.msk.le
  obtain ⟨n, n1, n2, n3⟩ := R.tb.free (by rw [List.length_map]; omega) (thash P w k)
  have n4 := n1
  unfold SetTable.turns at n4
  unfold setSearch
  refine seekN R hx hu n1 n2 n3 yes (fun z => no n z n2 n3) 100000 0 none rfl (Nat.zero_le _) (by omega) fun i p hp hk => ?_
  have hi : (L.map fun p => thash P w p.2)[i]? = some (thash P w k) := by rw [List.getElem?_map, hp, ← hk]; rfl
  have il : i < t.place.toList.length := by
    have h1 := (List.getElem?_eq_some_iff.mp hi).1
    have h2 := R.tb.len
    rw [Array.length_toList]
    omega
  have hj := List.getElem?_eq_getElem il
  obtain ⟨c, hc, e⟩ := R.tb.ahead n2 hi hj
  exact ⟨c, Nat.zero_le _, hc, hj.trans (congrArg some e.symm)⟩
/-! ### adding -/
theorem relayN {o : Obj} (ho : s.heap.get? a = some o) (hex : o.ExactSet) (hd : o.data = .set es ep t) (hrow : es.toList = rowsOf P w L) (hsz : t.place.size = es.size) (hdm : t.dummies = #[]) (hfl : es.size ≤ t.mask)
    (nd : (L.map (·.2)).Nodup) (tup : ∀ p ∈ L, IsT P w s.heap p.2 p.1) (pl : t.plain = true) (ld : w.params.followText "set-order" = true ∨ t.led = true) (few : L.length ≤ 1200) {wanted M : Nat} (hw : SetTable.sizeAbove wanted = M + 1) (hM : Msk M) (hn : L.length * 5 < M * 3) {Q : Unit → Shared → Prop}
    (hQ : ∀ h' L' es' ep' t', Heap.SameBut a s.heap h' → SetN P w h' a L' es' ep' t' → L'.Perm L → Q () { s with heap := h' }) : wpAny (model P w) A (setRelay a wanted) Q E s := by
  have hsl := rows_len hrow
  have ml := hM.le
  obtain ⟨t', od, e, hp, T, em, el, epl⟩ := hM.relay t (hs := es.map (·.1)) (wanted := wanted) (by omega) (by rw [Array.size_map, hsl]; omega)
  rw [Array.size_map, hsl] at hp
  obtain ⟨L2, r1, r2, r3⟩ := order_rows L es od hrow hp
  rw [← r3] at T
  have hs2 : (od.filterMap (es[·]?)).size = es.size := (rows_len r1).trans (r2.length_eq.trans hsl.symm)
  rw [setRelay_eq]
  refine wpAny_bind (wpAny_setState_of ho hd (tb_fits hsz hdm hfl) ?_)
  dsimp only
  refine wp_if_neg (by rw [hw, sizeLine_eq]; omega) ?_
  try refine wpAny_bind (wpAny_pure ?_)
  rw [e]
  dsimp only
  refine wpAny_bind (wp_if_neg (by rw [hs2]; simp) ?_)
  try refine wpAny_bind (wpAny_pure ?_)
  refine wpAny_pure ?_
  dsimp only
  refine wpAny_storeSet_of ho hd ?_ (by rw [hs2, hsl, sizeLine_eq]; omega)
  have sb : Heap.SameBut a s.heap (s.heap.update a (Obj.putSet (od.filterMap (es[·]?)) t')) := Heap.SameBut.update ..
  exact hQ _ L2 _ (ep + 1) t' sb ⟨⟨_, store_at ho hd, ⟨hex.1, hex.2.1, hex.2.2⟩, rfl⟩, r1, T, (r2.map (·.2)).nodup_iff.mpr nd, (fun p pm => isT_same (tup p (r2.mem_iff.mp pm)) ho hd sb), epl.trans pl, ld.imp id fun z => el.trans z, (by rw [r2.length_eq, em]; exact hn), (by rw [r2.length_eq]; exact few)⟩ r2
theorem size77 : SetTable.sizeAbove (SetTable.grown 77) = 512 := by decide +kernel
theorem size307 : SetTable.sizeAbove (SetTable.grown 307) = 2048 := by decide +kernel
theorem Msk.next {m n : Nat} (h : Msk m) (h1 : n * 5 < m * 3) (h2 : (n + 1) * 5 ≥ m * 3) (h3 : n < 1200) : ∃ M, SetTable.sizeAbove (SetTable.grown (n + 1)) = M + 1 ∧ Msk M ∧ (n + 1) * 5 < M * 3 := by
  rcases h with rfl | rfl | rfl | rfl | rfl
  · obtain rfl : n = 4 := by omega
    exact ⟨31, size_20, by unfold Msk; omega, by omega⟩
  · obtain rfl : n = 18 := by omega
    exact ⟨127, size_76, by unfold Msk; omega, by omega⟩
  · obtain rfl : n = 76 := by omega
    exact ⟨511, size77, by unfold Msk; omega, by omega⟩
  · obtain rfl : n = 306 := by omega
    exact ⟨2047, size307, by unfold Msk; omega, by omega⟩
  · omega
theorem addN (R : SetN P w s.heap a L es ep t) {x : Addr} {k : List Int} (hx : IsT P w s.heap k x) (hu : A.units < cLine) (hfew : L.length < 1200) {Q : Bool → Shared → Prop}
    (hQ : ∀ b h' L' es' ep' t', Heap.SameBut a s.heap h' → SetN P w h' a L' es' ep' t' → (k ∈ L.map (·.2) → L' = L) → (k ∉ L.map (·.2) → L'.Perm ((x, k) :: L)) → Q b { s with heap := h' }) :
    wpAny (model P w) A (setAddHashed a (.ref x) (thash P w k)) Q E s := by
  obtain ⟨o, ho, hex, hd⟩ := R.ob
  have hsl := rows_len R.row
  have room := R.room
  have ml := R.tb.msk.le
  unfold setAddHashed
  refine wpAny_holding ?_
  rw [show (100000 : Nat) = 99999 + 1 from rfl, setAddHashedIn_succ]
  refine wpAny_bind (wpAny_setState_of ho hd R.fits ?_)
  dsimp only
  refine wp_if_neg (by simp [byScan, Value.scannable]) ?_
  try refine wpAny_bind (wpAny_pure ?_)
  refine wpAny_bind (seek R hx hu (fun hm => ?_) fun n hm hK hb => ?_)
  · exact wpAny_pure (hQ false s.heap L es ep t (Heap.SameBut.refl a s.heap) R (fun _ => rfl) fun z => absurd hm z)
  · refine wpAny_bind (wpAny_setState_of ho hd R.fits ?_)
    dsimp only
    obtain ⟨q1, q2⟩ := R.tb.ins hK hb
    have hp1 : (t.put (way t.mask (thash P w k) n)).1.plain = true := R.pl
    have hmk : (t.put (way t.mask (thash P w k) n)).1.mask = t.mask := rfl
    have hld : (t.put (way t.mask (thash P w k) n)).1.led = t.led := rfl
    have hat : (t.put (way t.mask (thash P w k) n)).2 = SetTable.below t.place (way t.mask (thash P w k) n) := rfl
    generalize t.put (way t.mask (thash P w k) n) = pt at q2 hp1 hmk hld hat ⊢
    obtain ⟨t1, p⟩ := pt
    dsimp only at q2 hp1 hmk hld hat ⊢
    subst hat
    first
      | (refine wpAny_bind ?_; refine wp_if_pos hp1 ?_; refine hashBy_tup hx ?_)
      | refine wp_if_pos hp1 (wpAny_bind (hashBy_tup hx ?_))
    simp only [if_true]
    have row1 : (SetTable.insertAt es (SetTable.below t.place (way t.mask (thash P w k) n)) (thash P w k, Value.ref x)).toList = rowsOf P w (L.take (SetTable.below t.place (way t.mask (thash P w k) n)) ++ (x, k) :: L.drop (SetTable.below t.place (way t.mask (thash P w k) n))) := by
      rw [SetTable.toList_insertAt, rows_put, R.row]
    generalize SetTable.below t.place (way t.mask (thash P w k) n) = p at q1 q2 row1 ⊢
    have pm := put_perm L p (x, k)
    have hmap : (L.take p ++ (x, k) :: L.drop p).map (fun p => thash P w p.2) = (L.map fun p => thash P w p.2).take p ++ thash P w k :: (L.map fun p => thash P w p.2).drop p := by
      rw [List.map_append, List.map_cons, List.map_take, List.map_drop]
    rw [← hmap] at q2
    have len1 : (L.take p ++ (x, k) :: L.drop p).length = L.length + 1 := pm.length_eq
    have nd1 : ((L.take p ++ (x, k) :: L.drop p).map (·.2)).Nodup := (pm.map (·.2)).nodup_iff.mpr (by rw [List.map_cons]; exact List.nodup_cons.mpr ⟨hm, R.nd⟩)
    have hes := rows_len row1
    rw [len1] at hes
    generalize SetTable.insertAt es p (thash P w k, Value.ref x) = es1 at row1 hes ⊢
    generalize L.take p ++ (x, k) :: L.drop p = L1 at pm len1 q2 nd1 row1
    refine wpAny_bind (wpAny_storeSet_of ho hd ?_ (by rw [hes, sizeLine_eq]; omega))
    have sb : Heap.SameBut a s.heap (s.heap.update a (Obj.putSet es1 t1)) := Heap.SameBut.update ..
    have ho1 := store_at (es' := es1) (t' := t1) ho hd
    generalize s.heap.update a (Obj.putSet es1 t1) = h1 at sb ho1 ⊢
    have tup1 : ∀ p ∈ L1, IsT P w h1 p.2 p.1 := fun p hp => by
      rcases List.mem_cons.mp (pm.mem_iff.mp hp) with rfl | hp
      · exact isT_same hx ho hd sb
      · exact isT_same (R.tup p hp) ho hd sb
    have ld1 : w.params.followText "set-order" = true ∨ t1.led = true := R.ld.imp id fun z => hld.trans z
    have hpl : t1.place.size = es1.size := by
      have z := q2.len
      rw [List.length_map, len1] at z
      omega
    have full : t1.tooFull = true ↔ (L.length + 1) * 5 ≥ t.mask * 3 := by
      unfold SetTable.tooFull SetTable.fill
      rw [decide_eq_true_eq, q2.dum, hpl, hes, hmk]
      rfl
    by_cases hf : t1.tooFull = true
    · first
        | (refine wpAny_bind ?_; refine wp_if_pos (by simp [hf]) ?_)
        | (refine wp_if_pos (by simp [hf]) ?_; refine wpAny_bind ?_)
      rw [hsl]
      obtain ⟨M, m1, m2, m3⟩ := R.tb.msk.next room (full.mp hf) hfew
      refine relayN (s := { s with heap := h1 }) ho1 ⟨hex.1, hex.2.1, hex.2.2⟩ rfl row1 hpl q2.dum (by rw [hes, hmk]; rcases R.tb.msk with z | z | z | z | z <;> omega) nd1 tup1 hp1 ld1 (by omega) m1 m2 (by rw [len1]; exact m3) ?_
      intro h2 L2 es2 ep2 t2 sb2 R2 pm2
      exact wpAny_pure (hQ true h2 L2 es2 ep2 t2 (sb.trans sb2) R2 (fun z => absurd z hm) fun _ => pm2.trans pm)
    · first
        | refine wp_if_neg (by simp [hf]) ?_
        | (refine wpAny_bind ?_; refine wp_if_neg (by simp [hf]) ?_; refine wpAny_pure ?_)
      exact wpAny_pure (hQ true h1 L1 es1 (ep + 1) t1 sb ⟨⟨_, ho1, ⟨hex.1, hex.2.1, hex.2.2⟩, rfl⟩, row1, q2, nd1, tup1, hp1, ld1, (by rw [len1, hmk]; exact Nat.lt_of_not_le fun z => hf (full.mpr z)), (by omega)⟩ (fun z => absurd z hm) fun _ => pm)
end
end Y
end
section
set_option Elab.async false
set_option Elab.async false
set_option linter.all false
set_option maxRecDepth 100000
set_option maxHeartbeats 4000000
/-! Sgc: set(xs), xs a list of up to 1200 tuples of ints. -/
namespace Y
open PySem PySem.Spec PyProof.Rows L2
/-- a new set's object -/
abbrev freshO (w : World) : Obj := { cls := .type "set", dict := none, data := .set #[] 0 (.fresh 0 0 (!w.params.followText "set-order")) }
section
variable {P : Program} {w : World} {A : Around} {E : Value → Shared → Prop} {s : Shared}
theorem SetN.stay {h h' : Heap} {a : Addr} {L : Ent} {es : Array (Int × Value)} {ep : Nat} {t : SetTable} (R : SetN P w h a L es ep t) (ha : ∀ o, h.get? a = some o → h'.get? a = some o) (ht : ∀ p ∈ L, IsT P w h' p.2 p.1) : SetN P w h' a L es ep t :=
  let ⟨o, ho, r⟩ := R.ob
  ⟨⟨o, ha o ho, r⟩, R.row, R.tb, R.nd, ht, R.pl, R.ld, R.room, R.few⟩
theorem setN_fresh {h : Heap} {a : Addr} (ho : h.get? a = some (freshO w)) : SetN P w h a [] #[] 0 (.fresh 0 0 (!w.params.followText "set-order")) := by
  refine ⟨⟨_, ho, ⟨rfl, rfl, rfl⟩, rfl⟩, rfl, ⟨List.Pairwise.nil, rfl, rfl, .inl rfl, (fun x hx => nomatch hx), fun i h j hi => by simp at hi⟩, List.nodup_nil, (fun p hp => nomatch hp), rfl, ?_, (show 0 * 5 < 7 * 3 by decide), (show 0 ≤ 1200 by decide)⟩
  show _ ∨ (!w.params.followText "set-order") = true
  cases w.params.followText "set-order"
  · exact .inr rfl
  · exact .inl rfl
/-- the loop of set.update -/
theorem updN {I : Addr} {fp wr : List Addr} {G : Array GenState → Array GenState → Prop} {n : Nat} {Pv : Nat → Value → Prop} {St : Nat → Shared → Prop} {R : Result → Shared → Prop} (W : WalksS P w A.in1 I fp wr G n Pv St) (S : Addr) (out : S ∉ fp)
    (ks : Ent) (hn : n = ks.length) (few : ks.length ≤ 1200) (val : ∀ i v, Pv i v → ∃ p, ks[i]? = some p ∧ v = .ref p.1) (h0 : Heap) (tups : ∀ p ∈ ks, IsT P w h0 p.2 p.1) (newS : h0.get? S = none) (newW : ∀ b ∈ wr, h0.get? b = none) (hu : A.in1.units < cLine) :
    ∀ (left i : Nat) (s : Shared), n - i = left → i ≤ n → St i s → (∀ b o, h0.get? b = some o → s.heap.get? b = some o) → (∃ L es ep t, SetN P w s.heap S L es ep t ∧ Got ks i L) →
      (∀ s' L es ep t, Moved (S :: wr) G s s' → SetN P w s'.heap S L es ep t → Got ks n L → (∀ b o, h0.get? b = some o → s'.heap.get? b = some o) → R (.ok (.ret .none)) s') → codeAny (model P w) A (.builtin "set.update.loop" ⟨[.ref S, .ref I], []⟩) R s := by
  have outW : S ∉ wr := fun h => out (W.sub _ h)
  have wide : ∀ b ∈ wr, b ∈ S :: wr := fun b hb => List.mem_cons_of_mem _ hb
  have past : ∀ {s s' : Shared}, Moved wr G s s' → (∀ b o, h0.get? b = some o → s.heap.get? b = some o) → ∀ b o, h0.get? b = some o → s'.heap.get? b = some o := fun mv kp b o e => mv.heap b o (fun hb => by rw [newW b hb] at e; cases e) (kp b o e)
  intro left
  induction left with
  | zero =>
    intro i s h1 h2 hst kp ⟨L, es, ep, t, hS, g⟩ hR
    obtain rfl : i = n := by omega
    refine codeAny_builtin F.entry_set_update_loop ?_
    rw [Around.under_plainId F.plain_set_update_loop _]
    show wpAny _ A.in1 (pyNext (.ref I) >>= _) _ _ s
    refine wpAny_bind (W.done s _ _ hst fun s' mv => ?_)
    show wpAny _ A.in1 (PySem.ret Value.none) _ _ s'
    have kp' := past mv kp
    exact wpAny_pure (hR s' L es ep t (mv.mono wide) (hS.stay (fun o e => mv.heap S o outW e) fun p hp => isT_keep (tups p (List.mem_of_mem_take (g.sub p hp))) kp') g kp')
  | succ left ih =>
    intro i s h1 h2 hst kp ⟨L, es, ep, t, hS, g⟩ hR
    have lt : i < n := by omega
    refine codeAny_builtin F.entry_set_update_loop ?_
    rw [Around.under_plainId F.plain_set_update_loop _]
    show wpAny _ A.in1 (pyNext (.ref I) >>= _) _ _ s
    refine wpAny_bind (W.item i s _ _ lt hst fun v s' hP hst' mv => ?_)
    obtain ⟨p, hp, rfl⟩ := val i v hP
    have kp' := past mv kp
    have hS' := hS.stay (h' := s'.heap) (fun o e => mv.heap S o outW e) fun q hq => isT_keep (tups q (List.mem_of_mem_take (g.sub q hq))) kp'
    have hx : IsT P w s'.heap p.2 p.1 := isT_keep (tups p (List.mem_of_getElem? hp)) kp'
    show wpAny _ A.in1 (holding [Value.ref p.1] (setAdd S (.ref p.1)) >>= _) _ _ s'
    refine wpAny_bind (wpAny_holding ?_)
    unfold setAdd
    refine wpAny_holding (wpAny_bind (wpAny_pyHash_tuple hu hx ?_))
    refine addN (s := { s' with toks := s'.toks + (p.2.length + 1) }) hS' hx hu (by have := g.len; omega) fun b h' L' es' ep' t' sb hS2 c1 c2 => ?_
    have g' : Got ks (i + 1) L' := by
      by_cases c : p.2 ∈ L.map (·.2)
      · rw [c1 c]; exact g.same hp c
      · exact g.more hp (c2 c)
    have kp2 : ∀ b o, h0.get? b = some o → h'.get? b = some o := fun b o e => (sb.2 b (fun z => by rw [z, newS] at e; cases e)).trans (kp' b o e)
    refine wpAny_pure ⟨plainId_quiet F.plain_set_update_loop _, ih (i + 1) _ (by omega) lt (W.frame _ s' _ _ hst' (Nat.le_add_right _ _) fun b hb o e => ?_) kp2 ⟨L', es', ep', t', hS2, g'⟩ fun s2 L2 es2 ep2 t2 mv2 hS3 g2 kp3 => ?_⟩
    · exact (sb.2 b (fun z => out (z ▸ hb))).trans e
    · refine hR s2 L2 es2 ep2 t2 (Moved.trans W.gtrans ((mv.mono wide).then_heap (Nat.le_add_right _ _) fun b o hb e => ?_) mv2) hS3 g2 kp3
      exact (sb.2 b (fun z => hb (z ▸ List.mem_cons_self))).trans e
/-- set(xs) -/
theorem setN {l : Addr} {items : Array Value} (ks : Ent) {Q : Value → Shared → Prop} (hh : A.handled = none) (hl : s.heap.IsList l items) (hit : items.toList = ks.map fun p => Value.ref p.1) (tups : ∀ p ∈ ks, IsT P w s.heap p.2 p.1) (few : ks.length ≤ 1200) (hu : A.units + 3 < cLine)
    (h : ∀ (h' : Heap) (tk : Nat) L es ep t, SetN P w h' s.heap.objs.size L es ep t → Got ks ks.length L → (∀ b o, s.heap.get? b = some o → h'.get? b = some o) → Q (.ref s.heap.objs.size) { s with heap := h', toks := tk }) :
    wpAny (model P w) A (call (.type "set") [.ref l]) Q E s := by
  have isz : items.size = ks.length := by
    have q := congrArg List.length hit
    simpa using q
  obtain ⟨c, tl, hmro⟩ := F.called_set.mro
  have hmade := F.called_set.made
  have hsub := F.called_set.sub
  refine wpAny_call (codeAny_of_tree ?_)
  show wpAny _ _ (callAny (.type "set") _) _ _ _
  refine wpAny_pure ⟨Code.quiet_builtin _ (by decide +kernel), codeAny_builtin F.entry_type_call ?_⟩
  rw [Around.under_plain (weight_type_call_type "set" [.ref l] []) rfl]
  have h1 := F.called_set.notType
  have h2 := F.called_set.canCreate
  have hct := F.typeCall_set_1 (.ref l)
  repeat (any_goals (first | assumption | wp_step))
  refine codeAny_mono (code_set_led1 (.ref l) (E := E) (Q₁ := fun obj s₁ => obj = .ref s.heap.objs.size ∧ s₁ = { s with heap := s.heap.push (freshO w) }) ⟨rfl, rfl⟩) fun r s₁ hr => ?_
  cases r with
  | error e => exact hr
  | ok fl =>
    cases fl with
    | next => exact hr.elim
    | brk => exact hr.elim
    | cont => exact hr.elim
    | ret obj =>
      obtain ⟨rfl, rfl⟩ := hr
      have hS : (s.heap.push (freshO w)).get? s.heap.objs.size = some (freshO w) := Heap.get?_push_size _ rfl
      have hT : Shared.TypeIs { s with heap := s.heap.push (freshO w) } (.ref s.heap.objs.size) "set" := ⟨_, hS, rfl⟩
      have hli := F.called_set.init.lookup
      have hbi := F.called_set.init.bind (.ref s.heap.objs.size)
      repeat (any_goals (first | assumption | wp_step))
      refine codeAny_mono (codeAny_call_builtin (R := wants (fun r s₂ => r = .none ∧ ∃ h' tk L es ep t, s₂ = { s with heap := h', toks := tk } ∧ SetN P w h' s.heap.objs.size L es ep t ∧ Got ks ks.length L ∧ (∀ b o, s.heap.get? b = some o → h'.get? b = some o)) E) F.called_set.init.plain F.entry_set_init (check_set_init_1 hT ?_)) fun r₂ s₂ hr₂ => ?_
      · obtain ⟨⟨ocls, odict, odata, oslots⟩, hol, hcl, nl, hdl⟩ := hl
        simp only at hcl hdl
        subst hcl hdl
        have hol' : (s.heap.push (freshO w)).get? l = some { cls := .type "list", dict := odict, data := .seq items nl, slots := oslots } := Heap.get?_push_of_some _ hol
        have hsls := F.sub_list_set
        have hslf := F.sub_list_frozenset
        have hne : (Value.type "list" == Value.type "dict") = false := by decide
        have hl1 : (s.heap.push (freshO w)).IsList l items := ⟨_, hol', rfl, nl, rfl⟩
        unfold Builtin.«set.__init__» noKeywords Builtin.Frozenset.updateFrom
        generalize hPI : pyIter = PI
        wp_walk
        subst hPI
        refine wpAny_pyIter_list hl1 (wpAny_bind (wpAny_runValue ?_))
        have lS : l < s.heap.objs.size := Heap.lt_size hol
        have h3 : A.in1.in1.in1.handled = none := by simp [hh]
        have z1 : (s.heap.push (freshO w)).objs.size = s.heap.objs.size + 1 := Heap.size_push ..
        have nI : l ≠ (s.heap.push (freshO w)).objs.size := by rw [z1]; exact Nat.ne_of_lt (Nat.lt_succ_of_lt lS)
        have nS : s.heap.objs.size ∉ [(s.heap.push (freshO w)).objs.size, l] := by
          rw [z1]
          simp only [List.mem_cons, List.not_mem_nil, or_false, not_or]
          exact ⟨Nat.ne_of_lt (Nat.lt_succ_self _), Nat.ne_of_gt lS⟩
        have vals : ∀ (i : Nat) (v : Value), items[i]? = some v → ∃ p, ks[i]? = some p ∧ v = .ref p.1 := fun i v hv => by
          rw [← Array.getElem?_toList, hit, List.getElem?_map, Option.map_eq_some_iff] at hv
          obtain ⟨p, e, rfl⟩ := hv
          exact ⟨p, e, rfl⟩
        have none_of : ∀ b, s.heap.objs.size ≤ b → s.heap.get? b = none := fun b hb => by
          cases q : s.heap.get? b with
          | none => rfl
          | some o => exact absurd (Nat.lt_of_lt_of_le (Heap.lt_size q) hb) (Nat.lt_irrefl _)
        refine updN ((Walks.list h3 _ l nI items).toS) s.heap.objs.size nS ks isz few vals s.heap tups (none_of _ (Nat.le_refl _)) (fun b hb => none_of b (by
            rw [List.mem_singleton.mp hb, z1]
            exact Nat.le_succ _)) hu (items.size - 0) 0 _ (by omega) (Nat.zero_le _) ⟨⟨_, Heap.get?_push_size _ rfl, rfl, rfl⟩, (hl1.push _)⟩ (fun b o e => Heap.get?_push_of_some _ (Heap.get?_push_of_some _ e)) ⟨[], #[], 0, _, setN_fresh (Heap.get?_push_of_some _ hS), Got.zero ks⟩ ?fin
        case fin =>
          intro s' L es ep t mv hS' g' kp
          obtain ⟨h', gn, dr, tk', os'⟩ := s'
          obtain rfl : gn = s.gens := mv.gens
          obtain rfl : dr = s.drawn := mv.drawn
          obtain rfl : os' = s.os := mv.os
          show wpAny _ _ _ _ _ _
          refine wpAny_pure ?_
          show wpAny _ _ (PySem.ret Value.none) _ _ _
          rw [isz] at g'
          exact wpAny_pure ⟨rfl, h', tk', L, es, ep, t, rfl, hS', g', kp⟩
      · cases r₂ with
        | error e => exact hr₂
        | ok fl₂ =>
          cases fl₂ with
          | next => exact hr₂.elim
          | brk => exact hr₂.elim
          | cont => exact hr₂.elim
          | ret r =>
            obtain ⟨rfl, h', tk, L, es, ep, t, rfl, hS', g', hk'⟩ := hr₂
            repeat (any_goals (first | assumption | wp_step))
            exact h _ _ _ _ _ _ hS' g' hk'
end
end Y
end
section
set_option Elab.async false
set_option linter.all false
/-! Sg: sorted(set(l)), l a list of tuples of whole numbers; sorted with keys that are data. -/
namespace Y
open PySem (PyData Str)
def keysD : List D → Option (List (List Int))
  | [] => some []
  | d :: ds => match keyOf (.d d), keysD ds with
    | some k, some ks => some (k :: ks)
    | _, _ => none
def uniqK : List (List Int) → List (List Int)
  | [] => []
  | k :: ks => if k ∈ ks then uniqK ks else k :: uniqK ks
open Classical in
noncomputable def bSetS (v : Val) : M Val := bd (chkD v) fun ds => bd (oget (keysD ds)) fun ks => if ks.length ≤ 1200 ∧ ∀ k ∈ ks, k ≠ [] then ret (.d (.list ((sortK (uniqK ks)).map tD))) else die
noncomputable def eSetS (e : E) : E := fun loc => bd (e loc) bSetS
def isDat : Val → M D
  | .d x => ret x
  | _ => die
def keyLD (fb : E) (cap : Loc) : List D → M (List D)
  | [] => ret []
  | d :: ds => bd (fb (some (.d d) :: cap)) fun v => bd (isDat v) fun n => bd (keyLD fb cap ds) fun ys => ret (n :: ys)
noncomputable def sortB (ds ks : List D) : List D := ((ds.zip ks).mergeSort (PySem.W.dataLe false Prod.snd)).map Prod.fst
open Classical in
noncomputable def finB (ds ks : List D) : M Val := if sortOk ks then ret (.d (.list (sortB ds ks))) else die
/-- sorted(l, key=lambda x: ..), the keys like data -/
noncomputable def eSortB (e : E) (js : List Nat) (fb : E) : E := fun loc => bd (e loc) fun v => bd (chkD v) fun ds => if ds.length ≤ lim then bd (noex (keyLD fb (capt loc js) ds)) (finB ds) else die
/-- range(i, j, -1) -/
def dwn (lo : Int) (n : Nat) : List Val := (List.range n).map fun (i : Nat) => vI (lo + (i : Int) * (-1))
def kRg3 : List Val → M (List Val)
  | [.d (.int m), .d (.int n), .d (.int (-1))] => if -1000000 ≤ m ∧ m ≤ 1000000 ∧ -1000000 ≤ n ∧ n ≤ 1000000 then ret (dwn m (m - n).toNat) else die
  | _ => die
/-- list(range(n)) -/
def bLstR : List Val → M Val
  | [.d (.int n)] => if -1000000 ≤ n ∧ n ≤ 1000 then ret (.d (.list ((List.range n.toNat).map fun (i : Nat) => .int (i : Int)))) else die
  | _ => die
end Y
end
section
set_option Elab.async false
set_option Elab.async false
set_option linter.all false
set_option maxRecDepth 100000
set_option maxHeartbeats 4000000
/-! Tsg: sorted(set(l)). -/
namespace Y
open PySem PySem.Spec PySem.Calls PyProof.Rows L2
theorem perm_back {α β : Type} {f : α → β} {vs m : List β} (h : vs.Perm m) : ∀ {l : List α}, m = l.map f → ∃ l' : List α, l'.Perm l ∧ vs = l'.map f := by
  induction h with
  | nil =>
    intro l e
    cases l with
    | nil => exact ⟨[], .refl _, rfl⟩
    | cons _ _ => cases e
  | cons x _ ih =>
    intro l e
    cases l with
    | nil => cases e
    | cons a t =>
      rw [List.map_cons] at e
      injection e with e1 e2
      obtain ⟨l', p, q⟩ := ih e2
      exact ⟨a :: l', p.cons a, by rw [List.map_cons, e1, q]⟩
  | swap x y l0 =>
    intro l e
    match l, e with
    | a :: b :: t, e =>
      simp only [List.map_cons, List.cons.injEq] at e
      obtain ⟨rfl, rfl, rfl⟩ := e
      exact ⟨b :: a :: t, .swap a b t, rfl⟩
  | trans _ _ ih1 ih2 =>
    intro l e
    obtain ⟨l2, p2, q2⟩ := ih2 e
    obtain ⟨l1, p1, q1⟩ := ih1 q2
    exact ⟨l1, p1.trans p2, q1⟩
theorem tsg_le (a b : List Int) : PySem.W.dataLe false tD a b = decide (a ≤ b) := by
  show (!PySem.W.dataLt (.tuple (b.map .int)) (.tuple (a.map .int))) = _
  rw [PySem.W.dataLt_tuple]
  show (!PySem.W.rowLt (b.map .int) (a.map .int)) = _
  rw [PySem.W.dataLt_ints]
  by_cases h : b < a
  · have h' : ¬ a ≤ b := fun r => List.not_lt.mpr r h
    simp [h, h']
  · have h' : a ≤ b := List.not_lt.mp h
    simp [h, h']
theorem tsg_total : PySem.W.TotalLe (PySem.W.dataLe false tD) := by
  unfold PySem.W.dataLe
  exact PySem.W.sortLe_total _ _ _
theorem tsg_perm {a b : List (List Int)} (h : a.Perm b) : Y.sortK a = Y.sortK b := by
  unfold Y.sortK
  refine List.Perm.eq_of_pairwise (le := fun a b => PySem.W.dataLe false tD a b = true) (fun x y _ _ h1 h2 => ?_) (PySem.W.sort_pairwise tsg_total a) (PySem.W.sort_pairwise tsg_total b) (((List.mergeSort_perm _ _).trans h).trans (List.mergeSort_perm _ _).symm)
  rw [tsg_le, decide_eq_true_eq] at h1 h2
  exact List.le_antisymm h1 h2
section
variable {P : Program} {w : World} {A : Around} {E : Value → Shared → Prop} {s : Shared}
theorem reads_items {h : Heap} : ∀ {k : List Int} {vs : List Value}, ItemsAre (intKind P w) k vs → ReadsAll h vs (k.map .int) []
  | [], _, .nil => .nil
  | i :: k, _, .cons r t => by
    obtain ⟨tk, rfl⟩ := Value.isInt_shape r
    exact ReadsAll.cons (as := []) (bs := []) (.int i tk) (reads_items t)
theorem reads_isT {h : Heap} {k : List Int} {b : Addr} (x : IsT P w h k b) : Reads h (.ref b) (tD k) [] := by
  obtain ⟨o, items, n, ho, hc, hd, hi⟩ := x
  exact Reads.tuple ho hc hd (reads_items hi)
/-- sorted of a set -/
theorem sortedN {a : Addr} {L : Ent} {es : Array (Int × Value)} {ep : Nat} {t : SetTable} {Q : Value → Shared → Prop} (R : SetN P w s.heap a L es ep t) (hh : A.handled = none) (hu : A.units + 64 < cLine) (ne : ∀ p ∈ L, p.2 ≠ [])
    (hQ : ∀ s' p (out : Array Value) (c : Nat) (L' : Ent), (∀ b o, s.heap.get? b = some o → s'.heap.get? b = some o) → s'.gens = s.gens → s'.os = s.os → s.heap.objs.size ≤ p → s'.heap.get? p = some (seqObj "list" out c) →
      out.toList = L'.map (fun q => Value.ref q.1) → L'.Perm L → L'.map (·.2) = Y.sortK (L.map (·.2)) → Q (.ref p) s') : wpAny (model P w) A (call (.builtin "sorted") [.ref a]) Q E s := by
  obtain ⟨o, ho, hex, hd⟩ := R.ob
  have few := R.few
  have sz := rows_len R.row
  refine call_function_entry kind_sorted plain_sorted entry_sorted (args_sorted1 _) ?_
  unfold Builtin.«sorted»
  refine wpAny_bind (m := checkCount "sorted" 1 1 _) (wpAny_pure ?_)
  refine wpAny_bind (collect_set (A := A.in1) hh ⟨o, ho, hex.1, hd⟩ R.fits (by unfold scanBound; omega) R.tb.ris R.ld fun s1 vs k1 hz g1 o1 pm => ?_)
  have hes : es.toList.map (·.2) = L.map fun q => Value.ref q.1 := by
    rw [R.row]
    unfold rowsOf
    rw [List.map_map]
    rfl
  rw [hes] at pm
  obtain ⟨L1, pL, rfl⟩ := perm_back (f := fun q : Addr × List Int => Value.ref q.1) pm (l := L) rfl
  have l1 : L1.length = L.length := pL.length_eq
  refine wpAny_bind (wpAny_newList ?_ (by rw [List.length_map, sizeLine_eq]; omega))
  generalize hpo : s1.heap.push { cls := .type "list", data := .seq (L1.map fun q => Value.ref q.1).toArray } = h2
  have hob : h2.get? s1.heap.objs.size = some (seqObj "list" (L1.map fun q => Value.ref q.1).toArray 0) := by rw [← hpo]; exact Heap.get?_push_size _ rfl
  have k2 : ∀ b ob, s1.heap.get? b = some ob → h2.get? b = some ob := fun b ob e => by rw [← hpo]; exact Heap.get?_push_of_some _ e
  have each1 : ∀ l : Ent, PySem.W.EachIs (fun (v : Value) (b : Addr × List Int) => v = .ref b.1) (l.map fun q => Value.ref q.1) l := fun l => by
    induction l with
    | nil => exact .nil
    | cons p l ih => exact .cons rfl ih
  have each2 : ∀ l : Ent, (∀ p ∈ l, p ∈ L) → PySem.W.EachIs (fun (v : Value) (b : Addr × List Int) => ∃ l, Reads h2 v (tD b.2) l ∧ s1.heap.objs.size ∉ l) (l.map fun q => Value.ref q.1) l := fun l => by
    induction l with
    | nil => intro _; exact .nil
    | cons p l ih => intro hm; exact .cons ⟨[], reads_isT (P := P) (w := w) (isT_keep (R.tup p (hm p List.mem_cons_self)) fun b u e => k2 b u (k1 b u e)), by simp⟩ (ih fun q hq => hm q (List.mem_cons_of_mem _ hq))
  have call := PySem.W.list_sort_data (prog := P) (w := w) (A := A.in1) (E := E) (s := { s1 with heap := h2 }) (vs := L1.map fun q => Value.ref q.1) (bs := L1) (enc := fun b => tD b.2) (R := fun v b => v = .ref b.1) (Q := fun _ s' => Q (.ref s1.heap.objs.size) s') hob (each1 L1) (each2 L1 fun p hp => pL.mem_iff.mp hp) (PySem.W.AllAlike.of fun a b => alike_tD _ _) (.inl fun d hd => by
      obtain ⟨b, hb, rfl⟩ := List.mem_map.mp hd
      cases e : b.2 with
      | nil => exact absurd e (ne b (pL.mem_iff.mp hb))
      | cons x r => exact ⟨.int x, r.map .int, by unfold tD; simp⟩) (by rw [sizeLine_eq]; omega) (fun b hb => by
      show A.in1.units + 1 + (PyData.tuple (b.2.map PyData.int)).depth < cLine
      have hi : A.in1.units = A.units + 1 := rfl
      simp only [PyData.depth, dep_ints]
      omega) fun out hol heo => by
    obtain ⟨L', hL'⟩ : ∃ L', L1.mergeSort (PySem.W.dataLe false fun b => tD b.2) = L' := ⟨_, rfl⟩
    rw [hL'] at heo
    have ho' : out = L'.map fun q => Value.ref q.1 := by
      have : ∀ {l : List Value} {m : Ent}, PySem.W.EachIs (fun (v : Value) (b : Addr × List Int) => v = .ref b.1) l m → l = m.map fun q => Value.ref q.1 := by
        intro l m h
        induction h with
        | nil => rfl
        | cons h t ih => rw [h, ih]; rfl
      exact this heo
    have pw : L'.map (·.2) = Y.sortK (L.map (·.2)) := by
      rw [← tsg_perm (pL.map (·.2)), ← hL']
      unfold Y.sortK
      exact PySem.W.sort_maps (r := PySem.W.dataLe false fun b : Addr × List Int => tD b.2) (s := PySem.W.dataLe false tD) (Prod.snd : Addr × List Int → List Int) (l := L1) (fun _ _ _ _ => rfl)
    have pm' : L'.Perm L := by rw [← hL']; exact (List.mergeSort_perm _ _).trans pL
    obtain ⟨c, hc⟩ := PyProof.Rows.sortedHeap_at (vs := L1.map fun q => Value.ref q.1) (out := out.toArray) hob
    refine hQ { s1 with heap := sortedHeap h2 s1.heap.objs.size (L1.map fun q => Value.ref q.1) out.toArray } s1.heap.objs.size out.toArray c L' (fun b u e => ?_) g1 o1 hz hc (by simpa using ho') pm' pw
    have q := k1 b u e
    show (sortedHeap h2 s1.heap.objs.size _ out.toArray).get? b = some u
    rw [PyProof.Rows.sortedHeap_old (Nat.ne_of_lt (Heap.lt_size q)) (Heap.lt_size (k2 b u q))]
    exact k2 b u q
  refine wpAny_bind (wpAny_holding (wpAny_mono call (fun _ s' x => ?_) fun _ _ e => e))
  exact wpAny_pure ⟨_, rfl, x⟩
end
theorem uniq_mem : ∀ {ks : List (List Int)} {k : List Int}, k ∈ uniqK ks ↔ k ∈ ks
  | [], k => by simp [uniqK]
  | x :: ks, k => by
    have ih := uniq_mem (ks := ks) (k := k)
    unfold uniqK
    by_cases h : x ∈ ks
    · rw [if_pos h, ih, List.mem_cons]
      exact ⟨.inr, fun z => z.elim (fun e => e ▸ h) id⟩
    · rw [if_neg h, List.mem_cons, List.mem_cons, ih]
theorem uniq_nd : ∀ ks : List (List Int), (uniqK ks).Nodup
  | [] => List.nodup_nil
  | x :: ks => by
    unfold uniqK
    by_cases h : x ∈ ks
    · rw [if_pos h]; exact uniq_nd ks
    · rw [if_neg h]; exact List.nodup_cons.mpr ⟨fun z => h (uniq_mem.mp z), uniq_nd ks⟩
theorem keys_at {F : Hp} : ∀ {us : List V} {ds : List D} {ks : List (List Int)}, DtA F us ds → keysD ds = some ks → ∃ as, us = as.map V.ref ∧ KsAt F as ks
  | _, [], ks, .nil, e => by cases e; exact ⟨[], rfl, .nil⟩
  | _, d :: ds, ks, .cons h t, e => by
    unfold keysD at e
    cases q1 : keyOf (.d d) with
    | none => rw [q1] at e; cases e
    | some k =>
      cases q2 : keysD ds with
      | none => rw [q1, q2] at e; cases e
      | some ks' =>
        rw [q1, q2] at e
        cases e
        obtain ⟨as, rfl, ka⟩ := keys_at t q2
        have hd : ∃ xs, d = .tuple xs ∧ toIs xs = some k := by
          unfold keyOf at q1
          split at q1
          · rename_i xs e
            cases e
            exact ⟨xs, rfl, q1⟩
          · cases q1
        obtain ⟨xs, rfl, hi⟩ := hd
        cases h with
        | @tup a ys _ ha hx =>
          refine ⟨a :: as, rfl, .cons ?_ ka⟩
          have : ∀ {ys : List V} {xs : List D} {k : List Int}, DtA F ys xs → toIs xs = some k → ys = k.map V.int := by
            intro ys xs
            induction xs generalizing ys with
            | nil => intro k h e; cases h; cases e; rfl
            | cons x xs ih =>
              intro k h e
              cases h with
              | cons h1 h2 =>
                cases x with
                | int i =>
                  unfold toIs at e
                  cases q : toIs xs with
                  | none => rw [q] at e; cases e
                  | some k' =>
                    rw [q] at e
                    cases e
                    cases h1
                    rw [ih h2 q]
                    rfl
                | _ => cases e
          show F a = some (.tup (k.map V.int))
          rw [ha, this hx hi]
section
variable {X : Cx} {G : Glo} {E : XK}
theorem ksat_mem {H : Hp} : ∀ {as : List Addr} {ks : List (List Int)}, KsAt H as ks → ∀ p ∈ as.zip ks, H p.1 = some (.tup (p.2.map V.int))
  | _, _, .nil, p, hp => nomatch hp
  | _, _, .cons h t, p, hp => by
    rw [List.zip_cons_cons] at hp
    rcases List.mem_cons.mp hp with rfl | hp
    · exact h
    · exact ksat_mem t p hp
theorem ksat_of {H : Hp} : ∀ {m : Ent}, (∀ p ∈ m, H p.1 = some (.tup (p.2.map V.int))) → KsAt H (m.map Prod.fst) (m.map Prod.snd)
  | [], _ => .nil
  | p :: m, h => .cons (h p List.mem_cons_self) (ksat_of fun q hq => h q (List.mem_cons_of_mem _ hq))
theorem qe_setS {a : Expr} {fa : Y.E} {p p2 q pos : Pos} (hc : X.calm = true) (hu : X.A.units + 64 < cLine) (hg : Gl X "sorted") (hm : X.mg "sorted" = none) (hg2 : Gl X "set") (hm2 : X.mg "set" = none) (ha : PE X a (lE G E fa))
    (na : starEach [a] X.env = (false, eval a X.env) :: starEach [] X.env := by rfl) (hK : X.K = G.K := by rfl) : PE X (.Call (.Name "sorted" p) [.Call (.Name "set" p2) [a] [] q] [] pos) (lE G E (eSetS fa)) := by
  refine ⟨fun pins s σ H Q I h => ?_⟩
  obtain ⟨S, F, ρ, loc, st, rp, l, o⟩ := h
  refine Call_ (ld_blt I hg hm (by decide +kernel : bootBuiltins "sorted" = some (.builtin "sorted")) ?_)
  refine PyProof.Rows.callWith_builtin1 (PyProof.Rows.args_cons ?_ rfl) rfl rfl
  refine Call_ (ld_blt I hg2 hm2 PyProof.Rows.boot_set ?_)
  refine PyProof.Rows.callWith_type1 (PyProof.Rows.args_cons (thn (ha.run pins s σ H _ I ⟨S, F, ρ, loc, st, rp, l, out.bd (Rl := VR G) o⟩) fun v s1 ⟨x, H1, I1, r1, q1⟩ => PyProof.Rows.args_nil ?_) na) na rfl
  obtain ⟨F1, ρ1, cv, st1, g1, rp1, v1, o1⟩ := q1
  have o1 : out G S F1 ρ1 (VR G) Q E (bSetS cv st1) := o1
  cases cv with
  | o _ => exact o1.elim
  | s _ => exact o1.elim
  | d y => ?_
  cases y with
  | list ds => ?_
  | none => exact o1.elim
  | bool _ => exact o1.elim
  | int _ => exact o1.elim
  | str _ => exact o1.elim
  | tuple _ => exact o1.elim
  | dict _ => exact o1.elim
  have o1 : out G S F1 ρ1 (VR G) Q E (bd (oget (keysD ds)) (fun ks => if ks.length ≤ 1200 ∧ ∀ k ∈ ks, k ≠ [] then ret (Val.d (.list ((Y.sortK (uniqK ks)).map tD))) else die) st1) := by
    unfold bSetS at o1
    exact o1
  cases hks : keysD ds with
  | none => rw [hks] at o1; exact o1.elim
  | some ks => ?_
  rw [hks] at o1
  have o1 : out G S F1 ρ1 (VR G) Q E ((if ks.length ≤ 1200 ∧ ∀ k ∈ ks, k ≠ [] then ret (Val.d (.list ((Y.sortK (uniqK ks)).map tD))) else die) st1) := o1
  by_cases hcd : ks.length ≤ 1200 ∧ ∀ k ∈ ks, k ≠ []
  case neg => rw [if_neg hcd] at o1; exact o1.elim
  rw [if_pos hcd] at o1
  obtain ⟨ad, us, rfl, had, hus⟩ := dt_list v1
  obtain ⟨as, rfl, ka⟩ := keys_at hus hks
  have la : as.length = ks.length := Paired.length ka
  cases r1
  have kaH : KsAt H1 as ks := by
    have : ∀ {as : List Addr} {ks : List (List Int)}, KsAt F1 as ks → KsAt H1 as ks := by
      intro as ks h
      induction h with
      | nil => exact .nil
      | cons h t ih => exact .cons (rp1.ex _ _ h) ih
    exact this ka
  obtain ⟨its, rv, pl, hz⟩ := I1.list (SqL.of (rp1.ex _ _ had))
  have memH := ksat_mem kaH
  have refs : as.map V.ref = (as.zip ks).map fun p => V.ref p.1 := by
    have : (fun p : Addr × List Int => V.ref p.1) = V.ref ∘ Prod.fst := rfl
    rw [this, ← List.map_map, List.map_fst_zip (by omega)]
  rw [refs] at rv
  have lz : (as.zip ks).length = ks.length := by rw [List.length_zip]; omega
  refine setN (P := X.prog) (w := X.w) (as.zip ks) (I1.ok.hd hc) pl.isList (by simpa using refs_of_vals rv) (fun p hp => I1.isT (SqT.of (memH p hp))) (by omega) (by
    have hi : X.A.units ≤ X.A.units := Nat.le_refl _
    omega) fun h' tk L es ep t R g k => ?_
  refine PyProof.Rows.args_nil ?_
  have sub : ∀ p ∈ L, p ∈ as.zip ks := fun p hp => List.mem_of_mem_take (g.sub p hp)
  have all : ∀ p ∈ as.zip ks, p.2 ∈ L.map (·.2) := fun p hp => g.all p (by rw [List.take_length]; exact hp)
  have kmem : ∀ p ∈ L, p.2 ∈ ks := fun p hp => (List.of_mem_zip (sub p hp)).2
  have I2 : Inv X pins σ H1 { s1 with heap := h', toks := tk } := I1.kept (t' := tk) k
  refine sortedN (s := { s1 with heap := h', toks := tk }) R (I1.ok.hd hc) hu (fun p hp => hcd.2 _ (kmem p hp)) fun s' p out' c L' kp hg' hos hp hget hout pm pw => ?_
  have hn : H1 p = none := I2.hok.fresh hp
  have ln : (L'.map fun q => V.ref q.1).length ≤ sizeLine := by rw [List.length_map, pm.length_eq, sizeLine_eq]; have := R.few; omega
  have hv : Vals (L'.map fun q => V.ref q.1) out'.toList := by rw [hout]; exact vals_of_refs L'
  have J : Inv X pins σ (upd H1 p (.lst (L'.map fun q => V.ref q.1))) { ({ s1 with heap := h', toks := tk } : Shared) with heap := s'.heap, gens := s'.gens, drawn := s'.drawn, toks := s'.toks } :=
    I2.call (ch := []) (Un.laid kp hp hn) (I2.hok.laid kp hp ⟨ln, out'.toList, c, hv, hget⟩) (by rw [hg']; exact I2.bare) (fun _ z => nomatch z)
  have e : s' = { ({ s1 with heap := h', toks := tk } : Shared) with heap := s'.heap, gens := s'.gens, drawn := s'.drawn, toks := s'.toks } := by
    cases s'
    cases s1
    cases hos
    rfl
  rw [e]
  have keys : L'.map (·.2) = Y.sortK (uniqK ks) := by
    rw [pw]
    refine tsg_perm ((List.perm_ext_iff_of_nodup R.nd (uniq_nd ks)).mpr fun x => ?_)
    rw [uniq_mem]
    constructor
    · intro hx
      obtain ⟨q, hq, rfl⟩ := List.mem_map.mp hx
      exact kmem q hq
    · intro hx
      obtain ⟨i, hi⟩ := List.mem_iff_getElem?.mp hx
      have il : i < as.length := by have := (List.getElem?_eq_some_iff.mp hi).1; omega
      exact all (as[i], x) (List.mem_iff_getElem?.mpr ⟨i, List.getElem?_zip_eq_some.mpr ⟨List.getElem?_eq_getElem il, hi⟩⟩)
  have memF := ksat_mem ka
  have ksF : KsAt F1 (L'.map Prod.fst) (Y.sortK (uniqK ks)) := by
    rw [← keys]
    exact ksat_of fun q hq => memF q (sub q (pm.mem_iff.mp hq))
  have refs2 : (L'.map fun q => V.ref q.1) = (L'.map Prod.fst).map V.ref := by rw [List.map_map]; rfl
  rw [refs2] at J
  exact ⟨.ref p, _, J, rfl, out_lst rp1 (dt_ks ksF) o1 p hn⟩
end
end Y
end
section
set_option Elab.async false
set_option Elab.async false
set_option linter.all false
set_option maxRecDepth 100000
set_option maxHeartbeats 2000000
/-! Tsh: sorted(l, key=lambda x: ..), the keys like data. -/
namespace Y
open PySem PySem.Spec PySem.Calls PyProof.Rows L2
section
variable {X : Cx} {G : Glo}
theorem isDat_ok {v : Val} {st s : Store} {n : D} (h : isDat v st = .ok n s) : v = .d n ∧ s = st := by
  unfold isDat at h
  split at h
  · rename_i i
    have h : R.ok i st = R.ok n s := h
    injection h with h1 h2
    exact ⟨by rw [h1], h2.symm⟩
  · cases h
theorem dtA_snoc {F : Hp} : ∀ {us : List V} {ds : List D} {u : V} {d : D}, DtA F us ds → Dt F u d → DtA F (us ++ [u]) (ds ++ [d])
  | _, _, _, _, .nil, h => .cons h .nil
  | _, _, _, _, .cons a b, h => .cons a (dtA_snoc b h)
theorem dtA_sortB {F : Hp} {us : List V} {ds ns : List D} (h : DtA F us ds) (hn : ns.length = ds.length) : DtA F (((us.zip (ds.zip ns)).mergeSort (PySem.W.dataLe false fun b : V × D × D => b.2.2)).map Prod.fst) (sortB ds ns) := by
  have hl := h.length
  have z := dtA_of (F := F) (bs := ((us.zip (ds.zip ns)).mergeSort (PySem.W.dataLe false fun b : V × D × D => b.2.2)).map fun b => (b.1, b.2.1)) fun p hp => by
    obtain ⟨b, hb, rfl⟩ := List.mem_map.mp hp
    have hb := List.mem_mergeSort.mp hb
    have hm : (b.1, b.2.1) ∈ us.zip ds := by
      obtain ⟨i, hi⟩ := List.mem_iff_getElem?.mp hb
      obtain ⟨h1, h2⟩ := List.getElem?_zip_eq_some.mp hi
      obtain ⟨h3, h4⟩ := List.getElem?_zip_eq_some.mp h2
      exact List.mem_iff_getElem?.mpr ⟨i, List.getElem?_zip_eq_some.mpr ⟨h1, h3⟩⟩
    exact dtA_zip h _ hm
  rw [List.map_map, List.map_map] at z
  have e2 : ((us.zip (ds.zip ns)).mergeSort (PySem.W.dataLe false fun b : V × D × D => b.2.2)).map (Prod.snd ∘ fun b => (b.1, b.2.1)) = sortB ds ns := by
    unfold sortB
    have m := PySem.W.sort_maps (r := PySem.W.dataLe false fun b : V × D × D => b.2.2) (s := PySem.W.dataLe false (Prod.snd : D × D → D)) (Prod.snd : V × D × D → D × D) (l := us.zip (ds.zip ns)) (fun a _ b _ => rfl)
    have m2 : (us.zip (ds.zip ns)).map Prod.snd = ds.zip ns := List.map_snd_zip (by rw [List.length_zip]; omega)
    rw [m2] at m
    rw [← m, List.map_map]
    rfl
  rw [e2] at z
  exact z
/-- sorted(l, key=lambda x: ..) -/
theorem qe_sortB {E : XK} {e body : Expr} {fe fb : Y.E} {x : Str} {N fr : List Str} {js : List Nat} {params : Arguments} {scope : Scope} {c P : Addr} {k : Nat} {p lpos kpos pos : Pos}
    (hg : Gl X "sorted") (hm : X.mg "sorted" = none) (hv : bootBuiltins "sorted" = some (.builtin "sorted")) (he : PE X e (lE G E fe)) (TB : LamX.TabB X.base X.mg c P) (hcode : X.env.code = .ref c) (hmT : (P, X.env.qual ++ "<lambda>") ∈ G.T)
    (hu : ∀ p ∈ G.T, p.1 = P → p.2 = X.env.qual ++ "<lambda>") (hr : Room (k + 5) X.A) (S : NdefX.NScope N [x] fr scope) (hfr : NdefX.ndefB X.env.scope scope fr = true) (hjs : js.map (fun j => X.N[j]?) = fr.map some) (hNl : N.length = 1 + fr.length) (hdef : defaultsOf params X.env = ([], []))
    (hbind : ∀ (q : Str) (cl : List (Str × Addr)) (pm cv ctv v : Value), bindArgs (PySem.W.kla_fn "<lambda>" q params body scope cl pm cv ctv) ⟨[v], []⟩ = pure [(x, v)])
    (hbody : ∀ (A : Around) (outer : List Env) (s : Shared) (H : Hp) (f c' : Addr), Room k (A.deeper (NdefX.envF (lamF X params scope c') f s.heap.objs.size)) → PE (NdefX.ncx (L2N.CX X.prog X.w) X.prog X.w X.K X.mg X.base N (lamF X params scope c') f A outer s H EF) body (lE G EF fb))
    (hst : starEach [e] X.env = (false, eval e X.env) :: starEach [] X.env := by rfl) (hK : X.K = G.K := by rfl)
    (hbe : backTo pos (starEach [e] X.env) = (false, eval e X.env) :: backTo pos (starEach [] X.env) := by rfl) (hpl : (backTo pos (starEach [e] X.env)).any (·.1) = false := by rfl) :
    PE X (.Call (.Name "sorted" p) [e] [⟨some "key", .Lambda params body scope lpos, kpos⟩] pos) (lE G E (eSortB fe js fb)) := by
  refine ⟨fun pins s σ H Q I h => ?_⟩
  obtain ⟨S0, F, ρ, loc, st, rp, l, o⟩ := h
  have hfree : ∀ y ∈ scope.names, y.2 = .free → ∃ c, X.env.cells.lookup y.1 = some c := fun y hy e => (NdefX.ndef_free hfr y hy e).elim (fun z => I.ok.has _ (.inl z)) fun z => I.ok.has _ (.inr z)
  refine wpAny_Call_Name_kw (ld_blt I hg hm hv ?_ (by decide) (by decide))
  refine PyProof.Rows.callWith_kw (thn ((pa_cons he pa_nil hst).run pos pins s σ H (fun vs H1 => ∃ u, vs = [u] ∧ Then G S0 F ρ (VR G) (VR G) Q E (fun v => bd (chkD v) fun ds => if ds.length ≤ lim then bd (noex (keyLD fb (capt loc js) ds)) (finB ds) else die) u H1) I ⟨S0, F, ρ, loc, st, rp, l, out.imp (fun u H1 h1 => ⟨u, rfl, h1⟩) (out.bd (Rl := VR G) o)⟩) fun us s1 ⟨vs, H1, I1, r1, u, hu1, q1⟩ => ?_) hbe hpl rfl rfl
  subst hu1
  obtain ⟨F1, ρ1, cv, st1, g1, rp1, v1, o1⟩ := q1
  cases cv with
  | o _ => exact o1.elim
  | s _ => exact o1.elim
  | d y => ?_
  cases y with
  | list ds => ?_
  | none => exact o1.elim
  | bool _ => exact o1.elim
  | int _ => exact o1.elim
  | str _ => exact o1.elim
  | tuple _ => exact o1.elim
  | dict _ => exact o1.elim
  have o1 : out G S0 F1 ρ1 (VR G) Q E ((if ds.length ≤ lim then bd (noex (keyLD fb (capt loc js) ds)) (finB ds) else die) st1) := o1
  have hlen : ds.length ≤ lim := by
    by_cases hl : ds.length ≤ lim
    · exact hl
    · rw [if_neg hl] at o1; exact o1.elim
  rw [if_pos hlen] at o1
  obtain ⟨a, xs, rfl, ha, hxs⟩ := dt_list v1
  obtain rfl := Vals.ref1 r1
  show wpAny _ _ (evalAll ((do let v ← eval (.Lambda params body scope lpos) X.env; standAt pos; pure v) :: [])) _ _ s1
  refine wpAny_evalAll_cons (wpAny_bind (LamX.lam_make2 I1 TB hcode hmT hu rp1.tab hdef hfree fun f c' pm ctv H2 s2 I2 eN T2 hf hfn hff hco => wpAny_bind (wpAny_standAt (wpAny_pure (wpAny_evalAll_nil ?_)))))
  show wpAny _ _ (call (.builtin "sorted") [.ref a] [(Str.ofString "key", .ref f)]) _ _ s2
  have rp2 := rp1.extN eN T2
  obtain ⟨F2, rp3, g3, hF2⟩ := rp2.adoptC hco
  have l1 : LR G F2 ρ1 σ loc := (l.mono g1).mono g3
  have hxs2 : DtA F2 xs ds := hxs.mono g3.f
  have o2 := out.mono g3 o1
  have hda : H2 a = some (.lst xs) := rp2.ex _ _ ha
  obtain ⟨its, rv, hl, hz⟩ := I2.list (SqL.of hda)
  have hxl := hxs.length
  have hil : its.length = xs.length := rv.length.symm
  have cap := NdefX.Caps.made (X := X) (scope := scope) (fr := fr) (js := js) I.ok (NdefX.ndef_free hfr) (NdefX.ndef_fr hfr) hjs
  have hjl : js.length = fr.length := by have := congrArg List.length hjs; simpa using this
  refine PySem.W.sorted_of_sort (w := X.w) hl.isList (by rw [hil]; exact hz) (PyProof.Rows.ksk_s1 _ _) (fun _ => PyProof.Rows.ksk_l1 _ _) fun E' => ?_
  rw [PyProof.Rows.ksk_t1]
  generalize hAL : s2.heap.objs.size + 1 = aL
  have ho := PySem.W.copyHeap_at s2.heap its
  rw [hAL] at ho
  have hZ : its.length ≤ sizeLine := by rw [hil]; exact hz
  obtain ⟨e1, ho1⟩ : ∃ e1, ((PySem.W.copyHeap s2.heap its).update aL (Obj.mapSeq fun _ => (#[] : Array Value))).get? aL = some (seqObj "list" #[] e1) := ⟨_, get?_update_seq ho fun _ => #[]⟩
  unfold PyProof.Rows.ksk_tree
  refine wpAny_bind (PyProof.Rows.listItems_at ho rfl ?_)
  refine wpAny_bind (PyProof.Rows.listUpdate_at ho rfl ?_ (by rw [List.size_toArray]; exact hZ) (Nat.zero_le _))
  refine wpAny_bind (PyProof.Rows.seqEpoch_at ho1 rfl ?_)
  refine wpAny_bind (wpAny_newTuple ?_ (by show its.length ≤ _; exact hZ))
  refine wpAny_bind (wpAny_newList ?_ (Nat.zero_le _))
  refine wpAny_holding ?_
  generalize hh2 : ((PySem.W.copyHeap s2.heap its).update aL (Obj.mapSeq fun _ => (#[] : Array Value))).push { cls := .type "tuple", data := .seq its.toArray.toList.toArray } = h2
  generalize hkS : h2.objs.size = kS
  have k2 : ∀ b ob, s2.heap.get? b = some ob → (h2.push { cls := .type "list", data := .seq ([] : List Value).toArray }).get? b = some ob := fun b ob e => by
    have hb : b ≠ aL := by
      have hlt : b < s2.heap.objs.size := Heap.lt_size e
      exact Nat.ne_of_lt (by rw [← hAL]; exact Nat.lt_succ_of_lt hlt)
    rw [← hh2]
    refine Heap.get?_push_of_some _ (Heap.get?_push_of_some _ ?_)
    rw [Heap.get?_update_ne _ _ _ _ hb]
    exact PySem.W.copyHeap_old e
  have szc : (PySem.W.copyHeap s2.heap its).objs.size = s2.heap.objs.size + 2 := by
    unfold PySem.W.copyHeap
    rw [size_push', Heap.size_update, size_push']
  have szk : kS = s2.heap.objs.size + 3 := by
    rw [← hkS, ← hh2, size_push', Heap.size_update, szc]
  have I3 : Inv X pins σ H2 { s2 with heap := h2.push { cls := .type "list", data := .seq ([] : List Value).toArray } } := I2.kept (t' := s2.toks) k2
  have fpA : FpOk X pins H2 aL := I2.fpOk (by omega) (I2.hok.fresh (by omega))
  have fpK : FpOk X pins H2 kS := I2.fpOk (by omega) (I2.hok.fresh (by omega))
  have nst : ∀ {b : Addr}, FpOk X pins H2 b → b ∉ frs X.stack := fun {b} fp z => by
    rcases List.mem_cons.mp (I2.stkSub _ z) with e | e
    · exact fp.2.1 e
    · exact fp.2.2.1 e
  have nkS : (h2.push { cls := .type "list", data := .seq ([] : List Value).toArray }).get? kS = some (seqObj "list" #[] 0) := by rw [← hkS]; exact Heap.get?_push_size _ rfl
  have naL : (h2.push { cls := .type "list", data := .seq ([] : List Value).toArray }).get? aL = some (seqObj "list" #[] e1) := by
    rw [← hh2]; exact Heap.get?_push_of_some _ (Heap.get?_push_of_some _ ho1)
  have hflt : f < s2.heap.objs.size := Heap.lt_size hf
  have hfk : f ≠ kS := Nat.ne_of_lt (by rw [szk]; exact Nat.lt_of_lt_of_le hflt (Nat.le_add_right _ _))
  have hfa : f ≠ aL := Nat.ne_of_lt (by rw [← hAL]; exact Nat.lt_succ_of_lt hflt)
  have hak : kS ≠ aL := by omega
  unfold PyProof.Rows.ksk_rest
  refine wpAny_bind (wpAny_rule ?_)
  first
    | rw [List.forIn_toArray]
    | (rw [← Array.forIn_toList]; simp only [List.toList_toArray])
    | rw [← Array.forIn_toList]
  refine wpAny_bind (PyProof.Rows.ksk_fold (fun i s' => ∃ (H' : Hp) (kA : Array Value) (ek : Nat) (ns : List D) (kvs : List V) (F' : Hp) (ρ' : List Addr) (st' : Store), Inv X pins σ H' s' ∧ s'.heap.get? kS = some (seqObj "list" kA ek) ∧ s'.heap.get? aL = some (seqObj "list" #[] e1) ∧ s'.heap.get? f = some (PySem.W.kla_obj "<lambda>" (X.env.qual ++ "<lambda>") params body scope (cloFrom X.env.cells scope.names []) pm c' ctv) ∧ H' kS = none ∧ H' aL = none ∧ H' f = none ∧
      Vals kvs kA.toList ∧ DtA F' kvs ns ∧ ns.length = i ∧ Gr F2 ρ1 F' ρ' ∧ Rep G S0 F' ρ' H' st' ∧ out G S0 F' ρ' (VR G) Q E (bd (noex (keyLD fb (capt loc js) (ds.drop i))) (fun ys => finB ds (ns ++ ys)) st')) its 0 _
    ⟨H2, #[], 0, [], [], F2, ρ1, st1, I3, nkS, naL, k2 _ _ hf, fpK.1, fpA.1, hfn, .nil, .nil, rfl, Gr.refl, rp3, o2⟩ ?step ?done)
  case step =>
    rintro j v s' hjv ⟨H', kA, ek, ns, kvs, F', ρ', st', I', nk', na', hf', hk0, ha0, hf0, hva, hda', hnl, g', r', o'⟩
    simp only [Nat.zero_add] at hnl o' ⊢
    have hj : j < its.length := (List.getElem?_eq_some_iff.mp hjv).1
    have hjx : j < xs.length := by omega
    have hjd : j < ds.length := by omega
    have hxj : xs[j]? = some xs[j] := List.getElem?_eq_getElem hjx
    have hdj : ds[j]? = some ds[j] := List.getElem?_eq_getElem hjd
    have hdt : Dt F' xs[j] ds[j] := Dt.mono g'.f (dtA_zip hxs2 (xs[j], ds[j]) (List.mem_iff_getElem?.mpr ⟨j, List.getElem?_zip_eq_some.mpr ⟨hxj, hdj⟩⟩))
    have rj : RelV xs[j] v := by
      have : ∀ {xs : List V} {its : List Value} {j : Nat} {a : V} {b : Value}, Vals xs its → xs[j]? = some a → its[j]? = some b → RelV a b := by
        intro xs its j a b h
        induction h generalizing j with
        | nil => intro e; simp at e
        | cons r _ ih =>
          intro e1 e2
          cases j with
          | zero => simp at e1 e2; subst e1 e2; exact r
          | succ j => exact ih (by simpa using e1) (by simpa using e2)
      exact this rv hxj hjv
    have hdr : ds.drop j = ds[j] :: ds.drop (j + 1) := List.drop_eq_getElem_cons hjd
    rw [hdr] at o'
    obtain ⟨ys, sf, hkl, ofin⟩ := out_noex (Rl := fun _ _ (_ : Unit) _ => True) o'
    obtain ⟨rv0, sa, hfb, hkl⟩ := bd_ok (show bd (fb (some (.d ds[j]) :: capt loc js)) (fun v => bd (isDat v) fun n => bd (keyLD fb (capt loc js) (ds.drop (j + 1))) fun ys => ret (n :: ys)) st' = .ok ys sf from hkl)
    obtain ⟨n, sb, hai, hkl⟩ := bd_ok hkl
    obtain ⟨ys', sc', hkr, hfin⟩ := bd_ok hkl
    obtain ⟨rfl, rfl⟩ := isDat_ok hai
    have hfin : R.ok (n :: ys') sc' = R.ok ys sf := hfin
    injection hfin with hys hsf
    subst hys hsf
    have lr' : LR G F' ρ' (NdefX.startF N [xs[j]] (js.map (NdefX.slotAt σ))) (some (.d ds[j]) :: capt loc js) := lr_capt (l1.mono g') hdt (by rw [hNl, hjl])
    have hc' : H' c' = some (LamX.CodeO c' (X.env.qual ++ "<lambda>")) := r'.ex _ _ (g'.f _ _ hF2)
    have hrA : Room (k + 1) X.A.in1.in1 := ((hr.mono (show k + 3 ≤ k + 5 by omega)).in1).in1
    have e0 : Env0 X.prog X.w X.K X.mg X.base X.A.in1.in1 X.stack s' H' := I'.env0.in1.in1
    have run := lam_callN (CX := L2N.CX X.prog X.w) (E := EF) (ps := [x]) (us := [v]) (vs := [xs[j]]) (F := lamF X params scope c') (Q := fun v3 H3 => ∃ (F3 : Hp) (ρ3 : List Addr) (st3 : Store), Dt F3 v3 n ∧ Gr F' ρ' F3 ρ3 ∧ Gr F2 ρ1 F3 ρ3 ∧ Rep G S0 F3 ρ3 H3 st3 ∧ out G S0 F3 ρ3 (VR G) Q E (bd (noex (keyLD fb (capt loc js) (ds.drop (j + 1)))) (fun ys => finB ds (ns ++ [n] ++ ys)) st3))
      S hrA e0 hf' hc' (hbind _ _ _ _ _ _) (NdefX.cells_of I' cap) (.cons rj .nil) rfl (hbody X.A.in1.in1 X.stack s' H' f c' (hrA.deeper _)) ⟨S0, F', ρ', _, st', r', lr', out_ok hfb fun F3 ρ3 H3 u3 g4 r4 v4 => ⟨F3, ρ3, _, v4, g4, g'.trans g4, r4, ?_⟩⟩
    · refine wpAny_bind (wpAny_attempt (wpAny_mono (wpAny_call run) (fun kv s3 he => ?_) fun ee s3 he => ?_))
      · obtain ⟨v3, H3, os3, bare3, un3, hok3, rel3, F3, ρ3, st3, d4, gd, g4, r4, o4⟩ := he
        obtain ⟨hh3, gg3, dd3, tt3, oo3⟩ := s3
        obtain rfl : oo3 = s'.os := os3
        have I4 : Inv X pins σ H3 ⟨hh3, gg3, dd3, tt3, s'.os⟩ := I'.call (h' := hh3) (g' := gg3) (d' := dd3) (t' := tt3) (ch := []) un3 hok3 bare3 (fun b z => absurd z (by simp))
        have nk4 : hh3.get? kS = some (seqObj "list" kA ek) := un3.keep kS _ nk' hk0 (nst fpK) (by simp)
        have na4 : hh3.get? aL = some (seqObj "list" #[] e1) := un3.keep aL _ na' ha0 (nst fpA) (by simp)
        have hf4 := un3.keep f _ hf' hf0 hff (by simp)
        have hk4 : H3 kS = none := un3.free kS _ nk' hk0 (by simp)
        have ha4 : H3 aL = none := un3.free aL _ na' ha0 (by simp)
        have hf4n : H3 f = none := un3.free f _ hf' hf0 (by simp)
        have kz : kA.size ≤ sizeLine := by
          have h1 : kvs.length = kA.toList.length := hva.length
          have h2 := hda'.length
          have h3 : kA.toList.length = kA.size := Array.length_toList
          omega
        have s1' := Heap.SameBut.update hh3 kS (Obj.mapSeq (·.push kv))
        obtain ⟨c2, hc2⟩ : ∃ c2, (hh3.update kS (Obj.mapSeq (·.push kv))).get? kS = some (seqObj "list" (kA.push kv) c2) := ⟨_, get?_update_seq nk4 (·.push kv)⟩
        have fpK3 : FpOk X pins H3 kS := ⟨hk4, fpK.2⟩
        refine wpAny_bind (PyProof.Rows.listUpdate_at nk4 rfl ?_ kz (by rw [Array.size_push]; omega))
        refine wpAny_pure ⟨rfl, H3, kA.push kv, c2, ns ++ [n], kvs ++ [v3], F3, ρ3, st3, I4.turnedL (t' := tt3) (ch := [kS]) (fun b ob hb e => (s1'.2 b (fun z => hb (by simp [z]))).trans e) (fun b hb => by rw [List.mem_singleton.mp hb]; exact fpK3), hc2, (s1'.2 aL hak.symm).trans na4, (s1'.2 f hfk).trans hf4, hk4, ha4, hf4n, ?_, dtA_snoc (hda'.mono gd.f) d4, by rw [List.length_append, hnl]; simp, g4, r4, o4⟩
        rw [Array.toList_push]
        have : ∀ {as : List V} {bs : List Value} {a : V} {b : Value}, Vals as bs → RelV a b → Vals (as ++ [a]) (bs ++ [b]) := by
          intro as bs a b h r
          induction h with
          | nil => exact .cons r .nil
          | cons r0 _ ih => exact .cons r0 ih
        exact this hva rel3
      · obtain ⟨_, _, _, _, _, _, _, _, _, _, _, _, z⟩ := he
        exact z.elim
    · have e5 : bd (noex (keyLD fb (capt loc js) (ds.drop (j + 1)))) (fun ys => finB ds (ns ++ [n] ++ ys)) sb = finB ds (ns ++ (n :: ys')) sc' := by
        unfold bd
        rw [noex_ok hkr]
        show finB ds (ns ++ [n] ++ ys') _ = _
        rw [List.append_assoc]
        rfl
      rw [e5]
      exact out.mono g4 ofin
  case done =>
    rintro s' ⟨H', kA, ek, ns, kvs, F', ρ', st', I', nk', na', hf', hk0, ha0, hf0, hva, hda', hnl, g', r', o'⟩
    simp only [Nat.zero_add] at hnl o'
    have h1 : kvs.length = kA.toList.length := hva.length
    have h2 := hda'.length
    have h3 : kA.toList.length = kA.size := Array.length_toList
    have hsz : kA.size = its.length := by omega
    have hnd : ns.length = ds.length := by omega
    refine wpAny_bind (PyProof.Rows.listItems_at nk' rfl ?_)
    obtain ⟨hR, hR1, hR2⟩ := L2.restrict s'.heap (fun b => !decide (b = kS))
    have kp1 : PySem.W.KeepsBut aL hR s'.heap := fun b ob hb e => by
      by_cases hbk : b = kS
      · rw [hR2 b (by simp [hbk])] at e; cases e
      · rw [hR1 b (by simp [hbk])] at e; exact e
    have dz : ds.drop its.length = [] := List.drop_eq_nil_of_le (by omega)
    rw [dz] at o'
    have o' : out G S0 F' ρ' (VR G) Q E (finB ds (ns ++ []) st') := o'
    rw [List.append_nil] at o'
    have hso : sortOk ns := by
      by_cases z : sortOk ns
      · exact z
      · unfold finB at o'
        rw [if_neg z] at o'
        exact o'.elim
    unfold finB at o'
    rw [if_pos hso] at o'
    obtain ⟨hal, hsk, hdep, _⟩ := hso
    have ez : (xs.zip (ds.zip ns)).map (fun b => b.2.2) = ns := by
      have q : (fun b : V × D × D => b.2.2) = Prod.snd ∘ Prod.snd := rfl
      rw [q, ← List.map_map, List.map_snd_zip (by rw [List.length_zip]; omega), List.map_snd_zip (by omega)]
    have hk' : PySem.W.EachIs (fun v d => ∃ as, Reads s'.heap v d as) kA.toList ns := by
      obtain ⟨as, ra⟩ := Dp.readsAll I' ns kvs kA.toList (DpAll.mono r'.ex (DtA.dp hda')) hva
      exact PySem.W.readsAll_each (h := s'.heap) (fun d : D => d) (vs := kA.toList) (bs := ns) (as := as) (by rw [List.map_id']; exact ra)
    have hud : ∀ d, d ∈ ns → X.A.in1.in1.units + d.depth < cLine := fun d hd => by
      have hi : X.A.in1.in1.units = X.A.units + 1 + 1 := rfl
      have := hr.units
      have := dep_le hd
      omega
    refine PySem.W.keyH_end (prog := X.prog) (w := X.w) (h₁ := hR) (κ := PySem.W.dataKind s'.heap ns) kp1 (hR2 kS (by simp)) nk' na' hak (PySem.W.SortsAt.data hk' hal hsk hud) hsz hZ fun h5 tk5 c5 kp5 na5 => ⟨rfl, ?_⟩
    have ev : PySem.W.EachIs (fun (v : Value) (b : V × D × D) => RelV b.1 v) its (xs.zip (ds.zip ns)) := by
      have : ∀ {xs : List V} {its : List Value} {m : List (D × D)}, Vals xs its → xs.length = m.length → PySem.W.EachIs (fun (v : Value) (b : V × D × D) => RelV b.1 v) its (xs.zip m) := by
        intro xs its m h
        induction h generalizing m with
        | nil => intro e; cases m with
          | nil => exact .nil
          | cons _ _ => cases e
        | cons r _ ih => intro e; cases m with
          | nil => cases e
          | cons y m => exact .cons r (ih (by simpa using e))
      exact this rv (by rw [List.length_zip]; omega)
    have eo := PySem.W.keyedOut_each (rev := false) (fun b : V × D × D => b.2.2) (bs := xs.zip (ds.zip ns)) (vs := its) (out := PySem.W.sortVals (PySem.W.dataKind s'.heap ns) false kA.toList its) (by rw [ez]; exact ⟨s'.heap, kA.toList, hal, rfl, hk'⟩) ev
    generalize PySem.W.sortVals (PySem.W.dataKind s'.heap ns) false kA.toList its = outV at eo na5
    have vo : Vals (((xs.zip (ds.zip ns)).mergeSort (PySem.W.dataLe false fun b : V × D × D => b.2.2)).map Prod.fst) outV := by
      have : ∀ {vs : List Value} {m : List (V × D × D)}, PySem.W.EachIs (fun (v : Value) (b : V × D × D) => RelV b.1 v) vs m → Vals (m.map Prod.fst) vs := by
        intro vs m h
        induction h with
        | nil => exact .nil
        | cons r _ ih => exact .cons r ih
      exact this eo
    have dso := dtA_sortB (hxs2.mono g'.f) hnd
    have ln : (((xs.zip (ds.zip ns)).mergeSort (PySem.W.dataLe false fun b : V × D × D => b.2.2)).map Prod.fst).length ≤ sizeLine := by
      rw [List.length_map, List.length_mergeSort, List.length_zip]; omega
    generalize ((xs.zip (ds.zip ns)).mergeSort (PySem.W.dataLe false fun b : V × D × D => b.2.2)).map Prod.fst = outs at vo dso ln
    have I5 : Inv X pins σ H' { s' with heap := h5, toks := tk5 } := I'.turnedL (t' := tk5) (ch := [kS, aL]) (fun b ob hb e => by
      simp only [List.mem_cons, List.not_mem_nil, or_false, not_or] at hb
      exact kp5 b ob hb.2 (by rw [hR1 b (by simp [hb.1])]; exact e)) (fun b hb => by
      simp only [List.mem_cons, List.not_mem_nil, or_false] at hb
      rcases hb with rfl | rfl
      · exact ⟨hk0, fpK.2⟩
      · exact ⟨ha0, fpA.2⟩)
    have I6 : Inv X pins σ (upd H' aL (.lst outs)) { s' with heap := h5, toks := tk5 } := I5.take (t' := tk5) (fun b ob _ e => e) ⟨ha0, fpA.2⟩ ⟨ln, outV, c5, vo, na5⟩
    exact ⟨.ref aL, upd H' aL (.lst outs), I6, rfl, out_lst r' dso o' aL ha0⟩
end
end Y
end
section
set_option Elab.async false
set_option Elab.async false
set_option linter.all false
set_option maxRecDepth 100000
set_option maxHeartbeats 2000000
/-! Tsi: range(i, j, -1). -/
namespace Y
open PySem PySem.Spec PyProof.Rows L2
section
variable {X : Cx} {G : Glo} {E : XK} {tg : Expr}
theorem jw_dwn {F : Hp} {ρ : List Addr} (lo : Int) (n : Nat) : JW G F ρ (Itc lo (-1) n) (dwn lo n) := by
  have hl : (dwn lo n).length = n := by unfold dwn; rw [List.length_map, List.length_range]
  refine ⟨fun i H hi _ => ?_, fun H _ => ?_, fun i H x H' hi _ y => .inl ⟨y.1, vI (lo + (i : Int) * (-1)), ?_, ?_⟩⟩
  · show i < n
    omega
  · show n ≤ (dwn lo n).length
    omega
  · have hi' : i < n := by omega
    unfold dwn
    rw [List.getElem?_map, List.getElem?_range hi']
    rfl
  · rw [y.2]
    exact .int _
theorem qi_rng3 {a b c : Expr} {f : Y.A} {p pos : Pos} (hg : Gl X "range") (hm : X.mg "range" = none) (ha : PA X [a, b, c] (lA G E f)) (hs : starEach [a, b, c] X.env = (false, eval a X.env) :: starEach [b, c] X.env := by rfl) (hpl : (backTo pos (starEach [b, c] X.env)).any (·.1) = false := by rfl) : PI X tg (.Call (.Name "range" p) [a, b, c] [] pos) (lI G E (iCall kRg3 f)) := by
  refine PI.imp (pi_range3 hg hm ha hs hpl) fun σ H Q ⟨S, F, ρ, loc, st, rp, l, o⟩ => ⟨S, F, ρ, loc, st, rp, l, out.imp (fun x H1 h1 => ?_) (out.bd (Rl := VRs G) o)⟩
  obtain ⟨F1, ρ1, as, st1, g1, r1, v1, o1⟩ := h1
  unfold kRg3 at o1
  split at o1
  · rename_i m n
    cases v1 with
    | cons h hr =>
      cases hr with
      | cons h' hr' =>
        cases hr' with
        | cons h'' hr'' =>
          cases hr''
          by_cases hb : -1000000 ≤ m ∧ m ≤ 1000000 ∧ -1000000 ≤ n ∧ n ≤ 1000000
          · rw [if_pos hb] at o1
            refine ⟨m, n, -1, (m - n).toNat, by rw [vr_int h, vr_int h', vr_int h''], RgC.neg (by omega) (by omega) (by omega) (by omega), out.at (v := dwn m (m - n).toNat) o1 r1 (jw_dwn m (m - n).toNat)⟩
          · rw [if_neg hb] at o1
            exact o1.elim
  · exact o1.elim
end
end Y
end
section
set_option Elab.async false
set_option linter.all false
namespace Y
def CS : List Nat := [1, 2, 3]
def b_is_whole : S := (sRet (eAn (eU (bIsi "int") (eV 0)) (eAn (eNo (eU (bIsi "bool") (eV 0))) (eCh bLe bLe (eV 1) (eV 0) (eV 2)))))
def f_is_whole : List Val → M Val := runF 3 b_is_whole
def are_whole_C1 : E := (eLc (iSeq (eV 0)) (gN 3) tTr (eB (fixN 3 f_is_whole) (aC (eV 3) (aC (eC (.int 0)) (aC (eV 2) aN)))) [3])
theorem are_whole_C1_eq (loc : Loc) : are_whole_C1 loc = (eLc (iSeq (eV 0)) (gN 3) tTr (eB (fixN 3 f_is_whole) (aC (eV 3) (aC (eC (.int 0)) (aC (eV 2) aN)))) [3]) loc := rfl
def b_are_whole : S := (sRet (eAn (eU (bIsi "tuple") (eV 0)) (eAn (eO bEq (eB bLen (aC (eV 0) aN)) (eV 1)) (eB bAll (aC are_whole_C1 aN)))))
def f_are_whole : List Val → M Val := runF 4 b_are_whole
def is_move_C1 : E := (eLc (iSeq (eV 0)) (gN 2) tTr (eB (fixN 3 f_are_whole) (aC (eV 2) (aC (eV 1) (aC (eC (.int 9)) aN)))) [2])
theorem is_move_C1_eq (loc : Loc) : is_move_C1 loc = (eLc (iSeq (eV 0)) (gN 2) tTr (eB (fixN 3 f_are_whole) (aC (eV 2) (aC (eV 1) (aC (eC (.int 9)) aN)))) [2]) loc := rfl
def b_is_move : S := (sRet (eAn (eU (bIsi "tuple") (eV 0)) (eAn (eO bEq (eB bLen (aC (eV 0) aN)) (eC (.int 2))) (eB bAll (aC is_move_C1 aN)))))
def f_is_move : List Val → M Val := runF 3 b_is_move
def b_heaps_in : S := (sSeq (sIf (tOrr (tNo (tV (eU (bIsi "tuple") (eV 0)))) (tOrr (tV (eO bNe (eB bLen (aC (eV 0) aN)) (eC (.int 2)))) (tNo (tV (eU (bIsi "tuple") (eO bIx (eV 0) (eC (.int 0)))))))) (sRet (eC (.int 0))) sNil)
    (sRet (eB bLen (aC (eO bIx (eV 0) (eC (.int 0))) aN))))
def f_heaps_in : List Val → M Val := runF 1 b_heaps_in
def is_moves_C1 : E := (eLc (iSeq (eV 0)) (gN 2) tTr (eB (fixN 2 f_is_move) (aC (eV 2) (aC (eV 1) aN))) [2])
theorem is_moves_C1_eq (loc : Loc) : is_moves_C1 loc = (eLc (iSeq (eV 0)) (gN 2) tTr (eB (fixN 2 f_is_move) (aC (eV 2) (aC (eV 1) aN))) [2]) loc := rfl
def b_is_moves : S := (sSeq (sIf (tOrr (tNo (tV (eU (bIsi "tuple") (eV 0)))) (tNo (tV (eCh bLe bLe (eC (.int 1)) (eB bLen (aC (eV 0) aN)) (eC (.int 6)))))) (sRet (eC (.bool false))) sNil)
    (sSeq (sAsg (eB (fixN 1 f_heaps_in) (aC (eO bIx (eV 0) (eC (.int 0))) aN)) (gN 1))
    (sRet (eAn (eCh bLe bLe (eC (.int 1)) (eV 1) (eC (.int 4))) (eB bAll (aC is_moves_C1 aN))))))
def f_is_moves : List Val → M Val := runF 3 b_is_moves
def b_need_moves : S := (sIf (tNo (tV (eB (fixN 1 f_is_moves) (aC (eV 0) aN)))) (sRaise 1) sNil)
def f_need_moves : List Val → M Val := runF 1 b_need_moves
def b_heaps_of : S := (sRet (eB bLen (aC (eO bIx (eO bIx (eV 0) (eC (.int 0))) (eC (.int 0))) aN)))
def f_heaps_of : List Val → M Val := runF 1 b_heaps_of
def change_C1 : E := (eLc (iCall kZip2 (aC (eO bIx (eV 0) (eC (.int 0))) (aC (eO bIx (eV 0) (eC (.int 1))) aN))) (gT 2 (gsC (gN 1) (gsC (gN 2) gsN))) tTr (eO bSub (eV 2) (eV 1)) [1, 2])
theorem change_C1_eq (loc : Loc) : change_C1 loc = (eLc (iCall kZip2 (aC (eO bIx (eV 0) (eC (.int 0))) (aC (eO bIx (eV 0) (eC (.int 1))) aN))) (gT 2 (gsC (gN 1) (gsC (gN 2) gsN))) tTr (eO bSub (eV 2) (eV 1)) [1, 2]) loc := rfl
def b_change : S := (sRet (eB bTuple (aC change_C1 aN)))
def f_change : List Val → M Val := runF 3 b_change
def b_is_good_standing : S := (sRet (eB (fixN 3 f_are_whole) (aC (eV 1) (aC (eB (fixN 1 f_heaps_of) (aC (eV 0) aN)) (aC (eC (.int 9999)) aN)))))
def f_is_good_standing : List Val → M Val := runF 2 b_is_good_standing
def b_need_standing : S := (sIf (tNo (tV (eB (fixN 2 f_is_good_standing) (aC (eV 0) (aC (eV 1) aN))))) (sRaise 2) sNil)
def f_need_standing : List Val → M Val := runF 2 b_need_standing
def is_over_C1 : E := (eLc (iCall kZip2 (aC (eV 0) (aC (eV 1) aN))) (gT 2 (gsC (gN 2) (gsC (gN 3) gsN))) tTr (eO bGe (eV 2) (eV 3)) [2, 3])
theorem is_over_C1_eq (loc : Loc) : is_over_C1 loc = (eLc (iCall kZip2 (aC (eV 0) (aC (eV 1) aN))) (gT 2 (gsC (gN 2) (gsC (gN 3) gsN))) tTr (eO bGe (eV 2) (eV 3)) [2, 3]) loc := rfl
def b_is_over : S := (sRet (eB bAll (aC is_over_C1 aN)))
def f_is_over : List Val → M Val := runF 4 b_is_over
def added_C1 : E := (eLc (iCall kZip2 (aC (eV 0) (aC (eV 1) aN))) (gT 2 (gsC (gN 2) (gsC (gN 3) gsN))) tTr (eO bAdd (eV 2) (eV 3)) [2, 3])
theorem added_C1_eq (loc : Loc) : added_C1 loc = (eLc (iCall kZip2 (aC (eV 0) (aC (eV 1) aN))) (gT 2 (gsC (gN 2) (gsC (gN 3) gsN))) tTr (eO bAdd (eV 2) (eV 3)) [2, 3]) loc := rfl
def b_added : S := (sRet (eB bTuple (aC added_C1 aN)))
def f_added : List Val → M Val := runF 4 b_added
def steps_from_C1 : E := (eLc (iCall kEnumS (aC (eV 0) aN)) (gT 2 (gsC (gN 3) (gsC (gN 4) gsN))) (tV (eB (fixN 2 f_is_over) (aC (eV 1) (aC (eO bIx (eV 4) (eC (.int 0))) aN)))) (eB bTup (aC (eV 3) (aC (eV 4) aN))) [3, 4])
theorem steps_from_C1_eq (loc : Loc) : steps_from_C1 loc = (eLc (iCall kEnumS (aC (eV 0) aN)) (gT 2 (gsC (gN 3) (gsC (gN 4) gsN))) (tV (eB (fixN 2 f_is_over) (aC (eV 1) (aC (eO bIx (eV 4) (eC (.int 0))) aN)))) (eB bTup (aC (eV 3) (aC (eV 4) aN))) [3, 4]) loc := rfl
def steps_from_C2 : E := (eLc (iSeq (eV 2)) (gT 2 (gsC (gN 3) (gsC (gN 4) gsN))) tTr (eB bTup (aC (eV 3) (aC (eB (fixN 2 f_added) (aC (eV 1) (aC (eB (fixN 1 f_change) (aC (eV 4) aN)) aN))) aN))) [3, 4])
theorem steps_from_C2_eq (loc : Loc) : steps_from_C2 loc = (eLc (iSeq (eV 2)) (gT 2 (gsC (gN 3) (gsC (gN 4) gsN))) tTr (eB bTup (aC (eV 3) (aC (eB (fixN 2 f_added) (aC (eV 1) (aC (eB (fixN 1 f_change) (aC (eV 4) aN)) aN))) aN))) [3, 4]) loc := rfl
def b_steps_from : S := (sSeq (sAsg steps_from_C1 (gN 2))
    (sRet steps_from_C2))
def f_steps_from : List Val → M Val := runF 5 b_steps_from
def one_before_C1 : E := (eLc (iCall kZip3 (aC (eO bIx (eV 0) (eC (.int 0))) (aC (eV 1) (aC (eB (fixN 1 f_change) (aC (eV 0) aN)) aN)))) (gT 3 (gsC (gN 2) (gsC (gN 3) (gsC (gN 4) gsN)))) tTr (eB bMax2 (aC (eV 2) (aC (eO bSub (eV 3) (eV 4)) aN))) [2, 3, 4])
theorem one_before_C1_eq (loc : Loc) : one_before_C1 loc = (eLc (iCall kZip3 (aC (eO bIx (eV 0) (eC (.int 0))) (aC (eV 1) (aC (eB (fixN 1 f_change) (aC (eV 0) aN)) aN)))) (gT 3 (gsC (gN 2) (gsC (gN 3) (gsC (gN 4) gsN)))) tTr (eB bMax2 (aC (eV 2) (aC (eO bSub (eV 3) (eV 4)) aN))) [2, 3, 4]) loc := rfl
def b_one_before : S := (sRet (eB bTuple (aC one_before_C1 aN)))
def f_one_before : List Val → M Val := runF 5 b_one_before
noncomputable def least_of_C1 : E := (eLcO (eV 2) (gN 4) tTr (eB (fixN 2 f_is_over) (aC (eV 3) (aC (eV 4) aN))) [4])
theorem least_of_C1_eq (loc : Loc) : least_of_C1 loc = (eLcO (eV 2) (gN 4) tTr (eB (fixN 2 f_is_over) (aC (eV 3) (aC (eV 4) aN))) [4]) loc := rfl
noncomputable def least_of_L1 : S := (sIf (tNo (tV (eB bAny (aC least_of_C1 aN)))) (sExp (eApp (eV 2) (eV 3))) sNil)
theorem least_of_L1_eq (loc : Loc) : least_of_L1 loc = (sIf (tNo (tV (eB bAny (aC least_of_C1 aN)))) (sExp (eApp (eV 2) (eV 3))) sNil) loc := rfl
noncomputable def b_least_of : S := (sSeq (sPar 1 2 (eSetS (eV 0)) (eB bNew aN))
    (sSeq (sFor (iSeq (eSortB (eV 1) [] (eB bTup (aC (eB bSumS (aC (eV 0) aN)) (aC (eV 0) aN))))) (gN 3)
    least_of_L1)
    (sRet (eB bSortD (aC (eV 2) aN)))))
noncomputable def f_least_of : List Val → M Val := runF 5 b_least_of
noncomputable def starts_of_C1 : E := (eLc (iSeq (eV 0)) (gN 6) tTr (eB (fixN 2 f_one_before) (aC (eV 6) (aC (eV 5) aN))) [6])
theorem starts_of_C1_eq (loc : Loc) : starts_of_C1 loc = (eLc (iSeq (eV 0)) (gN 6) tTr (eB (fixN 2 f_one_before) (aC (eV 6) (aC (eV 5) aN))) [6]) loc := rfl
noncomputable def starts_of_L1 : S := (sAsg (eO bAdd (eV 4) starts_of_C1) (gN 4))
theorem starts_of_L1_eq (loc : Loc) : starts_of_L1 loc = (sAsg (eO bAdd (eV 4) starts_of_C1) (gN 4)) loc := rfl
noncomputable def starts_of_L2 : S := (sSeq (sAsg (eB bLst aN) (gN 4))
    (sSeq (sFor (iSeq (eO bIx (eV 2) (eU bNeg (eC (.int 1))))) (gN 5)
    starts_of_L1)
    (sExp (eApp (eV 2) (eB (fixN 1 f_least_of) (aC (eV 4) aN))))))
theorem starts_of_L2_eq (loc : Loc) : starts_of_L2 loc = (sSeq (sAsg (eB bLst aN) (gN 4))
    (sSeq (sFor (iSeq (eO bIx (eV 2) (eU bNeg (eC (.int 1))))) (gN 5)
    starts_of_L1)
    (sExp (eApp (eV 2) (eB (fixN 1 f_least_of) (aC (eV 4) aN)))))) loc := rfl
noncomputable def b_starts_of : S := (sSeq (sAsg (eB bNew (aC (eB bLst (aC (eO bMul (eB bTup (aC (eC (.int 0)) aN)) (eB (fixN 1 f_heaps_of) (aC (eV 0) aN))) aN)) aN)) (gN 2))
    (sSeq (sFor (iCall kRg1 (aC (eV 1) aN)) (gN 3)
    starts_of_L2)
    (sRet (eU bFrz (eV 2)))))
noncomputable def f_starts_of : List Val → M Val := runF 7 b_starts_of
def b_need_many : S := (sIf (tNo (tV (eB (fixN 3 f_is_whole) (aC (eV 0) (aC (eC (.int 0)) (aC (eC (.int 8)) aN)))))) (sRaise 3) sNil)
def f_need_many : List Val → M Val := runF 1 b_need_many
noncomputable def b_least_starts : S := (sSeq (sExp (eB (fixN 1 f_need_moves) (aC (eV 0) aN)))
    (sSeq (sExp (eB (fixN 1 f_need_many) (aC (eV 1) aN)))
    (sRet (eO bIx (eB (fixN 2 f_starts_of) (aC (eV 0) (aC (eV 1) aN))) (eU bNeg (eC (.int 1)))))))
noncomputable def f_least_starts : List Val → M Val := runF 2 b_least_starts
def covers_one_C1 : E := (eLc (iSeq (eV 1)) (gN 2) tTr (eB (fixN 2 f_is_over) (aC (eV 0) (aC (eV 2) aN))) [2])
theorem covers_one_C1_eq (loc : Loc) : covers_one_C1 loc = (eLc (iSeq (eV 1)) (gN 2) tTr (eB (fixN 2 f_is_over) (aC (eV 0) (aC (eV 2) aN))) [2]) loc := rfl
def b_covers_one : S := (sRet (eB bAny (aC covers_one_C1 aN)))
def f_covers_one : List Val → M Val := runF 3 b_covers_one
noncomputable def b_can_go : S := (sSeq (sExp (eB (fixN 1 f_need_moves) (aC (eV 0) aN)))
    (sSeq (sExp (eB (fixN 2 f_need_standing) (aC (eV 0) (aC (eV 1) aN))))
    (sSeq (sExp (eB (fixN 1 f_need_many) (aC (eV 2) aN)))
    (sRet (eB (fixN 2 f_covers_one) (aC (eV 1) (aC (eO bIx (eB (fixN 2 f_starts_of) (aC (eV 0) (aC (eV 2) aN))) (eU bNeg (eC (.int 1)))) aN)))))))
noncomputable def f_can_go : List Val → M Val := runF 3 b_can_go
noncomputable def first_row_C1 : E := (eLc (iSeq (eB (fixN 2 f_steps_from) (aC (eV 0) (aC (eV 1) aN)))) (gN 7) (tV (eB (fixN 2 f_covers_one) (aC (eO bIx (eV 7) (eC (.int 1))) (aC (eO bIx (eV 3) (eV 5)) aN)))) (eV 7) [7])
theorem first_row_C1_eq (loc : Loc) : first_row_C1 loc = (eLc (iSeq (eB (fixN 2 f_steps_from) (aC (eV 0) (aC (eV 1) aN)))) (gN 7) (tV (eB (fixN 2 f_covers_one) (aC (eO bIx (eV 7) (eC (.int 1))) (aC (eO bIx (eV 3) (eV 5)) aN)))) (eV 7) [7]) loc := rfl
noncomputable def first_row_L1 : S := (sSeq (sAsg first_row_C1 (gN 6))
    (sSeq (sAsg (eO bIx (eV 6) (eC (.int 0))) (gT 2 (gsC (gN 8) (gsC (gN 1) gsN))))
    (sExp (eApp (eV 4) (eV 8)))))
theorem first_row_L1_eq (loc : Loc) : first_row_L1 loc = (sSeq (sAsg first_row_C1 (gN 6))
    (sSeq (sAsg (eO bIx (eV 6) (eC (.int 0))) (gT 2 (gsC (gN 8) (gsC (gN 1) gsN))))
    (sExp (eApp (eV 4) (eV 8))))) loc := rfl
noncomputable def b_first_row : S := (sSeq (sExp (eB (fixN 1 f_need_moves) (aC (eV 0) aN)))
    (sSeq (sExp (eB (fixN 2 f_need_standing) (aC (eV 0) (aC (eV 1) aN))))
    (sSeq (sExp (eB (fixN 1 f_need_many) (aC (eV 2) aN)))
    (sSeq (sAsg (eB bTupN (aC (eB (fixN 2 f_starts_of) (aC (eV 0) (aC (eV 2) aN))) (aC (eB bNew aN) aN))) (gTO 2 (gsC (gN 3) (gsC (gN 4) gsN))))
    (sSeq (sIf (tNo (tV (eB (fixN 2 f_covers_one) (aC (eV 1) (aC (eO bIx (eV 3) (eV 2)) aN))))) (sRet (eC .none)) sNil)
    (sSeq (sFor (iCall kRg3 (aC (eO bSub (eV 2) (eC (.int 1))) (aC (eU bNeg (eC (.int 1))) (aC (eU bNeg (eC (.int 1))) aN)))) (gN 5)
    first_row_L1)
    (sRet (eU bFrz (eV 4)))))))))
noncomputable def f_first_row : List Val → M Val := runF 9 b_first_row
def b_law_cell : S := (sSeq (sIf (tV (eO bEq (eV 0) (eB bLst aN))) (sRet (eO bMul (eV 1) (eC (.int 7919)))) sNil)
    (sRet (eO bAdd (eO bIx (eV 0) (eO bMod (eV 1) (eB bLen (aC (eV 0) aN)))) (eO bMul (eO bDiv (eV 1) (eB bLen (aC (eV 0) aN))) (eC (.int 104729))))))
def f_law_cell : List Val → M Val := runF 2 b_law_cell
def b_law_drawn : S := (sSeq (sAsg (eO bMod (eO bAdd (eO bMul (eV 0) (eC (.int 6364136223846793005))) (eO bMul (eO bAdd (eV 1) (eC (.int 1))) (eC (.int 1442695040888963407)))) (eC (.int 340282366920938463463374607431768211507))) (gN 2))
    (sSeq (sAsg (eO bMod (eO bMul (eV 2) (eV 2)) (eC (.int 340282366920938463463374607431768211297))) (gN 2))
    (sSeq (sAsg (eO bMul (eO bMul (eO bAdd (eO bMod (eV 2) (eC (.int 18446744073709551557))) (eC (.int 1))) (eO bAdd (eO bDiv (eV 2) (eC (.int 18446744073709551557))) (eC (.int 1)))) (eV 2)) (gN 2))
    (sRet (eO bMod (eV 2) (eC (.int 340282366920938463463374607431768211507)))))))
def f_law_drawn : List Val → M Val := runF 3 b_law_drawn
def b_law_roll : S := (sSeq (sIf (tV (eO bGe (eO bIx (eV 0) (eC (.int 0))) (eO bPow (eC (.int 10)) (eC (.int 18))))) (sSeq (sAsg (eO bMod (eO bIx (eV 0) (eC (.int 0))) (eV 1)) (gN 2))
    (sSeq (sAsg (eO bDiv (eO bIx (eV 0) (eC (.int 0))) (eV 1)) (gSub (eV 0) (eC (.int 0))))
    (sRet (eV 2)))) sNil)
    (sSeq (sAsg (eO bAdd (eO bIx (eV 0) (eC (.int 1))) (eC (.int 1))) (gSub (eV 0) (eC (.int 1))))
    (sRet (eO bMod (eO bDiv (eB (fixN 2 f_law_drawn) (aC (eO bIx (eV 0) (eC (.int 0))) (aC (eO bIx (eV 0) (eC (.int 1))) aN))) (eC (.int 8))) (eV 1)))))
def f_law_roll : List Val → M Val := runF 3 b_law_roll
def law_rounds_C1 : E := (eLcN (iCall kRg1 (aC (eB bMax2 (aC (eC (.int 1)) (aC (eB bMin2 (aC (eV 1) (aC (eB bLen (aC (eV 0) aN)) aN))) aN))) aN)) (gN 2) tTr (eB bNew (aC (eB (fixN 2 f_law_cell) (aC (eV 0) (aC (eV 2) aN))) (aC (eC (.int 0)) aN))) [2])
theorem law_rounds_C1_eq (loc : Loc) : law_rounds_C1 loc = (eLcN (iCall kRg1 (aC (eB bMax2 (aC (eC (.int 1)) (aC (eB bMin2 (aC (eV 1) (aC (eB bLen (aC (eV 0) aN)) aN))) aN))) aN)) (gN 2) tTr (eB bNew (aC (eB (fixN 2 f_law_cell) (aC (eV 0) (aC (eV 2) aN))) (aC (eC (.int 0)) aN))) [2]) loc := rfl
def b_law_rounds : S := (sRet law_rounds_C1)
def f_law_rounds : List Val → M Val := runF 3 b_law_rounds
def law_any_move_C1 : E := (eLc (iCall kRg1 (aC (eV 1) aN)) (gN 3) tTr (eO bIx (eB bLst (aC (eC (.int 0)) (aC (eC (.int 0)) (aC (eC (.int 1)) (aC (eC (.int 1)) (aC (eC (.int 2)) aN)))))) (eB (fixN 2 f_law_roll) (aC (eV 0) (aC (eC (.int 5)) aN)))) [3])
theorem law_any_move_C1_eq (loc : Loc) : law_any_move_C1 loc = (eLc (iCall kRg1 (aC (eV 1) aN)) (gN 3) tTr (eO bIx (eB bLst (aC (eC (.int 0)) (aC (eC (.int 0)) (aC (eC (.int 1)) (aC (eC (.int 1)) (aC (eC (.int 2)) aN)))))) (eB (fixN 2 f_law_roll) (aC (eV 0) (aC (eC (.int 5)) aN)))) [3]) loc := rfl
def law_any_move_C2 : E := (eLc (iCall kRg1 (aC (eV 1) aN)) (gN 3) tTr (eO bIx (eB bLst (aC (eC (.int 0)) (aC (eC (.int 0)) (aC (eC (.int 0)) (aC (eC (.int 1)) (aC (eC (.int 2)) aN)))))) (eB (fixN 2 f_law_roll) (aC (eV 0) (aC (eC (.int 5)) aN)))) [3])
theorem law_any_move_C2_eq (loc : Loc) : law_any_move_C2 loc = (eLc (iCall kRg1 (aC (eV 1) aN)) (gN 3) tTr (eO bIx (eB bLst (aC (eC (.int 0)) (aC (eC (.int 0)) (aC (eC (.int 0)) (aC (eC (.int 1)) (aC (eC (.int 2)) aN)))))) (eB (fixN 2 f_law_roll) (aC (eV 0) (aC (eC (.int 5)) aN)))) [3]) loc := rfl
def b_law_any_move : S := (sSeq (sAsg (eB bTuple (aC law_any_move_C1 aN)) (gN 2))
    (sRet (eB bTup (aC (eV 2) (aC (eB bTuple (aC law_any_move_C2 aN)) aN)))))
def f_law_any_move : List Val → M Val := runF 4 b_law_any_move
def law_any_moves_C1 : E := (eLc (iCall kRg1 (aC (eO bAdd (eC (.int 1)) (eB (fixN 2 f_law_roll) (aC (eV 0) (aC (eV 1) aN)))) aN)) (gN 3) tTr (eB (fixN 2 f_law_any_move) (aC (eV 0) (aC (eV 2) aN))) [3])
theorem law_any_moves_C1_eq (loc : Loc) : law_any_moves_C1 loc = (eLc (iCall kRg1 (aC (eO bAdd (eC (.int 1)) (eB (fixN 2 f_law_roll) (aC (eV 0) (aC (eV 1) aN)))) aN)) (gN 3) tTr (eB (fixN 2 f_law_any_move) (aC (eV 0) (aC (eV 2) aN))) [3]) loc := rfl
def b_law_any_moves : S := (sSeq (sAsg (eO bAdd (eC (.int 1)) (eB (fixN 2 f_law_roll) (aC (eV 0) (aC (eC (.int 3)) aN)))) (gN 2))
    (sRet (eB bTuple (aC law_any_moves_C1 aN))))
def f_law_any_moves : List Val → M Val := runF 4 b_law_any_moves
def law_any_standing_C1 : E := (eLc (iSeq (eO bIx (eO bIx (eV 1) (eC (.int 0))) (eC (.int 0)))) (gN 3) tTr (eB (fixN 2 f_law_roll) (aC (eV 0) (aC (eO bAdd (eV 2) (eC (.int 1))) aN))) [3])
theorem law_any_standing_C1_eq (loc : Loc) : law_any_standing_C1 loc = (eLc (iSeq (eO bIx (eO bIx (eV 1) (eC (.int 0))) (eC (.int 0)))) (gN 3) tTr (eB (fixN 2 f_law_roll) (aC (eV 0) (aC (eO bAdd (eV 2) (eC (.int 1))) aN))) [3]) loc := rfl
def b_law_any_standing : S := (sRet (eB bTuple (aC law_any_standing_C1 aN)))
def f_law_any_standing : List Val → M Val := runF 4 b_law_any_standing
def law_moved_L1 : S := (sSeq (sIf (tV (eO bLt (eV 3) (eV 4))) (sRet (eC .none)) sNil)
    (sExp (eApp (eV 2) (eO bAdd (eO bSub (eV 3) (eV 4)) (eV 5)))))
theorem law_moved_L1_eq (loc : Loc) : law_moved_L1 loc = (sSeq (sIf (tV (eO bLt (eV 3) (eV 4))) (sRet (eC .none)) sNil)
    (sExp (eApp (eV 2) (eO bAdd (eO bSub (eV 3) (eV 4)) (eV 5))))) loc := rfl
def b_law_moved : S := (sSeq (sAsg (eB bNew aN) (gN 2))
    (sSeq (sFor (iCall kZip3 (aC (eV 0) (aC (eO bIx (eV 1) (eC (.int 0))) (aC (eO bIx (eV 1) (eC (.int 1))) aN)))) (gT 3 (gsC (gN 3) (gsC (gN 4) (gsC (gN 5) gsN))))
    law_moved_L1)
    (sRet (eB bTuple (aC (eV 2) aN)))))
def f_law_moved : List Val → M Val := runF 6 b_law_moved
def law_ways_L1 : S := (sSeq (sAsg (eB (fixN 2 f_law_moved) (aC (eV 1) (aC (eV 4) aN))) (gN 5))
    (sIf (tV (eU bNotN (eV 5))) (sExp (eApp (eV 2) (eB bTup (aC (eV 3) (aC (eV 5) aN))))) sNil))
theorem law_ways_L1_eq (loc : Loc) : law_ways_L1 loc = (sSeq (sAsg (eB (fixN 2 f_law_moved) (aC (eV 1) (aC (eV 4) aN))) (gN 5))
    (sIf (tV (eU bNotN (eV 5))) (sExp (eApp (eV 2) (eB bTup (aC (eV 3) (aC (eV 5) aN))))) sNil)) loc := rfl
def b_law_ways : S := (sSeq (sAsg (eB bNew aN) (gN 2))
    (sSeq (sFor (iCall kEnumS (aC (eV 0) aN)) (gT 2 (gsC (gN 3) (gsC (gN 4) gsN)))
    law_ways_L1)
    (sRet (eU bFrz (eV 2)))))
def f_law_ways : List Val → M Val := runF 6 b_law_ways
def law_over_C1 : E := (eLc (iCall kRg1 (aC (eB bLen (aC (eV 0) aN)) aN)) (gN 2) (tV (eO bLt (eO bIx (eV 0) (eV 2)) (eO bIx (eV 1) (eV 2)))) (eV 2) [2])
theorem law_over_C1_eq (loc : Loc) : law_over_C1 loc = (eLc (iCall kRg1 (aC (eB bLen (aC (eV 0) aN)) aN)) (gN 2) (tV (eO bLt (eO bIx (eV 0) (eV 2)) (eO bIx (eV 1) (eV 2)))) (eV 2) [2]) loc := rfl
def b_law_over : S := (sRet (eO bEq law_over_C1 (eB bLst aN)))
def f_law_over : List Val → M Val := runF 3 b_law_over
def law_all_rows_C1 : E := (eLc (iSeq (eB (fixN 2 f_law_ways) (aC (eV 0) (aC (eV 7) aN)))) (gT 2 (gsC (gN 8) (gsC (gN 9) gsN))) tTr (eB bTup (aC (eO bAdd (eV 6) (eB bLst (aC (eV 8) aN))) (aC (eV 9) aN))) [8, 9])
theorem law_all_rows_C1_eq (loc : Loc) : law_all_rows_C1 loc = (eLc (iSeq (eB (fixN 2 f_law_ways) (aC (eV 0) (aC (eV 7) aN)))) (gT 2 (gsC (gN 8) (gsC (gN 9) gsN))) tTr (eB bTup (aC (eO bAdd (eV 6) (eB bLst (aC (eV 8) aN))) (aC (eV 9) aN))) [8, 9]) loc := rfl
def law_all_rows_L1 : S := (sAsg (eO bAdd (eV 5) law_all_rows_C1) (gN 5))
theorem law_all_rows_L1_eq (loc : Loc) : law_all_rows_L1 loc = (sAsg (eO bAdd (eV 5) law_all_rows_C1) (gN 5)) loc := rfl
def law_all_rows_L2 : S := (sSeq (sAsg (eB bLst aN) (gN 5))
    (sSeq (sFor (iSeq (eV 3)) (gT 2 (gsC (gN 6) (gsC (gN 7) gsN)))
    law_all_rows_L1)
    (sAsg (eV 5) (gN 3))))
theorem law_all_rows_L2_eq (loc : Loc) : law_all_rows_L2 loc = (sSeq (sAsg (eB bLst aN) (gN 5))
    (sSeq (sFor (iSeq (eV 3)) (gT 2 (gsC (gN 6) (gsC (gN 7) gsN)))
    law_all_rows_L1)
    (sAsg (eV 5) (gN 3)))) loc := rfl
def law_all_rows_C2 : E := (eLc (iSeq (eV 3)) (gT 2 (gsC (gN 6) (gsC (gN 7) gsN))) tTr (eV 6) [6, 7])
theorem law_all_rows_C2_eq (loc : Loc) : law_all_rows_C2 loc = (eLc (iSeq (eV 3)) (gT 2 (gsC (gN 6) (gsC (gN 7) gsN))) tTr (eV 6) [6, 7]) loc := rfl
def b_law_all_rows : S := (sSeq (sAsg (eB bLst (aC (eB bTup (aC (eB bLst aN) (aC (eV 1) aN))) aN)) (gN 3))
    (sSeq (sFor (iCall kRg1 (aC (eV 2) aN)) (gN 4)
    law_all_rows_L2)
    (sRet law_all_rows_C2)))
def f_law_all_rows : List Val → M Val := runF 10 b_law_all_rows
noncomputable def law_C1 : E := (eLc (iSeq (eV 4)) (gN 6) (tAn (tV (eO bNe (eV 6) (eV 5))) (tV (eB (fixN 2 f_law_over) (aC (eV 5) (aC (eV 6) aN))))) (eV 6) [6])
theorem law_C1_eq (loc : Loc) : law_C1 loc = (eLc (iSeq (eV 4)) (gN 6) (tAn (tV (eO bNe (eV 6) (eV 5))) (tV (eB (fixN 2 f_law_over) (aC (eV 5) (aC (eV 6) aN))))) (eV 6) [6]) loc := rfl
noncomputable def law_L1 : S := (sSeq (sIf (tV (eO bNe law_C1 (eB bLst aN))) (sRet (eC (.bool false))) sNil)
    (sIf (tV (eO bEq (eB (fixN 3 f_law_all_rows) (aC (eV 2) (aC (eV 5) (aC (eV 3) aN)))) (eB bLst aN))) (sRet (eC (.bool false))) sNil))
theorem law_L1_eq (loc : Loc) : law_L1 loc = (sSeq (sIf (tV (eO bNe law_C1 (eB bLst aN))) (sRet (eC (.bool false))) sNil)
    (sIf (tV (eO bEq (eB (fixN 3 f_law_all_rows) (aC (eV 2) (aC (eV 5) (aC (eV 3) aN)))) (eB bLst aN))) (sRet (eC (.bool false))) sNil)) loc := rfl
noncomputable def law_C2 : E := (eLc (iSeq (eV 4)) (gN 5) (tV (eB (fixN 2 f_law_over) (aC (eV 8) (aC (eV 5) aN)))) (eV 5) [5])
theorem law_C2_eq (loc : Loc) : law_C2 loc = (eLc (iSeq (eV 4)) (gN 5) (tV (eB (fixN 2 f_law_over) (aC (eV 8) (aC (eV 5) aN)))) (eV 5) [5]) loc := rfl
noncomputable def law_L2 : S := (sSeq (sAsg (eB (fixN 3 f_law_any_standing) (aC (eV 1) (aC (eV 2) (aC (eC (.int 4)) aN)))) (gN 8))
    (sSeq (sAsg (eB (fixN 3 f_law_all_rows) (aC (eV 2) (aC (eV 8) (aC (eV 3) aN)))) (gN 9))
    (sSeq (sIf (tV (eO bNe (eB (fixN 3 f_can_go) (aC (eV 2) (aC (eV 8) (aC (eV 3) aN)))) (eO bNe (eV 9) (eB bLst aN)))) (sRet (eC (.bool false))) sNil)
    (sSeq (sIf (tV (eO bNe (eO bNe (eV 9) (eB bLst aN)) (eO bNe law_C2 (eB bLst aN)))) (sRet (eC (.bool false))) sNil)
    (sIf (tV (eO bNe (eB (fixN 3 f_first_row) (aC (eV 2) (aC (eV 8) (aC (eV 3) aN)))) (eIf (tV (eO bNe (eV 9) (eB bLst aN))) (eO bIx (eV 9) (eC (.int 0))) (eC .none)))) (sRet (eC (.bool false))) sNil)))))
theorem law_L2_eq (loc : Loc) : law_L2 loc = (sSeq (sAsg (eB (fixN 3 f_law_any_standing) (aC (eV 1) (aC (eV 2) (aC (eC (.int 4)) aN)))) (gN 8))
    (sSeq (sAsg (eB (fixN 3 f_law_all_rows) (aC (eV 2) (aC (eV 8) (aC (eV 3) aN)))) (gN 9))
    (sSeq (sIf (tV (eO bNe (eB (fixN 3 f_can_go) (aC (eV 2) (aC (eV 8) (aC (eV 3) aN)))) (eO bNe (eV 9) (eB bLst aN)))) (sRet (eC (.bool false))) sNil)
    (sSeq (sIf (tV (eO bNe (eO bNe (eV 9) (eB bLst aN)) (eO bNe law_C2 (eB bLst aN)))) (sRet (eC (.bool false))) sNil)
    (sIf (tV (eO bNe (eB (fixN 3 f_first_row) (aC (eV 2) (aC (eV 8) (aC (eV 3) aN)))) (eIf (tV (eO bNe (eV 9) (eB bLst aN))) (eO bIx (eV 9) (eC (.int 0))) (eC .none)))) (sRet (eC (.bool false))) sNil))))) loc := rfl
noncomputable def law_L3 : S := (sSeq (sAsg (eB bNew (aC (eTold CS (eB (fixN 2 f_least_starts) (aC (eV 2) (aC (eV 10) aN)))) aN)) (gN 11))
    (sSeq (sExp (eApp (eV 11) (eTold CS (eB (fixN 3 f_can_go) (aC (eV 2) (aC (eV 8) (aC (eV 10) aN)))))))
    (sIf (tV (eO bNe (eO bAddO (eV 11) (eB bLst (aC (eTold CS (eB (fixN 3 f_first_row) (aC (eV 2) (aC (eV 8) (aC (eV 10) aN))))) aN))) (eO bMul (eB bLst (aC (eB bTup (aC (eC (.str "refused")) (aC (eC (.str "BadNumber")) aN))) aN)) (eC (.int 3))))) (sRet (eC (.bool false))) sNil)))
theorem law_L3_eq (loc : Loc) : law_L3 loc = (sSeq (sAsg (eB bNew (aC (eTold CS (eB (fixN 2 f_least_starts) (aC (eV 2) (aC (eV 10) aN)))) aN)) (gN 11))
    (sSeq (sExp (eApp (eV 11) (eTold CS (eB (fixN 3 f_can_go) (aC (eV 2) (aC (eV 8) (aC (eV 10) aN)))))))
    (sIf (tV (eO bNe (eO bAddO (eV 11) (eB bLst (aC (eTold CS (eB (fixN 3 f_first_row) (aC (eV 2) (aC (eV 8) (aC (eV 10) aN))))) aN))) (eO bMul (eB bLst (aC (eB bTup (aC (eC (.str "refused")) (aC (eC (.str "BadNumber")) aN))) aN)) (eC (.int 3))))) (sRet (eC (.bool false))) sNil))) loc := rfl
noncomputable def law_L4 : S := (sSeq (sAsg (eB bTup (aC (eB (fixN 2 f_law_any_moves) (aC (eV 1) (aC (eC (.int 3)) aN))) (aC (eB (fixN 2 f_law_roll) (aC (eV 1) (aC (eC (.int 5)) aN))) aN))) (gT 2 (gsC (gN 2) (gsC (gN 3) gsN))))
    (sSeq (sAsg (eB (fixN 2 f_least_starts) (aC (eV 2) (aC (eV 3) aN))) (gN 4))
    (sSeq (sIf (tV (eO bNe (eV 4) (eSetS (eV 4)))) (sRet (eC (.bool false))) sNil)
    (sSeq (sFor (iSeq (eV 4)) (gN 5)
    law_L1)
    (sSeq (sFor (iCall kRg1 (aC (eC (.int 6)) aN)) (gN 7)
    law_L2)
    (sSeq (sFor (iSeq (eB bLst (aC (eU bNeg (eC (.int 1))) (aC (eC (.int 9)) (aC (eC (.bool true)) (aC (eC .none) aN)))))) (gN 10)
    law_L3)
    (sSeq (sIf (tV (eO bNe (eTold CS (eB (fixN 3 f_can_go) (aC (eV 2) (aC (eC .none) (aC (eC .none) aN))))) (eB bTup (aC (eC (.str "refused")) (aC (eC (.str "BadStanding")) aN))))) (sRet (eC (.bool false))) sNil)
    (sIf (tV (eO bNe (eB (fixN 2 f_least_starts) (aC (eV 2) (aC (eC (.int 0)) aN))) (eB bLst (aC (eO bMul (eB bTup (aC (eC (.int 0)) aN)) (eB bLen (aC (eO bIx (eO bIx (eV 2) (eC (.int 0))) (eC (.int 0))) aN))) aN)))) (sRet (eC (.bool false))) sNil))))))))
theorem law_L4_eq (loc : Loc) : law_L4 loc = (sSeq (sAsg (eB bTup (aC (eB (fixN 2 f_law_any_moves) (aC (eV 1) (aC (eC (.int 3)) aN))) (aC (eB (fixN 2 f_law_roll) (aC (eV 1) (aC (eC (.int 5)) aN))) aN))) (gT 2 (gsC (gN 2) (gsC (gN 3) gsN))))
    (sSeq (sAsg (eB (fixN 2 f_least_starts) (aC (eV 2) (aC (eV 3) aN))) (gN 4))
    (sSeq (sIf (tV (eO bNe (eV 4) (eSetS (eV 4)))) (sRet (eC (.bool false))) sNil)
    (sSeq (sFor (iSeq (eV 4)) (gN 5)
    law_L1)
    (sSeq (sFor (iCall kRg1 (aC (eC (.int 6)) aN)) (gN 7)
    law_L2)
    (sSeq (sFor (iSeq (eB bLst (aC (eU bNeg (eC (.int 1))) (aC (eC (.int 9)) (aC (eC (.bool true)) (aC (eC .none) aN)))))) (gN 10)
    law_L3)
    (sSeq (sIf (tV (eO bNe (eTold CS (eB (fixN 3 f_can_go) (aC (eV 2) (aC (eC .none) (aC (eC .none) aN))))) (eB bTup (aC (eC (.str "refused")) (aC (eC (.str "BadStanding")) aN))))) (sRet (eC (.bool false))) sNil)
    (sIf (tV (eO bNe (eB (fixN 2 f_least_starts) (aC (eV 2) (aC (eC (.int 0)) aN))) (eB bLst (aC (eO bMul (eB bTup (aC (eC (.int 0)) aN)) (eB bLen (aC (eO bIx (eO bIx (eV 2) (eC (.int 0))) (eC (.int 0))) aN))) aN)))) (sRet (eC (.bool false))) sNil)))))))) loc := rfl
noncomputable def b_law : S := (sSeq (sForO (eB (fixN 2 f_law_rounds) (aC (eV 0) (aC (eC (.int 4)) aN))) (gN 1)
    law_L4)
    (sRet (eC (.bool true))))
noncomputable def f_law : List Val → M Val := runF 12 b_law
end Y
end
section
set_option Elab.async false
set_option Elab.async false
set_option linter.all false
set_option maxRecDepth 100000
set_option maxHeartbeats 2000000
namespace Y
open PySem PySem.Spec PyProof.Rows L2
def topS (i : Nat) : Stmt := PySem.Challenge.pw_spentheaps_k09_whole_least_starts.main.body.getD i (.Pass ⟨0, 0, 0, 0⟩)
structure Blt (mg : Str → Option Value) : Prop where
  ValueError : mg "ValueError" = none
  all : mg "all" = none
  any : mg "any" = none
  bool : mg "bool" = none
  enumerate : mg "enumerate" = none
  int : mg "int" = none
  isinstance : mg "isinstance" = none
  len : mg "len" = none
  max : mg "max" = none
  min : mg "min" = none
  range : mg "range" = none
  set : mg "set" = none
  sorted : mg "sorted" = none
  sum : mg "sum" = none
  tuple : mg "tuple" = none
  zip : mg "zip" = none
section
variable {P : Program} {w : World} {mg : Str → Option Value} {base : Heap} {G : Glo}
def s_law_term : Stmt := topS 44
theorem sc_law_term : FnScope ["e", "flags", "kinds"] ["e"] (defScope s_law_term) := ⟨rfl, rfl, rfl, by decide +kernel, rfl, by decide +kernel, by decide +kernel⟩
section
variable {P : Program} {w : World} {K : PySem.W.Frag} {mg : Str → Option Value} {base : Heap} {f : Addr} {cdv : Value} {A : Around} {outer : List Env} {s : Shared} {H0 : Hp} {E : XK} {a : Addr} {oe : Obj} {c : Nat} {cl : Nat → Addr}
theorem term_body (hot : L2H.Hot1 A (a, oe)) (F : TermF mg K cl) (C : TermC K cl c) (hz : oe.cls = .ref (cl c) ∧ oe.dict = none) (hf : ∃ vs, oe.data = .fields vs) :
    PSs (L2H.cxH (L2N.CX P w) P w K mg base ["e", "flags", "kinds"] "_law_term" (defScope s_law_term) f cdv A outer s H0 E (a, oe)) (defBody s_law_term) (tTerm a c) := by
  have sc := sc_law_term
  have hc : L2H.HotC (L2H.cxH (L2N.CX P w) P w K mg base ["e", "flags", "kinds"] "_law_term" (defScope s_law_term) f cdv A outer s H0 E (a, oe)) := ⟨(a, oe), hot, List.mem_singleton.mpr rfl⟩
  have Ea : ExcAt (L2H.cxH (L2N.CX P w) P w K mg base ["e", "flags", "kinds"] "_law_term" (defScope s_law_term) f cdv A outer s H0 E (a, oe)) a (cl c) := ⟨⟨oe, List.mem_singleton.mpr rfl, hz, hf⟩, C.e⟩
  have k := C.k
  refine PSs.imp (pss_cons (ps_set (i := 1) sc.nd rfl (Or.inl rfl) (pe_lst (pa_cons (pe_isE Ea F.g1 (k 1 (by decide) (by decide)) F.bi) (pa_cons (pe_isE Ea F.g2 (k 2 (by decide) (by decide)) F.bi) (pa_cons (pe_isE Ea F.g3 (k 3 (by decide) (by decide)) F.bi) (pa_cons (pe_isE Ea F.g4 (k 4 (by decide) (by decide)) F.bi) pa_nil))))))
    (pss_cons (ps_set (i := 1) sc.nd rfl (Or.inl rfl) (pe_op op_cat (pv 1) (pe_lst (pa_cons (pe_isE Ea F.g5 (k 5 (by decide) (by decide)) F.bi) (pa_cons (pe_isE Ea F.g6 (k 6 (by decide) (by decide)) F.bi) pa_nil)))))
    (pss_cons (ps_set (i := 1) sc.nd rfl (Or.inl rfl) (pe_op op_cat (pv 1) (pe_lst (pa_cons (pe_isE Ea F.g7 (k 7 (by decide) (by decide)) F.bi) (pa_cons (pe_isE Ea F.g8 (k 8 (by decide) (by decide)) F.bi) (pa_cons (pe_isE Ea F.g9 (k 9 (by decide) (by decide)) F.bi) (pa_cons (pe_isE Ea F.g10 (k 10 (by decide) (by decide)) F.bi) pa_nil)))))))
    (pss_cons (ps_set (i := 2) sc.nd rfl (Or.inl rfl) (pe_lst (pa_cons pe_str (pa_cons pe_str (pa_cons pe_str (pa_cons pe_str (pa_cons pe_str (pa_cons pe_str pa_nil))))))))
    (pss_cons (ps_set (i := 2) sc.nd rfl (Or.inl rfl) (pe_op op_cat (pv 2) (pe_lst (pa_cons pe_str (pa_cons pe_str (pa_cons pe_str (pa_cons pe_str pa_nil)))))))
    (pss_cons (ps_if (PW.pt (pw_or (pt_cmpR op_ne (pe_sumH (i := 1) (y := "flags") hc (by rfl) (by decide +kernel) (by decide +kernel) (by decide +kernel) (by rfl) (by rfl) (by rfl) F.bs F.bn rfl (Or.inl rfl) (by decide) (by decide) (by decide)) pe_int (nomark _)) (pw_or1 (pt_not (pt_val (pe_isV (T := "ValueError") Ea F.bv (by decide +kernel) C.v F.bi)))))) (pss_one (ps_ret (pe_tup (pa_cons pe_str (pa_cons pe_str pa_nil))))) pss_nil)
    (pss_one (ps_ret (pe_tup (pa_cons pe_str (pa_cons (pe_ix ix_list (pv 2) (pe_bm PySem.F.plainAttrs_list PySem.F.slot_list_index PySem.F.type_list_index mt_index (pv 1) (pa_cons pe_bl pa_nil)) (fun _ _ => rfl)) pa_nil)))))))))))
    fun D σ H ⟨hσ, q⟩ => ?_
  subst hσ
  have sm : ∀ {n : Nat}, n ≤ 1000 → n ≤ sizeLine := fun h => Nat.le_of_lt (small1000 h)
  have ne : ∀ {H : Hp} {p q : Addr} {o : HO}, upd H p o q = none → p ≠ q ∧ H q = none := fun {H p q o} h => by
    have n : p ≠ q := fun z => by rw [z, upd_same] at h; cases h
    exact ⟨n, by rw [upd_ne n.symm] at h; exact h⟩
  refine ⟨rfl, rfl, rfl, rfl, sm (by simp), fun p1 n1 => ?_⟩
  refine ⟨_, rfl, rfl, rfl, sm (by simp), fun p2 n2 => ⟨p1, p2, [V.bl (decide (1 = c)), V.bl (decide (2 = c)), V.bl (decide (3 = c)), V.bl (decide (4 = c))], [V.bl (decide (5 = c)), V.bl (decide (6 = c))], rfl, rfl, ?_, upd_same, sm (by simp), fun p3 n3 => ?_⟩⟩
  · rw [upd_ne (ne n2).1]; exact upd_same
  refine ⟨_, rfl, rfl, rfl, rfl, rfl, sm (by simp), fun p4 n4 => ⟨p3, p4, [V.bl (decide (1 = c)), V.bl (decide (2 = c)), V.bl (decide (3 = c)), V.bl (decide (4 = c))] ++ [V.bl (decide (5 = c)), V.bl (decide (6 = c))], [V.bl (decide (7 = c)), V.bl (decide (8 = c)), V.bl (decide (9 = c)), V.bl (decide (10 = c))], rfl, rfl, ?_, upd_same, sm (by simp), fun p5 n5 => ?_⟩⟩
  · rw [upd_ne (ne n4).1]; exact upd_same
  refine ⟨sm (by simp), fun p6 n6 => ?_⟩
  refine ⟨_, rfl, sm (by simp), fun p7 n7 => ⟨p6, p7, [V.str "BadMoves", V.str "BadStanding", V.str "BadNumber", V.str "BadRow", V.str "BadWeights", V.str "BadRound"], [V.str "Endless", V.str "Nothing", V.str "Full", V.str "BadText"], rfl, rfl, ?_, upd_same, sm (by simp), fun p8 n8 => ?_⟩⟩
  · rw [upd_ne (ne n7).1]; exact upd_same
  have d2 := ne n2
  have d3 := ne n3
  have d4 := ne n4
  have d5 := ne n5
  have d6 := ne n6
  have d7 := ne n7
  have d8 := ne n8
  have f3 := ne d3.2
  have f4 := ne d4.2
  have f5 := ne d5.2
  have f6 := ne d6.2
  have f7 := ne d7.2
  have f8 := ne d8.2
  have at8 : ∀ {o6 o7 o8 : HO} {H5 : Hp} {L : HO}, upd (upd (upd (upd H5 p5 L) p6 o6) p7 o7) p8 o8 p5 = some L := by
    intro o6 o7 o8 H5 L
    rw [upd_ne (ne f8.2).1, upd_ne f7.1, upd_ne d6.1, upd_same]
  refine ⟨p5, [decide (1 = c), decide (2 = c), decide (3 = c), decide (4 = c), decide (5 = c), decide (6 = c), decide (7 = c), decide (8 = c), decide (9 = c), decide (10 = c)], rfl, .inl (.inl at8), rfl, false, ?_, ?_⟩
  · rw [show numB [decide (1 = c), decide (2 = c), decide (3 = c), decide (4 = c), decide (5 = c), decide (6 = c), decide (7 = c), decide (8 = c), decide (9 = c), decide (10 = c)] = 1 from term_num C.lo C.hi]; rfl
  refine ⟨rfl, true, rfl, ?_⟩
  refine ⟨_, rfl, _, rfl, .inl ⟨rfl, _, .inl (.inl at8)⟩, ?_⟩
  obtain ⟨t1, t2, t3⟩ := term_ix (c := c) C.lo C.hi
  refine ⟨p5, _, V.bl true, c - 1, V.bl true, rfl, rfl, .inl (.inl at8), rfl, rfl, t1, rfl, t2, p8, _, _, V.str (kindN c), rfl, rfl, .inl (.inl upd_same), t3, sm (by simp), fun p n => q p _ (fun b o e => ?_) ?_ upd_same⟩
  · have keep : ∀ {H : Hp} {r : Addr} {o' : HO}, H r = none → H b = some o → upd H r o' b = some o := fun {H r o'} h h' => by
      rw [upd_ne (fun z => by rw [z, h] at h'; cases h')]; exact h'
    exact keep n (keep n8 (keep n7 (keep n6 (keep n5 (keep n4 (keep n3 (keep n2 (keep n1 e))))))))
  · exact (ne (ne (ne (ne (ne (ne (ne (ne n).2).2).2).2).2).2).2).2
end
def s_law_told : Stmt := topS 45
theorem sc_law_told : FnScope ["deed", "e"] ["deed"] (defScope s_law_told) := ⟨rfl, rfl, rfl, by decide +kernel, rfl, by decide +kernel, by decide +kernel⟩
theorem told_mk {mg : Str → Option Value} {K : PySem.W.Frag} {cl : Nat → Addr} {cs : List Nat} {g f M : Addr} {fdT fdM : FuncData} (Ft : Fun K "_law_told" "_law_told" s_law_told g fdT) (mT : mg "_law_told" = some (.ref g)) (Fm : Fun K "_law_term" "_law_term" s_law_term f fdM) (mM : mg "_law_term" = some (.ref f))
    (bT : Binds K fdT ["deed"] []) (bM : Binds K fdM ["e"] []) (F : TermF mg K cl) (C : ∀ c ∈ cs, TermC K cl c) (gM : mg "MoveError" = some (.ref M)) (ex : ∀ c ∈ cs, PySem.W.exmOne K (.ref (cl c)) (.ref M) = some true) : ToldF mg K cl cs s_law_told s_law_term where
  t := ⟨g, fdT, Ft, mT, bT⟩
  m := ⟨f, fdM, Fm, mM, bM⟩
  st := sc_law_told
  sm := sc_law_term
  le := rfl
  ld := Or.inl rfl
  gm := rfl
  gt := rfl
  bt := ⟨_, _, _, _, _, _, _, _, _, _, rfl⟩
  bm := fun P w base f cdv A outer s H0 E a oe c hc hot hz hf => term_body hot F (C c hc) hz hf
  ex := ⟨M, gM, ex⟩

def s_is_whole : Stmt := topS 16
theorem sc_is_whole : FnScope ["thing", "low", "high"] ["thing", "low", "high"] (defScope s_is_whole) := ⟨rfl, rfl, rfl, by decide +kernel, rfl, by decide +kernel, by decide +kernel⟩
theorem ok_is_whole (At : DefAt mg G.K "is_whole" s_is_whole ["thing", "low", "high"]) (B : Blt mg) : DefOk P w mg base G 1 "is_whole" 3 f_is_whole := by
  have sc := sc_is_whole
  have z := @def_ok P w mg base G "is_whole" s_is_whole ["thing", "low", "high"] ["thing", "low", "high"] 0 3 b_is_whole At sc rfl (by decide) fun f cdv A outer s H E hr => by
    have tk : L2N.Takes (cxOf (L2N.CX P w) P w G.K mg base ["thing", "low", "high"] "is_whole" (defScope s_is_whole) f cdv A outer s H E) (fun cls d _ H => E cls d H) := L2N.takes_of rfl rfl rfl rfl
    unfold b_is_whole
    exact (qss_one (qs_ret (qe_and (qe_isi (T := "int") (by decide) (by rfl) B.isinstance (by rfl) B.int (by decide +kernel) (qe_var 0)) (qe_and (qe_not (qe_isi (T := "bool") (by decide) (by rfl) B.isinstance (by rfl) B.bool (by decide +kernel) (qe_var 0))) (qe_one (qe_chain op_le bCmp_snd op_le bCmp_snd (qe_var 1) (qe_var 0) (qe_var 2)))))))
  exact z
def s_are_whole : Stmt := topS 17
theorem sc_are_whole : FnScope ["thing", "many", "high", "one"] ["thing", "many", "high"] (defScope s_are_whole) := ⟨rfl, rfl, rfl, by decide +kernel, rfl, by decide +kernel, by decide +kernel⟩
theorem ok_are_whole (At : DefAt mg G.K "are_whole" s_are_whole ["thing", "many", "high"]) (B : Blt mg) (D_is_whole : DefOk P w mg base G 1 "is_whole" 3 f_is_whole) : DefOk P w mg base G 2 "are_whole" 3 f_are_whole := by
  have sc := sc_are_whole
  have z := @def_ok P w mg base G "are_whole" s_are_whole ["thing", "many", "high", "one"] ["thing", "many", "high"] 1 3 b_are_whole At sc rfl (by decide) fun f cdv A outer s H E hr => by
    have tk : L2N.Takes (cxOf (L2N.CX P w) P w G.K mg base ["thing", "many", "high", "one"] "are_whole" (defScope s_are_whole) f cdv A outer s H E) (fun cls d _ H => E cls d H) := L2N.takes_of rfl rfl rfl rfl
    unfold b_are_whole are_whole_C1
    exact (qss_one (qs_ret (qe_and (qe_isi (T := "tuple") (by decide) (by rfl) B.isinstance (by rfl) B.tuple (by decide +kernel) (qe_var 0)) (qe_and (qe_cmp (op_eqD hr.units) bEq_snd (qe_callB call_len_seq bLen_snd (by rfl) B.len (by decide +kernel) (qa_cons (qe_var 0) qa_nil)) (qe_var 1) (nomark _)) (qe_one (qe_callB (cr_all rfl) bAll_snd (by rfl) B.all (by decide +kernel) (qa_cons (qe_lc (own := [("one", 3)]) rfl sc.nd (qi_seq (qe_var 0)) (blkOk_by (own := [("one", 3)]) (by kernel_rfl)) (fun _ _ _ _ _ => (qg_name 3 sc.nd rfl (by first | exact Or.inl rfl | exact Or.inr rfl))) (fun _ _ _ _ _ => qts_nil) (fun _ _ _ _ _ => (qe_callD D_is_whole hr (by decide) (by rfl) pasF (qa_cons (qe_var 3) (qa_cons qe_int (qa_cons (qe_var 2) qa_nil)))))) qa_nil)))))))
  exact z
def s_is_move : Stmt := topS 18
theorem sc_is_move : FnScope ["thing", "heaps", "part"] ["thing", "heaps"] (defScope s_is_move) := ⟨rfl, rfl, rfl, by decide +kernel, rfl, by decide +kernel, by decide +kernel⟩
theorem ok_is_move (At : DefAt mg G.K "is_move" s_is_move ["thing", "heaps"]) (B : Blt mg) (D_are_whole : DefOk P w mg base G 2 "are_whole" 3 f_are_whole) : DefOk P w mg base G 3 "is_move" 2 f_is_move := by
  have sc := sc_is_move
  have z := @def_ok P w mg base G "is_move" s_is_move ["thing", "heaps", "part"] ["thing", "heaps"] 2 2 b_is_move At sc rfl (by decide) fun f cdv A outer s H E hr => by
    have tk : L2N.Takes (cxOf (L2N.CX P w) P w G.K mg base ["thing", "heaps", "part"] "is_move" (defScope s_is_move) f cdv A outer s H E) (fun cls d _ H => E cls d H) := L2N.takes_of rfl rfl rfl rfl
    unfold b_is_move is_move_C1
    exact (qss_one (qs_ret (qe_and (qe_isi (T := "tuple") (by decide) (by rfl) B.isinstance (by rfl) B.tuple (by decide +kernel) (qe_var 0)) (qe_and (qe_cmp (op_eqD hr.units) bEq_snd (qe_callB call_len_seq bLen_snd (by rfl) B.len (by decide +kernel) (qa_cons (qe_var 0) qa_nil)) qe_int (nomark _)) (qe_one (qe_callB (cr_all rfl) bAll_snd (by rfl) B.all (by decide +kernel) (qa_cons (qe_lc (own := [("part", 2)]) rfl sc.nd (qi_seq (qe_var 0)) (blkOk_by (own := [("part", 2)]) (by kernel_rfl)) (fun _ _ _ _ _ => (qg_name 2 sc.nd rfl (by first | exact Or.inl rfl | exact Or.inr rfl))) (fun _ _ _ _ _ => qts_nil) (fun _ _ _ _ _ => (qe_callD D_are_whole hr (by decide) (by rfl) pasF (qa_cons (qe_var 2) (qa_cons (qe_var 1) (qa_cons qe_int qa_nil)))))) qa_nil)))))))
  exact z
def s_heaps_in : Stmt := topS 19
theorem sc_heaps_in : FnScope ["thing"] ["thing"] (defScope s_heaps_in) := ⟨rfl, rfl, rfl, by decide +kernel, rfl, by decide +kernel, by decide +kernel⟩
theorem ok_heaps_in (At : DefAt mg G.K "heaps_in" s_heaps_in ["thing"]) (B : Blt mg) : DefOk P w mg base G 1 "heaps_in" 1 f_heaps_in := by
  have sc := sc_heaps_in
  have z := @def_ok P w mg base G "heaps_in" s_heaps_in ["thing"] ["thing"] 0 1 b_heaps_in At sc rfl (by decide) fun f cdv A outer s H E hr => by
    have tk : L2N.Takes (cxOf (L2N.CX P w) P w G.K mg base ["thing"] "heaps_in" (defScope s_heaps_in) f cdv A outer s H E) (fun cls d _ H => E cls d H) := L2N.takes_of rfl rfl rfl rfl
    unfold b_heaps_in
    exact (qss_cons (qs_if (PW.pt (qw_or (qt_not (qt_val (qe_isi (T := "tuple") (by decide) (by rfl) B.isinstance (by rfl) B.tuple (by decide +kernel) (qe_var 0)))) (qw_or (qt_cmp (op_neD hr.units) bNe_snd (qe_callB call_len_seq bLen_snd (by rfl) B.len (by decide +kernel) (qa_cons (qe_var 0) qa_nil)) qe_int (nomark _)) (qw_or1 (qt_not (qt_val (qe_isi (T := "tuple") (by decide) (by rfl) B.isinstance (by rfl) B.tuple (by decide +kernel) (qe_ix ix_seq bIx_snd (qe_var 0) qe_int (fun _ _ => rfl))))))))) (qss_one (qs_ret qe_int)) qss_nil)
    (qss_one (qs_ret (qe_callB call_len_seq bLen_snd (by rfl) B.len (by decide +kernel) (qa_cons (qe_ix ix_seq bIx_snd (qe_var 0) qe_int (fun _ _ => rfl)) qa_nil)))))
  exact z
def s_is_moves : Stmt := topS 20
theorem sc_is_moves : FnScope ["thing", "heaps", "one"] ["thing"] (defScope s_is_moves) := ⟨rfl, rfl, rfl, by decide +kernel, rfl, by decide +kernel, by decide +kernel⟩
theorem ok_is_moves (At : DefAt mg G.K "is_moves" s_is_moves ["thing"]) (B : Blt mg) (D_heaps_in : DefOk P w mg base G 1 "heaps_in" 1 f_heaps_in) (D_is_move : DefOk P w mg base G 3 "is_move" 2 f_is_move) (c_MOST_HEAPS : ∃ t, mg "MOST_HEAPS" = some (.int 4 t)) (c_MOST_MOVES : ∃ t, mg "MOST_MOVES" = some (.int 6 t)) : DefOk P w mg base G 4 "is_moves" 1 f_is_moves := by
  have sc := sc_is_moves
  have z := @def_ok P w mg base G "is_moves" s_is_moves ["thing", "heaps", "one"] ["thing"] 3 1 b_is_moves At sc rfl (by decide) fun f cdv A outer s H E hr => by
    have tk : L2N.Takes (cxOf (L2N.CX P w) P w G.K mg base ["thing", "heaps", "one"] "is_moves" (defScope s_is_moves) f cdv A outer s H E) (fun cls d _ H => E cls d H) := L2N.takes_of rfl rfl rfl rfl
    unfold b_is_moves is_moves_C1
    exact (qss_cons (qs_if (PW.pt (qw_or (qt_not (qt_val (qe_isi (T := "tuple") (by decide) (by rfl) B.isinstance (by rfl) B.tuple (by decide +kernel) (qe_var 0)))) (qw_or1 (qt_not (qt_chain op_le bCmp_snd op_le bCmp_snd qe_int (qe_callB call_len_seq bLen_snd (by rfl) B.len (by decide +kernel) (qa_cons (qe_var 0) qa_nil)) (qe_gI c_MOST_MOVES rfl)))))) (qss_one (qs_ret qe_bl)) qss_nil)
    (qss_cons (qs_set 1 sc.nd rfl (by first | exact Or.inl rfl | exact Or.inr rfl) (qe_callD D_heaps_in hr (by decide) (by rfl) (pasE tk) (qa_cons (qe_ix ix_seq bIx_snd (qe_var 0) qe_int (fun _ _ => rfl)) qa_nil)))
    (qss_one (qs_ret (qe_and (qe_chain op_le bCmp_snd op_le bCmp_snd qe_int (qe_var 1) (qe_gI c_MOST_HEAPS rfl)) (qe_one (qe_callB (cr_all rfl) bAll_snd (by rfl) B.all (by decide +kernel) (qa_cons (qe_lc (own := [("one", 2)]) rfl sc.nd (qi_seq (qe_var 0)) (blkOk_by (own := [("one", 2)]) (by kernel_rfl)) (fun _ _ _ _ _ => (qg_name 2 sc.nd rfl (by first | exact Or.inl rfl | exact Or.inr rfl))) (fun _ _ _ _ _ => qts_nil) (fun _ _ _ _ _ => (qe_callD D_is_move hr (by decide) (by rfl) pasF (qa_cons (qe_var 2) (qa_cons (qe_var 1) qa_nil))))) qa_nil))))))))
  exact z
def s_need_moves : Stmt := topS 21
theorem sc_need_moves : FnScope ["thing"] ["thing"] (defScope s_need_moves) := ⟨rfl, rfl, rfl, by decide +kernel, rfl, by decide +kernel, by decide +kernel⟩
theorem ok_need_moves (At : DefAt mg G.K "need_moves" s_need_moves ["thing"]) (B : Blt mg) (D_is_moves : DefOk P w mg base G 4 "is_moves" 1 f_is_moves) (X_BadMoves : ExcF mg G.K "BadMoves" (G.cl 1)) : DefOk P w mg base G 5 "need_moves" 1 f_need_moves := by
  have sc := sc_need_moves
  have z := @def_ok P w mg base G "need_moves" s_need_moves ["thing"] ["thing"] 4 1 b_need_moves At sc rfl (by decide) fun f cdv A outer s H E hr => by
    have tk : L2N.Takes (cxOf (L2N.CX P w) P w G.K mg base ["thing"] "need_moves" (defScope s_need_moves) f cdv A outer s H E) (fun cls d _ H => E cls d H) := L2N.takes_of rfl rfl rfl rfl
    unfold b_need_moves
    exact (qss_one (qs_if (qt_not (qt_val (qe_callD D_is_moves hr (by decide) (by rfl) (pasE tk) (qa_cons (qe_var 0) qa_nil)))) (qss_one (qs_raiseX X_BadMoves rfl tk (fun _ _ _ _ h => h) (by rfl))) qss_nil))
  exact z
def s_heaps_of : Stmt := topS 22
theorem sc_heaps_of : FnScope ["moves"] ["moves"] (defScope s_heaps_of) := ⟨rfl, rfl, rfl, by decide +kernel, rfl, by decide +kernel, by decide +kernel⟩
theorem ok_heaps_of (At : DefAt mg G.K "heaps_of" s_heaps_of ["moves"]) (B : Blt mg) : DefOk P w mg base G 1 "heaps_of" 1 f_heaps_of := by
  have sc := sc_heaps_of
  have z := @def_ok P w mg base G "heaps_of" s_heaps_of ["moves"] ["moves"] 0 1 b_heaps_of At sc rfl (by decide) fun f cdv A outer s H E hr => by
    have tk : L2N.Takes (cxOf (L2N.CX P w) P w G.K mg base ["moves"] "heaps_of" (defScope s_heaps_of) f cdv A outer s H E) (fun cls d _ H => E cls d H) := L2N.takes_of rfl rfl rfl rfl
    unfold b_heaps_of
    exact (qss_one (qs_ret (qe_callB call_len_seq bLen_snd (by rfl) B.len (by decide +kernel) (qa_cons (qe_ix ix_seq bIx_snd (qe_ix ix_seq bIx_snd (qe_var 0) qe_int (fun _ _ => rfl)) qe_int (fun _ _ => rfl)) qa_nil))))
  exact z
def s_change : Stmt := topS 23
theorem sc_change : FnScope ["move", "less", "more"] ["move"] (defScope s_change) := ⟨rfl, rfl, rfl, by decide +kernel, rfl, by decide +kernel, by decide +kernel⟩
theorem ok_change (At : DefAt mg G.K "change" s_change ["move"]) (B : Blt mg) : DefOk P w mg base G 1 "change" 1 f_change := by
  have sc := sc_change
  have z := @def_ok P w mg base G "change" s_change ["move", "less", "more"] ["move"] 0 1 b_change At sc rfl (by decide) fun f cdv A outer s H E hr => by
    have tk : L2N.Takes (cxOf (L2N.CX P w) P w G.K mg base ["move", "less", "more"] "change" (defScope s_change) f cdv A outer s H E) (fun cls d _ H => E cls d H) := L2N.takes_of rfl rfl rfl rfl
    unfold b_change change_C1
    exact (qss_one (qs_ret (qe_callTy call_tuple_of bTuple_snd (by rfl) B.tuple (by decide +kernel) (qa_cons (qe_lc (own := [("less", 1), ("more", 2)]) rfl sc.nd (qi_zip2 (by rfl) B.zip (qa_cons (qe_ix ix_seq bIx_snd (qe_var 0) qe_int (fun _ _ => rfl)) (qa_cons (qe_ix ix_seq bIx_snd (qe_var 0) qe_int (fun _ _ => rfl)) qa_nil))) (blkOk_by (own := [("less", 1), ("more", 2)]) (by kernel_rfl)) (fun _ _ _ _ _ => (qg_tup rfl (qgs_cons (qg_name 1 sc.nd rfl (by first | exact Or.inl rfl | exact Or.inr rfl)) (qgs_cons (qg_name 2 sc.nd rfl (by first | exact Or.inl rfl | exact Or.inr rfl)) qgs_nil)))) (fun _ _ _ _ _ => qts_nil) (fun _ _ _ _ _ => (qe_op op_sub bSub_snd (qe_var 2) (qe_var 1)))) qa_nil))))
  exact z
def s_is_good_standing : Stmt := topS 24
theorem sc_is_good_standing : FnScope ["moves", "thing"] ["moves", "thing"] (defScope s_is_good_standing) := ⟨rfl, rfl, rfl, by decide +kernel, rfl, by decide +kernel, by decide +kernel⟩
theorem ok_is_good_standing (At : DefAt mg G.K "is_good_standing" s_is_good_standing ["moves", "thing"]) (B : Blt mg) (D_are_whole : DefOk P w mg base G 2 "are_whole" 3 f_are_whole) (D_heaps_of : DefOk P w mg base G 1 "heaps_of" 1 f_heaps_of) (c_GREATEST : ∃ t, mg "GREATEST" = some (.int 9999 t)) : DefOk P w mg base G 3 "is_good_standing" 2 f_is_good_standing := by
  have sc := sc_is_good_standing
  have z := @def_ok P w mg base G "is_good_standing" s_is_good_standing ["moves", "thing"] ["moves", "thing"] 2 2 b_is_good_standing At sc rfl (by decide) fun f cdv A outer s H E hr => by
    have tk : L2N.Takes (cxOf (L2N.CX P w) P w G.K mg base ["moves", "thing"] "is_good_standing" (defScope s_is_good_standing) f cdv A outer s H E) (fun cls d _ H => E cls d H) := L2N.takes_of rfl rfl rfl rfl
    unfold b_is_good_standing
    exact (qss_one (qs_ret (qe_callD D_are_whole hr (by decide) (by rfl) (pasE tk) (qa_cons (qe_var 1) (qa_cons (qe_callD D_heaps_of hr (by decide) (by rfl) (pasE tk) (qa_cons (qe_var 0) qa_nil)) (qa_cons (qe_gI c_GREATEST rfl) qa_nil))))))
  exact z
def s_need_standing : Stmt := topS 25
theorem sc_need_standing : FnScope ["moves", "thing"] ["moves", "thing"] (defScope s_need_standing) := ⟨rfl, rfl, rfl, by decide +kernel, rfl, by decide +kernel, by decide +kernel⟩
theorem ok_need_standing (At : DefAt mg G.K "need_standing" s_need_standing ["moves", "thing"]) (B : Blt mg) (D_is_good_standing : DefOk P w mg base G 3 "is_good_standing" 2 f_is_good_standing) (X_BadStanding : ExcF mg G.K "BadStanding" (G.cl 2)) : DefOk P w mg base G 4 "need_standing" 2 f_need_standing := by
  have sc := sc_need_standing
  have z := @def_ok P w mg base G "need_standing" s_need_standing ["moves", "thing"] ["moves", "thing"] 3 2 b_need_standing At sc rfl (by decide) fun f cdv A outer s H E hr => by
    have tk : L2N.Takes (cxOf (L2N.CX P w) P w G.K mg base ["moves", "thing"] "need_standing" (defScope s_need_standing) f cdv A outer s H E) (fun cls d _ H => E cls d H) := L2N.takes_of rfl rfl rfl rfl
    unfold b_need_standing
    exact (qss_one (qs_if (qt_not (qt_val (qe_callD D_is_good_standing hr (by decide) (by rfl) (pasE tk) (qa_cons (qe_var 0) (qa_cons (qe_var 1) qa_nil))))) (qss_one (qs_raiseX X_BadStanding rfl tk (fun _ _ _ _ h => h) (by rfl))) qss_nil))
  exact z
def s_is_over : Stmt := topS 26
theorem sc_is_over : FnScope ["one", "other", "left", "right"] ["one", "other"] (defScope s_is_over) := ⟨rfl, rfl, rfl, by decide +kernel, rfl, by decide +kernel, by decide +kernel⟩
theorem ok_is_over (At : DefAt mg G.K "is_over" s_is_over ["one", "other"]) (B : Blt mg) : DefOk P w mg base G 1 "is_over" 2 f_is_over := by
  have sc := sc_is_over
  have z := @def_ok P w mg base G "is_over" s_is_over ["one", "other", "left", "right"] ["one", "other"] 0 2 b_is_over At sc rfl (by decide) fun f cdv A outer s H E hr => by
    have tk : L2N.Takes (cxOf (L2N.CX P w) P w G.K mg base ["one", "other", "left", "right"] "is_over" (defScope s_is_over) f cdv A outer s H E) (fun cls d _ H => E cls d H) := L2N.takes_of rfl rfl rfl rfl
    unfold b_is_over is_over_C1
    exact (qss_one (qs_ret (qe_callB (cr_all rfl) bAll_snd (by rfl) B.all (by decide +kernel) (qa_cons (qe_lc (own := [("left", 2), ("right", 3)]) rfl sc.nd (qi_zip2 (by rfl) B.zip (qa_cons (qe_var 0) (qa_cons (qe_var 1) qa_nil))) (blkOk_by (own := [("left", 2), ("right", 3)]) (by kernel_rfl)) (fun _ _ _ _ _ => (qg_tup rfl (qgs_cons (qg_name 2 sc.nd rfl (by first | exact Or.inl rfl | exact Or.inr rfl)) (qgs_cons (qg_name 3 sc.nd rfl (by first | exact Or.inl rfl | exact Or.inr rfl)) qgs_nil)))) (fun _ _ _ _ _ => qts_nil) (fun _ _ _ _ _ => (qe_cmp op_ge bCmp_snd (qe_var 2) (qe_var 3) (nomark _)))) qa_nil))))
  exact z
def s_added : Stmt := topS 27
theorem sc_added : FnScope ["one", "other", "left", "right"] ["one", "other"] (defScope s_added) := ⟨rfl, rfl, rfl, by decide +kernel, rfl, by decide +kernel, by decide +kernel⟩
theorem ok_added (At : DefAt mg G.K "added" s_added ["one", "other"]) (B : Blt mg) : DefOk P w mg base G 1 "added" 2 f_added := by
  have sc := sc_added
  have z := @def_ok P w mg base G "added" s_added ["one", "other", "left", "right"] ["one", "other"] 0 2 b_added At sc rfl (by decide) fun f cdv A outer s H E hr => by
    have tk : L2N.Takes (cxOf (L2N.CX P w) P w G.K mg base ["one", "other", "left", "right"] "added" (defScope s_added) f cdv A outer s H E) (fun cls d _ H => E cls d H) := L2N.takes_of rfl rfl rfl rfl
    unfold b_added added_C1
    exact (qss_one (qs_ret (qe_callTy call_tuple_of bTuple_snd (by rfl) B.tuple (by decide +kernel) (qa_cons (qe_lc (own := [("left", 2), ("right", 3)]) rfl sc.nd (qi_zip2 (by rfl) B.zip (qa_cons (qe_var 0) (qa_cons (qe_var 1) qa_nil))) (blkOk_by (own := [("left", 2), ("right", 3)]) (by kernel_rfl)) (fun _ _ _ _ _ => (qg_tup rfl (qgs_cons (qg_name 2 sc.nd rfl (by first | exact Or.inl rfl | exact Or.inr rfl)) (qgs_cons (qg_name 3 sc.nd rfl (by first | exact Or.inl rfl | exact Or.inr rfl)) qgs_nil)))) (fun _ _ _ _ _ => qts_nil) (fun _ _ _ _ _ => (qe_op op_addA bAdd_snd (qe_var 2) (qe_var 3)))) qa_nil))))
  exact z
def s_steps_from : Stmt := topS 28
theorem sc_steps_from : FnScope ["moves", "standing", "some", "number", "move"] ["moves", "standing"] (defScope s_steps_from) := ⟨rfl, rfl, rfl, by decide +kernel, rfl, by decide +kernel, by decide +kernel⟩
theorem ok_steps_from (At : DefAt mg G.K "steps_from" s_steps_from ["moves", "standing"]) (B : Blt mg) (D_added : DefOk P w mg base G 1 "added" 2 f_added) (D_change : DefOk P w mg base G 1 "change" 1 f_change) (D_is_over : DefOk P w mg base G 1 "is_over" 2 f_is_over) : DefOk P w mg base G 2 "steps_from" 2 f_steps_from := by
  have sc := sc_steps_from
  have z := @def_ok P w mg base G "steps_from" s_steps_from ["moves", "standing", "some", "number", "move"] ["moves", "standing"] 1 2 b_steps_from At sc rfl (by decide) fun f cdv A outer s H E hr => by
    have tk : L2N.Takes (cxOf (L2N.CX P w) P w G.K mg base ["moves", "standing", "some", "number", "move"] "steps_from" (defScope s_steps_from) f cdv A outer s H E) (fun cls d _ H => E cls d H) := L2N.takes_of rfl rfl rfl rfl
    unfold b_steps_from steps_from_C2 steps_from_C1
    exact (qss_cons (qs_setLc 2 (own := [("number", 3), ("move", 4)]) rfl sc.nd rfl rfl (sw_true rfl rfl rfl (by decide +kernel)) (qi_enumS (by rfl) B.enumerate (qa_cons (qe_var 0) qa_nil)) (blkOk_by (own := [("number", 3), ("move", 4)]) (by kernel_rfl)) (fun _ _ _ _ _ => (qg_tup rfl (qgs_cons (qg_name 3 sc.nd rfl (by first | exact Or.inl rfl | exact Or.inr rfl)) (qgs_cons (qg_name 4 sc.nd rfl (by first | exact Or.inl rfl | exact Or.inr rfl)) qgs_nil)))) (fun _ _ _ _ _ => (qts_one (qt_val (qe_callD D_is_over hr (by decide) (by rfl) pasF (qa_cons (qe_var 1) (qa_cons (qe_ix ix_seq bIx_snd (qe_var 4) qe_int (fun _ _ => rfl)) qa_nil)))))) (fun _ _ _ _ _ => (qe_tup (qa_cons (qe_var 3) (qa_cons (qe_var 4) qa_nil)))))
    (qss_one (qs_ret (qe_lc (own := [("number", 3), ("move", 4)]) rfl sc.nd (qi_seq (qe_var 2)) (blkOk_by (own := [("number", 3), ("move", 4)]) (by kernel_rfl)) (fun _ _ _ _ _ => (qg_tup rfl (qgs_cons (qg_name 3 sc.nd rfl (by first | exact Or.inl rfl | exact Or.inr rfl)) (qgs_cons (qg_name 4 sc.nd rfl (by first | exact Or.inl rfl | exact Or.inr rfl)) qgs_nil)))) (fun _ _ _ _ _ => qts_nil) (fun _ _ _ _ _ => (qe_tup (qa_cons (qe_var 3) (qa_cons (qe_callD D_added hr (by decide) (by rfl) pasF (qa_cons (qe_var 1) (qa_cons (qe_callD D_change hr (by decide) (by rfl) pasF (qa_cons (qe_var 4) qa_nil)) qa_nil))) qa_nil))))))))
  exact z
def s_one_before : Stmt := topS 31
theorem sc_one_before : FnScope ["move", "standing", "need", "many", "part"] ["move", "standing"] (defScope s_one_before) := ⟨rfl, rfl, rfl, by decide +kernel, rfl, by decide +kernel, by decide +kernel⟩
theorem ok_one_before (At : DefAt mg G.K "one_before" s_one_before ["move", "standing"]) (B : Blt mg) (D_change : DefOk P w mg base G 1 "change" 1 f_change) : DefOk P w mg base G 2 "one_before" 2 f_one_before := by
  have sc := sc_one_before
  have z := @def_ok P w mg base G "one_before" s_one_before ["move", "standing", "need", "many", "part"] ["move", "standing"] 1 2 b_one_before At sc rfl (by decide) fun f cdv A outer s H E hr => by
    have tk : L2N.Takes (cxOf (L2N.CX P w) P w G.K mg base ["move", "standing", "need", "many", "part"] "one_before" (defScope s_one_before) f cdv A outer s H E) (fun cls d _ H => E cls d H) := L2N.takes_of rfl rfl rfl rfl
    unfold b_one_before one_before_C1
    exact (qss_one (qs_ret (qe_callTy call_tuple_of bTuple_snd (by rfl) B.tuple (by decide +kernel) (qa_cons (qe_lc (own := [("need", 2), ("many", 3), ("part", 4)]) rfl sc.nd (qi_zip3 (by rfl) B.zip (qa_cons (qe_ix ix_seq bIx_snd (qe_var 0) qe_int (fun _ _ => rfl)) (qa_cons (qe_var 1) (qa_cons (qe_callD D_change hr (by decide) (by rfl) (pasE tk) (qa_cons (qe_var 0) qa_nil)) qa_nil)))) (blkOk_by (own := [("need", 2), ("many", 3), ("part", 4)]) (by kernel_rfl)) (fun _ _ _ _ _ => (qg_tup rfl (qgs_cons (qg_name 2 sc.nd rfl (by first | exact Or.inl rfl | exact Or.inr rfl)) (qgs_cons (qg_name 3 sc.nd rfl (by first | exact Or.inl rfl | exact Or.inr rfl)) (qgs_cons (qg_name 4 sc.nd rfl (by first | exact Or.inl rfl | exact Or.inr rfl)) qgs_nil))))) (fun _ _ _ _ _ => qts_nil) (fun _ _ _ _ _ => (qe_callB (call_max2 rfl) bMax2_snd (by rfl) B.max (by decide +kernel) (qa_cons (qe_var 2) (qa_cons (qe_op op_sub bSub_snd (qe_var 3) (qe_var 4)) qa_nil))))) qa_nil))))
  exact z
def s_least_of : Stmt := topS 32
theorem sc_least_of : FnScope ["standings", "some", "found", "one", "other"] ["standings"] (defScope s_least_of) := ⟨rfl, rfl, rfl, by decide +kernel, rfl, by decide +kernel, by decide +kernel⟩
theorem ok_least_of {f cL PL : Addr} {od an : Option Addr} {osl : Array (Option Value)} {oc kV doc pm ct : Value} (lk : G.K.lookup f = some ⟨oc, od, .func (PySem.W.fnOf "least_of" "least_of" (defArgs s_least_of) (defBody s_least_of) (defScope s_least_of) .none kV doc pm an (.ref cL) ct), osl⟩) (hcd : PySem.W.codeIn G.K (.ref cL) "least_of" = true) (hmg : mg "least_of" = some (.ref f)) (hkp : PySem.W.keepIn G.K (.ref f) = true) (hbd : Binds G.K (PySem.W.fnOf "least_of" "least_of" (defArgs s_least_of) (defBody s_least_of) (defScope s_least_of) .none kV doc pm an (.ref cL) ct) ["standings"] []) (TB : LamX.TabB base mg cL PL) (hmT : (PL, (Str.ofString "least_of" ++ Str.ofString ".<locals>.") ++ Str.ofString "<lambda>") ∈ G.T) (hu : ∀ p ∈ G.T, p.1 = PL → p.2 = (Str.ofString "least_of" ++ Str.ofString ".<locals>.") ++ Str.ofString "<lambda>") (B : Blt mg) (D_is_over : DefOk P w mg base G 1 "is_over" 2 f_is_over) : DefOk P w mg base G 6 "least_of" 1 f_least_of := by
  have sc := sc_least_of
  have z := @def_okT P w mg base G "least_of" s_least_of ["standings", "some", "found", "one", "other"] ["standings"] 5 1 b_least_of f (.ref cL) oc kV doc pm ct od an osl lk hcd hmg hkp hbd sc rfl (by decide) fun A outer s H E hr => by
    have tk : L2N.Takes (cxOf (L2N.CX P w) P w G.K mg base ["standings", "some", "found", "one", "other"] "least_of" (defScope s_least_of) f (.ref cL) A outer s H E) (fun cls d _ H => E cls d H) := L2N.takes_of rfl rfl rfl rfl
    unfold b_least_of least_of_L1 least_of_C1
    exact (qss_cons (qs_par 1 2 rfl sc.nd rfl rfl (by decide) rfl rfl (qa_cons (qe_setS rfl hr.units (by rfl) B.sorted (by rfl) B.set (qe_var 0)) (qa_cons (qe_new qa_nil) qa_nil)) (by rfl))
    (qss_cons (qs_for (vs := [3]) (passes_of rfl) rfl (qi_seq (qe_sortB (k := 0) (x := "row") (N := ["row"]) (fr := []) (js := []) (by rfl) B.sorted (by decide +kernel) (qe_var 1) TB rfl hmT hu (hr.mono (by decide)) (NdefX.nscope_by (by kernel_rfl)) (by kernel_rfl) rfl rfl rfl (fun _ _ _ _ _ _ => rfl) (fun _ _ _ _ _ _ hr => (qe_tup (qa_cons (qe_callB (cr_sumS rfl) bSumS_snd (by rfl) B.sum (by decide +kernel) (qa_cons (qe_var 0) qa_nil)) (qa_cons (qe_var 0) qa_nil)))))) (qg_name 3 sc.nd rfl (by first | exact Or.inl rfl | exact Or.inr rfl))
    (qss_one (qs_if (qt_not (qt_val (qe_callB (cr_any rfl) bAny_snd (by rfl) B.any (by decide +kernel) (qa_cons (qe_lcO (own := [("other", 4)]) rfl sc.nd (qe_var 2) (blkOk_by (own := [("other", 4)]) (by kernel_rfl)) (fun _ _ _ _ _ => (qg_name 4 sc.nd rfl (by first | exact Or.inl rfl | exact Or.inr rfl))) (fun _ _ _ _ _ => qts_nil) (fun _ _ _ _ _ => (qe_callD D_is_over hr (by decide) (by rfl) pasF (qa_cons (qe_var 3) (qa_cons (qe_var 4) qa_nil))))) qa_nil)))) (qss_one (qs_expr (qe_app (qe_var 2) (qe_var 3)))) qss_nil)))
    (qss_one (qs_ret (qe_callB (cr_sortedD hr.units) bSortD_snd (by rfl) B.sorted (by decide +kernel) (qa_cons (qe_var 2) qa_nil))))))
  exact z
def s_starts_of : Stmt := topS 33
theorem sc_starts_of : FnScope ["moves", "many", "found", "turn", "some", "standing", "move"] ["moves", "many"] (defScope s_starts_of) := ⟨rfl, rfl, rfl, by decide +kernel, rfl, by decide +kernel, by decide +kernel⟩
theorem ok_starts_of (At : DefAt mg G.K "starts_of" s_starts_of ["moves", "many"]) (B : Blt mg) (D_heaps_of : DefOk P w mg base G 1 "heaps_of" 1 f_heaps_of) (D_least_of : DefOk P w mg base G 6 "least_of" 1 f_least_of) (D_one_before : DefOk P w mg base G 2 "one_before" 2 f_one_before) : DefOk P w mg base G 7 "starts_of" 2 f_starts_of := by
  have sc := sc_starts_of
  have z := @def_ok P w mg base G "starts_of" s_starts_of ["moves", "many", "found", "turn", "some", "standing", "move"] ["moves", "many"] 6 2 b_starts_of At sc rfl (by decide) fun f cdv A outer s H E hr => by
    have tk : L2N.Takes (cxOf (L2N.CX P w) P w G.K mg base ["moves", "many", "found", "turn", "some", "standing", "move"] "starts_of" (defScope s_starts_of) f cdv A outer s H E) (fun cls d _ H => E cls d H) := L2N.takes_of rfl rfl rfl rfl
    unfold b_starts_of starts_of_L2 starts_of_L1 starts_of_C1
    exact (qss_cons (qs_set 2 sc.nd rfl (by first | exact Or.inl rfl | exact Or.inr rfl) (qe_new (qa_cons (qe_lst (qa_cons (qe_op op_mulAll bMul_snd (qe_tup (qa_cons qe_int qa_nil)) (qe_callD D_heaps_of hr (by decide) (by rfl) (pasE tk) (qa_cons (qe_var 0) qa_nil))) qa_nil)) qa_nil)))
    (qss_cons (qs_for (vs := [3]) (passes_of rfl) rfl (qi_rng1 (by rfl) B.range (qa_cons (qe_var 1) qa_nil)) (qg_name 3 sc.nd rfl (by first | exact Or.inl rfl | exact Or.inr rfl))
    (qss_cons (qs_set 4 sc.nd rfl (by first | exact Or.inl rfl | exact Or.inr rfl) (qe_lst qa_nil))
    (qss_cons (qs_for (vs := [5]) (passes_of rfl) rfl (qi_seq (qe_ix ix_seq bIx_snd (qe_var 2) (qe_un un_neg bNeg_snd qe_int) (fun _ _ => rfl))) (qg_name 5 sc.nd rfl (by first | exact Or.inl rfl | exact Or.inr rfl))
    (qss_one (qs_set 4 sc.nd rfl (by first | exact Or.inl rfl | exact Or.inr rfl) (qe_op op_addA bAdd_snd (qe_var 4) (qe_lc (own := [("move", 6)]) rfl sc.nd (qi_seq (qe_var 0)) (blkOk_by (own := [("move", 6)]) (by kernel_rfl)) (fun _ _ _ _ _ => (qg_name 6 sc.nd rfl (by first | exact Or.inl rfl | exact Or.inr rfl))) (fun _ _ _ _ _ => qts_nil) (fun _ _ _ _ _ => (qe_callD D_one_before hr (by decide) (by rfl) pasF (qa_cons (qe_var 6) (qa_cons (qe_var 5) qa_nil)))))))))
    (qss_one (qs_expr (qe_app (qe_var 2) (qe_callD D_least_of hr (by decide) (by rfl) (pasE tk) (qa_cons (qe_var 4) qa_nil))))))))
    (qss_one (qs_ret (qe_frz (qe_var 2))))))
  exact z
def s_need_many : Stmt := topS 34
theorem sc_need_many : FnScope ["many"] ["many"] (defScope s_need_many) := ⟨rfl, rfl, rfl, by decide +kernel, rfl, by decide +kernel, by decide +kernel⟩
theorem ok_need_many (At : DefAt mg G.K "need_many" s_need_many ["many"]) (B : Blt mg) (D_is_whole : DefOk P w mg base G 1 "is_whole" 3 f_is_whole) (c_MOST_DONE : ∃ t, mg "MOST_DONE" = some (.int 8 t)) (X_BadNumber : ExcF mg G.K "BadNumber" (G.cl 3)) : DefOk P w mg base G 2 "need_many" 1 f_need_many := by
  have sc := sc_need_many
  have z := @def_ok P w mg base G "need_many" s_need_many ["many"] ["many"] 1 1 b_need_many At sc rfl (by decide) fun f cdv A outer s H E hr => by
    have tk : L2N.Takes (cxOf (L2N.CX P w) P w G.K mg base ["many"] "need_many" (defScope s_need_many) f cdv A outer s H E) (fun cls d _ H => E cls d H) := L2N.takes_of rfl rfl rfl rfl
    unfold b_need_many
    exact (qss_one (qs_if (qt_not (qt_val (qe_callD D_is_whole hr (by decide) (by rfl) (pasE tk) (qa_cons (qe_var 0) (qa_cons qe_int (qa_cons (qe_gI c_MOST_DONE rfl) qa_nil)))))) (qss_one (qs_raiseX X_BadNumber rfl tk (fun _ _ _ _ h => h) (by rfl))) qss_nil))
  exact z
def s_least_starts : Stmt := topS 35
theorem sc_least_starts : FnScope ["moves", "many"] ["moves", "many"] (defScope s_least_starts) := ⟨rfl, rfl, rfl, by decide +kernel, rfl, by decide +kernel, by decide +kernel⟩
theorem ok_least_starts (At : DefAt mg G.K "least_starts" s_least_starts ["moves", "many"]) (B : Blt mg) (D_need_many : DefOk P w mg base G 2 "need_many" 1 f_need_many) (D_need_moves : DefOk P w mg base G 5 "need_moves" 1 f_need_moves) (D_starts_of : DefOk P w mg base G 7 "starts_of" 2 f_starts_of) : DefOk P w mg base G 8 "least_starts" 2 f_least_starts := by
  have sc := sc_least_starts
  have z := @def_ok P w mg base G "least_starts" s_least_starts ["moves", "many"] ["moves", "many"] 7 2 b_least_starts At sc rfl (by decide) fun f cdv A outer s H E hr => by
    have tk : L2N.Takes (cxOf (L2N.CX P w) P w G.K mg base ["moves", "many"] "least_starts" (defScope s_least_starts) f cdv A outer s H E) (fun cls d _ H => E cls d H) := L2N.takes_of rfl rfl rfl rfl
    unfold b_least_starts
    exact (qss_cons (qs_expr (qe_callD D_need_moves hr (by decide) (by rfl) (pasE tk) (qa_cons (qe_var 0) qa_nil)))
    (qss_cons (qs_expr (qe_callD D_need_many hr (by decide) (by rfl) (pasE tk) (qa_cons (qe_var 1) qa_nil)))
    (qss_one (qs_ret (qe_ix ix_seq bIx_snd (qe_callD D_starts_of hr (by decide) (by rfl) (pasE tk) (qa_cons (qe_var 0) (qa_cons (qe_var 1) qa_nil))) (qe_un un_neg bNeg_snd qe_int) (fun _ _ => rfl))))))
  exact z
def s_covers_one : Stmt := topS 36
theorem sc_covers_one : FnScope ["standing", "some", "one"] ["standing", "some"] (defScope s_covers_one) := ⟨rfl, rfl, rfl, by decide +kernel, rfl, by decide +kernel, by decide +kernel⟩
theorem ok_covers_one (At : DefAt mg G.K "covers_one" s_covers_one ["standing", "some"]) (B : Blt mg) (D_is_over : DefOk P w mg base G 1 "is_over" 2 f_is_over) : DefOk P w mg base G 2 "covers_one" 2 f_covers_one := by
  have sc := sc_covers_one
  have z := @def_ok P w mg base G "covers_one" s_covers_one ["standing", "some", "one"] ["standing", "some"] 1 2 b_covers_one At sc rfl (by decide) fun f cdv A outer s H E hr => by
    have tk : L2N.Takes (cxOf (L2N.CX P w) P w G.K mg base ["standing", "some", "one"] "covers_one" (defScope s_covers_one) f cdv A outer s H E) (fun cls d _ H => E cls d H) := L2N.takes_of rfl rfl rfl rfl
    unfold b_covers_one covers_one_C1
    exact (qss_one (qs_ret (qe_callB (cr_any rfl) bAny_snd (by rfl) B.any (by decide +kernel) (qa_cons (qe_lc (own := [("one", 2)]) rfl sc.nd (qi_seq (qe_var 1)) (blkOk_by (own := [("one", 2)]) (by kernel_rfl)) (fun _ _ _ _ _ => (qg_name 2 sc.nd rfl (by first | exact Or.inl rfl | exact Or.inr rfl))) (fun _ _ _ _ _ => qts_nil) (fun _ _ _ _ _ => (qe_callD D_is_over hr (by decide) (by rfl) pasF (qa_cons (qe_var 0) (qa_cons (qe_var 2) qa_nil))))) qa_nil))))
  exact z
def s_can_go : Stmt := topS 37
theorem sc_can_go : FnScope ["moves", "standing", "many"] ["moves", "standing", "many"] (defScope s_can_go) := ⟨rfl, rfl, rfl, by decide +kernel, rfl, by decide +kernel, by decide +kernel⟩
theorem ok_can_go (At : DefAt mg G.K "can_go" s_can_go ["moves", "standing", "many"]) (B : Blt mg) (D_covers_one : DefOk P w mg base G 2 "covers_one" 2 f_covers_one) (D_need_many : DefOk P w mg base G 2 "need_many" 1 f_need_many) (D_need_moves : DefOk P w mg base G 5 "need_moves" 1 f_need_moves) (D_need_standing : DefOk P w mg base G 4 "need_standing" 2 f_need_standing) (D_starts_of : DefOk P w mg base G 7 "starts_of" 2 f_starts_of) : DefOk P w mg base G 8 "can_go" 3 f_can_go := by
  have sc := sc_can_go
  have z := @def_ok P w mg base G "can_go" s_can_go ["moves", "standing", "many"] ["moves", "standing", "many"] 7 3 b_can_go At sc rfl (by decide) fun f cdv A outer s H E hr => by
    have tk : L2N.Takes (cxOf (L2N.CX P w) P w G.K mg base ["moves", "standing", "many"] "can_go" (defScope s_can_go) f cdv A outer s H E) (fun cls d _ H => E cls d H) := L2N.takes_of rfl rfl rfl rfl
    unfold b_can_go
    exact (qss_cons (qs_expr (qe_callD D_need_moves hr (by decide) (by rfl) (pasE tk) (qa_cons (qe_var 0) qa_nil)))
    (qss_cons (qs_expr (qe_callD D_need_standing hr (by decide) (by rfl) (pasE tk) (qa_cons (qe_var 0) (qa_cons (qe_var 1) qa_nil))))
    (qss_cons (qs_expr (qe_callD D_need_many hr (by decide) (by rfl) (pasE tk) (qa_cons (qe_var 2) qa_nil)))
    (qss_one (qs_ret (qe_callD D_covers_one hr (by decide) (by rfl) (pasE tk) (qa_cons (qe_var 1) (qa_cons (qe_ix ix_seq bIx_snd (qe_callD D_starts_of hr (by decide) (by rfl) (pasE tk) (qa_cons (qe_var 0) (qa_cons (qe_var 2) qa_nil))) (qe_un un_neg bNeg_snd qe_int) (fun _ _ => rfl)) qa_nil))))))))
  exact z
def s_first_row : Stmt := topS 38
theorem sc_first_row : FnScope ["moves", "standing", "many", "some", "found", "left", "steps", "step", "number"] ["moves", "standing", "many"] (defScope s_first_row) := ⟨rfl, rfl, rfl, by decide +kernel, rfl, by decide +kernel, by decide +kernel⟩
theorem ok_first_row (At : DefAt mg G.K "first_row" s_first_row ["moves", "standing", "many"]) (B : Blt mg) (D_covers_one : DefOk P w mg base G 2 "covers_one" 2 f_covers_one) (D_need_many : DefOk P w mg base G 2 "need_many" 1 f_need_many) (D_need_moves : DefOk P w mg base G 5 "need_moves" 1 f_need_moves) (D_need_standing : DefOk P w mg base G 4 "need_standing" 2 f_need_standing) (D_starts_of : DefOk P w mg base G 7 "starts_of" 2 f_starts_of) (D_steps_from : DefOk P w mg base G 2 "steps_from" 2 f_steps_from) : DefOk P w mg base G 8 "first_row" 3 f_first_row := by
  have sc := sc_first_row
  have z := @def_ok P w mg base G "first_row" s_first_row ["moves", "standing", "many", "some", "found", "left", "steps", "step", "number"] ["moves", "standing", "many"] 7 3 b_first_row At sc rfl (by decide) fun f cdv A outer s H E hr => by
    have tk : L2N.Takes (cxOf (L2N.CX P w) P w G.K mg base ["moves", "standing", "many", "some", "found", "left", "steps", "step", "number"] "first_row" (defScope s_first_row) f cdv A outer s H E) (fun cls d _ H => E cls d H) := L2N.takes_of rfl rfl rfl rfl
    unfold b_first_row first_row_L1 first_row_C1
    exact (qss_cons (qs_expr (qe_callD D_need_moves hr (by decide) (by rfl) (pasE tk) (qa_cons (qe_var 0) qa_nil)))
    (qss_cons (qs_expr (qe_callD D_need_standing hr (by decide) (by rfl) (pasE tk) (qa_cons (qe_var 0) (qa_cons (qe_var 1) qa_nil))))
    (qss_cons (qs_expr (qe_callD D_need_many hr (by decide) (by rfl) (pasE tk) (qa_cons (qe_var 2) qa_nil)))
    (qss_cons (qs_asg (vs := [3, 4]) (qe_tupN (qa_cons (qe_callD D_starts_of hr (by decide) (by rfl) (pasE tk) (qa_cons (qe_var 0) (qa_cons (qe_var 2) qa_nil))) (qa_cons (qe_new qa_nil) qa_nil))) (qg_tupO rfl (qgs_cons (qg_name 3 sc.nd rfl (by first | exact Or.inl rfl | exact Or.inr rfl)) (qgs_cons (qg_name 4 sc.nd rfl (by first | exact Or.inl rfl | exact Or.inr rfl)) qgs_nil))))
    (qss_cons (qs_if (qt_not (qt_val (qe_callD D_covers_one hr (by decide) (by rfl) (pasE tk) (qa_cons (qe_var 1) (qa_cons (qe_ix ix_seq bIx_snd (qe_var 3) (qe_var 2) (fun _ _ => rfl)) qa_nil))))) (qss_one (qs_ret qe_non)) qss_nil)
    (qss_cons (qs_for (vs := [5]) (passes_of rfl) rfl (qi_rng3 (by rfl) B.range (qa_cons (qe_op op_sub bSub_snd (qe_var 2) qe_int) (qa_cons (qe_un un_neg bNeg_snd qe_int) (qa_cons (qe_un un_neg bNeg_snd qe_int) qa_nil)))) (qg_name 5 sc.nd rfl (by first | exact Or.inl rfl | exact Or.inr rfl))
    (qss_cons (qs_setLc 6 (own := [("step", 7)]) rfl sc.nd rfl rfl (sw_true rfl rfl rfl (by decide +kernel)) (qi_seq (qe_callD D_steps_from hr (by decide) (by rfl) (pasE tk) (qa_cons (qe_var 0) (qa_cons (qe_var 1) qa_nil)))) (blkOk_by (own := [("step", 7)]) (by kernel_rfl)) (fun _ _ _ _ _ => (qg_name 7 sc.nd rfl (by first | exact Or.inl rfl | exact Or.inr rfl))) (fun _ _ _ _ _ => (qts_one (qt_val (qe_callD D_covers_one hr (by decide) (by rfl) pasF (qa_cons (qe_ix ix_seq bIx_snd (qe_var 7) qe_int (fun _ _ => rfl)) (qa_cons (qe_ix ix_seq bIx_snd (qe_var 3) (qe_var 5) (fun _ _ => rfl)) qa_nil)))))) (fun _ _ _ _ _ => (qe_var 7)))
    (qss_cons (qs_asg (vs := [8, 1]) (qe_ix ix_seq bIx_snd (qe_var 6) qe_int (fun _ _ => rfl)) (qg_tup rfl (qgs_cons (qg_name 8 sc.nd rfl (by first | exact Or.inl rfl | exact Or.inr rfl)) (qgs_cons (qg_name 1 sc.nd rfl (by first | exact Or.inl rfl | exact Or.inr rfl)) qgs_nil))))
    (qss_one (qs_expr (qe_app (qe_var 4) (qe_var 8)))))))
    (qss_one (qs_ret (qe_frz (qe_var 4))))))))))
  exact z
def s_law_cell : Stmt := topS 40
theorem sc_law_cell : FnScope ["script", "k"] ["script", "k"] (defScope s_law_cell) := ⟨rfl, rfl, rfl, by decide +kernel, rfl, by decide +kernel, by decide +kernel⟩
theorem ok_law_cell (At : DefAt mg G.K "_law_cell" s_law_cell ["script", "k"]) (B : Blt mg) : DefOk P w mg base G 1 "_law_cell" 2 f_law_cell := by
  have sc := sc_law_cell
  have z := @def_ok P w mg base G "_law_cell" s_law_cell ["script", "k"] ["script", "k"] 0 2 b_law_cell At sc rfl (by decide) fun f cdv A outer s H E hr => by
    have tk : L2N.Takes (cxOf (L2N.CX P w) P w G.K mg base ["script", "k"] "_law_cell" (defScope s_law_cell) f cdv A outer s H E) (fun cls d _ H => E cls d H) := L2N.takes_of rfl rfl rfl rfl
    unfold b_law_cell
    exact (qss_cons (qs_if (qt_cmp (op_eqD hr.units) bEq_snd (qe_var 0) (qe_lst qa_nil) (nomark _)) (qss_one (qs_ret (qe_op op_mulAll bMul_snd (qe_var 1) qe_int))) qss_nil)
    (qss_one (qs_ret (qe_op op_addA bAdd_snd (qe_ix ix_seq bIx_snd (qe_var 0) (qe_op op_mod bMod_snd (qe_var 1) (qe_callB call_len_seq bLen_snd (by rfl) B.len (by decide +kernel) (qa_cons (qe_var 0) qa_nil))) (fun _ _ => rfl)) (qe_op op_mulAll bMul_snd (qe_op op_fdivW bDiv_snd (qe_var 1) (qe_callB call_len_seq bLen_snd (by rfl) B.len (by decide +kernel) (qa_cons (qe_var 0) qa_nil))) qe_int)))))
  exact z
def s_law_drawn : Stmt := topS 41
theorem sc_law_drawn : FnScope ["cell", "k", "more"] ["cell", "k"] (defScope s_law_drawn) := ⟨rfl, rfl, rfl, by decide +kernel, rfl, by decide +kernel, by decide +kernel⟩
theorem ok_law_drawn (At : DefAt mg G.K "_law_drawn" s_law_drawn ["cell", "k"]) (B : Blt mg) : DefOk P w mg base G 1 "_law_drawn" 2 f_law_drawn := by
  have sc := sc_law_drawn
  have z := @def_ok P w mg base G "_law_drawn" s_law_drawn ["cell", "k", "more"] ["cell", "k"] 0 2 b_law_drawn At sc rfl (by decide) fun f cdv A outer s H E hr => by
    have tk : L2N.Takes (cxOf (L2N.CX P w) P w G.K mg base ["cell", "k", "more"] "_law_drawn" (defScope s_law_drawn) f cdv A outer s H E) (fun cls d _ H => E cls d H) := L2N.takes_of rfl rfl rfl rfl
    unfold b_law_drawn
    exact (qss_cons (qs_set 2 sc.nd rfl (by first | exact Or.inl rfl | exact Or.inr rfl) (qe_op op_mod bMod_snd (qe_op op_addA bAdd_snd (qe_op op_mulAll bMul_snd (qe_var 0) qe_int) (qe_op op_mulAll bMul_snd (qe_op op_addA bAdd_snd (qe_var 1) qe_int) qe_int)) qe_int))
    (qss_cons (qs_set 2 sc.nd rfl (by first | exact Or.inl rfl | exact Or.inr rfl) (qe_op op_mod bMod_snd (qe_op op_mulAll bMul_snd (qe_var 2) (qe_var 2)) qe_int))
    (qss_cons (qs_set 2 sc.nd rfl (by first | exact Or.inl rfl | exact Or.inr rfl) (qe_op op_mulAll bMul_snd (qe_op op_mulAll bMul_snd (qe_op op_addA bAdd_snd (qe_op op_mod bMod_snd (qe_var 2) qe_int) qe_int) (qe_op op_addA bAdd_snd (qe_op op_fdivW bDiv_snd (qe_var 2) qe_int) qe_int)) (qe_var 2)))
    (qss_one (qs_ret (qe_op op_mod bMod_snd (qe_var 2) qe_int))))))
  exact z
def s_law_roll : Stmt := topS 42
theorem sc_law_roll : FnScope ["dice", "many", "told"] ["dice", "many"] (defScope s_law_roll) := ⟨rfl, rfl, rfl, by decide +kernel, rfl, by decide +kernel, by decide +kernel⟩
theorem ok_law_roll (At : DefAt mg G.K "_law_roll" s_law_roll ["dice", "many"]) (B : Blt mg) (D__law_drawn : DefOk P w mg base G 1 "_law_drawn" 2 f_law_drawn) : DefOk P w mg base G 2 "_law_roll" 2 f_law_roll := by
  have sc := sc_law_roll
  have z := @def_ok P w mg base G "_law_roll" s_law_roll ["dice", "many", "told"] ["dice", "many"] 1 2 b_law_roll At sc rfl (by decide) fun f cdv A outer s H E hr => by
    have tk : L2N.Takes (cxOf (L2N.CX P w) P w G.K mg base ["dice", "many", "told"] "_law_roll" (defScope s_law_roll) f cdv A outer s H E) (fun cls d _ H => E cls d H) := L2N.takes_of rfl rfl rfl rfl
    unfold b_law_roll
    exact (qss_cons (qs_if (qt_cmp op_ge bCmp_snd (qe_ix ix_seq bIx_snd (qe_var 0) qe_int (fun _ _ => rfl)) (qe_op op_pow bPow_snd qe_int qe_int) (nomark _)) (qss_cons (qs_set 2 sc.nd rfl (by first | exact Or.inl rfl | exact Or.inr rfl) (qe_op op_mod bMod_snd (qe_ix ix_seq bIx_snd (qe_var 0) qe_int (fun _ _ => rfl)) (qe_var 1)))
    (qss_cons (qs_asg (vs := [0]) (qe_op op_fdivW bDiv_snd (qe_ix ix_seq bIx_snd (qe_var 0) qe_int (fun _ _ => rfl)) (qe_var 1)) (qg_sub (qe_var 0) qe_int))
    (qss_one (qs_ret (qe_var 2))))) qss_nil)
    (qss_cons (qs_asg (vs := [0]) (qe_op op_addA bAdd_snd (qe_ix ix_seq bIx_snd (qe_var 0) qe_int (fun _ _ => rfl)) qe_int) (qg_sub (qe_var 0) qe_int))
    (qss_one (qs_ret (qe_op op_mod bMod_snd (qe_op op_fdivW bDiv_snd (qe_callD D__law_drawn hr (by decide) (by rfl) (pasE tk) (qa_cons (qe_ix ix_seq bIx_snd (qe_var 0) qe_int (fun _ _ => rfl)) (qa_cons (qe_ix ix_seq bIx_snd (qe_var 0) qe_int (fun _ _ => rfl)) qa_nil))) qe_int) (qe_var 1))))))
  exact z
def s_law_rounds : Stmt := topS 43
theorem sc_law_rounds : FnScope ["script", "high", "k"] ["script", "high"] (defScope s_law_rounds) := ⟨rfl, rfl, rfl, by decide +kernel, rfl, by decide +kernel, by decide +kernel⟩
theorem ok_law_rounds (At : DefAt mg G.K "_law_rounds" s_law_rounds ["script", "high"]) (B : Blt mg) (D__law_cell : DefOk P w mg base G 1 "_law_cell" 2 f_law_cell) : DefOk P w mg base G 2 "_law_rounds" 2 f_law_rounds := by
  have sc := sc_law_rounds
  have z := @def_ok P w mg base G "_law_rounds" s_law_rounds ["script", "high", "k"] ["script", "high"] 1 2 b_law_rounds At sc rfl (by decide) fun f cdv A outer s H E hr => by
    have tk : L2N.Takes (cxOf (L2N.CX P w) P w G.K mg base ["script", "high", "k"] "_law_rounds" (defScope s_law_rounds) f cdv A outer s H E) (fun cls d _ H => E cls d H) := L2N.takes_of rfl rfl rfl rfl
    unfold b_law_rounds law_rounds_C1
    exact (qss_one (qs_ret (qe_lcN (own := [("k", 2)]) rfl sc.nd (qi_rng1 (by rfl) B.range (qa_cons (qe_callB (call_max2 rfl) bMax2_snd (by rfl) B.max (by decide +kernel) (qa_cons qe_int (qa_cons (qe_callB (call_min2 rfl) bMin2_snd (by rfl) B.min (by decide +kernel) (qa_cons (qe_var 1) (qa_cons (qe_callB call_len_seq bLen_snd (by rfl) B.len (by decide +kernel) (qa_cons (qe_var 0) qa_nil)) qa_nil))) qa_nil))) qa_nil)) (blkOk_by (own := [("k", 2)]) (by kernel_rfl)) (fun _ _ _ _ _ => (qg_name 2 sc.nd rfl (by first | exact Or.inl rfl | exact Or.inr rfl))) (fun _ _ _ _ _ => qts_nil) (fun _ _ _ _ _ => (qe_new (qa_cons (qe_callD D__law_cell hr (by decide) (by rfl) pasF (qa_cons (qe_var 0) (qa_cons (qe_var 2) qa_nil))) (qa_cons qe_int qa_nil)))))))
  exact z
def s_law_any_move : Stmt := topS 46
theorem sc_law_any_move : FnScope ["dice", "heaps", "needs", "heap"] ["dice", "heaps"] (defScope s_law_any_move) := ⟨rfl, rfl, rfl, by decide +kernel, rfl, by decide +kernel, by decide +kernel⟩
theorem ok_law_any_move (At : DefAt mg G.K "_law_any_move" s_law_any_move ["dice", "heaps"]) (B : Blt mg) (D__law_roll : DefOk P w mg base G 2 "_law_roll" 2 f_law_roll) : DefOk P w mg base G 3 "_law_any_move" 2 f_law_any_move := by
  have sc := sc_law_any_move
  have z := @def_ok P w mg base G "_law_any_move" s_law_any_move ["dice", "heaps", "needs", "heap"] ["dice", "heaps"] 2 2 b_law_any_move At sc rfl (by decide) fun f cdv A outer s H E hr => by
    have tk : L2N.Takes (cxOf (L2N.CX P w) P w G.K mg base ["dice", "heaps", "needs", "heap"] "_law_any_move" (defScope s_law_any_move) f cdv A outer s H E) (fun cls d _ H => E cls d H) := L2N.takes_of rfl rfl rfl rfl
    unfold b_law_any_move law_any_move_C2 law_any_move_C1
    exact (qss_cons (qs_set 2 sc.nd rfl (by first | exact Or.inl rfl | exact Or.inr rfl) (qe_callTy call_tuple_of bTuple_snd (by rfl) B.tuple (by decide +kernel) (qa_cons (qe_lc (own := [("heap", 3)]) rfl sc.nd (qi_rng1 (by rfl) B.range (qa_cons (qe_var 1) qa_nil)) (blkOk_by (own := [("heap", 3)]) (by kernel_rfl)) (fun _ _ _ _ _ => (qg_name 3 sc.nd rfl (by first | exact Or.inl rfl | exact Or.inr rfl))) (fun _ _ _ _ _ => qts_nil) (fun _ _ _ _ _ => (qe_ix ix_seq bIx_snd (qe_lst (qa_cons qe_int (qa_cons qe_int (qa_cons qe_int (qa_cons qe_int (qa_cons qe_int qa_nil)))))) (qe_callD D__law_roll hr (by decide) (by rfl) pasF (qa_cons (qe_var 0) (qa_cons qe_int qa_nil))) (fun _ _ => rfl)))) qa_nil)))
    (qss_one (qs_ret (qe_tup (qa_cons (qe_var 2) (qa_cons (qe_callTy call_tuple_of bTuple_snd (by rfl) B.tuple (by decide +kernel) (qa_cons (qe_lc (own := [("heap", 3)]) rfl sc.nd (qi_rng1 (by rfl) B.range (qa_cons (qe_var 1) qa_nil)) (blkOk_by (own := [("heap", 3)]) (by kernel_rfl)) (fun _ _ _ _ _ => (qg_name 3 sc.nd rfl (by first | exact Or.inl rfl | exact Or.inr rfl))) (fun _ _ _ _ _ => qts_nil) (fun _ _ _ _ _ => (qe_ix ix_seq bIx_snd (qe_lst (qa_cons qe_int (qa_cons qe_int (qa_cons qe_int (qa_cons qe_int (qa_cons qe_int qa_nil)))))) (qe_callD D__law_roll hr (by decide) (by rfl) pasF (qa_cons (qe_var 0) (qa_cons qe_int qa_nil))) (fun _ _ => rfl)))) qa_nil)) qa_nil))))))
  exact z
def s_law_any_moves : Stmt := topS 47
theorem sc_law_any_moves : FnScope ["dice", "high", "heaps", "turn"] ["dice", "high"] (defScope s_law_any_moves) := ⟨rfl, rfl, rfl, by decide +kernel, rfl, by decide +kernel, by decide +kernel⟩
theorem ok_law_any_moves (At : DefAt mg G.K "_law_any_moves" s_law_any_moves ["dice", "high"]) (B : Blt mg) (D__law_any_move : DefOk P w mg base G 3 "_law_any_move" 2 f_law_any_move) (D__law_roll : DefOk P w mg base G 2 "_law_roll" 2 f_law_roll) : DefOk P w mg base G 4 "_law_any_moves" 2 f_law_any_moves := by
  have sc := sc_law_any_moves
  have z := @def_ok P w mg base G "_law_any_moves" s_law_any_moves ["dice", "high", "heaps", "turn"] ["dice", "high"] 3 2 b_law_any_moves At sc rfl (by decide) fun f cdv A outer s H E hr => by
    have tk : L2N.Takes (cxOf (L2N.CX P w) P w G.K mg base ["dice", "high", "heaps", "turn"] "_law_any_moves" (defScope s_law_any_moves) f cdv A outer s H E) (fun cls d _ H => E cls d H) := L2N.takes_of rfl rfl rfl rfl
    unfold b_law_any_moves law_any_moves_C1
    exact (qss_cons (qs_set 2 sc.nd rfl (by first | exact Or.inl rfl | exact Or.inr rfl) (qe_op op_addA bAdd_snd qe_int (qe_callD D__law_roll hr (by decide) (by rfl) (pasE tk) (qa_cons (qe_var 0) (qa_cons qe_int qa_nil)))))
    (qss_one (qs_ret (qe_callTy call_tuple_of bTuple_snd (by rfl) B.tuple (by decide +kernel) (qa_cons (qe_lc (own := [("turn", 3)]) rfl sc.nd (qi_rng1 (by rfl) B.range (qa_cons (qe_op op_addA bAdd_snd qe_int (qe_callD D__law_roll hr (by decide) (by rfl) (pasE tk) (qa_cons (qe_var 0) (qa_cons (qe_var 1) qa_nil)))) qa_nil)) (blkOk_by (own := [("turn", 3)]) (by kernel_rfl)) (fun _ _ _ _ _ => (qg_name 3 sc.nd rfl (by first | exact Or.inl rfl | exact Or.inr rfl))) (fun _ _ _ _ _ => qts_nil) (fun _ _ _ _ _ => (qe_callD D__law_any_move hr (by decide) (by rfl) pasF (qa_cons (qe_var 0) (qa_cons (qe_var 2) qa_nil))))) qa_nil)))))
  exact z
def s_law_any_standing : Stmt := topS 48
theorem sc_law_any_standing : FnScope ["dice", "moves", "high", "heap"] ["dice", "moves", "high"] (defScope s_law_any_standing) := ⟨rfl, rfl, rfl, by decide +kernel, rfl, by decide +kernel, by decide +kernel⟩
theorem ok_law_any_standing (At : DefAt mg G.K "_law_any_standing" s_law_any_standing ["dice", "moves", "high"]) (B : Blt mg) (D__law_roll : DefOk P w mg base G 2 "_law_roll" 2 f_law_roll) : DefOk P w mg base G 3 "_law_any_standing" 3 f_law_any_standing := by
  have sc := sc_law_any_standing
  have z := @def_ok P w mg base G "_law_any_standing" s_law_any_standing ["dice", "moves", "high", "heap"] ["dice", "moves", "high"] 2 3 b_law_any_standing At sc rfl (by decide) fun f cdv A outer s H E hr => by
    have tk : L2N.Takes (cxOf (L2N.CX P w) P w G.K mg base ["dice", "moves", "high", "heap"] "_law_any_standing" (defScope s_law_any_standing) f cdv A outer s H E) (fun cls d _ H => E cls d H) := L2N.takes_of rfl rfl rfl rfl
    unfold b_law_any_standing law_any_standing_C1
    exact (qss_one (qs_ret (qe_callTy call_tuple_of bTuple_snd (by rfl) B.tuple (by decide +kernel) (qa_cons (qe_lc (own := [("heap", 3)]) rfl sc.nd (qi_seq (qe_ix ix_seq bIx_snd (qe_ix ix_seq bIx_snd (qe_var 1) qe_int (fun _ _ => rfl)) qe_int (fun _ _ => rfl))) (blkOk_by (own := [("heap", 3)]) (by kernel_rfl)) (fun _ _ _ _ _ => (qg_name 3 sc.nd rfl (by first | exact Or.inl rfl | exact Or.inr rfl))) (fun _ _ _ _ _ => qts_nil) (fun _ _ _ _ _ => (qe_callD D__law_roll hr (by decide) (by rfl) pasF (qa_cons (qe_var 0) (qa_cons (qe_op op_addA bAdd_snd (qe_var 2) qe_int) qa_nil))))) qa_nil))))
  exact z
def s_law_moved : Stmt := topS 49
theorem sc_law_moved : FnScope ["standing", "move", "found", "have", "need", "give"] ["standing", "move"] (defScope s_law_moved) := ⟨rfl, rfl, rfl, by decide +kernel, rfl, by decide +kernel, by decide +kernel⟩
theorem ok_law_moved (At : DefAt mg G.K "_law_moved" s_law_moved ["standing", "move"]) (B : Blt mg) : DefOk P w mg base G 1 "_law_moved" 2 f_law_moved := by
  have sc := sc_law_moved
  have z := @def_ok P w mg base G "_law_moved" s_law_moved ["standing", "move", "found", "have", "need", "give"] ["standing", "move"] 0 2 b_law_moved At sc rfl (by decide) fun f cdv A outer s H E hr => by
    have tk : L2N.Takes (cxOf (L2N.CX P w) P w G.K mg base ["standing", "move", "found", "have", "need", "give"] "_law_moved" (defScope s_law_moved) f cdv A outer s H E) (fun cls d _ H => E cls d H) := L2N.takes_of rfl rfl rfl rfl
    unfold b_law_moved law_moved_L1
    exact (qss_cons (qs_set 2 sc.nd rfl (by first | exact Or.inl rfl | exact Or.inr rfl) (qe_new qa_nil))
    (qss_cons (qs_for (vs := [3, 4, 5]) (passes_of rfl) rfl (qi_zip3 (by rfl) B.zip (qa_cons (qe_var 0) (qa_cons (qe_ix ix_seq bIx_snd (qe_var 1) qe_int (fun _ _ => rfl)) (qa_cons (qe_ix ix_seq bIx_snd (qe_var 1) qe_int (fun _ _ => rfl)) qa_nil)))) (qg_tup rfl (qgs_cons (qg_name 3 sc.nd rfl (by first | exact Or.inl rfl | exact Or.inr rfl)) (qgs_cons (qg_name 4 sc.nd rfl (by first | exact Or.inl rfl | exact Or.inr rfl)) (qgs_cons (qg_name 5 sc.nd rfl (by first | exact Or.inl rfl | exact Or.inr rfl)) qgs_nil))))
    (qss_cons (qs_if (qt_cmp op_lt bCmp_snd (qe_var 3) (qe_var 4) (nomark _)) (qss_one (qs_ret qe_non)) qss_nil)
    (qss_one (qs_expr (qe_app (qe_var 2) (qe_op op_addA bAdd_snd (qe_op op_sub bSub_snd (qe_var 3) (qe_var 4)) (qe_var 5)))))))
    (qss_one (qs_ret (qe_callTy call_tuple_of bTuple_snd (by rfl) B.tuple (by decide +kernel) (qa_cons (qe_var 2) qa_nil))))))
  exact z
def s_law_ways : Stmt := topS 50
theorem sc_law_ways : FnScope ["moves", "standing", "found", "number", "move", "later"] ["moves", "standing"] (defScope s_law_ways) := ⟨rfl, rfl, rfl, by decide +kernel, rfl, by decide +kernel, by decide +kernel⟩
theorem ok_law_ways (At : DefAt mg G.K "_law_ways" s_law_ways ["moves", "standing"]) (B : Blt mg) (D__law_moved : DefOk P w mg base G 1 "_law_moved" 2 f_law_moved) : DefOk P w mg base G 2 "_law_ways" 2 f_law_ways := by
  have sc := sc_law_ways
  have z := @def_ok P w mg base G "_law_ways" s_law_ways ["moves", "standing", "found", "number", "move", "later"] ["moves", "standing"] 1 2 b_law_ways At sc rfl (by decide) fun f cdv A outer s H E hr => by
    have tk : L2N.Takes (cxOf (L2N.CX P w) P w G.K mg base ["moves", "standing", "found", "number", "move", "later"] "_law_ways" (defScope s_law_ways) f cdv A outer s H E) (fun cls d _ H => E cls d H) := L2N.takes_of rfl rfl rfl rfl
    unfold b_law_ways law_ways_L1
    exact (qss_cons (qs_set 2 sc.nd rfl (by first | exact Or.inl rfl | exact Or.inr rfl) (qe_new qa_nil))
    (qss_cons (qs_for (vs := [3, 4]) (passes_of rfl) rfl (qi_enumS (by rfl) B.enumerate (qa_cons (qe_var 0) qa_nil)) (qg_tup rfl (qgs_cons (qg_name 3 sc.nd rfl (by first | exact Or.inl rfl | exact Or.inr rfl)) (qgs_cons (qg_name 4 sc.nd rfl (by first | exact Or.inl rfl | exact Or.inr rfl)) qgs_nil)))
    (qss_cons (qs_set 5 sc.nd rfl (by first | exact Or.inl rfl | exact Or.inr rfl) (qe_callD D__law_moved hr (by decide) (by rfl) (pasE tk) (qa_cons (qe_var 1) (qa_cons (qe_var 4) qa_nil))))
    (qss_one (qs_if (qt_notN (qe_var 5)) (qss_one (qs_expr (qe_app (qe_var 2) (qe_tup (qa_cons (qe_var 3) (qa_cons (qe_var 5) qa_nil)))))) qss_nil))))
    (qss_one (qs_ret (qe_frz (qe_var 2))))))
  exact z
def s_law_over : Stmt := topS 51
theorem sc_law_over : FnScope ["one", "other", "at"] ["one", "other"] (defScope s_law_over) := ⟨rfl, rfl, rfl, by decide +kernel, rfl, by decide +kernel, by decide +kernel⟩
theorem ok_law_over (At : DefAt mg G.K "_law_over" s_law_over ["one", "other"]) (B : Blt mg) : DefOk P w mg base G 1 "_law_over" 2 f_law_over := by
  have sc := sc_law_over
  have z := @def_ok P w mg base G "_law_over" s_law_over ["one", "other", "at"] ["one", "other"] 0 2 b_law_over At sc rfl (by decide) fun f cdv A outer s H E hr => by
    have tk : L2N.Takes (cxOf (L2N.CX P w) P w G.K mg base ["one", "other", "at"] "_law_over" (defScope s_law_over) f cdv A outer s H E) (fun cls d _ H => E cls d H) := L2N.takes_of rfl rfl rfl rfl
    unfold b_law_over law_over_C1
    exact (qss_one (qs_ret (qe_cmp (op_eqD hr.units) bEq_snd (qe_lc (own := [("at", 2)]) rfl sc.nd (qi_rng1 (by rfl) B.range (qa_cons (qe_callB call_len_seq bLen_snd (by rfl) B.len (by decide +kernel) (qa_cons (qe_var 0) qa_nil)) qa_nil)) (blkOk_by (own := [("at", 2)]) (by kernel_rfl)) (fun _ _ _ _ _ => (qg_name 2 sc.nd rfl (by first | exact Or.inl rfl | exact Or.inr rfl))) (fun _ _ _ _ _ => (qts_one (qt_cmp op_lt bCmp_snd (qe_ix ix_seq bIx_snd (qe_var 0) (qe_var 2) (fun _ _ => rfl)) (qe_ix ix_seq bIx_snd (qe_var 1) (qe_var 2) (fun _ _ => rfl)) (nomark _)))) (fun _ _ _ _ _ => (qe_var 2))) (qe_lst qa_nil) (nomark _))))
  exact z
def s_law_all_rows : Stmt := topS 52
theorem sc_law_all_rows : FnScope ["moves", "standing", "many", "found", "turn", "longer", "row", "here", "number", "later"] ["moves", "standing", "many"] (defScope s_law_all_rows) := ⟨rfl, rfl, rfl, by decide +kernel, rfl, by decide +kernel, by decide +kernel⟩
theorem ok_law_all_rows (At : DefAt mg G.K "_law_all_rows" s_law_all_rows ["moves", "standing", "many"]) (B : Blt mg) (D__law_ways : DefOk P w mg base G 2 "_law_ways" 2 f_law_ways) : DefOk P w mg base G 3 "_law_all_rows" 3 f_law_all_rows := by
  have sc := sc_law_all_rows
  have z := @def_ok P w mg base G "_law_all_rows" s_law_all_rows ["moves", "standing", "many", "found", "turn", "longer", "row", "here", "number", "later"] ["moves", "standing", "many"] 2 3 b_law_all_rows At sc rfl (by decide) fun f cdv A outer s H E hr => by
    have tk : L2N.Takes (cxOf (L2N.CX P w) P w G.K mg base ["moves", "standing", "many", "found", "turn", "longer", "row", "here", "number", "later"] "_law_all_rows" (defScope s_law_all_rows) f cdv A outer s H E) (fun cls d _ H => E cls d H) := L2N.takes_of rfl rfl rfl rfl
    unfold b_law_all_rows law_all_rows_C2 law_all_rows_L2 law_all_rows_L1 law_all_rows_C1
    exact (qss_cons (qs_set 3 sc.nd rfl (by first | exact Or.inl rfl | exact Or.inr rfl) (qe_lst (qa_cons (qe_tup (qa_cons (qe_lst qa_nil) (qa_cons (qe_var 1) qa_nil))) qa_nil)))
    (qss_cons (qs_for (vs := [4]) (passes_of rfl) rfl (qi_rng1 (by rfl) B.range (qa_cons (qe_var 2) qa_nil)) (qg_name 4 sc.nd rfl (by first | exact Or.inl rfl | exact Or.inr rfl))
    (qss_cons (qs_set 5 sc.nd rfl (by first | exact Or.inl rfl | exact Or.inr rfl) (qe_lst qa_nil))
    (qss_cons (qs_for (vs := [6, 7]) (passes_of rfl) rfl (qi_seq (qe_var 3)) (qg_tup rfl (qgs_cons (qg_name 6 sc.nd rfl (by first | exact Or.inl rfl | exact Or.inr rfl)) (qgs_cons (qg_name 7 sc.nd rfl (by first | exact Or.inl rfl | exact Or.inr rfl)) qgs_nil)))
    (qss_one (qs_set 5 sc.nd rfl (by first | exact Or.inl rfl | exact Or.inr rfl) (qe_op op_addA bAdd_snd (qe_var 5) (qe_lc (own := [("number", 8), ("later", 9)]) rfl sc.nd (qi_seq (qe_callD D__law_ways hr (by decide) (by rfl) (pasE tk) (qa_cons (qe_var 0) (qa_cons (qe_var 7) qa_nil)))) (blkOk_by (own := [("number", 8), ("later", 9)]) (by kernel_rfl)) (fun _ _ _ _ _ => (qg_tup rfl (qgs_cons (qg_name 8 sc.nd rfl (by first | exact Or.inl rfl | exact Or.inr rfl)) (qgs_cons (qg_name 9 sc.nd rfl (by first | exact Or.inl rfl | exact Or.inr rfl)) qgs_nil)))) (fun _ _ _ _ _ => qts_nil) (fun _ _ _ _ _ => (qe_tup (qa_cons (qe_op op_addA bAdd_snd (qe_var 6) (qe_lst (qa_cons (qe_var 8) qa_nil))) (qa_cons (qe_var 9) qa_nil)))))))))
    (qss_one (qs_set 3 sc.nd rfl (by first | exact Or.inl rfl | exact Or.inr rfl) (qe_var 5))))))
    (qss_one (qs_ret (qe_lc (own := [("row", 6), ("here", 7)]) rfl sc.nd (qi_seq (qe_var 3)) (blkOk_by (own := [("row", 6), ("here", 7)]) (by kernel_rfl)) (fun _ _ _ _ _ => (qg_tup rfl (qgs_cons (qg_name 6 sc.nd rfl (by first | exact Or.inl rfl | exact Or.inr rfl)) (qgs_cons (qg_name 7 sc.nd rfl (by first | exact Or.inl rfl | exact Or.inr rfl)) qgs_nil)))) (fun _ _ _ _ _ => qts_nil) (fun _ _ _ _ _ => (qe_var 6)))))))
  exact z
def s_law : Stmt := topS 53
theorem sc_law : FnScope ["script", "dice", "moves", "many", "some", "one", "other", "turn", "standing", "rows", "bad", "made"] ["script"] (defScope s_law) := ⟨rfl, rfl, rfl, by decide +kernel, rfl, by decide +kernel, by decide +kernel⟩
theorem ok_law {f cL PL : Addr} {od an : Option Addr} {osl : Array (Option Value)} {oc kV doc pm ct : Value} (lk : G.K.lookup f = some ⟨oc, od, .func (PySem.W.fnOf "law" "law" (defArgs s_law) (defBody s_law) (defScope s_law) .none kV doc pm an (.ref cL) ct), osl⟩) (hcd : PySem.W.codeIn G.K (.ref cL) "law" = true) (TF : ToldF mg G.K G.cl CS s_law_told s_law_term) (TB : LamX.TabB base mg cL PL) (hmT : (PL, (Str.ofString "law" ++ Str.ofString ".<locals>.") ++ Str.ofString "<lambda>") ∈ G.T) (hu : ∀ p ∈ G.T, p.1 = PL → p.2 = (Str.ofString "law" ++ Str.ofString ".<locals>.") ++ Str.ofString "<lambda>") (B : Blt mg) (D__law_all_rows : DefOk P w mg base G 3 "_law_all_rows" 3 f_law_all_rows) (D__law_any_moves : DefOk P w mg base G 4 "_law_any_moves" 2 f_law_any_moves) (D__law_any_standing : DefOk P w mg base G 3 "_law_any_standing" 3 f_law_any_standing) (D__law_over : DefOk P w mg base G 1 "_law_over" 2 f_law_over) (D__law_roll : DefOk P w mg base G 2 "_law_roll" 2 f_law_roll) (D__law_rounds : DefOk P w mg base G 2 "_law_rounds" 2 f_law_rounds) (D_can_go : DefOk P w mg base G 8 "can_go" 3 f_can_go) (D_first_row : DefOk P w mg base G 8 "first_row" 3 f_first_row) (D_least_starts : DefOk P w mg base G 8 "least_starts" 2 f_least_starts) : FnOk P w G.K mg base (L2N.CX P w) 12 f (PySem.W.fnOf "law" "law" (defArgs s_law) (defBody s_law) (defScope s_law) .none kV doc pm an (.ref cL) ct) ["script"] (spF G 1 f_law) := by
  have sc := sc_law
  have z := @law_okT P w mg base G "law" s_law ["script", "dice", "moves", "many", "some", "one", "other", "turn", "standing", "rows", "bad", "made"] ["script"] 11 1 b_law f (.ref cL) oc kV doc pm ct od an osl lk hcd sc rfl (by decide) fun A outer s H E hr => by
    have tk : L2N.Takes (cxOf (L2N.CX P w) P w G.K mg base ["script", "dice", "moves", "many", "some", "one", "other", "turn", "standing", "rows", "bad", "made"] "law" (defScope s_law) f (.ref cL) A outer s H E) (fun cls d _ H => E cls d H) := L2N.takes_of rfl rfl rfl rfl
    unfold b_law law_L4 law_L3 law_L2 law_C2 law_L1 law_C1
    exact (qss_cons (qs_forO (vs := [1]) (passes_of rfl) rfl (qe_callD D__law_rounds hr (by decide) (by rfl) (pasE tk) (qa_cons (qe_var 0) (qa_cons qe_int qa_nil))) (qg_name 1 sc.nd rfl (by first | exact Or.inl rfl | exact Or.inr rfl))
    (qss_cons (qs_asg (vs := [2, 3]) (qe_tup (qa_cons (qe_callD D__law_any_moves hr (by decide) (by rfl) (pasE tk) (qa_cons (qe_var 1) (qa_cons qe_int qa_nil))) (qa_cons (qe_callD D__law_roll hr (by decide) (by rfl) (pasE tk) (qa_cons (qe_var 1) (qa_cons qe_int qa_nil))) qa_nil))) (qg_tup rfl (qgs_cons (qg_name 2 sc.nd rfl (by first | exact Or.inl rfl | exact Or.inr rfl)) (qgs_cons (qg_name 3 sc.nd rfl (by first | exact Or.inl rfl | exact Or.inr rfl)) qgs_nil))))
    (qss_cons (qs_set 4 sc.nd rfl (by first | exact Or.inl rfl | exact Or.inr rfl) (qe_callD D_least_starts hr (by decide) (by rfl) (pasE tk) (qa_cons (qe_var 2) (qa_cons (qe_var 3) qa_nil))))
    (qss_cons (qs_if (qt_cmp (op_neD hr.units) bNe_snd (qe_var 4) (qe_setS rfl hr.units (by rfl) B.sorted (by rfl) B.set (qe_var 4)) (nomark _)) (qss_one (qs_ret qe_bl)) qss_nil)
    (qss_cons (qs_for (vs := [5]) (passes_of rfl) rfl (qi_seq (qe_var 4)) (qg_name 5 sc.nd rfl (by first | exact Or.inl rfl | exact Or.inr rfl))
    (qss_cons (qs_if (qt_cmp (op_neD hr.units) bNe_snd (qe_lc (own := [("other", 6)]) rfl sc.nd (qi_seq (qe_var 4)) (blkOk_by (own := [("other", 6)]) (by kernel_rfl)) (fun _ _ _ _ _ => (qg_name 6 sc.nd rfl (by first | exact Or.inl rfl | exact Or.inr rfl))) (fun _ _ _ _ _ => (qts_one (PW.pt (qw_and (qt_cmp (op_neD hr.units) bNe_snd (qe_var 6) (qe_var 5) (nomark _)) (qw_and1 (qt_val (qe_callD D__law_over hr (by decide) (by rfl) pasF (qa_cons (qe_var 5) (qa_cons (qe_var 6) qa_nil))))))))) (fun _ _ _ _ _ => (qe_var 6))) (qe_lst qa_nil) (nomark _)) (qss_one (qs_ret qe_bl)) qss_nil)
    (qss_one (qs_if (qt_cmp (op_eqD hr.units) bEq_snd (qe_callD D__law_all_rows hr (by decide) (by rfl) (pasE tk) (qa_cons (qe_var 2) (qa_cons (qe_var 5) (qa_cons (qe_var 3) qa_nil)))) (qe_lst qa_nil) (nomark _)) (qss_one (qs_ret qe_bl)) qss_nil))))
    (qss_cons (qs_for (vs := [7]) (passes_of rfl) rfl (qi_rng1 (by rfl) B.range (qa_cons qe_int qa_nil)) (qg_name 7 sc.nd rfl (by first | exact Or.inl rfl | exact Or.inr rfl))
    (qss_cons (qs_set 8 sc.nd rfl (by first | exact Or.inl rfl | exact Or.inr rfl) (qe_callD D__law_any_standing hr (by decide) (by rfl) (pasE tk) (qa_cons (qe_var 1) (qa_cons (qe_var 2) (qa_cons qe_int qa_nil)))))
    (qss_cons (qs_set 9 sc.nd rfl (by first | exact Or.inl rfl | exact Or.inr rfl) (qe_callD D__law_all_rows hr (by decide) (by rfl) (pasE tk) (qa_cons (qe_var 2) (qa_cons (qe_var 8) (qa_cons (qe_var 3) qa_nil)))))
    (qss_cons (qs_if (qt_cmp (op_neD hr.units) bNe_snd (qe_callD D_can_go hr (by decide) (by rfl) (pasE tk) (qa_cons (qe_var 2) (qa_cons (qe_var 8) (qa_cons (qe_var 3) qa_nil)))) (qe_cmp (op_neD hr.units) bNe_snd (qe_var 9) (qe_lst qa_nil) (nomark _)) (nomark _)) (qss_one (qs_ret qe_bl)) qss_nil)
    (qss_cons (qs_if (qt_cmp (op_neD hr.units) bNe_snd (qe_cmp (op_neD hr.units) bNe_snd (qe_var 9) (qe_lst qa_nil) (nomark _)) (qe_cmp (op_neD hr.units) bNe_snd (qe_lc (own := [("one", 5)]) rfl sc.nd (qi_seq (qe_var 4)) (blkOk_by (own := [("one", 5)]) (by kernel_rfl)) (fun _ _ _ _ _ => (qg_name 5 sc.nd rfl (by first | exact Or.inl rfl | exact Or.inr rfl))) (fun _ _ _ _ _ => (qts_one (qt_val (qe_callD D__law_over hr (by decide) (by rfl) pasF (qa_cons (qe_var 8) (qa_cons (qe_var 5) qa_nil)))))) (fun _ _ _ _ _ => (qe_var 5))) (qe_lst qa_nil) (nomark _)) (nomark _)) (qss_one (qs_ret qe_bl)) qss_nil)
    (qss_one (qs_if (qt_cmp (op_neD hr.units) bNe_snd (qe_callD D_first_row hr (by decide) (by rfl) (pasE tk) (qa_cons (qe_var 2) (qa_cons (qe_var 8) (qa_cons (qe_var 3) qa_nil)))) (qe_if (qt_cmp (op_neD hr.units) bNe_snd (qe_var 9) (qe_lst qa_nil) (nomark _)) (qe_ix ix_seq bIx_snd (qe_var 9) qe_int (fun _ _ => rfl)) qe_non) (nomark _)) (qss_one (qs_ret qe_bl)) qss_nil)))))))
    (qss_cons (qs_for (vs := [10]) (passes_of rfl) rfl (qi_seq (qe_lst (qa_cons (qe_un un_neg bNeg_snd qe_int) (qa_cons qe_int (qa_cons qe_bl (qa_cons qe_non qa_nil)))))) (qg_name 10 sc.nd rfl (by first | exact Or.inl rfl | exact Or.inr rfl))
    (qss_cons (qs_set 11 sc.nd rfl (by first | exact Or.inl rfl | exact Or.inr rfl) (qe_new (qa_cons (qe_told (k := 8) TF (by rfl) TB rfl hmT hu (hr.mono (by decide)) (LamX.lamS_by (by kernel_rfl)) rfl (fun _ _ _ _ _ => rfl) (fun _ _ _ _ _ _ _ hr => (qe_callD D_least_starts hr (by decide) (by rfl) (pasE takesLam) (qa_cons (qe_var 2) (qa_cons (qe_var 10) qa_nil))))) qa_nil)))
    (qss_cons (qs_expr (qe_app (qe_var 11) (qe_told (k := 8) TF (by rfl) TB rfl hmT hu (hr.mono (by decide)) (LamX.lamS_by (by kernel_rfl)) rfl (fun _ _ _ _ _ => rfl) (fun _ _ _ _ _ _ _ hr => (qe_callD D_can_go hr (by decide) (by rfl) (pasE takesLam) (qa_cons (qe_var 2) (qa_cons (qe_var 8) (qa_cons (qe_var 10) qa_nil))))))))
    (qss_one (qs_if (qt_cmp (op_neD hr.units) bNe_snd (qe_op op_addA bAddO_snd (qe_var 11) (qe_lst (qa_cons (qe_told (k := 8) TF (by rfl) TB rfl hmT hu (hr.mono (by decide)) (LamX.lamS_by (by kernel_rfl)) rfl (fun _ _ _ _ _ => rfl) (fun _ _ _ _ _ _ _ hr => (qe_callD D_first_row hr (by decide) (by rfl) (pasE takesLam) (qa_cons (qe_var 2) (qa_cons (qe_var 8) (qa_cons (qe_var 10) qa_nil)))))) qa_nil))) (qe_op op_mulAll bMul_snd (qe_lst (qa_cons (qe_tup (qa_cons qe_str (qa_cons qe_str qa_nil))) qa_nil)) qe_int) (nomark _)) (qss_one (qs_ret qe_bl)) qss_nil)))))
    (qss_cons (qs_if (qt_cmp (op_neD hr.units) bNe_snd (qe_told (k := 8) TF (by rfl) TB rfl hmT hu (hr.mono (by decide)) (LamX.lamS_by (by kernel_rfl)) rfl (fun _ _ _ _ _ => rfl) (fun _ _ _ _ _ _ _ hr => (qe_callD D_can_go hr (by decide) (by rfl) (pasE takesLam) (qa_cons (qe_var 2) (qa_cons qe_non (qa_cons qe_non qa_nil)))))) (qe_tup (qa_cons qe_str (qa_cons qe_str qa_nil))) (nomark _)) (qss_one (qs_ret qe_bl)) qss_nil)
    (qss_one (qs_if (qt_cmp (op_neD hr.units) bNe_snd (qe_callD D_least_starts hr (by decide) (by rfl) (pasE tk) (qa_cons (qe_var 2) (qa_cons qe_int qa_nil))) (qe_lst (qa_cons (qe_op op_mulAll bMul_snd (qe_tup (qa_cons qe_int qa_nil)) (qe_callB call_len_seq bLen_snd (by rfl) B.len (by decide +kernel) (qa_cons (qe_ix ix_seq bIx_snd (qe_ix ix_seq bIx_snd (qe_var 2) qe_int (fun _ _ => rfl)) qe_int (fun _ _ => rfl)) qa_nil))) qa_nil)) (nomark _)) (qss_one (qs_ret qe_bl)) qss_nil))))))))))
    (qss_one (qs_ret qe_bl)))
  exact z
end
end Y
end
section
set_option Elab.async false
set_option linter.all false
/-! Mth: how the combinators compute; moves, standings, rows as plain lists. -/
namespace Y
open PySem (PyData Str)
/-! ### rules for simp: all as equations of functions -/
section
variable {α β γ : Type} {loc : Loc} {st : Store}
@[simp] theorem ret_ap (a : α) : ret a st = .ok a st := rfl
@[simp] theorem bd_ret (a : α) (f : α → M β) : bd (ret a) f = f a := rfl
@[simp] theorem bd_die (f : α → M β) : bd die f = die := rfl
@[simp] theorem bd_thr (c : Nat) (f : α → M β) : bd (thr c) f = thr c := rfl
@[simp] theorem bd_bd (m : M α) (f : α → M β) (g : β → M γ) : bd (bd m f) g = bd m fun x => bd (f x) g := by
  funext st
  unfold bd
  cases m st <;> rfl
@[simp] theorem noex_ret (a : α) : noex (ret a) = ret a := rfl
theorem bd_eq {m : M α} {f : α → M β} {st s : Store} {a : α} (h : m st = .ok a s) : bd m f st = f a s := by
  unfold bd
  rw [h]
theorem bd_ex {m : M α} {f : α → M β} {st s : Store} {c : Nat} (h : m st = .ex c s) : bd m f st = .ex c s := by
  unfold bd
  rw [h]
theorem noex_eq {m : M α} {st s : Store} {a : α} (h : m st = .ok a s) : noex m st = .ok a s := by
  unfold noex
  rw [h]
@[simp] theorem eV_zero (v : Val) (l : Loc) : eV 0 (some v :: l) = ret v := rfl
@[simp] theorem eV_succ (i : Nat) (x : Option Val) (l : Loc) : eV (i + 1) (x :: l) = eV i l := rfl
@[simp] theorem eC_eq (x : D) : eC x loc = ret (.d x) := rfl
@[simp] theorem eO_eq (op : Val → Val → M Val) (a b : E) : eO op a b loc = bd (a loc) fun x => bd (b loc) fun y => op x y := rfl
@[simp] theorem eU_eq (op : Val → M Val) (a : E) : eU op a loc = bd (a loc) op := rfl
@[simp] theorem aN_eq : aN loc = ret [] := rfl
@[simp] theorem aC_eq (e : E) (as : A) : aC e as loc = bd (e loc) fun x => bd (as loc) fun xs => ret (x :: xs) := rfl
@[simp] theorem eB_eq (b : List Val → M Val) (as : A) : eB b as loc = bd (as loc) b := rfl
@[simp] theorem tV_eq (e : E) : tV e loc = bd (e loc) asB := rfl
@[simp] theorem tAn_eq (t u : Tst) : tAn t u loc = bd (t loc) fun b => if b = true then u loc else ret false := rfl
@[simp] theorem tOrr_eq (t u : Tst) : tOrr t u loc = bd (t loc) fun b => if b = true then ret true else u loc := rfl
@[simp] theorem tNo_eq (t : Tst) : tNo t loc = bd (t loc) fun b => ret (!b) := rfl
@[simp] theorem tTr_eq : tTr loc = ret true := rfl
@[simp] theorem eAn_eq (a b : E) : eAn a b loc = bd (a loc) fun v => bd (asB v) fun c => if c = true then b loc else ret (vB false) := rfl
@[simp] theorem eOr_eq (a b : E) : eOr a b loc = bd (a loc) fun v => bd (asB v) fun c => if c = true then ret (vB true) else b loc := rfl
@[simp] theorem eNo_eq (a : E) : eNo a loc = bd (a loc) fun v => bd (asB v) fun c => ret (vB (!c)) := rfl
@[simp] theorem eIf_eq (t : Tst) (a b : E) : eIf t a b loc = bd (t loc) fun c => if c = true then a loc else b loc := rfl
@[simp] theorem eCh_eq (o1 o2 : Val → Val → M Val) (a b c : E) : eCh o1 o2 a b c loc = bd (a loc) fun x => bd (b loc) fun y => bd (o1 x y) fun r => bd (asB r) fun k => if k = true then bd (c loc) fun z => o2 y z else ret (vB false) := rfl
@[simp] theorem asB_eq (b : Bool) : asB (.d (.bool b)) = ret b := rfl
@[simp] theorem asI_eq (b : Int) : asI (.d (.int b)) = ret b := rfl
@[simp] theorem vB_eq (b : Bool) : vB b = .d (.bool b) := rfl
@[simp] theorem vI_eq (b : Int) : vI b = .d (.int b) := rfl
@[simp] theorem sNil_eq : sNil loc = ret (.nx, loc) := rfl
@[simp] theorem sSeq_eq (a b : S) : sSeq a b loc = bd (a loc) fun r => match r.1 with
  | .nx => b r.2
  | _ => ret r := rfl
@[simp] theorem sRet_eq (e : E) : sRet e loc = bd (e loc) fun v => ret (.rt v, loc) := rfl
@[simp] theorem sAsg_eq (e : E) (g : G) : sAsg e g loc = bd (e loc) fun v => bd (g v loc) fun l => ret (.nx, l) := rfl
@[simp] theorem sExp_eq (e : E) : sExp e loc = bd (e loc) fun _ => ret (.nx, loc) := rfl
@[simp] theorem sIf_eq (t : Tst) (a b : S) : sIf t a b loc = bd (t loc) fun c => if c = true then a loc else b loc := rfl
@[simp] theorem sRaise_eq (c : Nat) : sRaise c loc = thr c := rfl
@[simp] theorem sPar_eq (i j : Nat) (a b : E) : sPar i j a b loc = bd (a loc) fun v => bd (b loc) fun w => ret (.nx, (loc.set i (some v)).set j (some w)) := rfl
@[simp] theorem sFor_eq (it : I) (g : G) (b : S) : sFor it g b loc = bd (it loc) fun xs => forL (fBody g b) xs loc := rfl
@[simp] theorem gN_eq (i : Nat) (v : Val) : gN i v loc = ret (loc.set i (some v)) := rfl
@[simp] theorem gT_eq (n : Nat) (gs : Gs) (ds : List D) : gT n gs (.d (.tuple ds)) loc = if ds.length = n then gs (ds.map .d) loc else die := rfl
@[simp] theorem gsN_eq : gsN [] loc = ret loc := rfl
@[simp] theorem gsC_eq (g : G) (gs : Gs) (v : Val) (r : List Val) : gsC g gs (v :: r) loc = bd (g v loc) fun l => gs r l := rfl
@[simp] theorem cBody_eq (g : G) (t : Tst) (e : E) (x : Val) : cBody g t e loc x = bd (g x loc) fun l => bd (t l) fun b => if b = true then bd (e l) fun y => ret (some y) else ret none := rfl
@[simp] theorem fBody_eq (g : G) (b : S) (x : Val) : fBody g b x loc = bd (g x loc) b := rfl
@[simp] theorem fix1 (f : List Val → M Val) (a : Val) : fixN 1 f [a] = f [a] := rfl
@[simp] theorem fix2 (f : List Val → M Val) (a b : Val) : fixN 2 f [a, b] = f [a, b] := rfl
@[simp] theorem fix3 (f : List Val → M Val) (a b c : Val) : fixN 3 f [a, b, c] = f [a, b, c] := rfl
@[simp] theorem fix4 (f : List Val → M Val) (a b c d : Val) : fixN 4 f [a, b, c, d] = f [a, b, c, d] := rfl
@[simp] theorem wip_nil : wip loc [] = loc := rfl
@[simp] theorem wip_cons (v : Nat) (vs : List Nat) : wip loc (v :: vs) = (wip loc vs).set v none := rfl
theorem runF_eq (n : Nat) (b : S) (as : List Val) : runF n b as = bd (b (as.map some ++ List.replicate (n - as.length) none)) fun r => match r.1 with
    | .rt v => ret v
    | .nx => ret (.d .none)
    | _ => die := rfl
/-! operators -/
@[simp] theorem bAdd_int (i j : Int) : bAdd (.d (.int i)) (.d (.int j)) = ret (.d (.int (i + j))) := rfl
@[simp] theorem bSub_int (i j : Int) : bSub (.d (.int i)) (.d (.int j)) = ret (.d (.int (i - j))) := rfl
@[simp] theorem bNeg_int (i : Int) : bNeg (.d (.int i)) = ret (.d (.int (-i))) := rfl
@[simp] theorem bLt_int (i j : Int) : bLt (.d (.int i)) (.d (.int j)) = ret (.d (.bool (decide (i < j)))) := rfl
@[simp] theorem bLe_int (i j : Int) : bLe (.d (.int i)) (.d (.int j)) = ret (.d (.bool (decide (i ≤ j)))) := rfl
@[simp] theorem bGt_int (i j : Int) : bGt (.d (.int i)) (.d (.int j)) = ret (.d (.bool (decide (j < i)))) := rfl
@[simp] theorem bGe_int (i j : Int) : bGe (.d (.int i)) (.d (.int j)) = ret (.d (.bool (decide (j ≤ i)))) := rfl
@[simp] theorem bLen_tup (xs : List D) : bLen [.d (.tuple xs)] = ret (.d (.int xs.length)) := rfl
@[simp] theorem bLen_lst (xs : List D) : bLen [.d (.list xs)] = ret (.d (.int xs.length)) := rfl
@[simp] theorem bLen_s (xs : List Int) : bLen [.s xs] = ret (.d (.int xs.length)) := rfl
@[simp] theorem bTuple_lst (xs : List D) : bTuple [.d (.list xs)] = ret (.d (.tuple xs)) := rfl
@[simp] theorem bTuple_tup (xs : List D) : bTuple [.d (.tuple xs)] = ret (.d (.tuple xs)) := rfl
@[simp] theorem bIsN_eq (v : Val) : bIsN v = ret (.d (.bool (isN v))) := rfl
@[simp] theorem bNotN_eq (v : Val) : bNotN v = ret (.d (.bool (!isN v))) := rfl
@[simp] theorem bMax2_eq (i j : Int) : bMax2 [.d (.int i), .d (.int j)] = ret (.d (.int (if j > i then j else i))) := rfl
@[simp] theorem bMin2_eq (i j : Int) : bMin2 [.d (.int i), .d (.int j)] = ret (.d (.int (if j < i then j else i))) := rfl
@[simp] theorem bMod_int (i j : Int) : bMod (.d (.int i)) (.d (.int j)) = if 0 < j then ret (.d (.int (i % j))) else die := rfl
@[simp] theorem bDiv_int (i j : Int) : bDiv (.d (.int i)) (.d (.int j)) = if 0 < j ∧ j.natAbs.log2 < 9000 then ret (.d (.int (i / j))) else die := rfl
@[simp] theorem bMul_int (i j : Int) : bMul (.d (.int i)) (.d (.int j)) = if mulOk i j = true then ret (.d (.int (i * j))) else die := rfl
@[simp] theorem bMul_tup (xs : List D) (k : Int) : bMul (.d (.tuple xs)) (.d (.int k)) = if 1 ≤ k ∧ k ≤ 1000 ∧ 1 ≤ xs.length ∧ xs.length ≤ 1000 then ret (.d (.tuple (repD k xs))) else die := rfl
@[simp] theorem bAdd_lst (xs ys : List D) : bAdd (.d (.list xs)) (.d (.list ys)) = if xs.length + ys.length ≤ lim then ret (.d (.list (xs ++ ys))) else die := rfl
@[simp] theorem bAdd_tup (xs ys : List D) : bAdd (.d (.tuple xs)) (.d (.tuple ys)) = if xs.length + ys.length ≤ lim then ret (.d (.tuple (xs ++ ys))) else die := rfl
@[simp] theorem bIx_tup (xs : List D) (i : Int) : bIx (.d (.tuple xs)) (.d (.int i)) = bd (oget (atI xs i)) fun x => ret (.d x) := rfl
@[simp] theorem bIx_lst (xs : List D) (i : Int) : bIx (.d (.list xs)) (.d (.int i)) = bd (oget (atI xs i)) fun x => ret (.d x) := rfl
@[simp] theorem oget_some (a : α) : oget (some a) = ret a := rfl
@[simp] theorem oget_none : oget (none : Option α) = die := rfl
@[simp] theorem snap_d (x : D) : snap (.d x) = ret x := rfl
@[simp] theorem seqOf_tup (ds : List D) : seqOf (.d (.tuple ds)) = ret ds := rfl
@[simp] theorem seqOf_lst (ds : List D) : seqOf (.d (.list ds)) = ret ds := rfl
theorem eqD_eq {x y : D} (h : PySem.SeqAt.shaped x = true) (h' : PySem.SeqAt.shaped y = true) : eqD x y = ret (PyData.eqv x y) := by
  unfold eqD
  rw [if_pos ⟨h, h'⟩]
@[simp] theorem shaped_int (i : Int) : PySem.SeqAt.shaped (.int i) = true := rfl
@[simp] theorem shaped_bool (i : Bool) : PySem.SeqAt.shaped (.bool i) = true := rfl
@[simp] theorem shaped_none : PySem.SeqAt.shaped .none = true := rfl
@[simp] theorem bEq_d (x y : D) : bEq (.d x) (.d y) = bd (eqD x y) fun r => ret (.d (.bool r)) := rfl
@[simp] theorem bNe_d (x y : D) : bNe (.d x) (.d y) = bd (eqD x y) fun r => ret (.d (.bool (!r))) := rfl
@[simp] theorem eqD_int (i j : Int) : eqD (.int i) (.int j) = ret (i == j) := by
  rw [eqD_eq rfl rfl]
  rfl
@[simp] theorem eqD_bool (i j : Bool) : eqD (.bool i) (.bool j) = ret (i == j) := by
  rw [eqD_eq rfl rfl]
  rfl
@[simp] theorem iSeq_eq (e : E) : iSeq e loc = bd (e loc) fun v => bd (seqOf v) fun ds => ret (ds.map .d) := rfl
@[simp] theorem iCall_eq (k : List Val → M (List Val)) (as : A) : iCall k as loc = bd (as loc) k := rfl
@[simp] theorem kZip2_eq (v w : Val) : kZip2 [v, w] = bd (seqOf v) fun xs => bd (seqOf w) fun ys => ret (zip2 xs ys) := rfl
@[simp] theorem kZip3_eq (v w u : Val) : kZip3 [v, w, u] = bd (seqOf v) fun xs => bd (seqOf w) fun ys => bd (seqOf u) fun zs => ret (zip3 xs ys zs) := rfl
@[simp] theorem kEnumL_eq (ds : List D) : kEnumL [.d (.list ds)] = ret (enumF 0 ds) := rfl
@[simp] theorem kEnumS_lst (ds : List D) : kEnumS [.d (.list ds)] = ret (enumF 0 ds) := rfl
@[simp] theorem kEnumS_tup (ds : List D) : kEnumS [.d (.tuple ds)] = ret (enumF 0 ds) := rfl
@[simp] theorem bIsB_eq (b c : Bool) : bIsB b (.d (.bool c)) = ret (.d (.bool (c == b))) := rfl
@[simp] theorem bNotB_eq (b c : Bool) : bNotB b (.d (.bool c)) = ret (.d (.bool (!(c == b)))) := rfl
@[simp] theorem kRg1_eq (n : Int) : kRg1 [.d (.int n)] = if -1000000 ≤ n ∧ n ≤ 1000000 then ret (rng 0 n.toNat) else die := rfl
@[simp] theorem eSl_eq (e : E) (lo hi : Oe) : eSl e lo hi loc = bd (e loc) fun v => bd (lo loc) fun l => bd (hi loc) fun h => bSl v l h := rfl
@[simp] theorem oN_eq : oN loc = ret none := rfl
@[simp] theorem oS_eq (e : E) : oS e loc = bd (e loc) fun v => bd (asI v) fun i => ret (some i) := rfl
@[simp] theorem bSl_tup (xs : List D) (lo hi : Option Int) : bSl (.d (.tuple xs)) lo hi = ret (.d (.tuple (cutD xs lo hi))) := rfl
@[simp] theorem bSl_lst (xs : List D) (lo hi : Option Int) : bSl (.d (.list xs)) lo hi = ret (.d (.list (cutD xs lo hi))) := rfl
@[simp] theorem bIsi_none (T : String) : bIsi T (.d .none) = ret (.d (.bool false)) := rfl
@[simp] theorem bIsi_bool (T : String) (b : Bool) : bIsi T (.d (.bool b)) = ret (.d (.bool (T == "int" || T == "bool"))) := rfl
@[simp] theorem bIsi_int (T : String) (b : Int) : bIsi T (.d (.int b)) = ret (.d (.bool (T == "int"))) := rfl
@[simp] theorem bIsi_str (T : String) (b : Str) : bIsi T (.d (.str b)) = ret (.d (.bool (T == "str"))) := rfl
@[simp] theorem bIsi_list (T : String) (b : List D) : bIsi T (.d (.list b)) = ret (.d (.bool (T == "list"))) := rfl
@[simp] theorem bIsi_tuple (T : String) (b : List D) : bIsi T (.d (.tuple b)) = ret (.d (.bool (T == "tuple"))) := rfl
@[simp] theorem bTup_eq1 (a : D) : bTup [.d a] = ret (.d (.tuple [a])) := rfl
@[simp] theorem bTup_eq2 (a b : D) : bTup [.d a, .d b] = ret (.d (.tuple [a, b])) := rfl
@[simp] theorem bTup_eq0 : bTup [] = ret (.d (.tuple [])) := rfl
@[simp] theorem bLst_eq0 : bLst [] = ret (.d (.list [])) := rfl
@[simp] theorem bLst_eq1 (a : D) : bLst [.d a] = ret (.d (.list [a])) := rfl
@[simp] theorem bLst_eq5 (a b c d e : D) : bLst [.d a, .d b, .d c, .d d, .d e] = ret (.d (.list [a, b, c, d, e])) := rfl
end
/-! ### comprehensions -/
theorem compL_pure {α : Type} {body : Val → M (Option Val)} (enc : α → Val) (h : α → Option Val) : ∀ (L : List α), (∀ p ∈ L, body (enc p) = ret (h p)) → compL body (L.map enc) = ret (L.filterMap h)
  | [], _ => rfl
  | p :: L, hp => by
    show bd (body (enc p)) _ = _
    rw [hp p List.mem_cons_self, bd_ret, compL_pure enc h L fun q hq => hp q (List.mem_cons_of_mem _ hq), bd_ret]
    show ret (consO (h p) (L.filterMap h)) = _
    cases e : h p with
    | none => rw [List.filterMap_cons_none e]; rfl
    | some y => rw [List.filterMap_cons_some e]; rfl
theorem toDs_map {α : Type} (h : α → D) : ∀ L : List α, toDs (L.map fun p => .d (h p)) = some (L.map h)
  | [] => rfl
  | p :: L => by
    show (toDs (L.map fun p => .d (h p))).map (h p :: ·) = _
    rw [toDs_map h L]
    rfl
theorem filterMap_some {α β : Type} (h : α → β) : ∀ L : List α, L.filterMap (fun p => some (h p)) = L.map h
  | [] => rfl
  | p :: L => by
    rw [List.filterMap_cons_some (f := fun p => some (h p)) (b := h p) rfl, filterMap_some h L]
    rfl
theorem bLst_map {α : Type} (h : α → D) (L : List α) (hl : L.length ≤ lim) : bLst (L.map fun p => .d (h p)) = ret (.d (.list (L.map h))) := by
  unfold bLst
  rw [toDs_map]
  dsimp only
  rw [if_pos (by rw [List.length_map]; exact hl)]
/-- every item gives one -/
theorem eLc_map {α : Type} {it : I} {g : G} {t : Tst} {e : E} {vs : List Nat} {loc : Loc} (L : List α) (enc : α → Val) (h : α → D) (hi : it loc = ret (L.map enc)) (hl : L.length ≤ lim)
    (hb : ∀ p ∈ L, cBody g t e (wip loc vs) (enc p) = ret (some (.d (h p)))) : eLc it g t e vs loc = ret (.d (.list (L.map h))) := by
  unfold eLc
  rw [hi, bd_ret, if_pos (by rw [List.length_map]; exact hl), compL_pure enc (fun p => some (.d (h p))) L hb, noex_ret, bd_ret, filterMap_some, bLst_map h L hl]
theorem filterMap_if {α β : Type} (p : α → Bool) (h : α → β) : ∀ L : List α, L.filterMap (fun x => if p x = true then some (h x) else none) = (L.filter p).map h
  | [] => rfl
  | x :: L => by
    by_cases e : p x = true
    · rw [List.filterMap_cons_some (by rw [if_pos e]), List.filter_cons_of_pos e, filterMap_if p h L]; rfl
    · rw [List.filterMap_cons_none (by rw [if_neg e]), List.filter_cons_of_neg e, filterMap_if p h L]
/-- some items give one -/
theorem eLc_filter {α : Type} {it : I} {g : G} {t : Tst} {e : E} {vs : List Nat} {loc : Loc} (L : List α) (enc : α → Val) (p : α → Bool) (h : α → D) (hi : it loc = ret (L.map enc)) (hl : L.length ≤ lim)
    (hb : ∀ x ∈ L, cBody g t e (wip loc vs) (enc x) = ret (if p x = true then some (.d (h x)) else none)) : eLc it g t e vs loc = ret (.d (.list ((L.filter p).map h))) := by
  have := List.length_filter_le p L
  unfold eLc
  rw [hi, bd_ret, if_pos (by rw [List.length_map]; exact hl), compL_pure enc (fun x => if p x = true then some (.d (h x)) else none) L hb, noex_ret, bd_ret, filterMap_if p (fun x => Val.d (h x)), bLst_map h (L.filter p) (by omega)]
/-! ### bools and ints within data -/
theorem toBs_map {α : Type} (h : α → Bool) : ∀ L : List α, toBs (L.map fun p => .bool (h p)) = some (L.map h)
  | [] => rfl
  | p :: L => by
    show (toBs (L.map fun p => .bool (h p))).map (h p :: ·) = _
    rw [toBs_map h L]
    rfl
theorem toIs_map {α : Type} (h : α → Int) : ∀ L : List α, toIs (L.map fun p => .int (h p)) = some (L.map h)
  | [] => rfl
  | p :: L => by
    show (toIs (L.map fun p => .int (h p))).map (h p :: ·) = _
    rw [toIs_map h L]
    rfl
theorem bAll_map {α : Type} (h : α → Bool) (L : List α) : bAll [.d (.list (L.map fun p => .bool (h p)))] = ret (.d (.bool (L.all h))) := by
  show bd (oget (toBs (L.map fun p => .bool (h p)))) (fun bs => ret (vB (bs.all id))) = _
  rw [toBs_map]
  show ret (vB ((L.map h).all id)) = _
  rw [List.all_map]
  rfl
theorem bAny_map {α : Type} (h : α → Bool) (L : List α) : bAny [.d (.list (L.map fun p => .bool (h p)))] = ret (.d (.bool (L.any h))) := by
  show bd (oget (toBs (L.map fun p => .bool (h p)))) (fun bs => ret (vB (bs.any id))) = _
  rw [toBs_map]
  show ret (vB ((L.map h).any id)) = _
  rw [List.any_map]
  rfl
/-! ### tuples of ints, moves -/
def tI (a : List Int) : D := .tuple (intsD a)
abbrev Mv := List Int × List Int
def eMv (m : Mv) : D := .tuple [tI m.1, tI m.2]
def eMs (ms : List Mv) : D := .tuple (ms.map eMv)
theorem zip2_ints : ∀ a b : List Int, zip2 (intsD a) (intsD b) = (a.zip b).map fun p => Val.d (.tuple [.int p.1, .int p.2])
  | [], b => by simp [intsD, zip2]
  | _ :: _, [] => by simp [intsD, zip2]
  | x :: a, y :: b => by
    show Val.d (.tuple [.int x, .int y]) :: zip2 (intsD a) (intsD b) = _
    rw [zip2_ints a b]
    rfl
theorem zip3_ints : ∀ a b c : List Int, zip3 (intsD a) (intsD b) (intsD c) = (a.zip (b.zip c)).map fun p => Val.d (.tuple [.int p.1, .int p.2.1, .int p.2.2])
  | [], b, c => by simp [intsD, zip3]
  | _ :: _, [], c => by simp [intsD, zip3]
  | _ :: _, _ :: _, [] => by simp [intsD, zip3]
  | x :: a, y :: b, z :: c => by
    show Val.d (.tuple [.int x, .int y, .int z]) :: zip3 (intsD a) (intsD b) (intsD c) = _
    rw [zip3_ints a b c]
    rfl
@[simp] theorem intsD_len (a : List Int) : (intsD a).length = a.length := by unfold intsD; rw [List.length_map]
/-! ### loops whose body leaves the store and goes on -/
theorem forL_fold {α σ : Type} {body : Val → S} (enc : α → Val) (env : σ → Loc) (f : σ → α → σ) : ∀ (L : List α) (s : σ), (∀ p ∈ L, ∀ s, body (enc p) (env s) = ret (.nx, env (f s p))) → forL body (L.map enc) (env s) = ret (.nx, env (L.foldl f s))
  | [], s, _ => rfl
  | p :: L, s, h => by
    show bd (body (enc p) (env s)) _ = _
    rw [h p List.mem_cons_self s]
    exact forL_fold enc env f L (f s p) fun q hq s => h q (List.mem_cons_of_mem _ hq) s
end Y
end
section
set_option Elab.async false
set_option linter.all false
set_option maxRecDepth 10000
set_option exponentiation.threshold 5000
namespace Y
open PySem (PyData Str)
/-! ### data without dicts, of sizes that stay small -/
mutual
def cl : D → Bool
  | .dict _ => false
  | .tuple ds => clA ds && decide (ds.length ≤ lim)
  | .list ds => clA ds && decide (ds.length ≤ lim)
  | _ => true
def clA : List D → Bool
  | [] => true
  | x :: xs => cl x && clA xs
end
theorem clA_iff : ∀ ds : List D, clA ds = true ↔ ∀ x ∈ ds, cl x = true
  | [] => by simp [clA]
  | x :: xs => by simp [clA, clA_iff xs]
theorem cl_tup {ds : List D} (h : cl (.tuple ds) = true) : (∀ x ∈ ds, cl x = true) ∧ ds.length ≤ lim := by
  simp [cl, clA_iff] at h
  exact h
theorem cl_ints (a : List Int) (h : a.length ≤ lim) : cl (tI a) = true := by
  simp [tI, cl, clA_iff, h, intsD]
/-! ### wholes -/
def whB (lo hi : Int) : D → Bool
  | .int i => decide (lo ≤ i) && decide (i ≤ hi)
  | _ => false
theorem r_is_whole {x : D} (h : cl x = true) (lo hi : Int) : f_is_whole [.d x, .d (.int lo), .d (.int hi)] = ret (.d (.bool (whB lo hi x))) := by
  cases x with
  | dict _ => simp [cl] at h
  | int i =>
    by_cases h1 : lo ≤ i <;> simp [f_is_whole, b_is_whole, runF_eq, whB, h1]
  | _ => simp [f_is_whole, b_is_whole, runF_eq, whB]
def awB (n : Nat) (hi : Int) : D → Bool
  | .tuple ds => decide (ds.length = n) && ds.all (whB 0 hi)
  | _ => false
theorem r_are_whole {x : D} (h : cl x = true) (n : Nat) (hi : Int) : f_are_whole [.d x, .d (.int n), .d (.int hi)] = ret (.d (.bool (awB n hi x))) := by
  cases x with
  | dict _ => simp [cl] at h
  | tuple ds =>
    obtain ⟨h1, h2⟩ := cl_tup h
    have e : are_whole_C1 [some (Val.d (PyData.tuple ds)), some (Val.d (PyData.int n)), some (Val.d (PyData.int hi)), none] = ret (.d (.list (ds.map fun x => .bool (whB 0 hi x)))) :=
      eLc_map ds .d _ (by simp) h2 fun p hp => by
        simp [r_is_whole (h1 p hp)]
    by_cases hn : ds.length = n
    · simp [f_are_whole, b_are_whole, runF_eq, awB, hn, e, bAll_map]
    · have : ¬ ((ds.length : Int) = (n : Int)) := by omega
      simp [f_are_whole, b_are_whole, runF_eq, awB, hn, this]
  | _ => simp [f_are_whole, b_are_whole, runF_eq, awB]
def mvB (h : Nat) : D → Bool
  | .tuple ds => decide (ds.length = 2) && ds.all (awB h 9)
  | _ => false
theorem r_is_move {x : D} (h : cl x = true) (n : Nat) : f_is_move [.d x, .d (.int n)] = ret (.d (.bool (mvB n x))) := by
  cases x with
  | dict _ => simp [cl] at h
  | tuple ds =>
    obtain ⟨h1, h2⟩ := cl_tup h
    have e : is_move_C1 [some (Val.d (PyData.tuple ds)), some (Val.d (PyData.int n)), none] = ret (.d (.list (ds.map fun x => .bool (awB n 9 x)))) :=
      eLc_map ds .d _ (by simp) h2 fun p hp => by
        simp [r_are_whole (h1 p hp)]
    by_cases hn : ds.length = 2
    · simp [f_is_move, b_is_move, runF_eq, mvB, hn, e, bAll_map]
    · have : ¬ ((ds.length : Int) = 2) := by omega
      simp [f_is_move, b_is_move, runF_eq, mvB, hn, this]
  | _ => simp [f_is_move, b_is_move, runF_eq, mvB]
def hiB : D → Nat
  | .tuple [.tuple xs, _] => xs.length
  | _ => 0
theorem atI_zero {α : Type} (x : α) (r : List α) : atI (x :: r) 0 = some x := by
  unfold atI ixN
  rw [if_pos (by decide), if_pos (by simp)]
  rfl
theorem atI_one {α : Type} (x y : α) (r : List α) : atI (x :: y :: r) 1 = some y := by
  unfold atI ixN
  rw [if_pos (by decide), if_pos (by simp; omega)]
  rfl
theorem r_heaps_in {x : D} (h : cl x = true) : f_heaps_in [.d x] = ret (.d (.int (hiB x))) := by
  cases x with
  | dict _ => simp [cl] at h
  | tuple ds =>
    obtain ⟨h1, h2⟩ := cl_tup h
    match ds with
    | [] => simp [f_heaps_in, b_heaps_in, runF_eq, hiB]
    | [a] => simp [f_heaps_in, b_heaps_in, runF_eq, hiB]
    | [a, b] =>
      have ha : cl a = true := h1 a (by simp)
      cases a with
      | dict _ => simp [cl] at ha
      | _ => simp [f_heaps_in, b_heaps_in, runF_eq, hiB, atI_zero]
    | a :: b :: c :: r =>
      have : ¬ ((r.length : Int) + 1 + 1 + 1 = 2) := by omega
      simp [f_heaps_in, b_heaps_in, runF_eq, hiB, this]
  | _ => simp [f_heaps_in, b_heaps_in, runF_eq, hiB]
def msB : D → Bool
  | .tuple [] => false
  | .tuple (x :: r) => decide (r.length ≤ 5) && (decide (1 ≤ hiB x) && decide (hiB x ≤ 4) && (x :: r).all (mvB (hiB x)))
  | _ => false
theorem r_is_moves {x : D} (h : cl x = true) : f_is_moves [.d x] = ret (.d (.bool (msB x))) := by
  cases x with
  | dict _ => simp [cl] at h
  | tuple ds =>
    obtain ⟨h1, h2⟩ := cl_tup h
    cases ds with
    | nil => simp [f_is_moves, b_is_moves, runF_eq, msB]
    | cons a r =>
      by_cases hr : r.length ≤ 5
      · have c1 : (1 : Int) ≤ (r.length : Int) + 1 := by omega
        have c2 : (r.length : Int) + 1 ≤ 6 := by omega
        have e : is_moves_C1 [some (Val.d (PyData.tuple (a :: r))), some (Val.d (PyData.int (hiB a))), none] = ret (.d (.list ((a :: r).map fun x => .bool (mvB (hiB a) x)))) :=
          eLc_map (a :: r) .d _ (by simp) h2 fun p hp => by
            simp [r_is_move (h1 p hp)]
        have ha := r_heaps_in (h1 a (by simp))
        by_cases g1 : (1 : Int) ≤ (hiB a : Int)
        · by_cases g2 : (hiB a : Int) ≤ 4
          · have g1' : 1 ≤ hiB a := by omega
            have g2' : hiB a ≤ 4 := by omega
            have ea := bAll_map (mvB (hiB a)) (a :: r)
            simp only [List.map_cons] at e ea
            simp [f_is_moves, b_is_moves, runF_eq, msB, hr, c1, c2, atI_zero, ha, e, ea, g1, g2, g1', g2']
          · have g2' : ¬ hiB a ≤ 4 := by omega
            simp [f_is_moves, b_is_moves, runF_eq, msB, hr, c1, c2, atI_zero, ha, g1, g2, g2']
        · have g1' : ¬ 1 ≤ hiB a := by omega
          simp [f_is_moves, b_is_moves, runF_eq, msB, hr, c1, c2, atI_zero, ha, g1, g1']
      · have c1 : (1 : Int) ≤ (r.length : Int) + 1 := by omega
        have c2 : ¬ ((r.length : Int) + 1 ≤ 6) := by omega
        simp [f_is_moves, b_is_moves, runF_eq, msB, hr, c1, c2]
  | _ => simp [f_is_moves, b_is_moves, runF_eq, msB]
theorem r_need_moves {x : D} (h : cl x = true) : f_need_moves [.d x] = if msB x = true then ret (.d .none) else thr 1 := by
  by_cases hm : msB x = true <;> simp [f_need_moves, b_need_moves, runF_eq, r_is_moves h, hm]
/-! ### moves as they are -/
structure WF (ms : List Mv) (h : Nat) : Prop where
  n1 : 1 ≤ ms.length
  n6 : ms.length ≤ 6
  h1 : 1 ≤ h
  h4 : h ≤ 4
  l1 : ∀ m ∈ ms, m.1.length = h
  l2 : ∀ m ∈ ms, m.2.length = h
  b1 : ∀ m ∈ ms, ∀ x ∈ m.1, 0 ≤ x ∧ x ≤ 9
  b2 : ∀ m ∈ ms, ∀ x ∈ m.2, 0 ≤ x ∧ x ≤ 9
theorem lim_eq : lim = 100000 := rfl
theorem cl_mv {m : Mv} (h1 : m.1.length ≤ lim) (h2 : m.2.length ≤ lim) : cl (eMv m) = true := by
  simp [eMv, cl, clA, lim]
  exact ⟨cl_ints _ h1, cl_ints _ h2⟩
theorem WF.cl {ms : List Mv} {h : Nat} (w : WF ms h) : cl (eMs ms) = true := by
  have := w.n6
  have := w.h4
  simp only [eMs, Y.cl, Bool.and_eq_true, clA_iff, decide_eq_true_eq, List.length_map]
  refine ⟨fun x hx => ?_, by rw [lim_eq]; omega⟩
  obtain ⟨m, hm, rfl⟩ := List.mem_map.mp hx
  exact cl_mv (by rw [w.l1 m hm, lim_eq]; omega) (by rw [w.l2 m hm, lim_eq]; omega)
theorem aw_ints {a : List Int} {h : Nat} {hi : Int} : awB h hi (tI a) = (decide (a.length = h) && a.all fun x => decide (0 ≤ x) && decide (x ≤ hi)) := by
  simp [awB, tI, intsD, List.all_map]
  rfl
theorem mv_eMv {m : Mv} {h : Nat} (h1 : m.1.length = h) (h2 : m.2.length = h) (b1 : ∀ x ∈ m.1, 0 ≤ x ∧ x ≤ 9) (b2 : ∀ x ∈ m.2, 0 ≤ x ∧ x ≤ 9) : mvB h (eMv m) = true := by
  simp only [mvB, eMv, List.length_cons, List.length_nil, List.all_cons, List.all_nil, aw_ints, h1, h2]
  simp
  exact ⟨b1, b2⟩
theorem hi_eMv (m : Mv) : hiB (eMv m) = m.1.length := by
  show (intsD m.1).length = _
  simp
theorem WF.ms {ms : List Mv} {h : Nat} (w : WF ms h) : msB (eMs ms) = true := by
  cases ms with
  | nil => have := w.n1; simp at this
  | cons m r =>
    have hh : hiB (eMv m) = h := by rw [hi_eMv, w.l1 m (by simp)]
    have e : eMs (m :: r) = .tuple (eMv m :: r.map eMv) := rfl
    rw [e]
    have n6 := w.n6
    simp only [List.length_cons] at n6
    simp only [msB, hh, Bool.and_eq_true, decide_eq_true_eq, List.length_map, List.all_eq_true]
    refine ⟨by omega, ⟨w.h1, w.h4⟩, fun x hx => ?_⟩
    have : x ∈ (m :: r).map eMv := by simpa using hx
    obtain ⟨y, hy, rfl⟩ := List.mem_map.mp this
    exact mv_eMv (w.l1 y hy) (w.l2 y hy) (w.b1 y hy) (w.b2 y hy)
theorem WF.need {ms : List Mv} {h : Nat} (w : WF ms h) : f_need_moves [.d (eMs ms)] = ret (.d .none) := by
  rw [r_need_moves w.cl, if_pos w.ms]
theorem atI_nat {α : Type} {xs : List α} {i : Int} {j : Nat} {x : α} (hi : i = (j : Int)) (h : xs[j]? = some x) : atI xs i = some x := by
  have hj : j < xs.length := (List.getElem?_eq_some_iff.mp h).1
  unfold atI ixN
  rw [if_pos (by omega), if_pos (by omega), hi]
  simpa using h

theorem WF.heaps {ms : List Mv} {h : Nat} (w : WF ms h) : f_heaps_of [.d (eMs ms)] = ret (.d (.int h)) := by
  cases ms with
  | nil => have := w.n1; simp at this
  | cons m r =>
    have hh := w.l1 m (by simp)
    simp [f_heaps_of, b_heaps_of, runF_eq, eMs, atI_zero, eMv, tI, hh]

def chg (m : Mv) : List Int := (m.1.zip m.2).map fun p => p.2 - p.1
theorem intsD_map {α : Type} (f : α → Int) (L : List α) : intsD (L.map f) = L.map fun p => .int (f p) := by
  simp [intsD]
theorem r_change (m : Mv) (h : m.1.length ≤ lim) : f_change [.d (eMv m)] = ret (.d (tI (chg m))) := by
  have e : change_C1 [some (Val.d (eMv m)), none, none] = ret (.d (.list (intsD (chg m)))) := by
    rw [chg, intsD_map]
    refine eLc_map (m.1.zip m.2) (fun p => Val.d (.tuple [.int p.1, .int p.2])) _ ?_ (by rw [List.length_zip]; omega) fun p hp => ?_
    · simp [eMv, atI_zero, atI_one, tI, zip2_ints]
    · simp
  simp [f_change, b_change, runF_eq, e]
  rfl

theorem r_is_good_standing {ms : List Mv} {h : Nat} (w : WF ms h) {x : D} (hx : cl x = true) : f_is_good_standing [.d (eMs ms), .d x] = ret (.d (.bool (awB h 9999 x))) := by
  simp [f_is_good_standing, b_is_good_standing, runF_eq, w.heaps, r_are_whole hx]
theorem r_need_standing {ms : List Mv} {h : Nat} (w : WF ms h) {x : D} (hx : cl x = true) : f_need_standing [.d (eMs ms), .d x] = if awB h 9999 x = true then ret (.d .none) else thr 2 := by
  by_cases hm : awB h 9999 x = true <;> simp [f_need_standing, b_need_standing, runF_eq, r_is_good_standing w hx, hm]
/-- a standing -/
structure St (h : Nat) (s : List Int) : Prop where
  l : s.length = h
  b : ∀ x ∈ s, 0 ≤ x ∧ x ≤ 9999
theorem WF.st {ms : List Mv} {h : Nat} (w : WF ms h) {s : List Int} (hs : St h s) : f_need_standing [.d (eMs ms), .d (tI s)] = ret (.d .none) := by
  have := w.h4
  rw [r_need_standing w (cl_ints s (by rw [hs.l, lim_eq]; omega)), if_pos]
  rw [aw_ints]
  simp [hs.l]
  exact hs.b

def ovB (a b : List Int) : Bool := (a.zip b).all fun p => decide (p.2 ≤ p.1)

def addL (a b : List Int) : List Int := (a.zip b).map fun p => p.1 + p.2

def mxL (f n g : List Int) : List Int := (f.zip (n.zip g)).map fun p => if p.2.1 - p.2.2 > p.1 then p.2.1 - p.2.2 else p.1
theorem mxL_len {f n g : List Int} (h1 : f.length = n.length) (h2 : n.length = g.length) : (mxL f n g).length = f.length := by
  unfold mxL
  rw [List.length_map, List.length_zip, List.length_zip]
  omega

theorem r_is_over (a b : List Int) (h : a.length ≤ lim) : f_is_over [.d (tI a), .d (tI b)] = ret (.d (.bool (ovB a b))) := by
  have e : is_over_C1 [some (Val.d (tI a)), some (Val.d (tI b)), none, none] = ret (.d (.list ((a.zip b).map fun p => .bool (decide (p.2 ≤ p.1))))) := by
    refine eLc_map (a.zip b) (fun p => Val.d (.tuple [.int p.1, .int p.2])) _ ?_ (by rw [List.length_zip]; omega) fun p hp => ?_
    · simp [tI, zip2_ints]
    · simp
  simp [f_is_over, b_is_over, runF_eq, e, bAll_map, ovB]

theorem r_added (a b : List Int) (h : a.length ≤ lim) : f_added [.d (tI a), .d (tI b)] = ret (.d (tI (addL a b))) := by
  have e : added_C1 [some (Val.d (tI a)), some (Val.d (tI b)), none, none] = ret (.d (.list (intsD (addL a b)))) := by
    rw [addL, intsD_map]
    refine eLc_map (a.zip b) (fun p => Val.d (.tuple [.int p.1, .int p.2])) _ ?_ (by rw [List.length_zip]; omega) fun p hp => ?_
    · simp [tI, zip2_ints]
    · simp
  simp [f_added, b_added, runF_eq, e]
  rfl

theorem addL_len {a b : List Int} (h : a.length = b.length) : (addL a b).length = a.length := by
  unfold addL
  rw [List.length_map, List.length_zip]
  omega
theorem chg_len {m : Mv} (h : m.1.length = m.2.length) : (chg m).length = m.1.length := by
  unfold chg
  rw [List.length_map, List.length_zip]
  omega

theorem WF.at {ms : List Mv} {h : Nat} (w : WF ms h) {i : Nat} (hi : i < ms.length) : ∃ m, ms[i]? = some m ∧ m.1.length = h ∧ m.2.length = h ∧ (∀ x ∈ m.1, 0 ≤ x ∧ x ≤ 9) ∧ ∀ x ∈ m.2, 0 ≤ x ∧ x ≤ 9 :=
  have hm := List.getElem_mem hi
  ⟨ms[i], List.getElem?_eq_getElem hi, w.l1 _ hm, w.l2 _ hm, w.b1 _ hm, w.b2 _ hm⟩
theorem ix_ms {ms : List Mv} {i : Nat} {m : Mv} (h : ms[i]? = some m) : bIx (.d (eMs ms)) (.d (.int (i : Int))) = ret (.d (eMv m)) := by
  have e : atI (ms.map eMv) (i : Int) = some (eMv m) := atI_nat rfl (by rw [List.getElem?_map, h]; rfl)
  show bd (oget (atI (ms.map eMv) (i : Int))) _ = _
  rw [e]
  rfl
theorem ix_mv0 (m : Mv) : bIx (.d (eMv m)) (.d (.int 0)) = ret (.d (tI m.1)) := by simp [eMv, atI_zero]
theorem ix_mv1 (m : Mv) : bIx (.d (eMv m)) (.d (.int 1)) = ret (.d (tI m.2)) := by simp [eMv, atI_one]

def dO (c j : Int) : Ob := .lst [.d (.int c), .d (.int j)]
/-- the k-th object is a dice -/
def DS (k : Nat) (st : Store) : Prop := ∃ c j, st[k]? = some (dO c j)
/-- of what stood there the dice alone changed -/
def Dc (k : Nat) (st st' : Store) : Prop := st.length ≤ st'.length ∧ DS k st' ∧ ∀ i, i < st.length → i ≠ k → st'[i]? = st[i]?
theorem DS.lt {k : Nat} {st : Store} (h : DS k st) : k < st.length := by
  obtain ⟨c, j, e⟩ := h
  exact (List.getElem?_eq_some_iff.mp e).1
theorem Dc.ds {k : Nat} {st st' : Store} (h : Dc k st st') (d : DS k st) : DS k st' := h.2.1
theorem Dc.trans {k : Nat} {st st' st'' : Store} (h : Dc k st st') (h' : Dc k st' st'') : Dc k st st'' := ⟨Nat.le_trans h.1 h'.1, h'.2.1, fun i hi hk => by rw [h'.2.2 i (Nat.lt_of_lt_of_le hi h.1) hk, h.2.2 i hi hk]⟩
theorem Dc.refl {k : Nat} {st : Store} (d : DS k st) : Dc k st st := ⟨Nat.le_refl _, d, fun _ _ _ => rfl⟩
theorem Dc.set {k : Nat} {st : Store} (d : DS k st) (c j : Int) : Dc k st (st.set k (dO c j)) := ⟨by rw [List.length_set]; exact Nat.le_refl _, ⟨c, j, List.getElem?_set_self d.lt⟩, fun i _ hk => List.getElem?_set_ne (Ne.symm hk)⟩
theorem Dc.app {k : Nat} {st : Store} (d : DS k st) (xs : List Ob) : Dc k st (st ++ xs) := ⟨by simp, by
  obtain ⟨c, j, e⟩ := d
  exact ⟨c, j, by rw [List.getElem?_append_left (List.getElem?_eq_some_iff.mp e).1]; exact e⟩, fun i hi _ => List.getElem?_append_left hi⟩
theorem Dc.other {k i : Nat} {st st' : Store} (h : Dc k st st') (hi : k ≠ i) (hl : i < st.length) : st'[i]? = st[i]? := h.2.2 i hl (Ne.symm hi)
/-! ### one draw -/
theorem bIx_o {k : Nat} {i : Int} {st : Store} {xs : List Val} {v : Val} (h : st[k]? = some (.lst xs)) (e : atI xs i = some v) : bIx (.o k) (.d (.int i)) st = .ok v st := by
  show (match st[k]? with | some (.lst xs) => (bd (oget (atI xs i)) ret) st | _ => .bad) = _
  rw [h]
  dsimp only
  rw [e]
  rfl
theorem pow18 : bPow (.d (.int 10)) (.d (.int 18)) = ret (.d (.int 1000000000000000000)) := by
  show (if (0 : Int) ≤ 18 ∧ (18 : Int) ≤ 1000000 ∧ (10 : Int).natAbs < 2 ^ 64 then ret (vI (10 ^ (18 : Int).toNat)) else die) = _
  rw [if_pos (by decide)]
  rfl
theorem mulOk_r {i j : Int} (h : j.natAbs < 2 ^ 64) : mulOk i j = true := by
  unfold mulOk
  rw [decide_eq_true h]
  simp
theorem mulOk_b {i j : Int} (h : i.natAbs < 2 ^ 400) (h' : j.natAbs < 2 ^ 400) : mulOk i j = true := by
  unfold mulOk
  have a : i.natAbs.log2 ≤ 400 := by
    by_cases e : i.natAbs = 0
    · rw [e]; decide
    · have := (Nat.log2_lt e).mpr h
      omega
  have b : j.natAbs.log2 ≤ 400 := by
    by_cases e : j.natAbs = 0
    · rw [e]; decide
    · have := (Nat.log2_lt e).mpr h'
      omega
  rw [decide_eq_true (show i.natAbs.log2 + j.natAbs.log2 < 1000000 by omega)]
  simp
theorem drawn_ex (c j : Int) : ∃ x : Int, f_law_drawn [.d (.int c), .d (.int j)] = ret (.d (.int x)) ∧ 0 ≤ x := by
  have m1 : mulOk c 6364136223846793005 = true := mulOk_r (by decide)
  have m2 : mulOk (j + 1) 1442695040888963407 = true := mulOk_r (by decide)
  generalize hp : (340282366920938463463374607431768211507 : Int) = P
  generalize hq : (340282366920938463463374607431768211297 : Int) = Q
  generalize hr : (18446744073709551557 : Int) = Rr
  have p0 : 0 < P := by omega
  have q0 : 0 < Q := by omega
  have r0 : 0 < Rr := by omega
  have dv : Rr.natAbs.log2 < 9000 := by rw [← hr]; decide
  generalize hx : (c * 6364136223846793005 + (j + 1) * 1442695040888963407) % P = x
  have x0 : 0 ≤ x := by rw [← hx]; exact Int.emod_nonneg _ (by omega)
  have x1 : x < P := by rw [← hx]; exact Int.emod_lt_of_pos _ p0
  have bP : P < 2 ^ 129 := by rw [← hp]; decide
  have bQ : Q < 2 ^ 129 := by rw [← hq]; decide
  have bR : Rr < 2 ^ 129 := by rw [← hr]; decide
  have big : (2 : Int) ^ 129 ≤ 2 ^ 400 := by decide
  have m3 : mulOk x x = true := mulOk_b (by omega) (by omega)
  generalize hy : (x * x) % Q = y
  have y0 : 0 ≤ y := by rw [← hy]; exact Int.emod_nonneg _ (by omega)
  have y1 : y < Q := by rw [← hy]; exact Int.emod_lt_of_pos _ q0
  generalize ha : y % Rr + 1 = a
  generalize hb : y / Rr + 1 = b
  have a0 : 0 ≤ a ∧ a ≤ Rr := by
    have := Int.emod_nonneg y (show Rr ≠ 0 by omega)
    have := Int.emod_lt_of_pos y r0
    omega
  have b0 : 0 ≤ b ∧ b ≤ y + 1 := by
    have h1 := Int.ediv_nonneg y0 (show 0 ≤ Rr by omega)
    have h2 := Int.ediv_le_self Rr y0
    omega
  have m4 : mulOk a b = true := mulOk_b (by omega) (by omega)
  have ab : a * b ≤ 2 ^ 130 * 2 ^ 130 := by
    refine Int.le_trans (Int.mul_le_mul_of_nonneg_left (show b ≤ 2 ^ 130 by omega) a0.1) (Int.mul_le_mul_of_nonneg_right (show a ≤ 2 ^ 130 by omega) (by decide))
  have ab0 : 0 ≤ a * b := Int.mul_nonneg a0.1 b0.1
  have big2 : (2 : Int) ^ 130 * 2 ^ 130 < 2 ^ 400 := by decide
  have m5 : mulOk (a * b) y = true := mulOk_b (by omega) (by omega)
  refine ⟨(a * b * y) % P, ?_, Int.emod_nonneg _ (by omega)⟩
  simp [f_law_drawn, b_law_drawn, runF_eq, hp, hq, hr, m1, m2, p0, hx, m3, q0, hy, r0, dv, ha, hb, m4, m5]
theorem gSub_o {k : Nat} {i : Int} {j : Nat} {st : Store} {xs : List Val} {v : Val} {loc : Loc} {o e : E} (ho : o loc = ret (.o k)) (he : e loc = ret (.d (.int i))) (h : st[k]? = some (.lst xs)) (hj : ixN xs.length i = some j) : gSub o e v loc st = .ok loc (st.set k (.lst (xs.set j v))) := by
  show (bd (o loc) fun x => bd (e loc) fun y => match x, y with
    | .o k, .d (.int j) => fun st => match st[k]? with
      | some (.lst xs) => (match ixN xs.length j with
        | some m => .ok loc (st.set k (.lst (xs.set m v)))
        | none => .bad)
      | _ => .bad
    | _, _ => die) st = _
  rw [ho, he, bd_ret, bd_ret]
  dsimp only
  rw [h]
  dsimp only
  rw [hj]
theorem roll_ex {k : Nat} {st : Store} (d : DS k st) {many : Int} (h0 : 0 < many) (h1 : many ≤ 1000000) : ∃ r st', f_law_roll [.o k, .d (.int many)] st = .ok (.d (.int r)) st' ∧ 0 ≤ r ∧ r < many ∧ Dc k st st' := by
  obtain ⟨c, j, e⟩ := d
  have hk : k < st.length := (List.getElem?_eq_some_iff.mp e).1
  have lg : many.natAbs.log2 < 9000 := by
    by_cases z : many.natAbs = 0
    · rw [z]; decide
    · have : many.natAbs < 2 ^ 21 := by omega
      have := (Nat.log2_lt z).mpr this
      omega
  have i0 : ∀ {st : Store} {c j : Int}, st[k]? = some (dO c j) → bIx (.o k) (.d (.int 0)) st = .ok (.d (.int c)) st := fun h => bIx_o h (atI_zero _ _)
  have i1 : ∀ {st : Store} {c j : Int}, st[k]? = some (dO c j) → bIx (.o k) (.d (.int 1)) st = .ok (.d (.int j)) st := fun h => bIx_o h (atI_one _ _ _)
  by_cases hc : (1000000000000000000 : Int) ≤ c
  · refine ⟨c % many, st.set k (dO (c / many) j), ?_, Int.emod_nonneg _ (by omega), Int.emod_lt_of_pos _ h0, Dc.set ⟨c, j, e⟩ _ _⟩
    simp only [f_law_roll, b_law_roll, runF_eq]
    simp [pow18, h0, lg]
    rw [bd_eq (i0 e)]
    simp [hc]
    rw [bd_eq (i0 e)]
    simp [h0]
    rw [bd_eq (i0 e)]
    simp [h0, lg]
    rw [bd_eq (gSub_o (k := k) (i := 0) (j := 0) (xs := [.d (.int c), .d (.int j)]) (by simp) (by simp) e rfl)]
    rfl
  · have e' : (st.set k (dO c (j + 1)))[k]? = some (dO c (j + 1)) := List.getElem?_set_self hk
    obtain ⟨x, hx, x0⟩ := drawn_ex c (j + 1)
    refine ⟨(x / 8) % many, st.set k (dO c (j + 1)), ?_, Int.emod_nonneg _ (by omega), Int.emod_lt_of_pos _ h0, Dc.set ⟨c, j, e⟩ _ _⟩
    simp only [f_law_roll, b_law_roll, runF_eq]
    simp [pow18, h0, lg]
    rw [bd_eq (i0 e)]
    simp [hc]
    rw [bd_eq (i1 e)]
    simp
    rw [bd_eq (gSub_o (k := k) (i := 1) (j := 1) (xs := [.d (.int c), .d (.int j)]) (by simp) (by simp) e rfl)]
    simp
    show bd _ _ (List.set st k (dO c (j + 1))) = _
    rw [bd_eq (i0 e')]
    rw [bd_eq (i1 e')]
    rw [hx]
    have l8 : Nat.log2 8 < 9000 := by decide
    simp [h0, l8]
/-! ### comprehensions that draw -/
theorem compL_st {α β : Type} {k : Nat} {body : Val → M (Option Val)} (enc : α → Val) (dec : β → D) (P : β → Prop) : ∀ (L : List α) (st : Store), DS k st → (∀ p ∈ L, ∀ st, DS k st → ∃ (y : β) (st' : Store), body (enc p) st = .ok (some (.d (dec y))) st' ∧ P y ∧ Dc k st st') →
    ∃ (ys : List β) (st' : Store), compL body (L.map enc) st = .ok (ys.map fun y => .d (dec y)) st' ∧ ys.length = L.length ∧ (∀ y ∈ ys, P y) ∧ Dc k st st'
  | [], st, d, _ => ⟨[], st, rfl, rfl, (fun _ h => nomatch h), Dc.refl d⟩
  | p :: L, st, d, hp => by
    obtain ⟨y, st1, e1, p1, d1⟩ := hp p List.mem_cons_self st d
    obtain ⟨ys, st2, e2, l2, p2, d2⟩ := compL_st enc dec P L st1 (d1.ds d) fun q hq => hp q (List.mem_cons_of_mem _ hq)
    refine ⟨y :: ys, st2, ?_, by simp [l2], fun z hz => ?_, d1.trans d2⟩
    · show bd (body (enc p)) _ st = _
      rw [bd_eq e1, bd_eq e2]
      rfl
    · rcases List.mem_cons.mp hz with rfl | h
      · exact p1
      · exact p2 z h
theorem eLc_st {α β : Type} {k : Nat} {it : I} {g : G} {t : Tst} {e : E} {vs : List Nat} {loc : Loc} {st st0 : Store} (L : List α) (enc : α → Val) (dec : β → D) (P : β → Prop) (hi : it loc st = .ok (L.map enc) st0) (hl : L.length ≤ lim) (d : DS k st0)
    (hb : ∀ p ∈ L, ∀ st, DS k st → ∃ (y : β) (st' : Store), cBody g t e (wip loc vs) (enc p) st = .ok (some (.d (dec y))) st' ∧ P y ∧ Dc k st st') :
    ∃ (ys : List β) (st' : Store), eLc it g t e vs loc st = .ok (.d (.list (ys.map dec))) st' ∧ ys.length = L.length ∧ (∀ y ∈ ys, P y) ∧ Dc k st0 st' := by
  obtain ⟨ys, st', e1, l1, p1, d1⟩ := compL_st (k := k) enc dec P L st0 d hb
  refine ⟨ys, st', ?_, l1, p1, d1⟩
  unfold eLc
  rw [bd_eq hi, if_pos (by rw [List.length_map]; exact hl), bd_eq (noex_eq e1), bLst_map dec ys (by rw [l1]; exact hl)]
  rfl
theorem rng_eq (lo : Int) (n : Nat) : rng lo n = (List.range n).map fun (i : Nat) => Val.d (.int (lo + (i : Int))) := rfl
theorem kRg1_nat {z : Int} {n : Nat} (e : z = (n : Int)) (h : n ≤ 1000) : kRg1 [.d (.int z)] = ret ((List.range n).map fun (i : Nat) => Val.d (.int (0 + (i : Int)))) := by
  subst e
  rw [kRg1_eq, if_pos (by omega), Int.toNat_natCast]
  rfl
theorem five {a b c d e : Int} {r : Int} (h0 : 0 ≤ r) (h1 : r < 5) : ∃ x, atI [PyData.int a, .int b, .int c, .int d, .int e] r = some (.int x) ∧ (x = a ∨ x = b ∨ x = c ∨ x = d ∨ x = e) := by
  have : r = 0 ∨ r = 1 ∨ r = 2 ∨ r = 3 ∨ r = 4 := by omega
  rcases this with rfl | rfl | rfl | rfl | rfl
  · exact ⟨a, rfl, by simp⟩
  · exact ⟨b, rfl, by simp⟩
  · exact ⟨c, rfl, by simp⟩
  · exact ⟨d, rfl, by simp⟩
  · exact ⟨e, rfl, by simp⟩
theorem ints_map (ys : List Int) : ys.map PyData.int = intsD ys := rfl

theorem any_move_ex {k : Nat} {st : Store} (d : DS k st) {h : Nat} (hh : h ≤ 4) : ∃ m st', f_law_any_move [.o k, .d (.int h)] st = .ok (.d (eMv m)) st' ∧ m.1.length = h ∧ m.2.length = h ∧ (∀ x ∈ m.1, 0 ≤ x ∧ x ≤ 2) ∧ (∀ x ∈ m.2, 0 ≤ x ∧ x ≤ 2) ∧ Dc k st st' := by
  have hr : ∀ {st : Store} {x : Option Val}, iCall kRg1 (aC (eV 1) aN) [some (.o k), some (.d (.int h)), x, none] st = .ok ((List.range h).map fun (i : Nat) => Val.d (.int (0 + (i : Int)))) st := fun {st x} => by
    have e := kRg1_nat (z := (h : Int)) rfl (by omega)
    simp only [iCall_eq, aC_eq, eV_succ, eV_zero, aN_eq, bd_ret, e, ret_ap]
  obtain ⟨n1, st1, e1, l1, p1, d1⟩ := eLc_st (k := k) (g := gN 3) (t := tTr) (e := eO bIx (eB bLst (aC (eC (.int 0)) (aC (eC (.int 0)) (aC (eC (.int 1)) (aC (eC (.int 1)) (aC (eC (.int 2)) aN)))))) (eB (fixN 2 f_law_roll) (aC (eV 0) (aC (eC (.int 5)) aN)))) (vs := [3]) (List.range h) (fun (i : Nat) => Val.d (.int (0 + (i : Int)))) PyData.int (fun x => 0 ≤ x ∧ x ≤ 2) (hr (st := st) (x := none)) (by rw [List.length_range, lim_eq]; omega) d (fun p hp st d => by
    obtain ⟨r, st', er, r0, r1, dr⟩ := roll_ex d (many := 5) (by decide) (by decide)
    obtain ⟨x, ex, hx⟩ := five (a := 0) (b := 0) (c := 1) (d := 1) (e := 2) r0 r1
    refine ⟨x, st', ?_, by omega, dr⟩
    simp
    rw [bd_eq er]
    simp [ex])
  obtain ⟨n2, st2, e2, l2, p2, d2⟩ := eLc_st (k := k) (g := gN 3) (t := tTr) (e := eO bIx (eB bLst (aC (eC (.int 0)) (aC (eC (.int 0)) (aC (eC (.int 0)) (aC (eC (.int 1)) (aC (eC (.int 2)) aN)))))) (eB (fixN 2 f_law_roll) (aC (eV 0) (aC (eC (.int 5)) aN)))) (vs := [3]) (List.range h) (fun (i : Nat) => Val.d (.int (0 + (i : Int)))) PyData.int (fun x => 0 ≤ x ∧ x ≤ 2) (hr (st := st1) (x := some (.d (tI n1)))) (by rw [List.length_range, lim_eq]; omega) (d1.ds d) (fun p hp st d => by
    obtain ⟨r, st', er, r0, r1, dr⟩ := roll_ex d (many := 5) (by decide) (by decide)
    obtain ⟨x, ex, hx⟩ := five (a := 0) (b := 0) (c := 0) (d := 1) (e := 2) r0 r1
    refine ⟨x, st', ?_, by omega, dr⟩
    simp
    rw [bd_eq er]
    simp [ex])
  refine ⟨(n1, n2), st2, ?_, by simpa using l1, by simpa using l2, p1, p2, d1.trans d2⟩
  simp only [f_law_any_move, b_law_any_move, runF_eq]
  simp [law_any_move_C1_eq, law_any_move_C2_eq]
  rw [bd_eq e1]
  simp
  rw [ints_map]
  rw [show PyData.tuple (intsD n1) = tI n1 from rfl, bd_eq e2]
  simp
  rfl
theorem any_move_ex' {k : Nat} {st : Store} (d : DS k st) {h : Nat} (hh : h ≤ 4) {z : Int} (hz : z = (h : Int)) : ∃ m st', f_law_any_move [.o k, .d (.int z)] st = .ok (.d (eMv m)) st' ∧ (m.1.length = h ∧ m.2.length = h ∧ (∀ x ∈ m.1, 0 ≤ x ∧ x ≤ 2) ∧ (∀ x ∈ m.2, 0 ≤ x ∧ x ≤ 2)) ∧ Dc k st st' := by
  subst hz
  obtain ⟨m, st', em, a1, a2, a3, a4, dm⟩ := any_move_ex d hh
  exact ⟨m, st', em, ⟨a1, a2, a3, a4⟩, dm⟩
theorem any_moves_ex {k : Nat} {st : Store} (d : DS k st) {high : Nat} (h0 : 1 ≤ high) (h6 : high ≤ 6) : ∃ ms h st', f_law_any_moves [.o k, .d (.int high)] st = .ok (.d (eMs ms)) st' ∧ WF ms h ∧ h ≤ 3 ∧ ms.length ≤ high ∧ (∀ m ∈ ms, (∀ x ∈ m.1, 0 ≤ x ∧ x ≤ 2) ∧ ∀ x ∈ m.2, 0 ≤ x ∧ x ≤ 2) ∧ Dc k st st' := by
  obtain ⟨r, st1, e1, r0, r1, d1⟩ := roll_ex d (many := 3) (by decide) (by decide)
  obtain ⟨q, st2, e2, q0, q1, d2⟩ := roll_ex (d1.ds d) (many := high) (by omega) (by omega)
  obtain ⟨n, rfl⟩ : ∃ n : Nat, q = (n : Int) := ⟨q.toNat, by omega⟩
  obtain ⟨h, hz⟩ : ∃ h : Nat, 1 + r = (h : Int) := ⟨(1 + r).toNat, by omega⟩
  have h4 : h ≤ 4 := by omega
  generalize hz' : 1 + r = z at hz
  have hi : iCall kRg1 (aC (eO bAdd (eC (.int 1)) (eB (fixN 2 f_law_roll) (aC (eV 0) (aC (eV 1) aN)))) aN) [some (.o k), some (.d (.int high)), some (.d (.int z)), none] st1 = .ok ((List.range (n + 1)).map fun (i : Nat) => Val.d (.int (0 + (i : Int)))) st2 := by
    have e := kRg1_nat (z := 1 + (n : Int)) (n := n + 1) (by omega) (by omega)
    simp only [iCall_eq, aC_eq, eO_eq, eC_eq, eB_eq, eV_succ, eV_zero, aN_eq, bd_ret, bd_bd, fix2]
    rw [bd_eq e2]
    simp only [bAdd_int, bd_ret, e, ret_ap]
  obtain ⟨ms, st3, e3, l3, p3, d3⟩ := eLc_st (k := k) (g := gN 3) (t := tTr) (e := eB (fixN 2 f_law_any_move) (aC (eV 0) (aC (eV 2) aN))) (vs := [3]) (List.range (n + 1)) (fun (i : Nat) => Val.d (.int (0 + (i : Int)))) eMv (fun m => m.1.length = h ∧ m.2.length = h ∧ (∀ x ∈ m.1, 0 ≤ x ∧ x ≤ 2) ∧ ∀ x ∈ m.2, 0 ≤ x ∧ x ≤ 2) hi (by rw [List.length_range, lim_eq]; omega) (d2.ds (d1.ds d)) (fun p hp st d => by
    obtain ⟨m, st', em, a1, dm⟩ := any_move_ex' d h4 hz
    refine ⟨m, st', ?_, a1, dm⟩
    simp only [cBody_eq, wip_cons, wip_nil, gN_eq, bd_ret, tTr_eq, eB_eq, aC_eq, aN_eq, eV_zero, eV_succ, List.set_cons_succ, List.set_cons_zero, if_true, bd_bd, fix2]
    rw [bd_eq em]
    rfl)
  have ln : ms.length = n + 1 := by simpa using l3
  refine ⟨ms, h, st3, ?_, ⟨by omega, by omega, by omega, by omega, fun m hm => (p3 m hm).1, fun m hm => (p3 m hm).2.1, fun m hm x hx => ?_, fun m hm x hx => ?_⟩, by omega, by omega, fun m hm => ⟨(p3 m hm).2.2.1, (p3 m hm).2.2.2⟩, d1.trans (d2.trans d3)⟩
  · simp only [f_law_any_moves, b_law_any_moves, runF_eq]
    simp
    rw [bd_eq e1]
    simp [law_any_moves_C1_eq, hz']
    rw [bd_eq e3]
    simp
    rfl
  · have := (p3 m hm).2.2.1 x hx
    omega
  · have := (p3 m hm).2.2.2 x hx
    omega

theorem any_standing_ex {k : Nat} {st : Store} (d : DS k st) {ms : List Mv} {h : Nat} (w : WF ms h) {high : Nat} (hh : high ≤ 9998) : ∃ s st', f_law_any_standing [.o k, .d (eMs ms), .d (.int high)] st = .ok (.d (tI s)) st' ∧ s.length = h ∧ (∀ x ∈ s, 0 ≤ x ∧ x ≤ (high : Int)) ∧ Dc k st st' := by
  obtain ⟨m, hm, l1, l2, _, _⟩ := w.at (i := 0) (by have := w.n1; omega)
  have h4 := w.h4
  have i0 := ix_ms hm
  have hi : iSeq (eO bIx (eO bIx (eV 1) (eC (.int 0))) (eC (.int 0))) [some (.o k), some (.d (eMs ms)), some (.d (.int high)), none] st = .ok (m.1.map fun i => Val.d (.int i)) st := by
    have i0' : bIx (.d (eMs ms)) (.d (.int 0)) = ret (.d (eMv m)) := i0
    simp [i0', ix_mv0]
    simp [tI, intsD]
  obtain ⟨s, st3, e3, l3, p3, d3⟩ := eLc_st (k := k) (g := gN 3) (t := tTr) (e := eB (fixN 2 f_law_roll) (aC (eV 0) (aC (eO bAdd (eV 2) (eC (.int 1))) aN))) (vs := [3]) m.1 (fun i => Val.d (.int i)) PyData.int (fun x => 0 ≤ x ∧ x ≤ (high : Int)) hi (by rw [l1, lim_eq]; omega) d (fun p hp st d => by
    obtain ⟨r, st', er, r0, r1, dr⟩ := roll_ex d (many := (high : Int) + 1) (by omega) (by omega)
    refine ⟨r, st', ?_, by omega, dr⟩
    simp
    rw [bd_eq er]
    simp)
  refine ⟨s, st3, ?_, by rw [l3, l1], p3, d3⟩
  simp only [f_law_any_standing, b_law_any_standing, runF_eq]
  simp [law_any_standing_C1_eq]
  rw [bd_eq e3]
  simp
  rfl

/-! ### the law's own look at two standings -/
theorem shaped_ints (a : List Int) : PySem.SeqAt.shaped (.list (intsD a)) = true := by
  have h1 : ∀ a : List Int, PyData.canLayAll0 (intsD a) = true := fun a => by
    induction a with
    | nil => rfl
    | cons x a ih => simpa [intsD, PyData.canLayAll0, PyData.canLay0] using ih
  have h2 : ∀ a : List Int, PyData.depthAll (intsD a) ≤ 1 := fun a => by
    induction a with
    | nil => simp [intsD, PyData.depthAll]
    | cons x a ih => simpa [intsD, PyData.depthAll, PyData.depth] using ih
  have := h2 a
  simp [PySem.SeqAt.shaped, PyData.canLay0, h1 a, PyData.depth]
  omega

theorem cell_ex (ns : List Int) (hl : ns.length ≤ 1000) (k : Nat) : ∃ c : Int, f_law_cell [.s ns, .d (.int (k : Int))] = ret (.d (.int c)) := by
  have e0 : bEq (.s ns) (.d (.list [])) = ret (.d (.bool ns.isEmpty)) := by
    show bd (eqD (.list (intsD ns)) (.list [])) (fun r => ret (vB r)) = _
    rw [eqD_eq (shaped_ints ns) (show PySem.SeqAt.shaped (.list []) = true from shaped_ints [])]
    cases ns <;> rfl
  cases ns with
  | nil =>
    refine ⟨(k : Int) * 7919, ?_⟩
    have m : mulOk (k : Int) 7919 = true := mulOk_r (by decide)
    simp [f_law_cell, b_law_cell, runF_eq, e0, m]
  | cons a r =>
    have hp : (0 : Int) < ((a :: r).length : Int) := by simp only [List.length_cons]; omega
    have lg : ((a :: r).length : Int).natAbs.log2 < 9000 := by
      have : ((a :: r).length : Int).natAbs ≠ 0 := by omega
      have h2 : ((a :: r).length : Int).natAbs < 2 ^ 11 := by omega
      have := (Nat.log2_lt this).mpr h2
      omega
    generalize hL : ((a :: r).length : Int) = L at hp lg
    have hm0 := Int.emod_nonneg (k : Int) (show L ≠ 0 by omega)
    have hm1 := Int.emod_lt_of_pos (k : Int) hp
    obtain ⟨j, hj⟩ : ∃ j : Nat, (k : Int) % L = (j : Int) := ⟨((k : Int) % L).toNat, by omega⟩
    have hj' : j < (a :: r).length := by omega
    have ex : bIx (.s (a :: r)) (.d (.int (j : Int))) = ret (.d (.int (a :: r)[j])) := by
      have : atI (a :: r) (j : Int) = some (a :: r)[j] := atI_nat rfl (List.getElem?_eq_getElem hj')
      show bd (oget (atI (a :: r) (j : Int))) _ = _
      rw [this]; rfl
    have el : bLen [.s (a :: r)] = ret (.d (.int L)) := by rw [← hL]; rfl
    have m : mulOk ((k : Int) / L) 104729 = true := mulOk_r (by decide)
    refine ⟨(a :: r)[j] + (k : Int) / L * 104729, ?_⟩
    simp only [f_law_cell, b_law_cell, runF_eq]
    simp [e0, el, hp, lg, hj, ex, m, -bLen_s]
theorem rounds_comp {e : E} {vs : List Nat} {loc : Loc} (hb : ∀ (i : Nat) (st : Store), ∃ c : Int, cBody (gN 2) tTr e loc (.d (.int (0 + (i : Int)))) st = .ok (some (.o st.length)) (st ++ [dO c 0])) : ∀ (L : List Nat) (st : Store), ∃ cs : List Int,
    compL (cBody (gN 2) tTr e loc) (L.map fun (i : Nat) => Val.d (.int (0 + (i : Int)))) st = .ok ((List.range L.length).map fun i => Val.o (st.length + i)) (st ++ cs.map fun c => dO c 0) ∧ cs.length = L.length
  | [], st => ⟨[], by simp [compL], rfl⟩
  | p :: L, st => by
    obtain ⟨c, e1⟩ := hb p st
    obtain ⟨cs, e2, l2⟩ := rounds_comp (vs := vs) hb L (st ++ [dO c 0])
    refine ⟨c :: cs, ?_, by simp [l2]⟩
    show bd (cBody (gN 2) tTr e loc (.d (.int (0 + (p : Int))))) _ st = _
    rw [bd_eq e1, bd_eq e2]
    show R.ok (Val.o st.length :: (List.range L.length).map fun i => Val.o ((st ++ [dO c 0]).length + i)) ((st ++ [dO c 0]) ++ cs.map fun c => dO c 0) = _
    rw [List.length_cons, List.range_succ_eq_map, List.map_cons, List.map_map, List.append_assoc]
    congr 1
    simp
    intro i _
    omega
theorem rounds_ex (ns : List Int) (hl : ns.length ≤ 1000) (high : Nat) (hh : high ≤ 1000) : ∃ (n : Nat) (st : Store), f_law_rounds [.s ns, .d (.int (high : Int))] [] = .ok (.o n) st ∧ st[n]? = some (.lst ((List.range n).map .o)) ∧ ∀ i < n, DS i st := by
  obtain ⟨n, hn⟩ : ∃ n : Nat, (if (if (ns.length : Int) < (high : Int) then (ns.length : Int) else (high : Int)) > 1 then (if (ns.length : Int) < (high : Int) then (ns.length : Int) else (high : Int)) else 1) = (n : Int) := ⟨Int.toNat _, (Int.toNat_of_nonneg (by repeat' split <;> omega)).symm⟩
  have hn' : n ≤ 1000 := by
    revert hn
    repeat' split <;> omega
  have hi : iCall kRg1 (aC (eB bMax2 (aC (eC (.int 1)) (aC (eB bMin2 (aC (eV 1) (aC (eB bLen (aC (eV 0) aN)) aN))) aN))) aN) [some (.s ns), some (.d (.int high)), none] = ret ((List.range n).map fun (i : Nat) => Val.d (.int (0 + (i : Int)))) := by
    have e := kRg1_nat hn hn'
    simp only [iCall_eq, aC_eq, eB_eq, eC_eq, eV_zero, eV_succ, aN_eq, bd_ret, bd_bd, bLen_s, bMin2_eq, bMax2_eq, e]
  obtain ⟨cs, e2, l2⟩ := rounds_comp (vs := [2]) (loc := [some (.s ns), some (.d (.int high)), none]) (e := eB bNew (aC (eB (fixN 2 f_law_cell) (aC (eV 0) (aC (eV 2) aN))) (aC (eC (.int 0)) aN))) (fun i st => by
    obtain ⟨c, hc⟩ := cell_ex ns hl i
    refine ⟨c, ?_⟩
    have hz : (0 : Int) + (i : Int) = (i : Int) := by omega
    rw [hz]
    simp only [cBody_eq, gN_eq, bd_ret, tTr_eq, eB_eq, aC_eq, aN_eq, eC_eq, eV_zero, eV_succ, List.set_cons_succ, List.set_cons_zero, if_true, bd_bd, fix2, hc]
    rw [bd_eq (show bNew [.d (.int c), .d (.int 0)] st = .ok (.o st.length) (st ++ [dO c 0]) from rfl)]
    rfl) (List.range n) []
  simp only [List.length_range] at e2 l2
  refine ⟨n, (cs.map fun c => dO c 0) ++ [.lst ((List.range n).map .o)], ?_, ?_, fun i hi => ?_⟩
  · simp only [f_law_rounds, b_law_rounds, runF_eq]
    simp only [List.map_cons, List.map_nil, List.length_cons, List.length_nil, List.replicate, List.cons_append, List.nil_append, sRet_eq, law_rounds_C1_eq, bd_bd, bd_ret]
    have ew : eLcN (iCall kRg1 (aC (eB bMax2 (aC (eC (.int 1)) (aC (eB bMin2 (aC (eV 1) (aC (eB bLen (aC (eV 0) aN)) aN))) aN))) aN)) (gN 2) tTr (eB bNew (aC (eB (fixN 2 f_law_cell) (aC (eV 0) (aC (eV 2) aN))) (aC (eC (.int 0)) aN))) [2] [some (.s ns), some (.d (.int high)), none] [] = .ok (.o n) ((cs.map fun c => dO c 0) ++ [.lst ((List.range n).map .o)]) := by
      unfold eLcN
      rw [hi, bd_ret, if_pos (by rw [List.length_map, List.length_range, lim_eq]; omega)]
      have : wip [some (Val.s ns), some (.d (.int high)), none] [2] = [some (Val.s ns), some (.d (.int high)), none] := rfl
      rw [this, bd_eq (noex_eq e2)]
      unfold bNew
      rw [if_pos (by rw [List.length_map, List.length_range, lim_eq]; omega)]
      simp [l2]
    rw [bd_eq ew]
    rfl
  · rw [List.getElem?_append_right (by rw [List.length_map]; omega), List.length_map, l2]
    simp
  · have hi' : i < cs.length := by omega
    refine ⟨cs[i], 0, ?_⟩
    rw [List.getElem?_append_left (by rw [List.length_map]; omega), List.getElem?_map, List.getElem?_eq_getElem hi']
    rfl
/-! ### loops that keep something -/
theorem forL_inv {body : Val → S} (P : Loc → Store → Prop) : ∀ (xs : List Val) (loc : Loc) (st : Store), P loc st → (∀ v ∈ xs, ∀ loc st, P loc st → ∃ loc' st', body v loc st = .ok (.nx, loc') st' ∧ P loc' st') → ∃ loc' st', forL body xs loc st = .ok (.nx, loc') st' ∧ P loc' st'
  | [], loc, st, p, _ => ⟨loc, st, rfl, p⟩
  | x :: xs, loc, st, p, h => by
    obtain ⟨l1, s1, e1, p1⟩ := h x List.mem_cons_self loc st p
    obtain ⟨l2, s2, e2, p2⟩ := forL_inv P xs l1 s1 p1 fun v hv => h v (List.mem_cons_of_mem _ hv)
    refine ⟨l2, s2, ?_, p2⟩
    show bd (body x loc) _ st = _
    rw [bd_eq e1]
    exact e2
theorem forO_inv {k : Nat} {xs0 : List Val} {body : Val → S} (P : Loc → Store → Prop) (hk : ∀ loc st, P loc st → st[k]? = some (.lst xs0)) : ∀ (xs : List Val) (loc : Loc) (st : Store), P loc st → (∀ v ∈ xs, ∀ loc st, P loc st → ∃ loc' st', body v loc st = .ok (.nx, loc') st' ∧ P loc' st') → ∃ loc' st', forO k xs0 body xs loc st = .ok (.nx, loc') st' ∧ P loc' st'
  | [], loc, st, p, _ => ⟨loc, st, by unfold forO; rw [if_pos (hk _ _ p)], p⟩
  | x :: xs, loc, st, p, h => by
    obtain ⟨l1, s1, e1, p1⟩ := h x List.mem_cons_self loc st p
    obtain ⟨l2, s2, e2, p2⟩ := forO_inv P hk xs l1 s1 p1 fun v hv => h v (List.mem_cons_of_mem _ hv)
    refine ⟨l2, s2, ?_, p2⟩
    unfold forO
    rw [if_pos (hk _ _ p), bd_eq e1]
    exact e2
theorem getL_o {k : Nat} {st : Store} {xs : List Val} (h : st[k]? = some (.lst xs)) : getL (.o k) st = .ok (k, xs) st := by
  show (match st[k]? with | some (.lst xs) => R.ok (k, xs) st | _ => .bad) = _
  rw [h]
/-- the frame of a law: one round for each dice -/
theorem law_frame {ns : List Int} {B : S} {G1 : G} {high : Nat} {m : Nat} (hl : ns.length ≤ 1000) (hh : high ≤ 1000) (P : Loc → Prop) (p0 : P (some (.s ns) :: List.replicate m none))
    (hB : ∀ (i : Nat) (loc : Loc) (st : Store), P loc → DS i st → ∃ loc' st', fBody G1 B (.o i) loc st = .ok (.nx, loc') st' ∧ P loc' ∧ Dc i st st') :
    ∃ st', runF (m + 1) (sSeq (sForO (eB (fixN 2 f_law_rounds) (aC (eV 0) (aC (eC (.int (high : Int))) aN))) G1 B) (sRet (eC (.bool true)))) [.s ns] [] = .ok (.d (.bool true)) st' := by
  obtain ⟨n, st, e1, hk, hd⟩ := rounds_ex ns hl high hh
  obtain ⟨loc', st', e2, _⟩ := forO_inv (k := n) (xs0 := (List.range n).map .o) (body := fBody G1 B) (fun loc st => P loc ∧ st[n]? = some (.lst ((List.range n).map .o)) ∧ ∀ i < n, DS i st) (fun _ _ p => p.2.1) ((List.range n).map .o) (some (.s ns) :: List.replicate m none) st ⟨p0, hk, hd⟩ (fun v hv loc st p => by
    obtain ⟨i, hi, rfl⟩ := List.mem_map.mp hv
    have hi' : i < n := List.mem_range.mp hi
    obtain ⟨loc', st', e, p', d⟩ := hB i loc st p.1 (p.2.2 i hi')
    refine ⟨loc', st', e, p', ?_, fun j hj => ?_⟩
    · rw [d.other (by omega) (List.getElem?_eq_some_iff.mp p.2.1).1]; exact p.2.1
    · by_cases hij : i = j
      · subst hij; exact d.ds (p.2.2 i hi')
      · obtain ⟨c, k, e⟩ := p.2.2 j hj
        exact ⟨c, k, by rw [d.other hij (List.getElem?_eq_some_iff.mp e).1]; exact e⟩)
  refine ⟨st', ?_⟩
  rw [runF_eq]
  have el : List.map some [Val.s ns] ++ List.replicate (m + 1 - [Val.s ns].length) none = some (.s ns) :: List.replicate m none := rfl
  rw [el, sSeq_eq, bd_bd]
  have es : sForO (eB (fixN 2 f_law_rounds) (aC (eV 0) (aC (eC (.int (high : Int))) aN))) G1 B (some (.s ns) :: List.replicate m none) [] = .ok (.nx, loc') st' := by
    unfold sForO
    simp only [eB_eq, aC_eq, eV_zero, eC_eq, aN_eq, bd_ret, bd_bd, fix2]
    rw [bd_eq e1, bd_eq (getL_o hk)]
    exact e2
  rw [bd_eq es]
  rfl

/-! ### lists of ints heap by heap -/
def gt (a : List Int) (i : Nat) : Int := a.getD i 0
theorem gt_cons0 (x : Int) (a : List Int) : gt (x :: a) 0 = x := rfl
theorem gt_consS (x : Int) (a : List Int) (i : Nat) : gt (x :: a) (i + 1) = gt a i := rfl
theorem gt_nil (i : Nat) : gt [] i = 0 := rfl
theorem gt_mem {a : List Int} {i : Nat} (h : i < a.length) : gt a i ∈ a := by
  unfold gt
  rw [List.getD_eq_getElem?_getD, List.getElem?_eq_getElem h]
  exact List.getElem_mem h
theorem gt_out {a : List Int} {i : Nat} (h : a.length ≤ i) : gt a i = 0 := by
  unfold gt
  rw [List.getD_eq_getElem?_getD, List.getElem?_eq_none h]
  rfl
theorem gt_mem' {a : List Int} {x : Int} (h : x ∈ a) : ∃ i, i < a.length ∧ gt a i = x := by
  obtain ⟨i, hi, e⟩ := List.mem_iff_getElem.mp h
  refine ⟨i, hi, ?_⟩
  unfold gt
  rw [List.getD_eq_getElem?_getD, List.getElem?_eq_getElem hi]
  exact e
theorem gt_ext : ∀ {a b : List Int}, a.length = b.length → (∀ i, gt a i = gt b i) → a = b
  | [], [], _, _ => rfl
  | x :: a, y :: b, hl, h => by
    have e0 : x = y := h 0
    have e1 : a = b := gt_ext (by simpa using hl) fun i => h (i + 1)
    rw [e0, e1]
theorem ovB_iff : ∀ {a b : List Int}, a.length = b.length → (ovB a b = true ↔ ∀ i, gt b i ≤ gt a i)
  | [], [], _ => by simp [ovB, gt]
  | x :: a, y :: b, hl => by
    have ih := ovB_iff (a := a) (b := b) (by simpa using hl)
    have e : ovB (x :: a) (y :: b) = (decide (y ≤ x) && ovB a b) := rfl
    rw [e, Bool.and_eq_true, decide_eq_true_eq, ih]
    constructor
    · rintro ⟨h0, h1⟩ (_ | i)
      · exact h0
      · exact h1 i
    · exact fun h => ⟨h 0, fun i => h (i + 1)⟩
theorem gt_add : ∀ {a b : List Int}, a.length = b.length → ∀ i, gt (addL a b) i = gt a i + gt b i
  | [], [], _, i => by simp [addL, gt]
  | x :: a, y :: b, hl, i => by
    have e : addL (x :: a) (y :: b) = (x + y) :: addL a b := rfl
    rw [e]
    cases i with
    | zero => rfl
    | succ i => exact gt_add (a := a) (b := b) (by simpa using hl) i
theorem gt_chg : ∀ {a b : List Int}, a.length = b.length → ∀ i, gt (chg (a, b)) i = gt b i - gt a i
  | [], [], _, i => by simp [chg, gt]
  | x :: a, y :: b, hl, i => by
    have e : chg (x :: a, y :: b) = (y - x) :: chg (a, b) := rfl
    rw [e]
    cases i with
    | zero => rfl
    | succ i => exact gt_chg (a := a) (b := b) (by simpa using hl) i
theorem gt_mx : ∀ {f n g : List Int}, f.length = n.length → n.length = g.length → ∀ i, gt (mxL f n g) i = max (gt f i) (gt n i - gt g i)
  | [], [], [], _, _, i => by simp [mxL, gt]
  | x :: a, y :: b, z :: c, hl, hl', i => by
    have e : mxL (x :: a) (y :: b) (z :: c) = (if y - z > x then y - z else x) :: mxL a b c := rfl
    rw [e]
    cases i with
    | zero =>
      rw [gt_cons0, gt_cons0, gt_cons0, gt_cons0]
      split <;> omega
    | succ i => exact gt_mx (f := a) (n := b) (g := c) (by simpa using hl) (by simpa using hl') i
theorem gt_rep (h i : Nat) : gt (List.replicate h 0) i = 0 := by
  unfold gt
  rw [List.getD_eq_getElem?_getD, List.getElem?_replicate]
  split <;> rfl
theorem add_assoc' {a b c : List Int} (h1 : a.length = b.length) (h2 : b.length = c.length) : addL (addL a b) c = addL a (addL b c) := by
  refine gt_ext ?_ fun i => ?_
  · rw [addL_len (by rw [addL_len h1]; omega), addL_len h1, addL_len (by rw [addL_len h2]; omega)]
  · rw [gt_add (by rw [addL_len h1]; omega), gt_add h1, gt_add (by rw [addL_len h2]; omega), gt_add h2]
    omega
theorem add_zero' {a : List Int} : addL a (List.replicate a.length 0) = a := by
  refine gt_ext (by rw [addL_len (by simp)]) fun i => ?_
  rw [gt_add (by simp), gt_rep]
  omega

/-! ### refusals told -/
theorem eTold_thr {cs : List Nat} {f : E} {loc : Loc} {c : Nat} (h : f loc = thr c) (hc : c ∈ cs) : eTold cs f loc = ret (.d (.tuple [.str "refused", .str (kindN c)])) := by
  funext st
  unfold eTold
  rw [h]
  show (if c ∈ cs then _ else _) = _
  rw [if_pos hc]
  rfl
theorem eTold_ret {cs : List Nat} {f : E} {loc : Loc} {v : Val} (h : f loc = ret v) : eTold cs f loc = ret v := by
  funext st
  unfold eTold
  rw [h]
  rfl
theorem ne_told {a b : Str} (h : PySem.SeqAt.shaped (.tuple [.str "refused", .str a]) = true) (h' : PySem.SeqAt.shaped (.tuple [.str "refused", .str b]) = true) (e : a = b) : bNe (.d (.tuple [.str "refused", .str a])) (.d (.tuple [.str "refused", .str b])) = ret (.d (.bool false)) := by
  subst e
  rw [bNe_d, eqD_eq h h']
  have : PyData.eqv (.tuple [.str "refused", .str a]) (.tuple [.str "refused", .str a]) = true := by
    simp [PyData.eqv, PyData.eqvAll]
  rw [this]
  rfl

/-! ### the law's own move -/
theorem app_last {o e : E} {loc : Loc} {st : Store} {xs : List Val} {v : Val} (ho : o loc = ret (.o st.length)) (he : e loc = ret v) (hl : xs.length < lim) : eApp o e loc (st ++ [.lst xs]) = .ok (.d .none) (st ++ [.lst (xs ++ [v])]) := by
  unfold eApp
  rw [ho, bd_ret]
  have g : (st ++ [Ob.lst xs])[st.length]? = some (.lst xs) := by simp
  have hc : chkL (.o st.length) (st ++ [.lst xs]) = .ok st.length (st ++ [.lst xs]) := by
    show (match (st ++ [Ob.lst xs])[st.length]? with | some (.lst _) => R.ok st.length (st ++ [Ob.lst xs]) | _ => .bad) = _
    rw [g]
  rw [bd_eq hc, he, bd_ret]
  unfold appS
  rw [g]
  dsimp only
  rw [if_pos hl]
  simp
def movF (s : List Int) (m : Mv) : Option (List Int) := if ovB s m.1 = true then some (addL s (chg m)) else none
theorem moved_loop (v0 v1 : Option Val) (st : Store) : ∀ (L : List (Int × Int × Int)) (acc : List Int) (x3 x4 x5 : Option Val), acc.length + L.length ≤ 1000 →
    ((L.all fun p => decide (p.2.1 ≤ p.1)) = true → ∃ y3 y4 y5, forL (fBody (gT 3 (gsC (gN 3) (gsC (gN 4) (gsC (gN 5) gsN)))) law_moved_L1) (L.map fun p => Val.d (.tuple [.int p.1, .int p.2.1, .int p.2.2])) [v0, v1, some (.o st.length), x3, x4, x5] (st ++ [.lst (acc.map fun i => .d (.int i))]) =
      .ok (.nx, [v0, v1, some (.o st.length), y3, y4, y5]) (st ++ [.lst ((acc ++ L.map fun p => p.1 - p.2.1 + p.2.2).map fun i => .d (.int i))])) ∧
    ((L.all fun p => decide (p.2.1 ≤ p.1)) = false → ∃ loc' xs, forL (fBody (gT 3 (gsC (gN 3) (gsC (gN 4) (gsC (gN 5) gsN)))) law_moved_L1) (L.map fun p => Val.d (.tuple [.int p.1, .int p.2.1, .int p.2.2])) [v0, v1, some (.o st.length), x3, x4, x5] (st ++ [.lst (acc.map fun i => .d (.int i))]) =
      .ok (.rt (.d .none), loc') (st ++ [.lst xs]))
  | [], acc, x3, x4, x5, _ => ⟨fun _ => ⟨x3, x4, x5, by simp [forL]⟩, fun h => by simp at h⟩
  | p :: L, acc, x3, x4, x5, hl => by
    have step : p.2.1 ≤ p.1 → fBody (gT 3 (gsC (gN 3) (gsC (gN 4) (gsC (gN 5) gsN)))) law_moved_L1 (.d (.tuple [.int p.1, .int p.2.1, .int p.2.2])) [v0, v1, some (.o st.length), x3, x4, x5] (st ++ [.lst (acc.map fun i => .d (.int i))]) =
        .ok (.nx, [v0, v1, some (.o st.length), some (.d (.int p.1)), some (.d (.int p.2.1)), some (.d (.int p.2.2))]) (st ++ [.lst ((acc ++ [p.1 - p.2.1 + p.2.2]).map fun i => .d (.int i))]) := fun hp => by
      have hn : ¬ (p.1 < p.2.1) := by omega
      have ha := app_last (o := eV 2) (e := eO bAdd (eO bSub (eV 3) (eV 4)) (eV 5)) (loc := [v0, v1, some (.o st.length), some (.d (.int p.1)), some (.d (.int p.2.1)), some (.d (.int p.2.2))]) (st := st) (xs := acc.map fun i => .d (.int i)) (v := .d (.int (p.1 - p.2.1 + p.2.2))) rfl rfl (by rw [List.length_map, lim_eq]; simp at hl; omega)
      simp [law_moved_L1_eq, hn, -eO_eq]
      simp only [eO_eq, eV_zero, eV_succ, bd_ret, bLt_int, asB_eq, hn, decide_false, Bool.false_eq_true, if_false, sNil_eq, sExp_eq]
      rw [bd_eq ha]
      simp
    have stop : ¬ p.2.1 ≤ p.1 → ∃ loc', fBody (gT 3 (gsC (gN 3) (gsC (gN 4) (gsC (gN 5) gsN)))) law_moved_L1 (.d (.tuple [.int p.1, .int p.2.1, .int p.2.2])) [v0, v1, some (.o st.length), x3, x4, x5] = ret (.rt (.d .none), loc') := fun hp => by
      have hn : p.1 < p.2.1 := by omega
      refine ⟨[v0, v1, some (.o st.length), some (.d (.int p.1)), some (.d (.int p.2.1)), some (.d (.int p.2.2))], ?_⟩
      simp [law_moved_L1_eq, hn]
    obtain ⟨ih1, ih2⟩ := moved_loop v0 v1 st L (acc ++ [p.1 - p.2.1 + p.2.2]) (some (.d (.int p.1))) (some (.d (.int p.2.1))) (some (.d (.int p.2.2))) (by simp at hl ⊢; omega)
    refine ⟨fun h => ?_, fun h => ?_⟩
    · rw [List.all_cons, Bool.and_eq_true, decide_eq_true_eq] at h
      obtain ⟨y3, y4, y5, e⟩ := ih1 h.2
      refine ⟨y3, y4, y5, ?_⟩
      show bd (fBody _ _ _ _) _ _ = _
      rw [bd_eq (step h.1)]
      show forL _ _ _ _ = _
      rw [e]
      simp
    · by_cases hp : p.2.1 ≤ p.1
      · rw [List.all_cons, decide_eq_true hp, Bool.true_and] at h
        obtain ⟨loc', xs, e⟩ := ih2 h
        refine ⟨loc', xs, ?_⟩
        show bd (fBody _ _ _ _) _ _ = _
        rw [bd_eq (step hp)]
        exact e
      · obtain ⟨loc', e⟩ := stop hp
        refine ⟨loc', acc.map fun i => .d (.int i), ?_⟩
        show bd (fBody _ _ _ _) _ _ = _
        rw [e, bd_ret]
        rfl
theorem mov_all : ∀ {s a b : List Int}, s.length = a.length → a.length = b.length → ((s.zip (a.zip b)).all fun p => decide (p.2.1 ≤ p.1)) = ovB s a ∧ ((s.zip (a.zip b)).map fun p => p.1 - p.2.1 + p.2.2) = addL s (chg (a, b))
  | [], [], [], _, _ => ⟨rfl, rfl⟩
  | x :: s, y :: a, z :: b, h1, h2 => by
    obtain ⟨i1, i2⟩ := mov_all (s := s) (a := a) (b := b) (by simpa using h1) (by simpa using h2)
    have e1 : ovB (x :: s) (y :: a) = (decide (y ≤ x) && ovB s a) := rfl
    have e2 : addL (x :: s) (chg (y :: a, z :: b)) = (x + (z - y)) :: addL s (chg (a, b)) := rfl
    rw [e1, e2, ← i1, ← i2]
    refine ⟨rfl, ?_⟩
    show (x - y + z) :: _ = _
    congr 1
    omega
theorem moved_ex {s : List Int} {m : Mv} {h : Nat} (hs : s.length = h) (h1 : m.1.length = h) (h2 : m.2.length = h) (h4 : h ≤ 1000) (st : Store) : ∃ xs, f_law_moved [.d (tI s), .d (eMv m)] st = .ok (match movF s m with | none => .d .none | some t => .d (tI t)) (st ++ [.lst xs]) := by
  obtain ⟨l1, l2⟩ := moved_loop (some (.d (tI s))) (some (.d (eMv m))) st (s.zip (m.1.zip m.2)) [] none none none (by rw [List.length_zip]; simp; omega)
  obtain ⟨m1, m2⟩ := mov_all (s := s) (a := m.1) (b := m.2) (by omega) (by omega)
  rw [m1, m2] at l1
  rw [m1] at l2
  have hz : kZip3 [.d (tI s), .d (tI m.1), .d (tI m.2)] = ret ((s.zip (m.1.zip m.2)).map fun p => Val.d (.tuple [.int p.1, .int p.2.1, .int p.2.2])) := by
    simp [tI, zip3_ints]
  have hn : bNew [] st = .ok (.o st.length) (st ++ [.lst []]) := rfl
  unfold movF
  by_cases ho : ovB s m.1 = true
  · obtain ⟨y3, y4, y5, e⟩ := l1 ho
    simp only [List.map_nil, List.nil_append] at e
    refine ⟨(addL s (chg (m.1, m.2))).map fun i => Val.d (.int i), ?_⟩
    simp only [f_law_moved, b_law_moved, runF_eq]
    simp [ix_mv0, ix_mv1, hz]
    rw [bd_eq hn]
    simp only [show ∀ s, seqOf (.d (tI s)) = ret (intsD s) from fun _ => rfl, bd_ret, zip3_ints]
    rw [bd_eq e]
    simp [ho]
    have g : (st ++ [Ob.lst ((addL s (chg (m.1, m.2))).map fun i => Val.d (.int i))])[st.length]? = some (.lst ((addL s (chg (m.1, m.2))).map fun i => Val.d (.int i))) := by simp
    have hb : bTuple [.o st.length] (st ++ [Ob.lst ((addL s (chg (m.1, m.2))).map fun i => Val.d (.int i))]) = .ok (.d (tI (addL s (chg m)))) (st ++ [Ob.lst ((addL s (chg (m.1, m.2))).map fun i => Val.d (.int i))]) := by
      show (match (st ++ [Ob.lst ((addL s (chg (m.1, m.2))).map fun i => Val.d (.int i))])[st.length]? with | some (.lst xs) => (match toDs xs with | some ds => R.ok (Val.d (.tuple ds)) (st ++ [Ob.lst ((addL s (chg (m.1, m.2))).map fun i => Val.d (.int i))]) | none => .bad) | _ => .bad) = _
      rw [g]
      dsimp only
      rw [toDs_map]
      rfl
    rw [bd_eq hb]
    rfl
  · obtain ⟨loc', xs, e⟩ := l2 (by simpa using ho)
    simp only [List.map_nil, List.nil_append] at e
    refine ⟨xs, ?_⟩
    simp only [f_law_moved, b_law_moved, runF_eq]
    simp [ix_mv0, ix_mv1, hz]
    rw [bd_eq hn]
    simp only [show ∀ s, seqOf (.d (tI s)) = ret (intsD s) from fun _ => rfl, bd_ret, zip3_ints]
    rw [bd_eq e]
    simp [ho]

end Y
end
section
set_option Elab.async false
set_option linter.all false
set_option maxRecDepth 10000
set_option exponentiation.threshold 5000
namespace Y
open PySem (PyData Str)
/-! ### like data -/
def Sh (n : Nat) (x : D) : Prop := x.canLay0 = true ∧ x.depth ≤ n
theorem Sh.int (i : Int) : Sh 1 (.int i) := ⟨rfl, by simp [PyData.depth]⟩
theorem Sh.none : Sh 1 .none := ⟨rfl, by simp [PyData.depth]⟩
theorem Sh.bool (b : Bool) : Sh 1 (.bool b) := ⟨rfl, by simp [PyData.depth]⟩
theorem Sh.mono {n m : Nat} {x : D} (h : Sh n x) (hl : n ≤ m) : Sh m x := ⟨h.1, Nat.le_trans h.2 hl⟩
theorem canAll : ∀ {ds : List D}, (∀ x ∈ ds, x.canLay0 = true) → PyData.canLayAll0 ds = true
  | [], _ => rfl
  | x :: r, h => by
    simp only [PyData.canLayAll0, Bool.and_eq_true]
    exact ⟨h x (by simp), canAll fun y hy => h y (by simp [hy])⟩
theorem depAll {n : Nat} : ∀ {ds : List D}, (∀ x ∈ ds, x.depth ≤ n) → PyData.depthAll ds ≤ n
  | [], _ => by simp [PyData.depthAll]
  | x :: r, h => by
    have a := h x (by simp)
    have b := depAll (ds := r) fun y hy => h y (by simp [hy])
    simp only [PyData.depthAll]
    omega
theorem Sh.list {n : Nat} {ds : List D} (h : ∀ x ∈ ds, Sh n x) : Sh (n + 1) (.list ds) := by
  refine ⟨?_, ?_⟩
  · simp only [PyData.canLay0]
    exact canAll fun x hx => (h x hx).1
  · have := depAll (n := n) fun x hx => (h x hx).2
    simp only [PyData.depth]
    omega
theorem Sh.tuple {n : Nat} {ds : List D} (h : ∀ x ∈ ds, Sh n x) : Sh (n + 1) (.tuple ds) := by
  refine ⟨?_, ?_⟩
  · simp only [PyData.canLay0]
    exact canAll fun x hx => (h x hx).1
  · have := depAll (n := n) fun x hx => (h x hx).2
    simp only [PyData.depth]
    omega
theorem Sh.tI (a : List Int) : Sh 2 (tI a) := Sh.tuple fun x hx => by
  obtain ⟨i, _, rfl⟩ := List.mem_map.mp hx
  exact Sh.int i
theorem Sh.lI (a : List Int) : Sh 2 (.list (intsD a)) := Sh.list fun x hx => by
  obtain ⟨i, _, rfl⟩ := List.mem_map.mp hx
  exact Sh.int i
theorem Sh.shaped {n : Nat} {x : D} (h : Sh n x) (hn : n ≤ 64) : PySem.SeqAt.shaped x = true := by
  simp only [PySem.SeqAt.shaped, Bool.and_eq_true, decide_eq_true_eq]
  exact ⟨h.1, Nat.le_trans h.2 hn⟩
mutual
theorem eqv_self : ∀ x : D, x.canLay0 = true → PyData.eqv x x = true
  | .none, _ => by simp [PyData.eqv]
  | .bool _, _ => by simp [PyData.eqv]
  | .int _, _ => by simp [PyData.eqv]
  | .str _, _ => by simp [PyData.eqv]
  | .list xs, h => by
    simp only [PyData.eqv]
    exact eqv_selfA xs (by simpa [PyData.canLay0] using h)
  | .tuple xs, h => by
    simp only [PyData.eqv]
    exact eqv_selfA xs (by simpa [PyData.canLay0] using h)
  | .dict _, h => by simp [PyData.canLay0] at h
theorem eqv_selfA : ∀ xs : List D, PyData.canLayAll0 xs = true → PyData.eqvAll xs xs = true
  | [], _ => by simp [PyData.eqvAll]
  | x :: r, h => by
    simp only [PyData.canLayAll0, Bool.and_eq_true] at h
    simp only [PyData.eqvAll, Bool.and_eq_true]
    exact ⟨eqv_self x h.1, eqv_selfA r h.2⟩
end
theorem eqD_self {n : Nat} {x : D} (h : Sh n x) (hn : n ≤ 64) : eqD x x = ret true := by
  rw [eqD_eq (h.shaped hn) (h.shaped hn), eqv_self x h.1]
theorem ne_self {n : Nat} {x : D} (h : Sh n x) (hn : n ≤ 64) : bNe (.d x) (.d x) = ret (.d (.bool false)) := by
  rw [bNe_d, eqD_self h hn]
  rfl
theorem eq_self {n : Nat} {x : D} (h : Sh n x) (hn : n ≤ 64) : bEq (.d x) (.d x) = ret (.d (.bool true)) := by
  rw [bEq_d, eqD_self h hn]
  rfl
def RfT (c : Nat) : D := .tuple [.str "refused", .str (kindN c)]
theorem Sh.rft {c : Nat} (h : PySem.SeqAt.shaped (RfT c) = true) : Sh 64 (RfT c) := by
  simp only [PySem.SeqAt.shaped, Bool.and_eq_true, decide_eq_true_eq] at h
  exact h

theorem toIs_ints (ns : List Int) : toIs (intsD ns) = some ns := by
  have := toIs_map (fun i : Int => i) ns
  rw [List.map_id'] at this
  exact this

def wtB : D → Bool
  | .int i => decide (0 ≤ i)
  | _ => false
def awtB (n : Nat) : D → Bool
  | .tuple ds => decide (ds.length = n) && ds.all wtB
  | _ => false

/-! ### counts, their sum -/
def sclL (k : Int) (a : List Int) : List Int := a.map fun x => k * x
theorem scl_len (k : Int) (a : List Int) : (sclL k a).length = a.length := by simp [sclL]
theorem gt_scl (k : Int) : ∀ (a : List Int) (i : Nat), gt (sclL k a) i = k * gt a i
  | [], i => by simp [sclL, gt]
  | x :: a, 0 => rfl
  | x :: a, i + 1 => gt_scl k a i
def totL (f : List Int) (L : List (Int × Mv)) : List Int := L.foldl (fun f p => addL f (sclL p.1 (chg p.2))) f
theorem tot_len {h : Nat} : ∀ (L : List (Int × Mv)) (f : List Int), f.length = h → (∀ p ∈ L, p.2.1.length = h ∧ p.2.2.length = h) → (totL f L).length = h
  | [], f, hf, _ => hf
  | p :: L, f, hf, hL => by
    obtain ⟨h1, h2⟩ := hL p (by simp)
    exact tot_len L _ (by rw [addL_len (by rw [scl_len, chg_len (by omega)]; omega), hf]) fun q hq => hL q (by simp [hq])
theorem tot_gt {h : Nat} (j : Nat) : ∀ (L : List (Int × Mv)) (f : List Int), f.length = h → (∀ p ∈ L, p.2.1.length = h ∧ p.2.2.length = h) → gt (totL f L) j = gt f j + (L.map fun p => p.1 * gt (chg p.2) j).sum
  | [], f, hf, _ => by simp [totL]
  | p :: L, f, hf, hL => by
    obtain ⟨h1, h2⟩ := hL p (by simp)
    have el : f.length = (sclL p.1 (chg p.2)).length := by rw [scl_len, chg_len (by omega)]; omega
    have := tot_gt j L (addL f (sclL p.1 (chg p.2))) (by rw [addL_len el, hf]) fun q hq => hL q (by simp [hq])
    show gt (totL (addL f (sclL p.1 (chg p.2))) L) j = _
    rw [this, gt_add el, gt_scl, List.map_cons, List.sum_cons]
    omega
theorem chg_sm {m : Mv} (b1 : ∀ x ∈ m.1, 0 ≤ x ∧ x ≤ 9) (b2 : ∀ x ∈ m.2, 0 ≤ x ∧ x ≤ 9) : ∀ x ∈ chg m, x.natAbs < 2 ^ 64 := by
  intro x hx
  obtain ⟨p, hp, rfl⟩ := List.mem_map.mp hx
  have q := List.of_mem_zip (a := p.1) (b := p.2) hp
  have := b1 _ q.1
  have := b2 _ q.2
  omega
theorem zip2_ch : ∀ (cs : List Int) (ms : List Mv), zip2 (intsD cs) (ms.map fun m => tI (chg m)) = (cs.zip ms).map fun p => Val.d (.tuple [.int p.1, tI (chg p.2)])
  | [], ms => by simp [intsD, zip2]
  | _ :: _, [] => by simp [intsD, zip2]
  | c :: cs, m :: ms => by
    show Val.d (.tuple [.int c, tI (chg m)]) :: zip2 (intsD cs) (ms.map fun m => tI (chg m)) = _
    rw [zip2_ch cs ms]
    rfl
theorem zip2_ms : ∀ (cs : List Int) (ms : List Mv), zip2 (intsD cs) (ms.map eMv) = (cs.zip ms).map fun p => Val.d (.tuple [.int p.1, eMv p.2])
  | [], ms => by simp [intsD, zip2]
  | _ :: _, [] => by simp [intsD, zip2]
  | c :: cs, m :: ms => by
    show Val.d (.tuple [.int c, eMv m]) :: zip2 (intsD cs) (ms.map eMv) = _
    rw [zip2_ms cs ms]
    rfl
theorem mul_zero1 {h : Nat} (h1 : 1 ≤ h) (h4 : h ≤ 100) : bMul (.d (.tuple [.int 0])) (.d (.int (h : Int))) = ret (.d (tI (List.replicate h 0))) := by
  rw [bMul_tup, if_pos ⟨by omega, by omega, by simp, by simp⟩]
  simp [repD, tI, intsD]
section
variable {ms : List Mv} {h : Nat} (w : WF ms h) {cs : List Int}
include w
theorem WF.zp : ∀ p ∈ cs.zip ms, p.2.1.length = h ∧ p.2.2.length = h ∧ ∀ x ∈ chg p.2, x.natAbs < 2 ^ 64 := fun p hp => by
  have q := (List.of_mem_zip (a := p.1) (b := p.2) hp).2
  exact ⟨w.l1 _ q, w.l2 _ q, chg_sm (w.b1 _ q) (w.b2 _ q)⟩
end

/-! ### weights -/
def wgt (a b : List Int) : Int := ((a.zip b).map fun p => p.1 * p.2).sum
def Sm (a : List Int) : Prop := ∀ x ∈ a, x.natAbs < 2 ^ 64
theorem sumS_ints (ns : List Int) : bSumS [.d (.list (intsD ns))] = ret (.d (.int ns.sum)) := by
  show bd (oget (toIs (intsD ns))) _ = _
  have : toIs (intsD ns) = some ns := by
    have := toIs_map (fun i : Int => i) ns
    rw [List.map_id'] at this
    exact this
  rw [this]
  rfl
theorem sumS_tup (ns : List Int) : bSumS [.d (tI ns)] = ret (.d (.int ns.sum)) := by
  show bd (oget (toIs (intsD ns))) _ = _
  have : toIs (intsD ns) = some ns := by
    have := toIs_map (fun i : Int => i) ns
    rw [List.map_id'] at this
    exact this
  rw [this]
  rfl
def lsF (ms : List Mv) (ws : List Int) : List Int := ms.map fun m => -(wgt ws (chg m))
section
variable {ms : List Mv} {h : Nat} (w : WF ms h)
def Wt (h : Nat) (ws : List Int) : Prop := ws.length = h ∧ ∀ x ∈ ws, 0 ≤ x
theorem Wt.aw {ws : List Int} (z : Wt h ws) : awtB h (tI ws) = true := by
  simp [awtB, tI, z.1]
  intro x hx
  obtain ⟨y, hy, rfl⟩ := List.mem_map.mp hx
  exact decide_eq_true (z.2 y hy)
def rgB (ms : List Mv) (ws : List Int) : Bool := (lsF ms ws).all fun x => decide (1 ≤ x)
theorem min_all {x : Int} {r : List Int} : decide (1 ≤ r.foldl min x) = ((x :: r).all fun y => decide (1 ≤ y)) := by
  obtain ⟨h1, h2⟩ := minI_spec r x
  rw [Bool.eq_iff_iff, decide_eq_true_eq, List.all_eq_true]
  constructor
  · intro z y hy
    have := h2 y hy
    exact decide_eq_true (by omega)
  · intro z
    exact of_decide_eq_true (z _ h1)
theorem minS_ints {x : Int} {r : List Int} : bMinS [.d (.list (intsD (x :: r)))] = ret (.d (.int (r.foldl min x))) := by
  show bd (oget (toIs (intsD (x :: r)))) _ = _
  have : toIs (intsD (x :: r)) = some (x :: r) := by
    have := toIs_map (fun i : Int => i) (x :: r)
    rw [List.map_id'] at this
    exact this
  rw [this]
  rfl
end

theorem WF.hlen0 {ms : List Mv} {h : Nat} (w : WF ms h) {loc : Loc} (h2 : eV 0 loc = ret (.d (eMs ms))) : eB bLen (aC (eO bIx (eO bIx (eV 0) (eC (.int 0))) (eC (.int 0))) aN) loc = ret (.d (.int (h : Int))) := by
  obtain ⟨m, hm, l1, _⟩ := w.at (i := 0) (by have := w.n1; omega)
  have i0 : bIx (.d (eMs ms)) (.d (.int 0)) = ret (.d (eMv m)) := ix_ms hm
  simp [h2, i0, ix_mv0]
  simp [tI, l1]

theorem set_mid {α : Type} (st : List α) (a b : α) (xs : List α) : (st ++ a :: xs).set st.length b = st ++ b :: xs := by
  induction st with
  | nil => rfl
  | cons x r ih => simp [ih]
theorem get_mid {α : Type} (st : List α) (a : α) (xs : List α) : (st ++ a :: xs)[st.length]? = some a := by simp

theorem bFrz_at {st : Store} {n : Nat} {ds : List D} (g : st[n]? = some (.lst (ds.map .d))) (hl : ds.length ≤ lim) : bFrz (.o n) st = .ok (.d (.list ds)) (st.set n .gone) := by
  show (match st[n]? with | some (.lst xs) => (match toDs xs with | some ds => if ds.length ≤ lim then R.ok (Val.d (.list ds)) (st.set n .gone) else .bad | none => .bad) | _ => .bad) = _
  rw [g]
  dsimp only
  have := toDs_map (fun x : D => x) ds
  rw [List.map_id'] at this
  rw [show (ds.map Val.d) = ds.map (fun p => Val.d ((fun x : D => x) p)) from rfl, this]
  dsimp only
  rw [if_pos hl]

/-! ### moves that fall under drawn weights -/
theorem forL_ix {body : Val → S} (P : Nat → Loc → Store → Prop) : ∀ (xs : List Val) (n : Nat) (loc : Loc) (st : Store), P n loc st → (∀ i v, v ∈ xs → i < n + xs.length → ∀ loc st, P i loc st → ∃ loc' st', body v loc st = .ok (.nx, loc') st' ∧ P (i + 1) loc' st') → ∃ loc' st', forL body xs loc st = .ok (.nx, loc') st' ∧ P (n + xs.length) loc' st'
  | [], n, loc, st, p, _ => ⟨loc, st, rfl, p⟩
  | x :: xs, n, loc, st, p, h => by
    obtain ⟨l1, s1, e1, p1⟩ := h n x List.mem_cons_self (by simp) loc st p
    obtain ⟨l2, s2, e2, p2⟩ := forL_ix P xs (n + 1) l1 s1 p1 fun i v hv hi => h i v (List.mem_cons_of_mem _ hv) (by simp only [List.length_cons]; omega)
    refine ⟨l2, s2, ?_, ?_⟩
    · show bd (body x loc) _ st = _
      rw [bd_eq e1]
      exact e2
    · have : n + (x :: xs).length = n + 1 + xs.length := by simp; omega
      rw [this]
      exact p2
theorem app_last' {o e : E} {loc : Loc} {st : Store} {xs : List Val} {v : Val} (ho : o loc = ret (.o st.length)) (he : e loc = ret v) (hl : xs.length < lim) : eApp o e loc (st ++ [.lst xs]) = .ok (.d .none) (st ++ [.lst (xs ++ [v])]) := by
  unfold eApp
  rw [ho, bd_ret]
  have g : (st ++ [Ob.lst xs])[st.length]? = some (.lst xs) := by simp
  have hc : chkL (.o st.length) (st ++ [.lst xs]) = .ok st.length (st ++ [.lst xs]) := by
    show (match (st ++ [Ob.lst xs])[st.length]? with | some (.lst _) => R.ok st.length (st ++ [Ob.lst xs]) | _ => .bad) = _
    rw [g]
  rw [bd_eq hc, he, bd_ret]
  unfold appS
  rw [g]
  dsimp only
  rw [if_pos hl]
  simp
theorem app_at {o e : E} {loc : Loc} {st st1 : Store} {k : Nat} {xs : List Val} {v : Val} (ho : o loc = ret (.o k)) (hk : st[k]? = some (.lst xs)) (he : e loc st = .ok v st1) (hk1 : st1[k]? = some (.lst xs)) (hl : xs.length < lim) : eApp o e loc st = .ok (.d .none) (st1.set k (.lst (xs ++ [v]))) := by
  unfold eApp
  rw [ho, bd_ret]
  have hc : chkL (.o k) st = .ok k st := by
    show (match st[k]? with | some (.lst _) => R.ok k st | _ => .bad) = _
    rw [hk]
  rw [bd_eq hc, bd_eq he]
  unfold appS
  rw [hk1]
  dsimp only
  rw [if_pos hl]

/-! ### steps -/
theorem enumF_map {α : Type} (f : α → D) : ∀ (L : List α) (n : Nat), enumF n (L.map f) = (L.zipIdx n).map fun p => Val.d (.tuple [.int (p.2 : Int), f p.1])
  | [], _ => rfl
  | x :: L, n => by
    show Val.d (.tuple [.int (n : Int), f x]) :: enumF (n + 1) (L.map f) = _
    rw [enumF_map f L (n + 1)]
    rfl
def canL (s : List Int) (ms : List Mv) : List (Mv × Nat) := (ms.zipIdx 0).filter fun p => ovB s p.1.1
def eWay (s : List Int) (p : Mv × Nat) : D := .tuple [.int (p.2 : Int), tI (addL s (chg p.1))]
def canI (s : List Int) (ms : List Mv) : List Int := (canL s ms).map fun p => (p.2 : Int)
theorem can_mem {s : List Int} {ms : List Mv} {p : Mv × Nat} (h : p ∈ canL s ms) : p.1 ∈ ms := by
  obtain ⟨h1, _⟩ := List.mem_filter.mp h
  obtain ⟨i, hi⟩ := List.mem_iff_getElem?.mp h1
  rw [List.getElem?_zipIdx] at hi
  cases e : ms[i]? with
  | none => rw [e] at hi; simp at hi
  | some m =>
    rw [e] at hi
    simp at hi
    rw [← hi]
    exact List.mem_of_getElem? e
theorem zip_mem {ms : List Mv} {p : Mv × Nat} (h : p ∈ ms.zipIdx 0) : p.1 ∈ ms := by
  obtain ⟨i, hi⟩ := List.mem_iff_getElem?.mp h
  rw [List.getElem?_zipIdx] at hi
  cases e : ms[i]? with
  | none => rw [e] at hi; simp at hi
  | some m =>
    rw [e] at hi
    simp at hi
    rw [← hi]
    exact List.mem_of_getElem? e
theorem can_len (s : List Int) (ms : List Mv) : (canL s ms).length ≤ ms.length := by
  unfold canL
  refine Nat.le_trans (List.length_filter_le _ _) ?_
  rw [List.length_zipIdx]
  exact Nat.le_refl _
theorem r_steps_from {ms : List Mv} {h : Nat} (w : WF ms h) {s : List Int} (hs : s.length = h) : f_steps_from [.d (eMs ms), .d (tI s)] = ret (.d (.list ((canL s ms).map (eWay s)))) := by
  have h4 := w.h4
  have n6 := w.n6
  have c1 : steps_from_C1 [some (.d (eMs ms)), some (.d (tI s)), none, none, none] = ret (.d (.list ((canL s ms).map fun p => .tuple [.int (p.2 : Int), eMv p.1]))) := by
    rw [steps_from_C1_eq]
    refine eLc_filter (ms.zipIdx 0) (fun p => Val.d (.tuple [.int (p.2 : Int), eMv p.1])) _ _ ?_ (by rw [List.length_zipIdx, lim_eq]; omega) fun p hp => ?_
    · simp [eMs, enumF_map]
    · have ho := r_is_over s p.1.1 (by rw [lim_eq]; omega)
      cases e : ovB s p.1.1 <;> simp [ix_mv0, ho, e]
  have c2 : ∀ y3 y4, steps_from_C2 [some (.d (eMs ms)), some (.d (tI s)), some (.d (.list ((canL s ms).map fun p => .tuple [.int (p.2 : Int), eMv p.1]))), y3, y4] = ret (.d (.list ((canL s ms).map (eWay s)))) := fun y3 y4 => by
    have cl := can_len s ms
    rw [steps_from_C2_eq]
    refine eLc_map (canL s ms) (fun p => Val.d (.tuple [.int (p.2 : Int), eMv p.1])) _ ?_ (by rw [lim_eq]; omega) fun p hp => ?_
    · simp
      rfl
    · have h1 := w.l1 p.1 (can_mem hp)
      have hc := r_change p.1 (by rw [lim_eq]; omega)
      have ha := r_added s (chg p.1) (by rw [lim_eq]; omega)
      simp [hc, ha, eWay]
  simp [f_steps_from, b_steps_from, runF_eq, c1, c2]
section
variable {ms : List Mv} {h : Nat} (w : WF ms h) {x : D} (hx : cl x = true) (wh : awB h 9999 x = false)
include w hx wh
end
/-! ### the law's own ways -/
theorem moved_v {s : List Int} {m : Mv} {h : Nat} (hs : s.length = h) (h1 : m.1.length = h) (h2 : m.2.length = h) (h4 : h ≤ 1000) (st : Store) : ∃ xs, f_law_moved [.d (tI s), .d (eMv m)] st = .ok (.d (match movF s m with | none => PyData.none | some t => tI t)) (st ++ [.lst xs]) := by
  obtain ⟨xs, e⟩ := moved_ex hs h1 h2 h4 st
  refine ⟨xs, ?_⟩
  rw [e]
  cases movF s m <;> rfl
theorem ways_loop {s : List Int} {h : Nat} (hs : s.length = h) (h4 : h ≤ 1000) (v0 : Option Val) (st : Store) : ∀ (L : List (Mv × Nat)) (acc : List D) (xs : List Ob) (x3 x4 x5 : Option Val), (∀ p ∈ L, p.1.1.length = h ∧ p.1.2.length = h) → acc.length + L.length ≤ 1000 →
    ∃ y3 y4 y5 xs', forL (fBody (gT 2 (gsC (gN 3) (gsC (gN 4) gsN))) law_ways_L1) (L.map fun p => Val.d (.tuple [.int (p.2 : Int), eMv p.1])) [v0, some (.d (tI s)), some (.o st.length), x3, x4, x5] (st ++ .lst (acc.map .d) :: xs) =
      .ok (.nx, [v0, some (.d (tI s)), some (.o st.length), y3, y4, y5]) (st ++ .lst ((acc ++ (L.filter fun p => ovB s p.1.1).map (eWay s)).map .d) :: xs')
  | [], acc, xs, x3, x4, x5, _, _ => ⟨x3, x4, x5, xs, by simp [forL]⟩
  | p :: L, acc, xs, x3, x4, x5, hL, hl => by
    obtain ⟨h1, h2⟩ := hL p (by simp)
    obtain ⟨zs, em⟩ := moved_v hs h1 h2 h4 (st ++ .lst (acc.map .d) :: xs)
    have gt0 : ∀ l : Loc, gT 2 (gsC (gN 3) (gsC (gN 4) gsN)) (.d (.tuple [.int (p.2 : Int), eMv p.1])) l = ret ((l.set 3 (some (.d (.int (p.2 : Int))))).set 4 (some (.d (eMv p.1)))) := fun _ => rfl
    have e0 : eB (fixN 2 f_law_moved) (aC (eV 1) (aC (eV 4) aN)) [v0, some (.d (tI s)), some (.o st.length), some (.d (.int (p.2 : Int))), some (.d (eMv p.1)), x5] = f_law_moved [.d (tI s), .d (eMv p.1)] := by
      simp only [eB_eq, aC_eq, aN_eq, eV_zero, eV_succ, bd_ret, fix2]
    have ea : (st ++ Ob.lst (acc.map .d) :: xs) ++ [.lst zs] = st ++ Ob.lst (acc.map .d) :: (xs ++ [.lst zs]) := by simp
    rw [ea] at em
    cases e : movF s p.1 with
    | none =>
      rw [e] at em
      have ho : ovB s p.1.1 = false := by
        unfold movF at e
        split at e
        · cases e
        · rename_i h; simpa using h
      obtain ⟨y3, y4, y5, xs', ih⟩ := ways_loop hs h4 v0 st L acc (xs ++ [.lst zs]) (some (.d (.int (p.2 : Int)))) (some (.d (eMv p.1))) (some (.d .none)) (fun q hq => hL q (by simp [hq])) (by simp at hl; omega)
      refine ⟨y3, y4, y5, xs', ?_⟩
      have step : fBody (gT 2 (gsC (gN 3) (gsC (gN 4) gsN))) law_ways_L1 (.d (.tuple [.int (p.2 : Int), eMv p.1])) [v0, some (.d (tI s)), some (.o st.length), x3, x4, x5] (st ++ .lst (acc.map .d) :: xs) = .ok (.nx, [v0, some (.d (tI s)), some (.o st.length), some (.d (.int (p.2 : Int))), some (.d (eMv p.1)), some (.d .none)]) (st ++ .lst (acc.map .d) :: (xs ++ [.lst zs])) := by
        rw [fBody_eq, gt0, bd_ret]
        simp only [List.set_cons_succ, List.set_cons_zero]
        rw [law_ways_L1_eq, sSeq_eq, sAsg_eq, bd_bd, e0, bd_eq em]
        rfl
      show bd (fBody _ _ _ _) _ _ = _
      rw [bd_eq step]
      dsimp only
      rw [ih]
      simp [ho]
    | some t =>
      rw [e] at em
      have ho : ovB s p.1.1 = true ∧ t = addL s (chg p.1) := by
        unfold movF at e
        split at e
        · rename_i h; cases e; exact ⟨h, rfl⟩
        · cases e
      obtain ⟨ho, rfl⟩ := ho
      obtain ⟨y3, y4, y5, xs', ih⟩ := ways_loop hs h4 v0 st L (acc ++ [eWay s p]) (xs ++ [.lst zs]) (some (.d (.int (p.2 : Int)))) (some (.d (eMv p.1))) (some (.d (tI (addL s (chg p.1))))) (fun q hq => hL q (by simp [hq])) (by simp at hl ⊢; omega)
      refine ⟨y3, y4, y5, xs', ?_⟩
      have g : (st ++ Ob.lst (acc.map .d) :: (xs ++ [.lst zs]))[st.length]? = some (.lst (acc.map .d)) := get_mid _ _ _
      have ap := app_at (o := eV 2) (e := eB bTup (aC (eV 3) (aC (eV 5) aN))) (loc := [v0, some (.d (tI s)), some (.o st.length), some (.d (.int (p.2 : Int))), some (.d (eMv p.1)), some (.d (tI (addL s (chg p.1))))]) (k := st.length) (v := .d (eWay s p)) rfl g rfl g (by rw [List.length_map, lim_eq]; simp at hl; omega)
      rw [set_mid] at ap
      have step : fBody (gT 2 (gsC (gN 3) (gsC (gN 4) gsN))) law_ways_L1 (.d (.tuple [.int (p.2 : Int), eMv p.1])) [v0, some (.d (tI s)), some (.o st.length), x3, x4, x5] (st ++ .lst (acc.map .d) :: xs) = .ok (.nx, [v0, some (.d (tI s)), some (.o st.length), some (.d (.int (p.2 : Int))), some (.d (eMv p.1)), some (.d (tI (addL s (chg p.1))))]) (st ++ .lst ((acc ++ [eWay s p]).map .d) :: (xs ++ [.lst zs])) := by
        rw [fBody_eq, gt0, bd_ret]
        simp only [List.set_cons_succ, List.set_cons_zero]
        rw [law_ways_L1_eq, sSeq_eq, sAsg_eq, bd_bd, e0, bd_eq em]
        simp only [bd_ret, gN_eq, List.set_cons_succ, List.set_cons_zero]
        rw [sIf_eq, tV_eq, eU_eq]
        simp only [eV_zero, eV_succ, bd_ret, bNotN_eq, asB_eq, show isN (.d (tI (addL s (chg p.1)))) = false from rfl, Bool.not_false, if_true, sExp_eq]
        rw [bd_eq ap]
        simp
      show bd (fBody _ _ _ _) _ _ = _
      rw [bd_eq step]
      dsimp only
      rw [ih]
      simp [ho]
theorem ways_ex {ms : List Mv} {h : Nat} (w : WF ms h) {s : List Int} (hs : s.length = h) (st : Store) : ∃ xs, f_law_ways [.d (eMs ms), .d (tI s)] st = .ok (.d (.list ((canL s ms).map (eWay s)))) (st ++ xs) := by
  have h4 := w.h4
  have n6 := w.n6
  obtain ⟨y3, y4, y5, xs', e⟩ := ways_loop hs (by omega) (some (.d (eMs ms))) st (ms.zipIdx 0) [] [] none none none (fun p hp => ⟨w.l1 _ (zip_mem hp), w.l2 _ (zip_mem hp)⟩) (by rw [List.length_zipIdx]; simp; omega)
  have hn : bNew [] st = .ok (.o st.length) (st ++ [.lst []]) := rfl
  have hk : kEnumS [.d (eMs ms)] = ret ((ms.zipIdx 0).map fun p => Val.d (.tuple [.int (p.2 : Int), eMv p.1])) := by simp [eMs, enumF_map]
  have cl := can_len s ms
  simp only [List.map_nil, List.nil_append] at e
  rw [show ((ms.zipIdx 0).filter fun p => ovB s p.1.1) = canL s ms from rfl] at e
  have fz := bFrz_at (st := st ++ .lst (((canL s ms).map (eWay s)).map .d) :: xs') (n := st.length) (get_mid _ _ _) (by rw [List.length_map, lim_eq]; omega)
  rw [set_mid] at fz
  refine ⟨.gone :: xs', ?_⟩
  simp only [f_law_ways, b_law_ways, runF_eq]
  simp only [List.map_cons, List.map_nil, List.length_cons, List.length_nil, List.replicate, List.cons_append, List.nil_append, sSeq_eq, sAsg_eq, eB_eq, aN_eq, bd_ret, bd_bd, gN_eq]
  rw [bd_eq hn]
  simp only [bd_ret, List.set_cons_succ, List.set_cons_zero, sFor_eq, iCall_eq, aC_eq, aN_eq, eV_zero, eV_succ, bd_bd, hk]
  rw [bd_eq e]
  dsimp only
  rw [sRet_eq, eU_eq]
  simp only [eV_zero, eV_succ, bd_ret, bd_bd]
  rw [bd_eq fz]
  rfl

/-! ### the law's own sum -/
theorem setD_ints (l : List Int) (i : Nat) (x : Int) : (l.map fun i => Val.d (.int i)).set i (.d (.int x)) = (l.set i x).map fun i => Val.d (.int i) := by
  rw [List.map_set]
theorem gt_set : ∀ {l : List Int} {i : Nat} (x : Int) (j : Nat), i < l.length → gt (l.set i x) j = if j = i then x else gt l j
  | [], i, x, j, h => by simp at h
  | y :: l, 0, x, 0, h => rfl
  | y :: l, 0, x, j + 1, h => rfl
  | y :: l, i + 1, x, 0, h => rfl
  | y :: l, i + 1, x, j + 1, h => by
    have := gt_set (l := l) (i := i) x j (by simpa using h)
    show gt (l.set i x) j = _
    rw [this]
    by_cases e : j = i <;> simp [e, gt_consS]
theorem atI_ints {l : List Int} {i : Nat} (h : i < l.length) : atI (l.map fun i => Val.d (.int i)) (i : Int) = some (.d (.int (gt l i))) :=
  atI_nat rfl (by rw [List.getElem?_map, List.getElem?_eq_getElem h]; simp [gt, List.getD_eq_getElem?_getD, List.getElem?_eq_getElem h])
theorem ixN_nat {n i : Nat} (h : i < n) : ixN n (i : Int) = some i := by
  unfold ixN
  rw [if_pos (by omega), if_pos (by omega)]
  simp
theorem ix_tI0 {a : List Int} {i : Nat} (h : i < a.length) : bIx (.d (tI a)) (.d (.int (i : Int))) = ret (.d (.int (gt a i))) := by
  have : atI (intsD a) (i : Int) = some (.int (gt a i)) := atI_nat rfl (by simp [intsD, gt, List.getElem?_eq_getElem h, List.getD_eq_getElem?_getD])
  show bd (oget (atI (intsD a) (i : Int))) _ = _
  rw [this]; rfl
end Y
end
section
set_option Elab.async false
set_option linter.all false
set_option maxRecDepth 10000
set_option exponentiation.threshold 5000
namespace Y
open PySem (PyData Str)
/-! ### steps with the store -/
def Pre (s0 st : Store) : Prop := ∃ xs, st = s0 ++ xs
theorem Pre.set {s0 st : Store} (h : Pre s0 st) {k : Nat} (hk : s0.length ≤ k) (o : Ob) : Pre s0 (st.set k o) := by
  obtain ⟨xs, rfl⟩ := h
  exact ⟨xs.set (k - s0.length) o, by rw [List.set_append_right _ _ hk]⟩
theorem Pre.refl (s : Store) : Pre s s := ⟨[], by simp⟩
theorem Pre.trans {a b c : Store} (h : Pre a b) (h' : Pre b c) : Pre a c := by
  obtain ⟨x, rfl⟩ := h
  obtain ⟨y, rfl⟩ := h'
  exact ⟨x ++ y, by simp⟩
theorem seq_nx {a b : S} {loc l : Loc} {st s : Store} (h : a loc st = .ok (.nx, l) s) : sSeq a b loc st = b l s := by
  rw [sSeq_eq, bd_eq h]
theorem asg_gN {e : E} {i : Nat} {loc : Loc} {st s : Store} {v : Val} (h : e loc st = .ok v s) : sAsg e (gN i) loc st = .ok (.nx, loc.set i (some v)) s := by
  rw [sAsg_eq, bd_eq h]
  rfl
theorem exp_at {e : E} {loc : Loc} {st s : Store} {v : Val} (h : e loc st = .ok v s) : sExp e loc st = .ok (.nx, loc) s := by
  rw [sExp_eq, bd_eq h]
  rfl
theorem if_yes {t : Tst} {a b : S} {loc : Loc} {st st' : Store} (h : t loc st = .ok true st') : sIf t a b loc st = a loc st' := by
  rw [sIf_eq, bd_eq h]
  rfl
theorem if_no {t : Tst} {a b : S} {loc : Loc} {st st' : Store} (h : t loc st = .ok false st') : sIf t a b loc st = b loc st' := by
  rw [sIf_eq, bd_eq h]
  rfl
theorem tv_at {e : E} {loc : Loc} {st st' : Store} {b : Bool} (h : e loc st = .ok (.d (.bool b)) st') : tV e loc st = .ok b st' := by
  rw [tV_eq, bd_eq h]
  rfl

theorem call1 {f : List Val → M Val} {a : E} {loc : Loc} {st : Store} {v : Val} {r : R Val} (ha : a loc = ret v) (h : f [v] st = r) : eB (fixN 1 f) (aC a aN) loc st = r := by
  simp only [eB_eq, aC_eq, aN_eq, ha, bd_ret, bd_bd, fix1]
  exact h
theorem call2 {f : List Val → M Val} {a b : E} {loc : Loc} {st : Store} {v u : Val} {r : R Val} (ha : a loc = ret v) (hb : b loc = ret u) (h : f [v, u] st = r) : eB (fixN 2 f) (aC a (aC b aN)) loc st = r := by
  simp only [eB_eq, aC_eq, aN_eq, ha, hb, bd_ret, bd_bd, fix2]
  exact h
theorem ret_at {e : E} {loc : Loc} {st s : Store} {v : Val} (h : e loc st = .ok v s) : sRet e loc st = .ok (.rt v, loc) s := by
  rw [sRet_eq, bd_eq h]
  rfl
theorem run_rt {n : Nat} {b : S} {vs : List Val} {loc l : Loc} {st s : Store} {v : Val} (e0 : vs.map some ++ List.replicate (n - vs.length) none = loc) (h : b loc st = .ok (.rt v, l) s) : runF n b vs st = .ok v s := by
  rw [runF_eq, e0, bd_eq h]
  rfl
theorem op_at {o : Val → Val → M Val} {a b : E} {loc : Loc} {st st1 st2 st3 : Store} {v u x : Val} (ha : a loc st = .ok v st1) (hb : b loc st1 = .ok u st2) (h : o v u st2 = .ok x st3) : eO o a b loc st = .ok x st3 := by
  rw [eO_eq, bd_eq ha, bd_eq hb]
  exact h
theorem un_at {o : Val → M Val} {a : E} {loc : Loc} {st st1 st2 : Store} {v x : Val} (ha : a loc st = .ok v st1) (h : o v st1 = .ok x st2) : eU o a loc st = .ok x st2 := by
  rw [eU_eq, bd_eq ha]
  exact h
theorem sFor_at {it : I} {g : G} {b : S} {loc : Loc} {st st' : Store} {xs : List Val} (h : it loc st = .ok xs st') : sFor it g b loc st = forL (fBody g b) xs loc st' := by
  rw [sFor_eq, bd_eq h]

theorem Pre.dc {k : Nat} {st st' : Store} (p : Pre st st') (d : DS k st) : Dc k st st' := by
  obtain ⟨xs, rfl⟩ := p
  exact Dc.app d xs
theorem Pre.get {s t : Store} (p : Pre s t) {k : Nat} {o : Ob} (h : s[k]? = some o) : t[k]? = some o := by
  obtain ⟨xs, rfl⟩ := p
  rw [List.getElem?_append_left (by
    rcases Nat.lt_or_ge k s.length with h' | h'
    · exact h'
    · rw [List.getElem?_eq_none h'] at h; cases h)]
  exact h

theorem compO_same {α : Type} {body : Val → M (Option Val)} {st : Store} {k : Nat} {xs0 : List Val} (hk : st[k]? = some (.lst xs0)) (enc : α → Val) (h : α → Option Val) : ∀ (L : List α), (∀ p ∈ L, body (enc p) st = .ok (h p) st) → compO k xs0 body (L.map enc) st = .ok (L.filterMap h) st
  | [], _ => by
    rw [List.map_nil]
    unfold compO
    rw [if_pos hk]
    rfl
  | p :: L, hp => by
    have ih := compO_same hk enc h L fun q hq => hp q (List.mem_cons_of_mem _ hq)
    rw [List.map_cons]
    unfold compO
    rw [if_pos hk, bd_eq (hp p List.mem_cons_self), bd_eq ih]
    rw [List.filterMap_cons]
    cases h p <;> rfl

/-! ### the least standing before -/
def befL (m : Mv) (s : List Int) : List Int := mxL m.1 s (chg m)
theorem r_one_before {m : Mv} {s : List Int} {h : Nat} (h1 : m.1.length = h) (h2 : m.2.length = h) (hs : s.length = h) (h4 : h ≤ 4) : f_one_before [.d (eMv m), .d (tI s)] = ret (.d (tI (befL m s))) := by
  have hc := r_change m (by rw [h1, lim_eq]; omega)
  have e : one_before_C1 [some (Val.d (eMv m)), some (Val.d (tI s)), none, none, none] = ret (.d (.list (intsD (befL m s)))) := by
    rw [befL, mxL, intsD_map]
    refine eLc_map (m.1.zip (s.zip (chg m))) (fun p => Val.d (.tuple [.int p.1, .int p.2.1, .int p.2.2])) _ ?_ (by rw [List.length_zip, lim_eq]; omega) fun p hp => ?_
    · simp [ix_mv0, hc]
      simp [tI, zip3_ints]
    · simp
  simp [f_one_before, b_one_before, runF_eq, e]
  rfl
section
variable {ms : List Mv} {h : Nat} {m : Mv} {s : List Int} (h1 : m.1.length = h) (h2 : m.2.length = h) (hs : s.length = h)
include h1 h2 hs in
theorem bef_len : (befL m s).length = h := by
  rw [befL, mxL_len (by omega) (by rw [chg_len (by omega)]; omega), h1]
include h1 h2 hs in
theorem bef_gt (i : Nat) : gt (befL m s) i = max (gt m.1 i) (gt s i - gt (chg m) i) := gt_mx (by omega) (by rw [chg_len (by omega)]; omega) i
/-- what the law looks at -/
def okM (s : List Int) (m : Mv) (d : List Int) : Bool := match movF d m with
  | none => false
  | some t => ovB t s
include h1 h2 hs in
theorem okM_eq {d : List Int} (hd : d.length = h) : okM s m d = ovB d (befL m s) := by
  have cl := chg_len (m := m) (by omega)
  have bl := bef_len h1 h2 hs
  rw [Bool.eq_iff_iff]
  have key : okM s m d = true ↔ ovB d m.1 = true ∧ ovB (addL d (chg m)) s = true := by
    unfold okM movF
    by_cases ho : ovB d m.1 = true
    · rw [if_pos ho]; simp [ho]
    · rw [if_neg ho]; simp [ho]
  rw [key, ovB_iff (by omega), ovB_iff (by rw [addL_len (by omega)]; omega), ovB_iff (by omega)]
  have e1 := bef_gt h1 h2 hs
  have e2 := gt_add (a := d) (b := chg m) (by omega)
  constructor
  · rintro ⟨a, b⟩ i
    have := a i; have := b i; have := e1 i; have := e2 i
    omega
  · intro z
    refine ⟨fun i => ?_, fun i => ?_⟩ <;> have := z i <;> have := e1 i <;> have := e2 i <;> omega
end

/-! ### least starts, plainly -/
def rowD (L : List (List Int)) : D := .list (L.map tI)
def kyS (s : List Int) : D := .tuple [.int s.sum, tI s]
theorem alk_tI (a b : List Int) : PySem.W.alike (tI a) (tI b) = true := PySem.W.alike_ints a b
theorem kyS_le {a b : List Int} (h : PySem.W.dataLe false kyS a b = true) : a.sum ≤ b.sum := by
  refine Classical.byContradiction fun hn => ?_
  have hlt : b.sum < a.sum := by omega
  have e : (!PySem.W.dataLt (kyS b) (kyS a)) = true := h
  have d : PySem.W.dataLt (kyS b) (kyS a) = true := by
    unfold kyS
    rw [PySem.W.dataLt_pair rfl (alk_tI b a), if_neg (by simp [PyData.eqv]; omega), PySem.W.dataLt_int]
    simpa using hlt
  rw [d] at e
  cases e
noncomputable def srS (L : List (List Int)) : List (List Int) := L.mergeSort (PySem.W.dataLe false kyS)
theorem srS_perm (L : List (List Int)) : (srS L).Perm L := List.mergeSort_perm _ _
theorem srS_pw (L : List (List Int)) : (srS L).Pairwise fun a b => a.sum ≤ b.sum := by
  have t : PySem.W.TotalLe (PySem.W.dataLe false kyS) := by
    unfold PySem.W.dataLe
    exact PySem.W.sortLe_total _ _ _
  exact (PySem.W.sort_pairwise t L).imp fun h => kyS_le h
theorem sk_le (a b : List Int) : PySem.W.dataLe false tD a b = decide (a ≤ b) := by
  show (!PySem.W.dataLt (.tuple (b.map .int)) (.tuple (a.map .int))) = _
  rw [PySem.W.dataLt_tuple]
  show (!PySem.W.rowLt (b.map .int) (a.map .int)) = _
  rw [PySem.W.dataLt_ints]
  by_cases h : b < a
  · have h' : ¬ a ≤ b := fun r => List.not_lt.mpr r h
    simp [h, h']
  · have h' : a ≤ b := List.not_lt.mp h
    simp [h, h']
theorem sk_total : PySem.W.TotalLe (PySem.W.dataLe false tD) := by
  unfold PySem.W.dataLe
  exact PySem.W.sortLe_total _ _ _
theorem sk_perm (L : List (List Int)) : (sortK L).Perm L := List.mergeSort_perm _ _
theorem sk_pw (L : List (List Int)) : (sortK L).Pairwise fun a b => a ≤ b := (PySem.W.sort_pairwise sk_total L).imp fun h => by
  rw [sk_le, decide_eq_true_eq] at h
  exact h
theorem sk_same {a b : List (List Int)} (h : a.Perm b) (pw : b.Pairwise fun a b => a ≤ b) : sortK a = b :=
  List.Perm.eq_of_pairwise (le := fun a b => a ≤ b) (fun x y _ _ h1 h2 => List.le_antisymm h1 h2) (sk_pw a) pw ((sk_perm a).trans h)
theorem sk_eq {a b : List (List Int)} (h : a.Perm b) : sortK a = sortK b := sk_same (h.trans (sk_perm b).symm) (sk_pw b)
theorem uq_mem : ∀ {ks : List (List Int)} {k : List Int}, k ∈ uniqK ks ↔ k ∈ ks
  | [], k => by simp [uniqK]
  | x :: ks, k => by
    have ih := uq_mem (ks := ks) (k := k)
    unfold uniqK
    by_cases h : x ∈ ks
    · rw [if_pos h, ih, List.mem_cons]
      exact ⟨.inr, fun z => z.elim (fun e => e ▸ h) id⟩
    · rw [if_neg h, List.mem_cons, List.mem_cons, ih]
theorem uq_nd : ∀ ks : List (List Int), (uniqK ks).Nodup
  | [] => List.nodup_nil
  | x :: ks => by
    unfold uniqK
    by_cases h : x ∈ ks
    · rw [if_pos h]; exact uq_nd ks
    · rw [if_neg h]; exact List.nodup_cons.mpr ⟨fun z => h (uq_mem.mp z), uq_nd ks⟩
theorem uq_len : ∀ ks : List (List Int), (uniqK ks).length ≤ ks.length
  | [] => Nat.le_refl _
  | x :: ks => by
    have := uq_len ks
    unfold uniqK
    by_cases h : x ∈ ks
    · rw [if_pos h, List.length_cons]; omega
    · rw [if_neg h, List.length_cons, List.length_cons]; omega
theorem uq_same : ∀ {ks : List (List Int)}, ks.Nodup → uniqK ks = ks
  | [], _ => rfl
  | x :: ks, h => by
    obtain ⟨h1, h2⟩ := List.nodup_cons.mp h
    unfold uniqK
    rw [if_neg h1, uq_same h2]
/-! ### standings that cover others -/
theorem ov_refl : ∀ a : List Int, ovB a a = true
  | [] => rfl
  | x :: a => by
    show (decide (x ≤ x) && ovB a a) = true
    simp [ov_refl a]
theorem ov_sum : ∀ {a b : List Int}, a.length = b.length → ovB a b = true → b.sum ≤ a.sum ∧ (a.sum = b.sum → a = b)
  | [], [], _, _ => ⟨Int.le_refl _, fun _ => rfl⟩
  | x :: a, y :: b, hl, h => by
    have h : (decide (y ≤ x) && ovB a b) = true := h
    rw [Bool.and_eq_true, decide_eq_true_eq] at h
    obtain ⟨s1, s2⟩ := ov_sum (by simpa using hl) h.2
    rw [List.sum_cons, List.sum_cons]
    refine ⟨by omega, fun e => ?_⟩
    have e1 : x = y := by omega
    have e2 := s2 (by omega)
    rw [e1, e2]
theorem ov_trans {a b c : List Int} (h1 : a.length = b.length) (h2 : b.length = c.length) (x : ovB a b = true) (y : ovB b c = true) : ovB a c = true := by
  rw [ovB_iff (by omega)] at *
  intro i
  have := x i
  have := y i
  omega
def covB (x : List Int) (S : List (List Int)) : Bool := S.any fun o => ovB x o
def lfL : List (List Int) → List (List Int) → List (List Int)
  | [], f => f
  | x :: L, f => lfL L (if covB x f = true then f else f ++ [x])
theorem lf_f : ∀ (L f : List (List Int)), ∀ x ∈ f, x ∈ lfL L f
  | [], f, x, h => h
  | y :: L, f, x, h => by
    unfold lfL
    refine lf_f L _ x ?_
    by_cases c : covB y f = true
    · rw [if_pos c]; exact h
    · rw [if_neg c]; exact List.mem_append_left _ h
theorem lf_sub : ∀ (L f : List (List Int)), ∀ x ∈ lfL L f, x ∈ L ∨ x ∈ f
  | [], f, x, h => .inr h
  | y :: L, f, x, h => by
    unfold lfL at h
    rcases lf_sub L _ x h with z | z
    · exact .inl (List.mem_cons_of_mem _ z)
    · by_cases c : covB y f = true
      · rw [if_pos c] at z; exact .inr z
      · rw [if_neg c] at z
        rcases List.mem_append.mp z with z | z
        · exact .inr z
        · exact .inl (by rw [List.mem_singleton.mp z]; exact List.mem_cons_self)
theorem lf_cov : ∀ (L f : List (List Int)), ∀ x ∈ L, ∃ o ∈ lfL L f, ovB x o = true
  | y :: L, f, x, h => by
    unfold lfL
    rcases List.mem_cons.mp h with rfl | h
    · by_cases c : covB x f = true
      · rw [if_pos c]
        obtain ⟨o, ho, e⟩ := List.any_eq_true.mp c
        exact ⟨o, lf_f _ _ o ho, e⟩
      · rw [if_neg c]
        exact ⟨x, lf_f _ _ x (by simp), ov_refl x⟩
    · exact lf_cov L _ x h
def AntiK (S : List (List Int)) : Prop := ∀ x ∈ S, ∀ y ∈ S, ovB x y = true → x = y
theorem lf_anti {h : Nat} : ∀ (L f : List (List Int)), AntiK f → f.Nodup → (∀ x ∈ f, ∀ y ∈ L, x.sum ≤ y.sum) → L.Pairwise (fun a b => a.sum ≤ b.sum) → (∀ x ∈ f, x.length = h) → (∀ x ∈ L, x.length = h) → AntiK (lfL L f) ∧ (lfL L f).Nodup
  | [], f, a, n, _, _, _, _ => ⟨a, n⟩
  | y :: L, f, a, n, hs, pw, hf, hL => by
    obtain ⟨p1, p2⟩ := List.pairwise_cons.mp pw
    unfold lfL
    by_cases c : covB y f = true
    · rw [if_pos c]
      exact lf_anti L f a n (fun x hx z hz => hs x hx z (List.mem_cons_of_mem _ hz)) p2 hf fun x hx => hL x (List.mem_cons_of_mem _ hx)
    · rw [if_neg c]
      have no : ∀ o ∈ f, ovB y o = true → False := fun o ho e => c (List.any_eq_true.mpr ⟨o, ho, e⟩)
      have ly := hL y List.mem_cons_self
      refine lf_anti L _ (fun u hu v hv e => ?_) (List.nodup_append.mpr ⟨n, by simp, fun u hu v hv e => ?_⟩) (fun u hu z hz => ?_) p2 (fun u hu => ?_) fun x hx => hL x (List.mem_cons_of_mem _ hx)
      · rcases List.mem_append.mp hu with hu | hu <;> rcases List.mem_append.mp hv with hv | hv
        · exact a u hu v hv e
        · rw [List.mem_singleton.mp hv] at e ⊢
          obtain ⟨s1, s2⟩ := ov_sum (by rw [hf u hu, ly]) e
          exact s2 (by have := hs u hu y List.mem_cons_self; omega)
        · rw [List.mem_singleton.mp hu] at e
          exact (no v hv e).elim
        · rw [List.mem_singleton.mp hu, List.mem_singleton.mp hv]
      · rw [List.mem_singleton.mp hv] at e
        subst e
        exact no u hu (ov_refl u)
      · rcases List.mem_append.mp hu with hu | hu
        · exact hs u hu z (List.mem_cons_of_mem _ hz)
        · rw [List.mem_singleton.mp hu]; exact p1 z hz
      · rcases List.mem_append.mp hu with hu | hu
        · exact hf u hu
        · rw [List.mem_singleton.mp hu]; exact ly
theorem lf_len : ∀ (L f : List (List Int)), (lfL L f).length ≤ L.length + f.length
  | [], f => by simp [lfL]
  | y :: L, f => by
    unfold lfL
    have := lf_len L (if covB y f = true then f else f ++ [y])
    rw [List.length_cons]
    refine Nat.le_trans this ?_
    by_cases c : covB y f = true
    · rw [if_pos c]; omega
    · rw [if_neg c, List.length_append, List.length_singleton]; omega
/-- those that cover no other one -/
noncomputable def lfo (S : List (List Int)) : List (List Int) := lfL (srS (sortK (uniqK S))) []
noncomputable def lsO (S : List (List Int)) : List (List Int) := sortK (lfo S)
theorem sr_mem {S : List (List Int)} {x : List Int} : x ∈ srS (sortK (uniqK S)) ↔ x ∈ S := by
  rw [(srS_perm _).mem_iff, (sk_perm _).mem_iff, uq_mem]
theorem sr_len (S : List (List Int)) : (srS (sortK (uniqK S))).length ≤ S.length := by
  rw [(srS_perm _).length_eq, (sk_perm _).length_eq]
  exact uq_len S
theorem ls_sub {S : List (List Int)} {x : List Int} (h : x ∈ lsO S) : x ∈ S := by
  unfold lsO at h
  rw [(sk_perm _).mem_iff] at h
  rcases lf_sub _ _ x h with z | z
  · exact sr_mem.mp z
  · cases z
theorem ls_cov {S : List (List Int)} {x : List Int} (h : x ∈ S) : ∃ o ∈ lsO S, ovB x o = true := by
  obtain ⟨o, ho, e⟩ := lf_cov (srS (sortK (uniqK S))) [] x (sr_mem.mpr h)
  exact ⟨o, (sk_perm _).mem_iff.mpr ho, e⟩
theorem ls_len (S : List (List Int)) : (lsO S).length ≤ S.length := by
  unfold lsO
  rw [(sk_perm _).length_eq]
  have := lf_len (srS (sortK (uniqK S))) []
  have := sr_len S
  unfold lfo
  simp only [List.length_nil] at *
  omega
theorem ls_anti {S : List (List Int)} {h : Nat} (hl : ∀ x ∈ S, x.length = h) : AntiK (lsO S) ∧ (lsO S).Nodup := by
  obtain ⟨a, n⟩ := lf_anti (h := h) (srS (sortK (uniqK S))) [] (fun x hx => nomatch hx) List.nodup_nil (fun x hx => nomatch hx) (srS_pw _) (fun x hx => nomatch hx) fun x hx => hl x (sr_mem.mp hx)
  exact ⟨fun x hx y hy => a x ((sk_perm _).mem_iff.mp hx) y ((sk_perm _).mem_iff.mp hy), (sk_perm _).nodup_iff.mpr n⟩
theorem ls_set {S : List (List Int)} {h : Nat} (hl : ∀ x ∈ S, x.length = h) : sortK (uniqK (lsO S)) = lsO S := by
  rw [uq_same (ls_anti hl).2]
  exact sk_same (.refl _) (sk_pw _)
/-! ### least starts of so many moves -/
def nxF (ms : List Mv) (S : List (List Int)) : List (List Int) := S.flatMap fun s => ms.map fun m => befL m s
noncomputable def stF (ms : List Mv) (h : Nat) : Nat → List (List Int)
  | 0 => [List.replicate h 0]
  | t + 1 => lsO (nxF ms (stF ms h t))
def goB (ms : List Mv) : Nat → List Int → Bool
  | 0, _ => true
  | t + 1, x => ms.any fun m => match movF x m with
    | none => false
    | some y => goB ms t y
theorem goB_succ (ms : List Mv) (t : Nat) (x : List Int) : goB ms (t + 1) x = ms.any fun m => match movF x m with
    | none => false
    | some y => goB ms t y := rfl
section
variable {ms : List Mv} {h : Nat} (w : WF ms h)
include w
theorem bef_nn {m : Mv} (hm : m ∈ ms) {s : List Int} (hs : s.length = h) : (befL m s).length = h ∧ ∀ x ∈ befL m s, 0 ≤ x := by
  have bl := bef_len (w.l1 m hm) (w.l2 m hm) hs
  refine ⟨bl, fun x hx => ?_⟩
  obtain ⟨i, hi, rfl⟩ := gt_mem' hx
  have e := bef_gt (w.l1 m hm) (w.l2 m hm) hs i
  have : 0 ≤ gt m.1 i := by
    rcases Nat.lt_or_ge i m.1.length with z | z
    · exact (w.b1 m hm _ (gt_mem z)).1
    · rw [gt_out z]; omega
  omega
theorem nx_nn {S : List (List Int)} (hs : ∀ s ∈ S, s.length = h) : ∀ s ∈ nxF ms S, s.length = h ∧ ∀ x ∈ s, 0 ≤ x := fun s hm => by
  obtain ⟨u, hu, hm⟩ := List.mem_flatMap.mp hm
  obtain ⟨m, hmm, rfl⟩ := List.mem_map.mp hm
  exact bef_nn w hmm (hs u hu)
theorem st_nn : ∀ t, ∀ s ∈ stF ms h t, s.length = h ∧ ∀ x ∈ s, 0 ≤ x
  | 0, s, hs => by
    rw [List.mem_singleton.mp hs]
    exact ⟨by simp, fun x hx => by rw [List.eq_of_mem_replicate hx]; omega⟩
  | t + 1, s, hs => nx_nn w (fun u hu => (st_nn t u hu).1) s (ls_sub hs)
theorem mov_nn {m : Mv} (hm : m ∈ ms) {x y : List Int} (hx : x.length = h) (hn : ∀ z ∈ x, 0 ≤ z) (e : movF x m = some y) : y.length = h ∧ ∀ z ∈ y, 0 ≤ z := by
  have l1 := w.l1 m hm
  have l2 := w.l2 m hm
  have cl := chg_len (m := m) (by omega)
  unfold movF at e
  by_cases ho : ovB x m.1 = true
  · rw [if_pos ho] at e
    have e := Option.some.inj e
    subst e
    have al : (addL x (chg m)).length = h := by rw [addL_len (by omega)]; exact hx
    refine ⟨al, fun z hz => ?_⟩
    obtain ⟨i, hi, rfl⟩ := gt_mem' hz
    rw [ovB_iff (by omega)] at ho
    have a := ho i
    have b := gt_add (a := x) (b := chg m) (by omega) i
    have c := gt_chg (a := m.1) (b := m.2) (by omega) i
    have d : 0 ≤ gt m.2 i := by
      rcases Nat.lt_or_ge i m.2.length with z | z
      · exact (w.b2 m hm _ (gt_mem z)).1
      · rw [gt_out z]; omega
    have c : gt (chg m) i = gt m.2 i - gt m.1 i := c
    omega
  · rw [if_neg ho] at e
    cases e
/-- a standing covers a least start just if it lets so many moves -/
theorem cov_go : ∀ (t : Nat) (x : List Int), x.length = h → (∀ z ∈ x, 0 ≤ z) → covB x (stF ms h t) = goB ms t x
  | 0, x, hx, hn => by
    show (ovB x (List.replicate h 0) || false) = true
    rw [Bool.or_false, ovB_iff (by simp [hx])]
    intro i
    rw [gt_rep]
    rcases Nat.lt_or_ge i x.length with z | z
    · exact hn _ (gt_mem z)
    · rw [gt_out z]; omega
  | t + 1, x, hx, hn => by
    have sn := st_nn w t
    rw [Bool.eq_iff_iff]
    have left : covB x (stF ms h (t + 1)) = true ↔ ∃ u ∈ nxF ms (stF ms h t), ovB x u = true := by
      unfold covB
      rw [List.any_eq_true]
      constructor
      · rintro ⟨o, ho, e⟩
        exact ⟨o, ls_sub ho, e⟩
      · rintro ⟨u, hu, e⟩
        obtain ⟨o, ho, e2⟩ := ls_cov hu
        have lu := (nx_nn w (fun s hs => (sn s hs).1) u hu).1
        have lo := (nx_nn w (fun s hs => (sn s hs).1) o (ls_sub ho)).1
        exact ⟨o, ho, ov_trans (by omega) (by omega) e e2⟩
    have right : goB ms (t + 1) x = true ↔ ∃ m ∈ ms, ∃ y, movF x m = some y ∧ goB ms t y = true := by
      rw [goB_succ, List.any_eq_true]
      constructor
      · rintro ⟨m, hm, e⟩
        cases q : movF x m with
        | none => rw [q] at e; cases e
        | some y => rw [q] at e; exact ⟨m, hm, y, q, e⟩
      · rintro ⟨m, hm, y, q, e⟩
        exact ⟨m, hm, by rw [q]; exact e⟩
    rw [left, right]
    constructor
    · rintro ⟨u, hu, e⟩
      obtain ⟨s, hs, hu⟩ := List.mem_flatMap.mp hu
      obtain ⟨m, hm, rfl⟩ := List.mem_map.mp hu
      rw [← okM_eq (w.l1 m hm) (w.l2 m hm) (sn s hs).1 hx] at e
      unfold okM at e
      cases q : movF x m with
      | none => rw [q] at e; cases e
      | some y =>
        rw [q] at e
        obtain ⟨yl, yn⟩ := mov_nn w hm hx hn q
        refine ⟨m, hm, y, q, ?_⟩
        rw [← cov_go t y yl yn]
        exact List.any_eq_true.mpr ⟨s, hs, e⟩
    · rintro ⟨m, hm, y, q, e⟩
      obtain ⟨yl, yn⟩ := mov_nn w hm hx hn q
      rw [← cov_go t y yl yn] at e
      obtain ⟨s, hs, e⟩ := List.any_eq_true.mp e
      refine ⟨befL m s, List.mem_flatMap.mpr ⟨s, hs, List.mem_map.mpr ⟨m, hm, rfl⟩⟩, ?_⟩
      rw [← okM_eq (w.l1 m hm) (w.l2 m hm) (sn s hs).1 hx]
      unfold okM
      rw [q]
      exact e
end

end Y
end
section
set_option Elab.async false
set_option linter.all false
set_option maxRecDepth 10000
set_option exponentiation.threshold 5000
namespace Y
open PySem (PyData Str)
/-! ### least starts, read -/
theorem s_keys : ∀ L : List (List Int), keysD (L.map tI) = some L
  | [] => rfl
  | s :: L => by
    have k : keyOf (.d (tI s)) = some s := by
      show toIs (intsD s) = some s
      have := toIs_map (fun i : Int => i) s
      rw [List.map_id'] at this
      exact this
    rw [List.map_cons]
    unfold keysD
    rw [k, s_keys L]
theorem setS_at {L : List (List Int)} (hl : L.length ≤ 1200) (hn : ∀ s ∈ L, s ≠ []) : bSetS (.d (rowD L)) = ret (.d (rowD (sortK (uniqK L)))) := by
  unfold bSetS
  have c : chkD (.d (rowD L)) = ret (L.map tI) := rfl
  rw [c, bd_ret, s_keys, oget_some, bd_ret, if_pos ⟨hl, hn⟩]
  rfl
theorem sortB_ky (L : List (List Int)) : sortB (L.map tI) (L.map kyS) = (srS L).map tI := by
  unfold sortB srS
  have z : (L.map tI).zip (L.map kyS) = L.map fun s => (tI s, kyS s) := by rw [List.zip_map']
  rw [z]
  have m := PySem.W.sort_maps (r := PySem.W.dataLe false kyS) (s := PySem.W.dataLe false (Prod.snd : D × D → D)) (fun s : List Int => (tI s, kyS s)) (l := L) (fun _ _ _ _ => rfl)
  rw [← m, List.map_map]
  rfl
theorem s_depI : ∀ xs : List Int, PyData.depthAll (xs.map .int) ≤ 1
  | [] => by simp [PyData.depthAll]
  | x :: xs => by
    have := s_depI xs
    simp only [List.map_cons, PyData.depthAll, PyData.depth]
    omega
theorem s_depT (s : List Int) : (tI s).depth ≤ 2 := by
  have := s_depI s
  show PyData.depthAll (s.map .int) + 1 ≤ 2
  omega
theorem s_depA {ds : List D} {n : Nat} (h : ∀ d ∈ ds, d.depth ≤ n) : PyData.depthAll ds ≤ n := by
  induction ds with
  | nil => simp [PyData.depthAll]
  | cons d ds ih =>
    have h1 := h d List.mem_cons_self
    have h2 := ih fun x hx => h x (List.mem_cons_of_mem _ hx)
    simp only [PyData.depthAll]
    omega
theorem ky_ok {L : List (List Int)} (hl : L.length ≤ lim) : sortOk (L.map kyS) := by
  refine ⟨PySem.W.AllAlike.of fun a b => ?_, PySem.W.Sortable.tuples fun b => ⟨_, _, rfl⟩, ?_, by rw [List.length_map]; exact hl⟩
  · show (true && (PySem.W.alike (tI a) (tI b) && true)) = true
    rw [alk_tI]
    rfl
  · refine Nat.le_trans (s_depA (n := 3) fun d hd => ?_) (by omega)
    obtain ⟨s, _, rfl⟩ := List.mem_map.mp hd
    have := s_depT s
    simp only [kyS, PyData.depth, PyData.depthAll]
    omega
theorem tI_ok {L : List (List Int)} (hl : L.length ≤ lim) (hn : ∀ s ∈ L, s ≠ []) : sortOk (L.map tI) := by
  refine ⟨PySem.W.AllAlike.of fun a b => alk_tI a b, .inl fun d hd => ?_, ?_, by rw [List.length_map]; exact hl⟩
  · obtain ⟨s, hs, rfl⟩ := List.mem_map.mp hd
    cases s with
    | nil => exact absurd rfl (hn _ hs)
    | cons x s => exact ⟨.int x, s.map .int, rfl⟩
  · refine Nat.le_trans (s_depA (n := 2) fun d hd => ?_) (by omega)
    obtain ⟨s, _, rfl⟩ := List.mem_map.mp hd
    exact s_depT s
theorem sortD_k (L : List (List Int)) : sortD (L.map tI) = (sortK L).map tI := by
  unfold sortD sortK
  have m := PySem.W.sort_maps (r := PySem.W.dataLe false tD) (s := PySem.W.dataLe false fun d : D => d) tI (l := L) (fun _ _ _ _ => rfl)
  exact m.symm
abbrev fbK : E := eB bTup (aC (eB bSumS (aC (eV 0) aN)) (aC (eV 0) aN))
theorem keyLD_at : ∀ L : List (List Int), keyLD fbK [] (L.map tI) = ret (L.map kyS)
  | [] => rfl
  | s :: L => by
    have ih := keyLD_at L
    have fb : fbK [some (.d (tI s))] = ret (.d (kyS s)) := by
      unfold fbK
      simp only [eB_eq, aC_eq, aN_eq, eV_zero, bd_ret, bd_bd, sumS_tup, bTup_eq2]
      rfl
    rw [List.map_cons, List.map_cons]
    show bd (fbK [some (.d (tI s))]) _ = _
    rw [fb, bd_ret]
    show bd (keyLD fbK [] _) _ = _
    rw [ih]
    rfl
theorem sortB_at {e : E} {loc : Loc} {L : List (List Int)} (he : e loc = ret (.d (rowD L))) (hl : L.length ≤ lim) : eSortB e [] fbK loc = ret (.d (rowD (srS L))) := by
  have ck : chkD (.d (rowD L)) = ret (L.map tI) := rfl
  have ca : capt loc [] = [] := rfl
  unfold eSortB
  rw [he, bd_ret, ck, bd_ret, if_pos (by rw [List.length_map]; exact hl), ca, keyLD_at, noex_ret, bd_ret]
  unfold finB
  rw [if_pos (ky_ok hl), sortB_ky]
  rfl
theorem eLcO_map {α : Type} {e : E} {g : G} {t : Tst} {el : E} {vs : List Nat} {loc : Loc} {st : Store} {k : Nat} (L : List α) (enc : α → Val) (h : α → D) (he : e loc st = .ok (.o k) st) (hk : st[k]? = some (.lst (L.map enc))) (hl : L.length ≤ lim)
    (hb : ∀ x ∈ L, cBody g t el (wip loc vs) (enc x) st = .ok (some (.d (h x))) st) : eLcO e g t el vs loc st = .ok (.d (.list (L.map h))) st := by
  have gl : getL (.o k) st = .ok (k, L.map enc) st := by
    show (match st[k]? with | some (.lst xs) => R.ok (k, xs) st | _ => .bad) = _
    rw [hk]
  unfold eLcO
  rw [bd_eq he, bd_eq gl]
  dsimp only
  rw [if_pos (by rw [List.length_map]; exact hl), bd_eq (noex_eq (compO_same hk enc (fun x => some (.d (h x))) L hb)), filterMap_some (fun x => Val.d (h x)) L, bLst_map h L hl]
  rfl
theorem s_dsO (f : List (List Int)) : toDs (f.map fun s => Val.d (tI s)) = some (f.map tI) := toDs_map tI f
theorem least_step {x : List Int} {f : List (List Int)} (hx : x.length ≤ lim) (hl : f.length < lim) (a b x3 : Option Val) (st : Store) : fBody (gN 3) least_of_L1 (.d (tI x)) [a, b, some (.o st.length), x3, none] (st ++ [.lst (f.map fun s => .d (tI s))]) =
    .ok (.nx, [a, b, some (.o st.length), some (.d (tI x)), none]) (st ++ [.lst ((if covB x f = true then f else f ++ [x]).map fun s => .d (tI s))]) := by
  have g : (st ++ [Ob.lst (f.map fun s => Val.d (tI s))])[st.length]? = some (.lst (f.map fun s => Val.d (tI s))) := by simp
  have c1 : least_of_C1 [a, b, some (.o st.length), some (.d (tI x)), none] (st ++ [.lst (f.map fun s => .d (tI s))]) = .ok (.d (.list (f.map fun s => .bool (ovB x s)))) (st ++ [.lst (f.map fun s => .d (tI s))]) := by
    rw [least_of_C1_eq]
    refine eLcO_map f (fun s => Val.d (tI s)) (fun s => PyData.bool (ovB x s)) rfl g (by omega) fun s _ => ?_
    have o := r_is_over x s hx
    simp only [wip_cons, wip_nil, List.set_cons_succ, List.set_cons_zero, cBody_eq, gN_eq, bd_ret, tTr_eq, if_true, eB_eq, aC_eq, aN_eq, eV_zero, eV_succ, bd_bd, fix2, o]
    rfl
  have t : tNo (tV (eB bAny (aC least_of_C1 aN))) [a, b, some (.o st.length), some (.d (tI x)), none] (st ++ [.lst (f.map fun s => .d (tI s))]) = .ok (!covB x f) (st ++ [.lst (f.map fun s => .d (tI s))]) := by
    have e : eB bAny (aC least_of_C1 aN) [a, b, some (.o st.length), some (.d (tI x)), none] (st ++ [.lst (f.map fun s => .d (tI s))]) = .ok (.d (.bool (covB x f))) (st ++ [.lst (f.map fun s => .d (tI s))]) := by
      rw [eB_eq, aC_eq, bd_bd, bd_eq c1]
      simp only [aN_eq, bd_ret, bAny_map]
      rfl
    rw [tNo_eq, bd_eq (tv_at e)]
    rfl
  show least_of_L1 [a, b, some (.o st.length), some (.d (tI x)), none] _ = _
  rw [least_of_L1_eq]
  by_cases c : covB x f = true
  · rw [c] at t
    rw [if_no t, if_pos c]
    rfl
  · have c' : covB x f = false := by simpa using c
    rw [c'] at t
    have ap := app_last' (o := eV 2) (e := eV 3) (loc := [a, b, some (.o st.length), some (.d (tI x)), none]) (st := st) (xs := f.map fun s => .d (tI s)) (v := .d (tI x)) rfl rfl (by rw [List.length_map]; exact hl)
    rw [if_yes t, if_neg c, exp_at ap, List.map_append]
    rfl
theorem least_loop (a b : Option Val) (st : Store) : ∀ (L f : List (List Int)) (x3 : Option Val), (∀ s ∈ L, s.length ≤ lim) → f.length + L.length < lim → ∃ y3, forL (fBody (gN 3) least_of_L1) (L.map fun s => Val.d (tI s)) [a, b, some (.o st.length), x3, none] (st ++ [.lst (f.map fun s => .d (tI s))]) =
    .ok (.nx, [a, b, some (.o st.length), y3, none]) (st ++ [.lst ((lfL L f).map fun s => .d (tI s))])
  | [], f, x3, _, _ => ⟨x3, rfl⟩
  | x :: L, f, x3, hL, hl => by
    rw [List.length_cons] at hl
    have s := least_step (hL x List.mem_cons_self) (f := f) (by omega) a b x3 st
    obtain ⟨y3, e⟩ := least_loop a b st L (if covB x f = true then f else f ++ [x]) (some (.d (tI x))) (fun z hz => hL z (List.mem_cons_of_mem _ hz)) (by
      by_cases c : covB x f = true
      · rw [if_pos c]; omega
      · rw [if_neg c, List.length_append, List.length_singleton]; omega)
    refine ⟨y3, ?_⟩
    show bd (fBody _ _ _ _) _ _ = _
    rw [bd_eq s]
    exact e
theorem least_of_ex {S : List (List Int)} (hl : S.length ≤ 1200) (hn : ∀ s ∈ S, s ≠ []) (hs : ∀ s ∈ S, s.length ≤ 10) (st : Store) : ∃ o, f_least_of [.d (rowD S)] st = .ok (.d (rowD (lsO S))) (st ++ [o]) := by
  have e0 : List.map some [Val.d (rowD S)] ++ List.replicate (5 - [Val.d (rowD S)].length) none = [some (.d (rowD S)), none, none, none, none] := rfl
  have sl := sr_len S
  have sk : (sortK (uniqK S)).length ≤ S.length := by rw [(sk_perm _).length_eq]; exact uq_len S
  have s1 : sPar 1 2 (eSetS (eV 0)) (eB bNew aN) [some (.d (rowD S)), none, none, none, none] st = .ok (.nx, [some (.d (rowD S)), some (.d (rowD (sortK (uniqK S)))), some (.o st.length), none, none]) (st ++ [.lst []]) := by
    have a : eSetS (eV 0) [some (.d (rowD S)), none, none, none, none] = ret (.d (rowD (sortK (uniqK S)))) := by
      unfold eSetS
      rw [eV_zero, bd_ret, setS_at hl hn]
    have b : eB bNew aN [some (.d (rowD S)), none, none, none, none] st = .ok (.o st.length) (st ++ [.lst []]) := rfl
    rw [sPar_eq, a, bd_ret, bd_eq b]
    rfl
  have it : iSeq (eSortB (eV 1) [] fbK) [some (.d (rowD S)), some (.d (rowD (sortK (uniqK S)))), some (.o st.length), none, none] (st ++ [.lst []]) = .ok ((srS (sortK (uniqK S))).map fun s => Val.d (tI s)) (st ++ [.lst []]) := by
    have e := sortB_at (e := eV 1) (loc := [some (.d (rowD S)), some (.d (rowD (sortK (uniqK S)))), some (.o st.length), none, none]) (L := sortK (uniqK S)) rfl (by rw [lim_eq]; omega)
    have sq : seqOf (.d (rowD (srS (sortK (uniqK S))))) = ret ((srS (sortK (uniqK S))).map tI) := rfl
    rw [iSeq_eq, e, bd_ret, sq, bd_ret, List.map_map]
    rfl
  obtain ⟨y3, lp⟩ := least_loop (some (.d (rowD S))) (some (.d (rowD (sortK (uniqK S))))) st (srS (sortK (uniqK S))) [] none (fun s h => by have := hs s (sr_mem.mp h); rw [lim_eq]; omega) (by rw [lim_eq]; simp; omega)
  have ll : (lfo S).length ≤ S.length := by
    have := lf_len (srS (sortK (uniqK S))) []
    unfold lfo
    simp only [List.length_nil] at this
    omega
  have fin : eB bSortD (aC (eV 2) aN) [some (.d (rowD S)), some (.d (rowD (sortK (uniqK S)))), some (.o st.length), y3, none] (st ++ [.lst ((lfo S).map fun s => .d (tI s))]) = .ok (.d (rowD (lsO S))) (st ++ [.lst ((lfo S).map fun s => .d (tI s))]) := by
    have g : (st ++ [Ob.lst ((lfo S).map fun s => Val.d (tI s))])[st.length]? = some (.lst ((lfo S).map fun s => Val.d (tI s))) := by simp
    have sq : seqAll (.o st.length) (st ++ [Ob.lst ((lfo S).map fun s => Val.d (tI s))]) = .ok ((lfo S).map tI) (st ++ [Ob.lst ((lfo S).map fun s => Val.d (tI s))]) := by
      show (match (st ++ [Ob.lst ((lfo S).map fun s => Val.d (tI s))])[st.length]? with
        | some (.lst xs) => (match toDs xs with | some ds => R.ok ds (st ++ [Ob.lst ((lfo S).map fun s => Val.d (tI s))]) | none => .bad)
        | _ => .bad) = _
      rw [g]
      dsimp only
      rw [s_dsO]
    simp only [eB_eq, aC_eq, aN_eq, eV_zero, eV_succ, bd_ret, bd_bd]
    unfold bSortD
    dsimp only
    rw [bd_eq sq, if_pos (tI_ok (by rw [lim_eq]; omega) fun s h => hn s (ls_sub (by unfold lsO; exact (sk_perm _).mem_iff.mpr h))), sortD_k]
    rfl
  refine ⟨.lst ((lfo S).map fun s => .d (tI s)), ?_⟩
  unfold f_least_of b_least_of
  refine run_rt (l := [some (.d (rowD S)), some (.d (rowD (sortK (uniqK S)))), some (.o st.length), y3, none]) e0 ?_
  rw [seq_nx s1, seq_nx ((sFor_at it).trans lp)]
  exact ret_at fin
/-! ### covered starts -/
theorem r_covers_one {x : List Int} (hx : x.length ≤ lim) {S : List (List Int)} (hS : S.length ≤ lim) : f_covers_one [.d (tI x), .d (rowD S)] = ret (.d (.bool (covB x S))) := by
  have e : covers_one_C1 [some (Val.d (tI x)), some (.d (rowD S)), none] = ret (.d (.list (S.map fun s => .bool (ovB x s)))) := by
    rw [covers_one_C1_eq]
    refine eLc_map S (fun s => Val.d (tI s)) (fun s => PyData.bool (ovB x s)) ?_ hS fun s _ => ?_
    · simp [rowD]
      rfl
    · have o := r_is_over x s hx
      simp [o]
  have an : bAny [.d (.list (S.map fun s => .bool (ovB x s)))] = ret (.d (.bool (covB x S))) := bAny_map (fun s => ovB x s) S
  simp [f_covers_one, b_covers_one, runF_eq, e, an]
theorem r_need_many {x : D} (hx : cl x = true) : f_need_many [.d x] = if whB 0 8 x = true then ret (.d .none) else thr 3 := by
  by_cases h : whB 0 8 x = true <;> simp [f_need_many, b_need_many, runF_eq, r_is_whole hx, h]
theorem many_ok {t : Nat} (h : t ≤ 8) : f_need_many [.d (.int (t : Int))] = ret (.d .none) := by
  rw [r_need_many rfl, if_pos]
  simp [whB]
  omega
/-! ### starts_of -/
theorem atI_last {α : Type} (xs : List α) (x : α) : atI (xs ++ [x]) (-1) = some x := by
  unfold atI ixN
  rw [if_neg (by decide), if_pos (by simp; omega)]
  have : ((-1 : Int) + ((xs ++ [x]).length : Nat)).toNat = xs.length := by simp; omega
  rw [Option.bind_some, this]
  simp
theorem rep_tup {h : Nat} (h1 : 1 ≤ h) (h4 : h ≤ 4) : bMul (.d (.tuple [.int 0])) (.d (.int (h : Int))) = ret (.d (tI (List.replicate h 0))) := by
  have : h = 1 ∨ h = 2 ∨ h = 3 ∨ h = 4 := by omega
  rcases this with rfl | rfl | rfl | rfl <;> rfl
section
variable {ms : List Mv} {h : Nat} (w : WF ms h)
include w
theorem starts_in {s : List Int} (hs : s.length = h) {U : List (List Int)} (hU : U.length ≤ 5000) (x0 x1 x2 x3 x5 x6 : Option Val) : fBody (gN 5) starts_of_L1 (.d (tI s)) [some (.d (eMs ms)), x1, x2, x3, some (.d (rowD U)), x5, none] = ret (.nx, [some (.d (eMs ms)), x1, x2, x3, some (.d (rowD (U ++ ms.map fun m => befL m s))), some (.d (tI s)), none]) := by
  have n6 := w.n6
  have c : starts_of_C1 [some (.d (eMs ms)), x1, x2, x3, some (.d (rowD U)), some (.d (tI s)), none] = ret (.d (rowD (ms.map fun m => befL m s))) := by
    rw [starts_of_C1_eq]
    have e := eLc_map (it := iSeq (eV 0)) (g := gN 6) (t := tTr) (e := eB (fixN 2 f_one_before) (aC (eV 6) (aC (eV 5) aN))) (vs := [6]) (loc := [some (.d (eMs ms)), x1, x2, x3, some (.d (rowD U)), some (.d (tI s)), none]) ms (fun m => Val.d (eMv m)) (fun m => tI (befL m s)) (by simp [eMs]; rfl) (by rw [lim_eq]; omega) fun m hm => by
      have o := r_one_before (w.l1 m hm) (w.l2 m hm) hs w.h4
      simp only [wip_cons, wip_nil, List.set_cons_succ, List.set_cons_zero, cBody_eq, gN_eq, bd_ret, tTr_eq, if_true, eB_eq, aC_eq, aN_eq, eV_zero, eV_succ, bd_bd, fix2, o]
    rw [e]
    unfold rowD
    rw [List.map_map]
    rfl
  show starts_of_L1 [some (.d (eMs ms)), x1, x2, x3, some (.d (rowD U)), some (.d (tI s)), none] = _
  have ad : bAdd (.d (rowD U)) (.d (rowD (ms.map fun m => befL m s))) = ret (.d (rowD (U ++ ms.map fun m => befL m s))) := by
    unfold rowD
    rw [bAdd_lst, if_pos (by rw [List.length_map, List.length_map, List.length_map, lim_eq]; omega), List.map_append]
  rw [starts_of_L1_eq]
  simp only [sAsg_eq, eO_eq, eV_zero, eV_succ, bd_ret, c, ad, gN_eq]
  rfl
theorem starts_inner (x1 x2 x3 : Option Val) : ∀ (L U : List (List Int)) (x5 : Option Val), (∀ s ∈ L, s.length = h) → U.length + L.length * ms.length ≤ 5000 → ∃ y5, forL (fBody (gN 5) starts_of_L1) (L.map fun s => Val.d (tI s)) [some (.d (eMs ms)), x1, x2, x3, some (.d (rowD U)), x5, none] = ret (.nx, [some (.d (eMs ms)), x1, x2, x3, some (.d (rowD (U ++ nxF ms L))), y5, none])
  | [], U, x5, _, _ => ⟨x5, by simp [nxF, forL]⟩
  | s :: L, U, x5, hL, hl => by
    rw [List.length_cons, Nat.succ_mul] at hl
    obtain ⟨y5, e⟩ := starts_inner x1 x2 x3 L (U ++ ms.map fun m => befL m s) (some (.d (tI s))) (fun z hz => hL z (List.mem_cons_of_mem _ hz)) (by rw [List.length_append, List.length_map]; omega)
    refine ⟨y5, ?_⟩
    show bd (fBody _ _ _ _) _ = _
    rw [starts_in w (hL s List.mem_cons_self) (by omega) none x1 x2 x3 x5 none, bd_ret]
    dsimp only
    rw [e]
    unfold nxF
    rw [List.flatMap_cons, List.append_assoc]
/-- the lists told up to t moves -/
noncomputable abbrev stsL (ms : List Mv) (h n : Nat) : List D := (List.range (n + 1)).map fun t => rowD (stF ms h t)
theorem starts_turn {t : Nat} (hb : (stF ms h t).length * ms.length ≤ 1200) (x1 x3 x4 x5 : Option Val) (v : Val) (st : Store) (js : List Ob) (ht : t ≤ 100) : ∃ y4 y5 o, fBody (gN 3) starts_of_L2 v [some (.d (eMs ms)), x1, some (.o st.length), x3, x4, x5, none] (st ++ .lst ((stsL ms h t).map .d) :: js) =
    .ok (.nx, [some (.d (eMs ms)), x1, some (.o st.length), some v, y4, y5, none]) (st ++ .lst ((stsL ms h (t + 1)).map .d) :: (js ++ [o])) := by
  have h1 := w.h1
  have sn := st_nn w t
  have g : (st ++ Ob.lst ((stsL ms h t).map .d) :: js)[st.length]? = some (.lst ((stsL ms h t).map .d)) := by simp
  have split : stsL ms h t = (List.range t).map (fun t => rowD (stF ms h t)) ++ [rowD (stF ms h t)] := by
    unfold stsL
    rw [List.range_succ, List.map_append]
    rfl
  have next : stsL ms h (t + 1) = stsL ms h t ++ [rowD (stF ms h (t + 1))] := by
    unfold stsL
    rw [List.range_succ (n := t + 1), List.map_append]
    rfl
  have s1 : sAsg (eB bLst aN) (gN 4) [some (.d (eMs ms)), x1, some (.o st.length), some v, x4, x5, none] = ret (.nx, [some (.d (eMs ms)), x1, some (.o st.length), some v, some (.d (rowD [])), x5, none]) := rfl
  have it : iSeq (eO bIx (eV 2) (eU bNeg (eC (.int 1)))) [some (.d (eMs ms)), x1, some (.o st.length), some v, some (.d (rowD [])), x5, none] (st ++ .lst ((stsL ms h t).map .d) :: js) = .ok ((stF ms h t).map fun s => Val.d (tI s)) (st ++ .lst ((stsL ms h t).map .d) :: js) := by
    have ix : bIx (.o st.length) (.d (.int (-1))) (st ++ .lst ((stsL ms h t).map .d) :: js) = .ok (.d (rowD (stF ms h t))) (st ++ .lst ((stsL ms h t).map .d) :: js) := by
      refine bIx_o g ?_
      rw [split, List.map_append]
      exact atI_last _ _
    have sq : seqOf (.d (rowD (stF ms h t))) = ret ((stF ms h t).map tI) := rfl
    rw [iSeq_eq]
    simp only [eO_eq, eU_eq, eC_eq, eV_zero, eV_succ, bd_ret, bNeg_int]
    rw [bd_eq ix, sq, bd_ret, List.map_map]
    rfl
  obtain ⟨y5, lp⟩ := starts_inner w x1 (some (.o st.length)) (some v) (stF ms h t) [] x5 (fun s hs => (sn s hs).1) (by simp; omega)
  have nl : (nxF ms (stF ms h t)).length = (stF ms h t).length * ms.length := by
    unfold nxF
    rw [List.length_flatMap]
    have : ((stF ms h t).map fun s => (ms.map fun m => befL m s).length) = List.replicate (stF ms h t).length ms.length := by
      rw [List.eq_replicate_iff]
      refine ⟨by simp, fun x hx => ?_⟩
      obtain ⟨s, _, rfl⟩ := List.mem_map.mp hx
      simp
    rw [this, List.sum_replicate_nat]
  have nn := nx_nn w (S := stF ms h t) fun s hs => (sn s hs).1
  obtain ⟨o, lo⟩ := least_of_ex (S := nxF ms (stF ms h t)) (by omega) (fun s hs z => by have := (nn s hs).1; rw [z] at this; simp at this; omega) (fun s hs => by have := (nn s hs).1; have := w.h4; omega) (st ++ .lst ((stsL ms h t).map .d) :: js)
  refine ⟨some (.d (rowD ([] ++ nxF ms (stF ms h t)))), y5, o, ?_⟩
  have ll := ls_len (nxF ms (stF ms h t))
  have call : eB (fixN 1 f_least_of) (aC (eV 4) aN) [some (.d (eMs ms)), x1, some (.o st.length), some v, some (.d (rowD ([] ++ nxF ms (stF ms h t)))), y5, none] (st ++ .lst ((stsL ms h t).map .d) :: js) = .ok (.d (rowD (stF ms h (t + 1)))) (st ++ .lst ((stsL ms h t).map .d) :: (js ++ [o])) := by
    refine call1 rfl (lo.trans ?_)
    rw [List.append_assoc]
    rfl
  have ap := app_at (o := eV 2) (e := eB (fixN 1 f_least_of) (aC (eV 4) aN)) (loc := [some (.d (eMs ms)), x1, some (.o st.length), some v, some (.d (rowD ([] ++ nxF ms (stF ms h t)))), y5, none]) (k := st.length) rfl g call (by simp) (by simp [lim]; omega)
  rw [set_mid] at ap
  show starts_of_L2 [some (.d (eMs ms)), x1, some (.o st.length), some v, x4, x5, none] _ = _
  rw [starts_of_L2_eq, seq_nx (by rw [s1]; rfl), seq_nx ((sFor_at it).trans (by rw [lp]; rfl)), exp_at ap, next, List.map_append]
  rfl
theorem starts_loop (x1 : Option Val) (st : Store) : ∀ (n i : Nat) (L : List Val) (x3 x4 x5 : Option Val) (js : List Ob), L.length = n → i + n ≤ 100 → (∀ t, t < i + n → (stF ms h t).length * ms.length ≤ 1200) → ∃ y3 y4 y5 js', forL (fBody (gN 3) starts_of_L2) L [some (.d (eMs ms)), x1, some (.o st.length), x3, x4, x5, none] (st ++ .lst ((stsL ms h i).map .d) :: js) =
    .ok (.nx, [some (.d (eMs ms)), x1, some (.o st.length), y3, y4, y5, none]) (st ++ .lst ((stsL ms h (i + n)).map .d) :: js')
  | 0, i, L, x3, x4, x5, js, hl, _, _ => by
    have : L = [] := List.eq_nil_of_length_eq_zero hl
    subst this
    exact ⟨x3, x4, x5, js, rfl⟩
  | n + 1, i, v :: L, x3, x4, x5, js, hl, hi, hb => by
    obtain ⟨y4, y5, o, e⟩ := starts_turn w (hb i (by omega)) x1 x3 x4 x5 v st js (by omega)
    obtain ⟨z3, z4, z5, js', e2⟩ := starts_loop x1 st n (i + 1) L (some v) y4 y5 (js ++ [o]) (by simpa using hl) (by omega) fun t ht => hb t (by omega)
    refine ⟨z3, z4, z5, js', ?_⟩
    show bd (fBody _ _ _ _) _ _ = _
    rw [bd_eq e]
    rw [show i + (n + 1) = i + 1 + n by omega]
    exact e2
theorem starts_ex {n : Nat} (hn : n ≤ 8) (hb : ∀ t, t < n → (stF ms h t).length * ms.length ≤ 1200) (st : Store) : ∃ xs, f_starts_of [.d (eMs ms), .d (.int (n : Int))] st = .ok (.d (.list (stsL ms h n))) (st ++ xs) := by
  have e0 : List.map some [Val.d (eMs ms), .d (.int (n : Int))] ++ List.replicate (7 - [Val.d (eMs ms), .d (.int (n : Int))].length) none = [some (.d (eMs ms)), some (.d (.int (n : Int))), none, none, none, none, none] := rfl
  have s1 : sAsg (eB bNew (aC (eB bLst (aC (eO bMul (eB bTup (aC (eC (.int 0)) aN)) (eB (fixN 1 f_heaps_of) (aC (eV 0) aN))) aN)) aN)) (gN 2) [some (.d (eMs ms)), some (.d (.int (n : Int))), none, none, none, none, none] st = .ok (.nx, [some (.d (eMs ms)), some (.d (.int (n : Int))), some (.o st.length), none, none, none, none]) (st ++ [.lst ((stsL ms h 0).map .d)]) := by
    have rt := rep_tup w.h1 w.h4
    have a : eB bLst (aC (eO bMul (eB bTup (aC (eC (.int 0)) aN)) (eB (fixN 1 f_heaps_of) (aC (eV 0) aN))) aN) [some (.d (eMs ms)), some (.d (.int (n : Int))), none, none, none, none, none] = ret (.d (rowD [List.replicate h 0])) := by
      simp only [eB_eq, aC_eq, aN_eq, eO_eq, eC_eq, eV_zero, bd_ret, bd_bd, fix1, bTup_eq1, w.heaps, rt, bLst_eq1]
      rfl
    have b : eB bNew (aC (eB bLst (aC (eO bMul (eB bTup (aC (eC (.int 0)) aN)) (eB (fixN 1 f_heaps_of) (aC (eV 0) aN))) aN)) aN) [some (.d (eMs ms)), some (.d (.int (n : Int))), none, none, none, none, none] st = .ok (.o st.length) (st ++ [.lst ((stsL ms h 0).map .d)]) := by
      rw [eB_eq, aC_eq, a, bd_ret]
      rfl
    rw [asg_gN b]
    rfl
  have it : iCall kRg1 (aC (eV 1) aN) [some (.d (eMs ms)), some (.d (.int (n : Int))), some (.o st.length), none, none, none, none] = ret ((List.range n).map fun (i : Nat) => Val.d (.int (0 + (i : Int)))) := by
    have e := kRg1_nat (z := (n : Int)) rfl (show n ≤ 1000 by omega)
    simp only [iCall_eq, aC_eq, aN_eq, eV_zero, eV_succ, bd_ret, e]
  obtain ⟨y3, y4, y5, js, lp⟩ := starts_loop w (some (.d (.int (n : Int)))) st n 0 ((List.range n).map fun (i : Nat) => Val.d (.int (0 + (i : Int)))) none none none [] (by simp) (by omega) fun t ht => hb t (by omega)
  rw [Nat.zero_add] at lp
  have g : (st ++ Ob.lst ((stsL ms h n).map .d) :: js)[st.length]? = some (.lst ((stsL ms h n).map .d)) := by simp
  have fz := bFrz_at g (by simp [lim]; omega)
  rw [set_mid] at fz
  refine ⟨.gone :: js, ?_⟩
  unfold f_starts_of b_starts_of
  refine run_rt (l := [some (.d (eMs ms)), some (.d (.int (n : Int))), some (.o st.length), y3, y4, y5, none]) e0 ?_
  rw [seq_nx s1, seq_nx ((sFor_at (by rw [it]; rfl)).trans lp)]
  exact ret_at (un_at (v := .o st.length) (st1 := st ++ Ob.lst ((stsL ms h n).map .d) :: js) rfl fz)
theorem sts_last (ms : List Mv) (h n : Nat) : atI (stsL ms h n) (-1) = some (rowD (stF ms h n)) := by
  unfold stsL
  rw [List.range_succ, List.map_append]
  exact atI_last _ _
theorem sts_at (ms : List Mv) (h : Nat) {n t : Nat} (ht : t ≤ n) : atI (stsL ms h n) (t : Int) = some (rowD (stF ms h t)) := by
  refine atI_nat rfl ?_
  unfold stsL
  rw [List.getElem?_map, List.getElem?_range (by omega)]
  rfl
theorem least_starts_ex {n : Nat} (hn : n ≤ 8) (hb : ∀ t, t < n → (stF ms h t).length * ms.length ≤ 1200) (st : Store) : ∃ xs, f_least_starts [.d (eMs ms), .d (.int (n : Int))] st = .ok (.d (rowD (stF ms h n))) (st ++ xs) := by
  obtain ⟨xs, e⟩ := starts_ex w hn hb st
  refine ⟨xs, ?_⟩
  have e0 : List.map some [Val.d (eMs ms), .d (.int (n : Int))] ++ List.replicate (2 - [Val.d (eMs ms), .d (.int (n : Int))].length) none = [some (.d (eMs ms)), some (.d (.int (n : Int)))] := rfl
  have nd : f_need_moves [.d (eMs ms)] st = .ok (.d .none) st := by rw [w.need]; rfl
  have nm : f_need_many [.d (.int (n : Int))] st = .ok (.d .none) st := by rw [many_ok hn]; rfl
  unfold f_least_starts b_least_starts
  refine run_rt e0 (l := [some (.d (eMs ms)), some (.d (.int (n : Int)))]) ?_
  rw [seq_nx (exp_at (call1 rfl nd)), seq_nx (exp_at (call1 rfl nm))]
  refine ret_at (op_at (call2 rfl rfl e) (u := .d (.int (-1))) (st2 := st ++ xs) rfl ?_)
  rw [bIx_lst, sts_last w]
  rfl
theorem can_go_ex {n : Nat} (hn : n ≤ 8) (hb : ∀ t, t < n → (stF ms h t).length * ms.length ≤ 1200) (hbn : (stF ms h n).length ≤ lim) {x : List Int} (hx : St h x) (st : Store) : ∃ xs, f_can_go [.d (eMs ms), .d (tI x), .d (.int (n : Int))] st = .ok (.d (.bool (goB ms n x))) (st ++ xs) := by
  obtain ⟨xs, e⟩ := starts_ex w hn hb st
  refine ⟨xs, ?_⟩
  have h4 := w.h4
  have e0 : List.map some [Val.d (eMs ms), .d (tI x), .d (.int (n : Int))] ++ List.replicate (3 - [Val.d (eMs ms), .d (tI x), .d (.int (n : Int))].length) none = [some (.d (eMs ms)), some (.d (tI x)), some (.d (.int (n : Int)))] := rfl
  have nd : f_need_moves [.d (eMs ms)] st = .ok (.d .none) st := by rw [w.need]; rfl
  have ns : f_need_standing [.d (eMs ms), .d (tI x)] st = .ok (.d .none) st := by rw [w.st hx]; rfl
  have nm : f_need_many [.d (.int (n : Int))] st = .ok (.d .none) st := by rw [many_ok hn]; rfl
  have co : f_covers_one [.d (tI x), .d (rowD (stF ms h n))] (st ++ xs) = .ok (.d (.bool (goB ms n x))) (st ++ xs) := by
    rw [r_covers_one (by rw [hx.l, lim_eq]; omega) hbn, cov_go w n x hx.l fun z hz => (hx.b z hz).1]
    rfl
  have arg : eO bIx (eB (fixN 2 f_starts_of) (aC (eV 0) (aC (eV 2) aN))) (eU bNeg (eC (.int 1))) [some (.d (eMs ms)), some (.d (tI x)), some (.d (.int (n : Int)))] st = .ok (.d (rowD (stF ms h n))) (st ++ xs) := by
    refine op_at (call2 rfl rfl e) (u := .d (.int (-1))) (st2 := st ++ xs) rfl ?_
    rw [bIx_lst, sts_last w]
    rfl
  unfold f_can_go b_can_go
  refine run_rt e0 (l := [some (.d (eMs ms)), some (.d (tI x)), some (.d (.int (n : Int)))]) ?_
  rw [seq_nx (exp_at (call1 rfl nd)), seq_nx (exp_at (call2 rfl rfl ns)), seq_nx (exp_at (call1 rfl nm))]
  refine ret_at ?_
  rw [eB_eq, aC_eq]
  simp only [eV_succ, eV_zero, bd_ret, bd_bd]
  rw [aC_eq, bd_bd, bd_eq arg]
  simp only [aN_eq, bd_ret, fix2]
  exact co
end

end Y
end
section
set_option Elab.async false
set_option linter.all false
set_option maxRecDepth 10000
set_option exponentiation.threshold 5000
namespace Y
open PySem (PyData Str)
/-! ### comprehensions that leave the store -/
theorem compL_same {α : Type} {body : Val → M (Option Val)} {st : Store} (enc : α → Val) (h : α → Option Val) : ∀ (L : List α), (∀ p ∈ L, body (enc p) st = .ok (h p) st) → compL body (L.map enc) st = .ok (L.filterMap h) st
  | [], _ => rfl
  | p :: L, hp => by
    show bd (body (enc p)) _ st = _
    rw [bd_eq (hp p List.mem_cons_self), bd_eq (compL_same enc h L fun q hq => hp q (List.mem_cons_of_mem _ hq))]
    show R.ok (consO (h p) (L.filterMap h)) st = _
    cases e : h p with
    | none => rw [List.filterMap_cons_none e]; rfl
    | some y => rw [List.filterMap_cons_some e]; rfl
theorem eLc_mapS {α : Type} {it : I} {g : G} {t : Tst} {e : E} {vs : List Nat} {loc : Loc} {st st0 : Store} (L : List α) (enc : α → Val) (h : α → D) (hi : it loc st0 = .ok (L.map enc) st) (hl : L.length ≤ lim)
    (hb : ∀ p ∈ L, cBody g t e (wip loc vs) (enc p) st = .ok (some (.d (h p))) st) : eLc it g t e vs loc st0 = .ok (.d (.list (L.map h))) st := by
  unfold eLc
  rw [bd_eq hi, if_pos (by rw [List.length_map]; exact hl), bd_eq (noex_eq (compL_same enc (fun p => some (.d (h p))) L hb)), filterMap_some, bLst_map h L hl]
  rfl
theorem eLc_filterS {α : Type} {it : I} {g : G} {t : Tst} {e : E} {vs : List Nat} {loc : Loc} {st st0 : Store} (L : List α) (enc : α → Val) (p : α → Bool) (h : α → D) (hi : it loc st0 = .ok (L.map enc) st) (hl : L.length ≤ lim)
    (hb : ∀ x ∈ L, cBody g t e (wip loc vs) (enc x) st = .ok (if p x = true then some (.d (h x)) else none) st) : eLc it g t e vs loc st0 = .ok (.d (.list ((L.filter p).map h))) st := by
  have := List.length_filter_le p L
  unfold eLc
  rw [bd_eq hi, if_pos (by rw [List.length_map]; exact hl), bd_eq (noex_eq (compL_same enc (fun x => if p x = true then some (.d (h x)) else none) L hb)), filterMap_if p (fun x => Val.d (h x)), bLst_map h (L.filter p) (by omega)]
  rfl

/-! ### rows -/
structure Rw (ms : List Mv) (row : List Nat) : Prop where
  l : row.length ≤ 200
  b : ∀ i ∈ row, i < ms.length
def nI (row : List Nat) : List Int := row.map fun (i : Nat) => (i : Int)
def lI' (row : List Nat) : D := .list (intsD (nI row))

/-! ### rows of so many, plainly -/
def rwF (ms : List Mv) : Nat → List Int → List (List Nat)
  | 0, _ => [[]]
  | t + 1, s => (canL s ms).flatMap fun p => (rwF ms t (addL s (chg p.1))).map (p.2 :: ·)
theorem rwF_succ (ms : List Mv) (t : Nat) (s : List Int) : rwF ms (t + 1) s = (canL s ms).flatMap fun p => (rwF ms t (addL s (chg p.1))).map (p.2 :: ·) := rfl
theorem can_any {s : List Int} {ms : List Mv} {P : Mv → Prop} : (∃ p ∈ canL s ms, P p.1) ↔ ∃ m ∈ ms, ovB s m.1 = true ∧ P m := by
  unfold canL
  constructor
  · rintro ⟨p, hp, h⟩
    obtain ⟨a, b⟩ := List.mem_filter.mp hp
    exact ⟨p.1, zip_mem a, b, h⟩
  · rintro ⟨m, hm, ho, h⟩
    obtain ⟨i, hi⟩ := List.mem_iff_getElem?.mp hm
    refine ⟨(m, i), List.mem_filter.mpr ⟨?_, ho⟩, h⟩
    rw [List.mem_iff_getElem?]
    exact ⟨i, by rw [List.getElem?_zipIdx, hi]; simp⟩
theorem go_can (ms : List Mv) (t : Nat) (s : List Int) : goB ms (t + 1) s = true ↔ ∃ p ∈ canL s ms, goB ms t (addL s (chg p.1)) = true := by
  rw [can_any (P := fun m => goB ms t (addL s (chg m)) = true), goB_succ, List.any_eq_true]
  constructor
  · rintro ⟨m, hm, e⟩
    by_cases ho : ovB s m.1 = true
    · unfold movF at e
      rw [if_pos ho] at e
      exact ⟨m, hm, ho, e⟩
    · unfold movF at e
      rw [if_neg ho] at e
      cases e
  · rintro ⟨m, hm, ho, e⟩
    refine ⟨m, hm, ?_⟩
    unfold movF
    rw [if_pos ho]
    exact e
theorem rw_ne (ms : List Mv) : ∀ (t : Nat) (s : List Int), rwF ms t s ≠ [] ↔ goB ms t s = true
  | 0, s => by simp [rwF, goB]
  | t + 1, s => by
    rw [go_can]
    unfold rwF
    rw [Ne, List.flatMap_eq_nil_iff]
    constructor
    · intro h
      refine Classical.byContradiction fun hn => h fun p hp => ?_
      have : ¬ rwF ms t (addL s (chg p.1)) ≠ [] := fun z => hn ⟨p, hp, (rw_ne ms t _).mp z⟩
      rw [Classical.not_not.mp this]
      rfl
    · rintro ⟨p, hp, e⟩ h
      have := h p hp
      rw [List.map_eq_nil_iff] at this
      exact (rw_ne ms t _).mpr e this
/-- the first row -/
def frF (ms : List Mv) : Nat → List Int → List Nat
  | 0, _ => []
  | t + 1, s => match (canL s ms).filter (fun p => goB ms t (addL s (chg p.1))) with
    | [] => []
    | p :: _ => p.2 :: frF ms t (addL s (chg p.1))
theorem flat_first {α β : Type} (Q : α → Bool) (f : α → List β) (hQ : ∀ x, Q x = false → f x = []) {p : α} {r : List α} : ∀ {L : List α}, L.filter Q = p :: r → ∃ R, L.flatMap f = f p ++ R
  | [], h => by cases h
  | x :: L, h => by
    rw [List.flatMap_cons]
    by_cases q : Q x = true
    · rw [List.filter_cons_of_pos q] at h
      injection h with h1 h2
      exact ⟨_, by rw [h1]⟩
    · rw [List.filter_cons_of_neg q] at h
      obtain ⟨R, e⟩ := flat_first Q f hQ h
      exact ⟨R, by rw [hQ x (by simpa using q), e]; rfl⟩
theorem fr_head (ms : List Mv) : ∀ (t : Nat) (s : List Int), goB ms t s = true → ∃ R, rwF ms t s = frF ms t s :: R
  | 0, s, _ => ⟨[], rfl⟩
  | t + 1, s, h => by
    obtain ⟨q, hq, e⟩ := (go_can ms t s).mp h
    cases c : (canL s ms).filter (fun p => goB ms t (addL s (chg p.1))) with
    | nil =>
      have := List.filter_eq_nil_iff.mp c q hq
      exact absurd e this
    | cons p r =>
      have gp : goB ms t (addL s (chg p.1)) = true := by
        have : p ∈ (canL s ms).filter (fun p => goB ms t (addL s (chg p.1))) := by rw [c]; exact List.mem_cons_self
        exact (List.mem_filter.mp this).2
      obtain ⟨R, e1⟩ := fr_head ms t _ gp
      obtain ⟨R2, e2⟩ := flat_first (fun p : Mv × Nat => goB ms t (addL s (chg p.1))) (fun p : Mv × Nat => (rwF ms t (addL s (chg p.1))).map (p.2 :: ·)) (fun x hx => by
        have : ¬ rwF ms t (addL s (chg x.1)) ≠ [] := fun z => by rw [(rw_ne ms t _).mp z] at hx; cases hx
        rw [Classical.not_not.mp this]
        rfl) c
      unfold rwF frF
      rw [e2, c, e1]
      exact ⟨_, rfl⟩
/-! ### the law's own rows -/
abbrev RwS := List Nat × List Int
def eRS (q : RwS) : D := .tuple [lI' q.1, tI q.2]
def rwS (ms : List Mv) (L : List RwS) : List RwS := L.flatMap fun q => (canL q.2 ms).map fun p => (q.1 ++ [p.2], addL q.2 (chg p.1))
def rwI (ms : List Mv) : Nat → List RwS → List RwS
  | 0, L => L
  | t + 1, L => rwI ms t (rwS ms L)
theorem rwI_eq (ms : List Mv) : ∀ (t : Nat) (L : List RwS), (rwI ms t L).map (·.1) = L.flatMap fun q => (rwF ms t q.2).map (q.1 ++ ·)
  | 0, L => by
    show L.map (·.1) = L.flatMap fun q => [q.1 ++ []]
    induction L with
    | nil => rfl
    | cons q L ih => rw [List.map_cons, List.flatMap_cons, ih, List.append_nil]; rfl
  | t + 1, L => by
    show (rwI ms t (rwS ms L)).map (·.1) = _
    rw [rwI_eq ms t (rwS ms L)]
    unfold rwS
    rw [List.flatMap_assoc]
    congr 1
    funext q
    rw [rwF_succ, List.flatMap_map, List.map_flatMap]
    congr 1
    funext p
    rw [List.map_map]
    congr 1
    funext r
    simp
theorem rwS_len (ms : List Mv) (L : List RwS) : (rwS ms L).length ≤ ms.length * L.length := by
  induction L with
  | nil => simp [rwS]
  | cons q L ih =>
    unfold rwS at ih ⊢
    rw [List.flatMap_cons, List.length_append, List.length_map, List.length_cons, Nat.mul_succ]
    have := can_len q.2 ms
    omega
section
variable {ms : List Mv} {h : Nat} (w : WF ms h)
include w
theorem rwS_l {L : List RwS} (hL : ∀ q ∈ L, q.2.length = h) : ∀ q ∈ rwS ms L, q.2.length = h := fun q hq => by
  obtain ⟨u, hu, hq⟩ := List.mem_flatMap.mp hq
  obtain ⟨p, hp, rfl⟩ := List.mem_map.mp hq
  have l1 := w.l1 _ (can_mem hp)
  have l2 := w.l2 _ (can_mem hp)
  have cl := chg_len (m := p.1) (by omega)
  have := hL u hu
  show (addL u.2 (chg p.1)).length = h
  rw [addL_len (by omega)]
  exact hL u hu
theorem allrows_step {q : RwS} (hq : q.2.length = h) {acc : List RwS} (hl : acc.length ≤ 20000) (hr : q.1.length ≤ 1000) (x1 x2 x3 x4 x6 x7 : Option Val) (st : Store) : ∃ xs, fBody (gT 2 (gsC (gN 6) (gsC (gN 7) gsN))) law_all_rows_L1 (.d (eRS q)) [some (.d (eMs ms)), x1, x2, x3, x4, some (.d (.list (acc.map eRS))), x6, x7, none, none] st =
    .ok (.nx, [some (.d (eMs ms)), x1, x2, x3, x4, some (.d (.list ((acc ++ (canL q.2 ms).map fun p => (q.1 ++ [p.2], addL q.2 (chg p.1))).map eRS))), some (.d (lI' q.1)), some (.d (tI q.2)), none, none]) (st ++ xs) := by
  have n6 := w.n6
  have cl := can_len q.2 ms
  obtain ⟨xs, e⟩ := ways_ex w hq st
  refine ⟨xs, ?_⟩
  have it : iSeq (eB (fixN 2 f_law_ways) (aC (eV 0) (aC (eV 7) aN))) [some (.d (eMs ms)), x1, x2, x3, x4, some (.d (.list (acc.map eRS))), some (.d (lI' q.1)), some (.d (tI q.2)), none, none] st = .ok ((canL q.2 ms).map fun p => Val.d (eWay q.2 p)) (st ++ xs) := by
    have sq : seqOf (.d (.list ((canL q.2 ms).map (eWay q.2)))) = ret ((canL q.2 ms).map (eWay q.2)) := rfl
    rw [iSeq_eq, bd_eq (call2 rfl rfl e), sq, bd_ret, List.map_map]
    rfl
  have c := eLc_mapS (it := iSeq (eB (fixN 2 f_law_ways) (aC (eV 0) (aC (eV 7) aN)))) (g := gT 2 (gsC (gN 8) (gsC (gN 9) gsN))) (t := tTr) (e := eB bTup (aC (eO bAdd (eV 6) (eB bLst (aC (eV 8) aN))) (aC (eV 9) aN))) (vs := [8, 9]) (canL q.2 ms) (fun p => Val.d (eWay q.2 p)) (fun p => eRS (q.1 ++ [p.2], addL q.2 (chg p.1))) it (by rw [lim_eq]; omega) fun p hp => by
    have ad : bAdd (.d (lI' q.1)) (.d (.list [.int (p.2 : Int)])) = ret (.d (lI' (q.1 ++ [p.2]))) := by
      unfold lI' nI intsD
      rw [bAdd_lst, if_pos (by simp [lim]; omega)]
      simp
    simp only [wip_cons, wip_nil, List.set_cons_succ, List.set_cons_zero, cBody_eq, eWay, gT_eq, List.length_cons, List.length_nil, if_true, List.map_cons, List.map_nil, gsC_eq, gN_eq, bd_ret, gsN_eq, tTr_eq, eB_eq, aC_eq, aN_eq, eO_eq, eV_zero, eV_succ, bd_bd, bLst_eq1, ad, bTup_eq2]
    try rfl
  have c1 : law_all_rows_C1 [some (.d (eMs ms)), x1, x2, x3, x4, some (.d (.list (acc.map eRS))), some (.d (lI' q.1)), some (.d (tI q.2)), none, none] st = .ok (.d (.list (((canL q.2 ms).map fun p => (q.1 ++ [p.2], addL q.2 (chg p.1))).map eRS))) (st ++ xs) := by
    rw [law_all_rows_C1_eq, c, List.map_map]
    rfl
  have ad : bAdd (.d (.list (acc.map eRS))) (.d (.list (((canL q.2 ms).map fun p => (q.1 ++ [p.2], addL q.2 (chg p.1))).map eRS))) = ret (.d (.list ((acc ++ (canL q.2 ms).map fun p => (q.1 ++ [p.2], addL q.2 (chg p.1))).map eRS))) := by
    rw [bAdd_lst, if_pos (by rw [List.length_map, List.length_map, List.length_map, lim_eq]; omega), ← List.map_append]
  show law_all_rows_L1 [some (.d (eMs ms)), x1, x2, x3, x4, some (.d (.list (acc.map eRS))), some (.d (lI' q.1)), some (.d (tI q.2)), none, none] st = _
  rw [law_all_rows_L1_eq, asg_gN (op_at (v := .d (.list (acc.map eRS))) (st1 := st) rfl c1 (by rw [ad]; rfl))]
  rfl
theorem allrows_inner (x1 x2 x3 x4 : Option Val) : ∀ (L acc : List RwS) (x6 x7 : Option Val) (st : Store), (∀ q ∈ L, q.2.length = h ∧ q.1.length ≤ 1000) → acc.length + ms.length * L.length ≤ 20000 → ∃ y6 y7 xs, forL (fBody (gT 2 (gsC (gN 6) (gsC (gN 7) gsN))) law_all_rows_L1) (L.map fun q => Val.d (eRS q)) [some (.d (eMs ms)), x1, x2, x3, x4, some (.d (.list (acc.map eRS))), x6, x7, none, none] st =
    .ok (.nx, [some (.d (eMs ms)), x1, x2, x3, x4, some (.d (.list ((acc ++ rwS ms L).map eRS))), y6, y7, none, none]) (st ++ xs)
  | [], acc, x6, x7, st, _, _ => ⟨x6, x7, [], by simp [rwS, forL]⟩
  | q :: L, acc, x6, x7, st, hL, hl => by
    rw [List.length_cons, Nat.mul_succ] at hl
    have cl := can_len q.2 ms
    obtain ⟨xs, e⟩ := allrows_step w (hL q List.mem_cons_self).1 (acc := acc) (by omega) (hL q List.mem_cons_self).2 x1 x2 x3 x4 x6 x7 st
    obtain ⟨y6, y7, xs2, e2⟩ := allrows_inner x1 x2 x3 x4 L (acc ++ (canL q.2 ms).map fun p => (q.1 ++ [p.2], addL q.2 (chg p.1))) (some (.d (lI' q.1))) (some (.d (tI q.2))) (st ++ xs) (fun z hz => hL z (List.mem_cons_of_mem _ hz)) (by rw [List.length_append, List.length_map]; omega)
    refine ⟨y6, y7, xs ++ xs2, ?_⟩
    show bd (fBody _ _ _ _) _ st = _
    rw [bd_eq e]
    refine e2.trans ?_
    unfold rwS
    rw [List.flatMap_cons, List.append_assoc, List.append_assoc]
theorem rwS_r {L : List RwS} {n : Nat} (hL : ∀ q ∈ L, q.1.length = n) : ∀ q ∈ rwS ms L, q.1.length = n + 1 := fun q hq => by
  obtain ⟨u, hu, hq⟩ := List.mem_flatMap.mp hq
  obtain ⟨p, hp, rfl⟩ := List.mem_map.mp hq
  show (u.1 ++ [p.2]).length = n + 1
  rw [List.length_append, hL u hu]
  rfl
theorem allrows_loop (x1 x2 : Option Val) : ∀ (n : Nat) (vs : List Val) (L : List RwS) (r : Nat) (x4 x5 x6 x7 : Option Val) (st : Store), vs.length = n → (∀ q ∈ L, q.2.length = h) → (∀ q ∈ L, q.1.length = r) → r + n ≤ 100 → L.length * ms.length ^ n ≤ 20000 → ∃ y4 y5 y6 y7 xs, forL (fBody (gN 4) law_all_rows_L2) vs [some (.d (eMs ms)), x1, x2, some (.d (.list (L.map eRS))), x4, x5, x6, x7, none, none] st =
    .ok (.nx, [some (.d (eMs ms)), x1, x2, some (.d (.list ((rwI ms n L).map eRS))), y4, y5, y6, y7, none, none]) (st ++ xs)
  | 0, vs, L, r, x4, x5, x6, x7, st, hv, _, _, _, _ => by
    have : vs = [] := List.eq_nil_of_length_eq_zero hv
    subst this
    exact ⟨x4, x5, x6, x7, [], by rw [List.append_nil]; rfl⟩
  | n + 1, v :: vs, L, r, x4, x5, x6, x7, st, hv, hL, hr, hrn, hb => by
    have n1 := w.n1
    have hb : L.length * ms.length ^ n * ms.length ≤ 20000 := by rw [Nat.mul_assoc, ← Nat.pow_succ]; exact hb
    have pp : 1 ≤ ms.length ^ n := Nat.pow_pos n1
    have h1 : ms.length * L.length ≤ 20000 := by
      have : ms.length * L.length ≤ L.length * ms.length ^ n * ms.length := by
        rw [Nat.mul_comm ms.length]
        exact Nat.mul_le_mul_right _ (Nat.le_mul_of_pos_right _ pp)
      omega
    obtain ⟨y6, y7, xs, e⟩ := allrows_inner w x1 x2 (some (.d (.list (L.map eRS)))) (some v) L [] x6 x7 st (fun q hq => ⟨hL q hq, by rw [hr q hq]; omega⟩) (by simpa using h1)
    have sl := rwS_len ms L
    obtain ⟨z4, z5, z6, z7, xs2, e2⟩ := allrows_loop x1 x2 n vs (rwS ms L) (r + 1) (some v) (some (.d (.list ((rwS ms L).map eRS)))) y6 y7 (st ++ xs) (by simpa using hv) (rwS_l w hL) (rwS_r w hr) (by omega) (by
      refine Nat.le_trans (Nat.mul_le_mul_right _ sl) ?_
      rw [Nat.mul_assoc, Nat.mul_comm ms.length]
      exact hb)
    refine ⟨z4, z5, z6, z7, xs ++ xs2, ?_⟩
    have s1 : sAsg (eB bLst aN) (gN 5) [some (.d (eMs ms)), x1, x2, some (.d (.list (L.map eRS))), some v, x5, x6, x7, none, none] st = .ok (.nx, [some (.d (eMs ms)), x1, x2, some (.d (.list (L.map eRS))), some v, some (.d (.list (([] : List RwS).map eRS))), x6, x7, none, none]) st := rfl
    have it : iSeq (eV 3) [some (.d (eMs ms)), x1, x2, some (.d (.list (L.map eRS))), some v, some (.d (.list (([] : List RwS).map eRS))), x6, x7, none, none] st = .ok (L.map fun q => Val.d (eRS q)) st := by
      have sq : seqOf (.d (.list (L.map eRS))) = ret (L.map eRS) := rfl
      rw [iSeq_eq]
      simp only [eV_succ, eV_zero, bd_ret]
      rw [sq, bd_ret, List.map_map]
      rfl
    have body : fBody (gN 4) law_all_rows_L2 v [some (.d (eMs ms)), x1, x2, some (.d (.list (L.map eRS))), x4, x5, x6, x7, none, none] st = .ok (.nx, [some (.d (eMs ms)), x1, x2, some (.d (.list ((rwS ms L).map eRS))), some v, some (.d (.list ((rwS ms L).map eRS))), y6, y7, none, none]) (st ++ xs) := by
      show law_all_rows_L2 [some (.d (eMs ms)), x1, x2, some (.d (.list (L.map eRS))), some v, x5, x6, x7, none, none] st = _
      rw [law_all_rows_L2_eq, seq_nx s1, seq_nx ((sFor_at it).trans e)]
      rfl
    show bd (fBody _ _ _ _) _ st = _
    rw [bd_eq body, ← List.append_assoc]
    exact e2
def rD (R : List (List Nat)) : D := .list (R.map lI')
theorem all_rows_ex {s : List Int} (hs : s.length = h) {n : Nat} (hn : n ≤ 5) (hb : ms.length ^ n ≤ 20000) (st : Store) : ∃ xs, f_law_all_rows [.d (eMs ms), .d (tI s), .d (.int (n : Int))] st = .ok (.d (rD (rwF ms n s))) (st ++ xs) := by
  have e0 : List.map some [Val.d (eMs ms), .d (tI s), .d (.int (n : Int))] ++ List.replicate (10 - [Val.d (eMs ms), .d (tI s), .d (.int (n : Int))].length) none = [some (.d (eMs ms)), some (.d (tI s)), some (.d (.int (n : Int))), none, none, none, none, none, none, none] := rfl
  have s1 : sAsg (eB bLst (aC (eB bTup (aC (eB bLst aN) (aC (eV 1) aN))) aN)) (gN 3) [some (.d (eMs ms)), some (.d (tI s)), some (.d (.int (n : Int))), none, none, none, none, none, none, none] st = .ok (.nx, [some (.d (eMs ms)), some (.d (tI s)), some (.d (.int (n : Int))), some (.d (.list ([(([] : List Nat), s)].map eRS))), none, none, none, none, none, none]) st := rfl
  have it : iCall kRg1 (aC (eV 2) aN) [some (.d (eMs ms)), some (.d (tI s)), some (.d (.int (n : Int))), some (.d (.list ([(([] : List Nat), s)].map eRS))), none, none, none, none, none, none] = ret ((List.range n).map fun (i : Nat) => Val.d (.int (0 + (i : Int)))) := by
    have e := kRg1_nat (z := (n : Int)) rfl (show n ≤ 1000 by omega)
    simp only [iCall_eq, aC_eq, aN_eq, eV_zero, eV_succ, bd_ret, e]
  obtain ⟨y4, y5, y6, y7, xs, lp⟩ := allrows_loop w (some (.d (tI s))) (some (.d (.int (n : Int)))) n ((List.range n).map fun (i : Nat) => Val.d (.int (0 + (i : Int)))) [([], s)] 0 none none none none st (by simp) (fun q hq => by rw [List.mem_singleton.mp hq]; exact hs) (fun q hq => by rw [List.mem_singleton.mp hq]; rfl) (by omega) (by simpa using hb)
  have ln : (rwI ms n [([], s)]).length ≤ 20000 := by
    have : ∀ (n : Nat) (L : List RwS), (rwI ms n L).length ≤ L.length * ms.length ^ n := by
      intro n
      induction n with
      | zero => intro L; simp [rwI]
      | succ n ih =>
        intro L
        have a := ih (rwS ms L)
        have b := rwS_len ms L
        show (rwI ms n (rwS ms L)).length ≤ _
        refine Nat.le_trans a (Nat.le_trans (Nat.mul_le_mul_right _ b) ?_)
        rw [Nat.pow_succ, Nat.mul_assoc, Nat.mul_comm ms.length, Nat.mul_assoc]
        exact Nat.le_refl _
    have := this n [([], s)]
    simp only [List.length_singleton, Nat.one_mul] at this
    omega
  have rows : (rwI ms n [([], s)]).map (·.1) = rwF ms n s := by
    rw [rwI_eq]
    simp
  have c2 : law_all_rows_C2 [some (.d (eMs ms)), some (.d (tI s)), some (.d (.int (n : Int))), some (.d (.list ((rwI ms n [([], s)]).map eRS))), y4, y5, y6, y7, none, none] = ret (.d (rD (rwF ms n s))) := by
    rw [law_all_rows_C2_eq]
    have e := eLc_map (it := iSeq (eV 3)) (g := gT 2 (gsC (gN 6) (gsC (gN 7) gsN))) (t := tTr) (e := eV 6) (vs := [6, 7]) (loc := [some (.d (eMs ms)), some (.d (tI s)), some (.d (.int (n : Int))), some (.d (.list ((rwI ms n [([], s)]).map eRS))), y4, y5, y6, y7, none, none]) (rwI ms n [([], s)]) (fun q => Val.d (eRS q)) (fun q => lI' q.1) (by
      have sq : seqOf (.d (.list ((rwI ms n [([], s)]).map eRS))) = ret ((rwI ms n [([], s)]).map eRS) := rfl
      rw [iSeq_eq]
      simp only [eV_succ, eV_zero, bd_ret]
      rw [sq, bd_ret, List.map_map]
      rfl) (by rw [lim_eq]; omega) fun q hq => rfl
    rw [e]
    unfold rD
    rw [← rows, List.map_map]
    rfl
  refine ⟨xs, ?_⟩
  unfold f_law_all_rows b_law_all_rows
  refine run_rt (l := [some (.d (eMs ms)), some (.d (tI s)), some (.d (.int (n : Int))), some (.d (.list ((rwI ms n [([], s)]).map eRS))), y4, y5, y6, y7, none, none]) e0 ?_
  rw [seq_nx s1, seq_nx ((sFor_at (by rw [it]; rfl)).trans lp)]
  exact ret_at (by rw [c2]; rfl)
end

end Y
end
section
set_option Elab.async false
set_option linter.all false
set_option maxRecDepth 10000
set_option exponentiation.threshold 5000
namespace Y
open PySem (PyData Str)
/-! ### the first row that a standing lets -/
def dnL : Nat → List Val
  | 0 => []
  | t + 1 => .d (.int (t : Int)) :: dnL t
theorem dwn_eq : ∀ n : Nat, dwn ((n : Int) - 1) n = dnL n
  | 0 => rfl
  | n + 1 => by
    have ih := dwn_eq n
    unfold dwn at ih ⊢
    rw [List.range_succ_eq_map, List.map_cons, List.map_map]
    unfold dnL
    rw [← ih]
    have e : ((n + 1 : Nat) : Int) - 1 = (n : Int) := by omega
    rw [e]
    have hd : vI ((n : Int) + ((0 : Nat) : Int) * -1) = Val.d (.int (n : Int)) := by
      show Val.d (.int ((n : Int) + ((0 : Nat) : Int) * -1)) = _
      have : (n : Int) + ((0 : Nat) : Int) * -1 = (n : Int) := by omega
      rw [this]
    rw [hd]
    congr 1
    refine List.map_congr_left fun i _ => ?_
    show Val.d (.int _) = Val.d (.int _)
    congr 2
    show (n : Int) + ((i + 1 : Nat) : Int) * -1 = (n : Int) - 1 + (i : Int) * -1
    omega
theorem rg3_dn {n : Nat} (hn : n ≤ 1000) : kRg3 [.d (.int ((n : Int) - 1)), .d (.int (-1)), .d (.int (-1))] = ret (dnL n) := by
  show (if -1000000 ≤ (n : Int) - 1 ∧ (n : Int) - 1 ≤ 1000000 ∧ -1000000 ≤ (-1 : Int) ∧ (-1 : Int) ≤ 1000000 then ret (dwn ((n : Int) - 1) ((n : Int) - 1 - (-1)).toNat) else die) = _
  rw [if_pos (by omega), show ((n : Int) - 1 - (-1)).toNat = n by omega, dwn_eq]
abbrev nLO (acc : List Nat) : Ob := .lst (acc.map fun (i : Nat) => Val.d (.int (i : Int)))
section
variable {ms : List Mv} {h : Nat} (w : WF ms h)
include w
theorem next_nn {s : List Int} (hs : s.length = h) (hn : ∀ z ∈ s, 0 ≤ z) {p : Mv × Nat} (hp : p ∈ canL s ms) : (addL s (chg p.1)).length = h ∧ ∀ z ∈ addL s (chg p.1), 0 ≤ z := by
  have ho : ovB s p.1.1 = true := (List.mem_filter.mp hp).2
  refine mov_nn w (can_mem hp) hs hn ?_
  unfold movF
  rw [if_pos ho]
theorem first_loop {N k : Nat} (hN : N ≤ 8) (hb : ∀ t, t < N → (stF ms h t).length * ms.length ≤ 1200) (x2 : Option Val) : ∀ (t : Nat) (s : List Int) (acc : List Nat) (x5 x6 x8 : Option Val) (st : Store), s.length = h → (∀ z ∈ s, 0 ≤ z) → goB ms t s = true → t ≤ N → st[k]? = some (nLO acc) → acc.length + t ≤ 100 →
    ∃ loc', forL (fBody (gN 5) first_row_L1) (dnL t) [some (.d (eMs ms)), some (.d (tI s)), x2, some (.d (.list (stsL ms h N))), some (.o k), x5, x6, none, x8] st = .ok (.nx, loc') (st.set k (nLO (acc ++ frF ms t s))) ∧ eV 4 loc' = ret (.o k)
  | 0, s, acc, x5, x6, x8, st, _, _, _, _, hk, _ => by
    refine ⟨[some (.d (eMs ms)), some (.d (tI s)), x2, some (.d (.list (stsL ms h N))), some (.o k), x5, x6, none, x8], ?_, rfl⟩
    have hlt := (List.getElem?_eq_some_iff.mp hk).1
    have : st.set k (nLO (acc ++ frF ms 0 s)) = st := by
      unfold frF
      rw [List.append_nil]
      refine List.ext_getElem? fun i => ?_
      by_cases c : k = i
      · subst c
        rw [List.getElem?_set_self hlt, hk]
      · rw [List.getElem?_set_ne c]
    rw [this]
    rfl
  | t + 1, s, acc, x5, x6, x8, st, hs, hn, hg, ht, hk, hl => by
    have n1 := w.n1
    have n6 := w.n6
    have h4 := w.h4
    have cl := can_len s ms
    have hlt := (List.getElem?_eq_some_iff.mp hk).1
    have sb : (stF ms h t).length ≤ 1200 := Nat.le_trans (Nat.le_mul_of_pos_right _ n1) (hb t (by omega))
    have sf := r_steps_from w hs
    have c1 : first_row_C1 [some (.d (eMs ms)), some (.d (tI s)), x2, some (.d (.list (stsL ms h N))), some (.o k), some (.d (.int (t : Int))), x6, none, x8] = ret (.d (.list (((canL s ms).filter fun p => goB ms t (addL s (chg p.1))).map (eWay s)))) := by
      rw [first_row_C1_eq]
      refine eLc_filter (canL s ms) (fun p => Val.d (eWay s p)) (fun p => goB ms t (addL s (chg p.1))) (eWay s) ?_ (by rw [lim_eq]; omega) fun p hp => ?_
      · simp only [iSeq_eq, eB_eq, aC_eq, aN_eq, eV_zero, eV_succ, bd_ret, bd_bd, fix2, sf, seqOf_lst, List.map_map]
        rfl
      · obtain ⟨l, nn⟩ := next_nn w hs hn hp
        have co := r_covers_one (x := addL s (chg p.1)) (by rw [l, lim_eq]; omega) (S := stF ms h t) (by rw [lim_eq]; omega)
        rw [cov_go w t _ l nn] at co
        have i1 : bIx (.d (eWay s p)) (.d (.int 1)) = ret (.d (tI (addL s (chg p.1)))) := rfl
        have i2 : bIx (.d (.list (stsL ms h N))) (.d (.int (t : Int))) = ret (.d (rowD (stF ms h t))) := by
          rw [bIx_lst, sts_at w ms h (show t ≤ N by omega)]
          rfl
        simp only [wip_cons, wip_nil, List.set_cons_succ, List.set_cons_zero, cBody_eq, gN_eq, bd_ret, tV_eq, eB_eq, aC_eq, aN_eq, eO_eq, eC_eq, eV_zero, eV_succ, bd_bd, i1, i2, fix2, co, asB_eq]
        cases goB ms t (addL s (chg p.1)) <;> rfl
    obtain ⟨q, hq, e⟩ := (go_can ms t s).mp hg
    cases c : (canL s ms).filter (fun p => goB ms t (addL s (chg p.1))) with
    | nil => exact absurd e (List.filter_eq_nil_iff.mp c q hq)
    | cons p r =>
      have pm : p ∈ (canL s ms).filter (fun p => goB ms t (addL s (chg p.1))) := by rw [c]; exact List.mem_cons_self
      obtain ⟨pm, gp⟩ := List.mem_filter.mp pm
      obtain ⟨l, nn⟩ := next_nn w hs hn pm
      rw [c] at c1
      have s1 : sAsg first_row_C1 (gN 6) [some (.d (eMs ms)), some (.d (tI s)), x2, some (.d (.list (stsL ms h N))), some (.o k), some (.d (.int (t : Int))), x6, none, x8] st = .ok (.nx, [some (.d (eMs ms)), some (.d (tI s)), x2, some (.d (.list (stsL ms h N))), some (.o k), some (.d (.int (t : Int))), some (.d (.list ((p :: r).map (eWay s)))), none, x8]) st := by
        rw [asg_gN (by rw [c1]; rfl)]
        rfl
      have s2 : sAsg (eO bIx (eV 6) (eC (.int 0))) (gT 2 (gsC (gN 8) (gsC (gN 1) gsN))) [some (.d (eMs ms)), some (.d (tI s)), x2, some (.d (.list (stsL ms h N))), some (.o k), some (.d (.int (t : Int))), some (.d (.list ((p :: r).map (eWay s)))), none, x8] st = .ok (.nx, [some (.d (eMs ms)), some (.d (tI (addL s (chg p.1)))), x2, some (.d (.list (stsL ms h N))), some (.o k), some (.d (.int (t : Int))), some (.d (.list ((p :: r).map (eWay s)))), none, some (.d (.int (p.2 : Int)))]) st := by
        have i0 : bIx (.d (.list ((p :: r).map (eWay s)))) (.d (.int 0)) = ret (.d (eWay s p)) := by
          rw [bIx_lst, List.map_cons, atI_zero]
          rfl
        simp only [sAsg_eq, eO_eq, eC_eq, eV_zero, eV_succ, bd_ret, i0]
        rfl
      have ap := app_at (o := eV 4) (e := eV 8) (loc := [some (.d (eMs ms)), some (.d (tI (addL s (chg p.1)))), x2, some (.d (.list (stsL ms h N))), some (.o k), some (.d (.int (t : Int))), some (.d (.list ((p :: r).map (eWay s)))), none, some (.d (.int (p.2 : Int)))]) (st := st) (st1 := st) (k := k) (v := .d (.int (p.2 : Int))) rfl hk rfl hk (by rw [List.length_map, lim_eq]; omega)
      have body : fBody (gN 5) first_row_L1 (.d (.int (t : Int))) [some (.d (eMs ms)), some (.d (tI s)), x2, some (.d (.list (stsL ms h N))), some (.o k), x5, x6, none, x8] st = .ok (.nx, [some (.d (eMs ms)), some (.d (tI (addL s (chg p.1)))), x2, some (.d (.list (stsL ms h N))), some (.o k), some (.d (.int (t : Int))), some (.d (.list ((p :: r).map (eWay s)))), none, some (.d (.int (p.2 : Int)))]) (st.set k (nLO (acc ++ [p.2]))) := by
        show first_row_L1 [some (.d (eMs ms)), some (.d (tI s)), x2, some (.d (.list (stsL ms h N))), some (.o k), some (.d (.int (t : Int))), x6, none, x8] st = _
        rw [first_row_L1_eq, seq_nx s1, seq_nx s2, exp_at ap]
        unfold nLO
        rw [List.map_append]
        rfl
      obtain ⟨loc', lp, e4⟩ := first_loop hN hb x2 t (addL s (chg p.1)) (acc ++ [p.2]) (some (.d (.int (t : Int)))) (some (.d (.list ((p :: r).map (eWay s))))) (some (.d (.int (p.2 : Int)))) (st.set k (nLO (acc ++ [p.2]))) l nn gp (by omega) (List.getElem?_set_self hlt) (by rw [List.length_append, List.length_singleton]; omega)
      refine ⟨loc', ?_, e4⟩
      have fr : frF ms (t + 1) s = p.2 :: frF ms t (addL s (chg p.1)) := by
        rw [frF]
        rw [c]
      show bd (fBody _ _ _ _) _ st = _
      rw [bd_eq body]
      refine lp.trans ?_
      rw [List.set_set, fr, List.append_assoc]
      rfl
theorem first_row_ex {n : Nat} (hn : n ≤ 8) (hb : ∀ t, t < n → (stF ms h t).length * ms.length ≤ 1200) (hbn : (stF ms h n).length ≤ lim) {s : List Int} (hs : St h s) (st : Store) : ∃ st', f_first_row [.d (eMs ms), .d (tI s), .d (.int (n : Int))] st = .ok (.d (if goB ms n s = true then lI' (frF ms n s) else .none)) st' ∧ Pre st st' := by
  obtain ⟨xs, e⟩ := starts_ex w hn hb st
  have h4 := w.h4
  have e0 : List.map some [Val.d (eMs ms), .d (tI s), .d (.int (n : Int))] ++ List.replicate (9 - [Val.d (eMs ms), .d (tI s), .d (.int (n : Int))].length) none = [some (.d (eMs ms)), some (.d (tI s)), some (.d (.int (n : Int))), none, none, none, none, none, none] := rfl
  have nd : f_need_moves [.d (eMs ms)] st = .ok (.d .none) st := by rw [w.need]; rfl
  have ns : f_need_standing [.d (eMs ms), .d (tI s)] st = .ok (.d .none) st := by rw [w.st hs]; rfl
  have nm : f_need_many [.d (.int (n : Int))] st = .ok (.d .none) st := by rw [many_ok hn]; rfl
  obtain ⟨k, hk⟩ : ∃ k, (st ++ xs).length = k := ⟨_, rfl⟩
  have s1 : sAsg (eB bTupN (aC (eB (fixN 2 f_starts_of) (aC (eV 0) (aC (eV 2) aN))) (aC (eB bNew aN) aN))) (gTO 2 (gsC (gN 3) (gsC (gN 4) gsN))) [some (.d (eMs ms)), some (.d (tI s)), some (.d (.int (n : Int))), none, none, none, none, none, none] st =
      .ok (.nx, [some (.d (eMs ms)), some (.d (tI s)), some (.d (.int (n : Int))), some (.d (.list (stsL ms h n))), some (.o k), none, none, none, none]) (st ++ xs ++ [nLO []] ++ [.tup [.d (.list (stsL ms h n)), .o k]]) := by
    have a1 : eB (fixN 2 f_starts_of) (aC (eV 0) (aC (eV 2) aN)) [some (.d (eMs ms)), some (.d (tI s)), some (.d (.int (n : Int))), none, none, none, none, none, none] st = .ok (.d (.list (stsL ms h n))) (st ++ xs) := call2 rfl rfl e
    have a2 : eB bNew aN [some (.d (eMs ms)), some (.d (tI s)), some (.d (.int (n : Int))), none, none, none, none, none, none] (st ++ xs) = .ok (.o k) (st ++ xs ++ [nLO []]) := by
      rw [← hk]
      rfl
    have a3 : eB bTupN (aC (eB (fixN 2 f_starts_of) (aC (eV 0) (aC (eV 2) aN))) (aC (eB bNew aN) aN)) [some (.d (eMs ms)), some (.d (tI s)), some (.d (.int (n : Int))), none, none, none, none, none, none] st = .ok (.o (k + 1)) (st ++ xs ++ [nLO []] ++ [.tup [.d (.list (stsL ms h n)), .o k]]) := by
      rw [eB_eq, aC_eq, bd_bd, bd_eq a1, aC_eq, bd_bd, bd_bd, bd_eq a2]
      simp only [aN_eq, bd_ret]
      show (if _ then R.ok (Val.o (st ++ xs ++ [nLO []]).length) _ else _) = _
      rw [if_pos (by simp [lim]), List.length_append, hk]
      rfl
    have g : (st ++ xs ++ [nLO []] ++ [Ob.tup [.d (.list (stsL ms h n)), .o k]])[k + 1]? = some (.tup [.d (.list (stsL ms h n)), .o k]) := by
      rw [List.getElem?_append_right (by rw [List.length_append, hk]; simp)]
      rw [List.length_append, hk]
      simp
    rw [sAsg_eq, bd_eq a3]
    have t : gTO 2 (gsC (gN 3) (gsC (gN 4) gsN)) (.o (k + 1)) [some (.d (eMs ms)), some (.d (tI s)), some (.d (.int (n : Int))), none, none, none, none, none, none] (st ++ xs ++ [nLO []] ++ [.tup [.d (.list (stsL ms h n)), .o k]]) = .ok [some (.d (eMs ms)), some (.d (tI s)), some (.d (.int (n : Int))), some (.d (.list (stsL ms h n))), some (.o k), none, none, none, none] (st ++ xs ++ [nLO []] ++ [.tup [.d (.list (stsL ms h n)), .o k]]) := by
      show (match (st ++ xs ++ [nLO []] ++ [Ob.tup [.d (.list (stsL ms h n)), .o k]])[k + 1]? with
        | some (.tup xs) => if xs.length = 2 then gsC (gN 3) (gsC (gN 4) gsN) xs _ _ else .bad
        | _ => .bad) = _
      rw [g]
      rfl
    rw [bd_eq t]
    rfl
  have pS : Pre st (st ++ xs ++ [nLO []] ++ [.tup [.d (.list (stsL ms h n)), .o k]]) := ⟨xs ++ [nLO []] ++ [.tup [.d (.list (stsL ms h n)), .o k]], by simp⟩
  have gk : (st ++ xs ++ [nLO []] ++ [Ob.tup [.d (.list (stsL ms h n)), .o k]])[k]? = some (nLO []) := by
    rw [List.getElem?_append_left (by rw [List.length_append, hk]; simp), List.getElem?_append_right (by omega), hk]
    simp
  have kge : st.length ≤ k := by rw [← hk, List.length_append]; omega
  generalize st ++ xs ++ [nLO []] ++ [Ob.tup [.d (.list (stsL ms h n)), .o k]] = S at s1 pS gk
  have co := r_covers_one (x := s) (by rw [hs.l, lim_eq]; omega) (S := stF ms h n) hbn
  rw [cov_go w n s hs.l fun z hz => (hs.b z hz).1] at co
  have t : tNo (tV (eB (fixN 2 f_covers_one) (aC (eV 1) (aC (eO bIx (eV 3) (eV 2)) aN)))) [some (.d (eMs ms)), some (.d (tI s)), some (.d (.int (n : Int))), some (.d (.list (stsL ms h n))), some (.o k), none, none, none, none] S = .ok (!goB ms n s) S := by
    have i2 : bIx (.d (.list (stsL ms h n))) (.d (.int (n : Int))) = ret (.d (rowD (stF ms h n))) := by
      rw [bIx_lst, sts_at w ms h (Nat.le_refl n)]
      rfl
    simp only [tNo_eq, tV_eq, eB_eq, aC_eq, aN_eq, eO_eq, eV_zero, eV_succ, bd_ret, bd_bd, i2, fix2, co, asB_eq]
    rfl
  by_cases hg : goB ms n s = true
  · rw [hg] at t
    obtain ⟨loc', lp, e4⟩ := first_loop w hn hb (some (.d (.int (n : Int)))) n s [] none none none S hs.l (fun z hz => (hs.b z hz).1) hg (Nat.le_refl n) gk (by simp; omega)
    have it : iCall kRg3 (aC (eO bSub (eV 2) (eC (.int 1))) (aC (eU bNeg (eC (.int 1))) (aC (eU bNeg (eC (.int 1))) aN))) [some (.d (eMs ms)), some (.d (tI s)), some (.d (.int (n : Int))), some (.d (.list (stsL ms h n))), some (.o k), none, none, none, none] = ret (dnL n) := by
      have e := rg3_dn (show n ≤ 1000 by omega)
      simp only [iCall_eq, aC_eq, aN_eq, eO_eq, eU_eq, eC_eq, eV_zero, eV_succ, bd_ret, bd_bd, bSub_int, bNeg_int, e]
    have kl : k < S.length := (List.getElem?_eq_some_iff.mp gk).1
    have fl : (frF ms n s).length ≤ n := by
      have : ∀ (t : Nat) (s : List Int), (frF ms t s).length ≤ t := by
        intro t
        induction t with
        | zero => intro s; simp [frF]
        | succ t ih =>
          intro s
          rw [frF]
          split
          · simp
          · rw [List.length_cons]; have := ih (addL s (chg (by assumption : Mv × Nat).1)); omega
      exact this n s
    have fz := bFrz_at (st := S.set k (nLO ([] ++ frF ms n s))) (n := k) (ds := (frF ms n s).map fun (i : Nat) => PyData.int (i : Int)) (by
      rw [List.getElem?_set_self kl, List.map_map]
      rfl) (by rw [List.length_map, lim_eq]; omega)
    refine ⟨(S.set k (nLO ([] ++ frF ms n s))).set k .gone, ?_, (pS.set kge _).set kge _⟩
    unfold f_first_row b_first_row
    refine run_rt e0 (l := loc') ?_
    rw [seq_nx (exp_at (call1 rfl nd)), seq_nx (exp_at (call2 rfl rfl ns)), seq_nx (exp_at (call1 rfl nm)), seq_nx s1, seq_nx (by rw [if_no t]; rfl), seq_nx ((sFor_at (by rw [it]; rfl)).trans lp), if_pos hg]
    refine ret_at (un_at (by rw [e4]; rfl) (fz.trans ?_))
    unfold lI' nI intsD
    rw [List.map_map]
    rfl
  · have hg' : goB ms n s = false := by simpa using hg
    rw [hg'] at t
    refine ⟨S, ?_, pS⟩
    unfold f_first_row b_first_row
    refine run_rt e0 (l := [some (.d (eMs ms)), some (.d (tI s)), some (.d (.int (n : Int))), some (.d (.list (stsL ms h n))), some (.o k), none, none, none, none]) ?_
    rw [seq_nx (exp_at (call1 rfl nd)), seq_nx (exp_at (call2 rfl rfl ns)), seq_nx (exp_at (call1 rfl nm)), seq_nx s1, if_neg hg]
    rw [sSeq_eq, bd_eq (show (sIf _ _ _) _ S = R.ok (Fl.rt (.d .none), _) S from (if_yes t).trans rfl)]
    rfl
end

end Y
end
section
set_option Elab.async false
set_option linter.all false
set_option maxRecDepth 10000
set_option exponentiation.threshold 5000
namespace Y
open PySem (PyData Str)
theorem law_over_eq {a b : List Int} (h : a.length = b.length) (hl : a.length ≤ 1000) : f_law_over [.d (tI a), .d (tI b)] = ret (.d (.bool (ovB a b))) := by
  have e : law_over_C1 [some (.d (tI a)), some (.d (tI b)), none] = ret (.d (.list ((((List.range a.length).filter fun i => decide (a.getD i 0 < b.getD i 0))).map fun (i : Nat) => PyData.int (i : Int)))) := by
    rw [law_over_C1_eq]
    refine eLc_filter (List.range a.length) (fun (i : Nat) => Val.d (.int (i : Int))) _ _ ?_ (by rw [List.length_range, lim_eq]; omega) fun i hi => ?_
    · have e := kRg1_nat (z := (a.length : Int)) rfl hl
      simp [tI, e]
    · have hi' : i < a.length := by simpa using hi
      have ea : bIx (.d (tI a)) (.d (.int (i : Int))) = ret (.d (.int (a.getD i 0))) := by
        have : atI (intsD a) (i : Int) = some (.int (a.getD i 0)) := atI_nat rfl (by simp [intsD, List.getElem?_eq_getElem hi', List.getD_eq_getElem?_getD])
        show bd (oget (atI (intsD a) (i : Int))) _ = _
        rw [this]; rfl
      have eb : bIx (.d (tI b)) (.d (.int (i : Int))) = ret (.d (.int (b.getD i 0))) := by
        have hb' : i < b.length := by omega
        have : atI (intsD b) (i : Int) = some (.int (b.getD i 0)) := atI_nat rfl (by simp [intsD, List.getElem?_eq_getElem hb', List.getD_eq_getElem?_getD])
        show bd (oget (atI (intsD b) (i : Int))) _ = _
        rw [this]; rfl
      by_cases hlt : a.getD i 0 < b.getD i 0 <;> simp [ea, eb, hlt, -List.getD_eq_getElem?_getD]
  have key : ((((List.range a.length).filter fun i => decide (a.getD i 0 < b.getD i 0))).map fun (i : Nat) => PyData.int (i : Int)) = intsD (((List.range a.length).filter fun i => decide (a.getD i 0 < b.getD i 0)).map fun (i : Nat) => (i : Int)) := by simp [intsD]
  rw [key] at e
  have sh0 : PySem.SeqAt.shaped (.list []) = true := shaped_ints []
  have eqe : ∀ l : List Int, PyData.eqv (.list (intsD l)) (.list []) = l.isEmpty := fun l => by cases l <;> rfl
  simp only [f_law_over, b_law_over, runF_eq]
  simp [e]
  rw [eqD_eq (shaped_ints _) sh0]
  simp only [eqe, bd_ret, ret_ap]
  have fin : (((List.range a.length).filter fun i => decide (a.getD i 0 < b.getD i 0)).map fun (i : Nat) => (i : Int)).isEmpty = ovB a b := by
    rw [Bool.eq_iff_iff, List.isEmpty_iff, List.map_eq_nil_iff, List.filter_eq_nil_iff]
    unfold ovB
    rw [List.all_eq_true]
    constructor
    · intro z p hp
      obtain ⟨i, hi⟩ := List.mem_iff_getElem?.mp hp
      rw [List.getElem?_zip_eq_some] at hi
      have hi' : i < a.length := (List.getElem?_eq_some_iff.mp hi.1).1
      have := z i (List.mem_range.mpr hi')
      rw [List.getD_eq_getElem?_getD, List.getD_eq_getElem?_getD, hi.1, hi.2] at this
      simp at this
      exact decide_eq_true this
    · intro z i hi
      have hi' : i < a.length := List.mem_range.mp hi
      have hb' : i < b.length := by omega
      have := z (a[i], b[i]) (List.mem_iff_getElem?.mpr ⟨i, by rw [List.getElem?_zip_eq_some]; exact ⟨List.getElem?_eq_getElem hi', List.getElem?_eq_getElem hb'⟩⟩)
      rw [List.getD_eq_getElem?_getD, List.getD_eq_getElem?_getD, List.getElem?_eq_getElem hi', List.getElem?_eq_getElem hb']
      simp at this ⊢
      exact this
  simp only [List.getD_eq_getElem?_getD] at fin
  rw [fin]

/-! ### like data -/
theorem s_shRow (L : List (List Int)) : Sh 3 (rowD L) := Sh.list fun x hx => by
  obtain ⟨c, _, rfl⟩ := List.mem_map.mp hx
  exact Sh.tI c
theorem s_neNil {n : Nat} {ds : List D} (h : Sh n (.list ds)) (hn : n ≤ 64) : bNe (.d (.list ds)) (.d (.list [])) = ret (.d (.bool (!ds.isEmpty))) := by
  rw [bNe_d, eqD_eq (h.shaped hn) rfl]
  cases ds <;> rfl
theorem s_eqNil {n : Nat} {ds : List D} (h : Sh n (.list ds)) (hn : n ≤ 64) : bEq (.d (.list ds)) (.d (.list [])) = ret (.d (.bool ds.isEmpty)) := by
  rw [bEq_d, eqD_eq (h.shaped hn) rfl]
  cases ds <;> rfl
theorem s_eqvI : ∀ a b : List Int, PyData.eqvAll (a.map .int) (b.map .int) = decide (a = b)
  | [], [] => rfl
  | [], _ :: _ => rfl
  | _ :: _, [] => rfl
  | x :: a, y :: b => by
    have ih := s_eqvI a b
    rw [List.map_cons, List.map_cons]
    show (PyData.eqv (.int x) (.int y) && PyData.eqvAll (a.map .int) (b.map .int)) = _
    rw [ih]
    have : PyData.eqv (.int x) (.int y) = decide (x = y) := by
      show (x == y) = _
      rw [Bool.eq_iff_iff]
      simp
    rw [this]
    by_cases h1 : x = y <;> by_cases h2 : a = b <;> simp [h1, h2]
theorem s_neT (a b : List Int) : bNe (.d (tI a)) (.d (tI b)) = ret (.d (.bool (!decide (a = b)))) := by
  rw [bNe_d, eqD_eq ((Sh.tI a).shaped (by omega)) ((Sh.tI b).shaped (by omega))]
  have : PyData.eqv (tI a) (tI b) = decide (a = b) := s_eqvI a b
  rw [this]
  rfl
theorem s_eqT (a b : List Int) : bEq (.d (tI a)) (.d (tI b)) = ret (.d (.bool (decide (a = b)))) := by
  rw [bEq_d, eqD_eq ((Sh.tI a).shaped (by omega)) ((Sh.tI b).shaped (by omega))]
  have : PyData.eqv (tI a) (tI b) = decide (a = b) := s_eqvI a b
  rw [this]
  rfl
theorem s_thr {f : E} {loc : Loc} {c : Nat} {st st' : Store} {cs : List Nat} (h : f loc st = .ex c st') (hc : c ∈ cs) : eTold cs f loc st = .ok (.d (.tuple [.str "refused", .str (kindN c)])) st' := by
  unfold eTold
  rw [h]
  dsimp only
  rw [if_pos hc]
theorem addO_at {st : Store} {k : Nat} {ds es : List D} (g : st[k]? = some (.lst (ds.map Val.d))) (hl : ds.length + es.length ≤ lim) : bAddO (.o k) (.d (.list es)) st = .ok (.d (.list (ds ++ es))) st := by
  show (match st[k]? with | some (.lst xs) => (match toDs xs with | some ds => if ds.length + es.length ≤ lim then R.ok (Val.d (.list (ds ++ es))) st else .bad | none => .bad) | _ => .bad) = _
  rw [g]
  dsimp only
  have := toDs_map (fun d : D => d) ds
  rw [List.map_id'] at this
  rw [show ds.map Val.d = ds.map (fun p => Val.d ((fun d : D => d) p)) from rfl, this]
  dsimp only
  rw [if_pos hl]

theorem cl_rep (n : Nat) (hn : n ≤ 1000) {y : D} (hy : cl y = true) : cl (.tuple (List.replicate n y)) = true := by
  simp only [cl, Bool.and_eq_true, clA_iff, decide_eq_true_eq, List.length_replicate]
  refine ⟨fun x hx => ?_, by rw [lim_eq]; omega⟩
  rw [List.eq_of_mem_replicate hx]; exact hy
theorem clL_rep (n : Nat) (hn : n ≤ 1000) {y : D} (hy : cl y = true) : cl (.list (List.replicate n y)) = true := by
  simp only [cl, Bool.and_eq_true, clA_iff, decide_eq_true_eq, List.length_replicate]
  refine ⟨fun x hx => ?_, by rw [lim_eq]; omega⟩
  rw [List.eq_of_mem_replicate hx]; exact hy
theorem aw_rep {n : Nat} (hn : 1 ≤ n) {hi : Int} {y : D} (hy : whB 0 hi y = false) : awB n hi (.tuple (List.replicate n y)) = false := by
  cases n with
  | zero => omega
  | succ n => simp [awB, List.replicate_succ, hy]
theorem aw_rep1 {n : Nat} {hi : Int} {y : D} (hy : whB 0 hi y = true) : awB n hi (.tuple (List.replicate n y)) = true := by
  simp [awB, hy]
theorem mul_tup1 {y : D} {z : Int} {n : Nat} (hz : z = (n : Int)) (h1 : 1 ≤ n) (h2 : n ≤ 100) : bMul (.d (.tuple [y])) (.d (.int z)) = ret (.d (.tuple (List.replicate n y))) := by
  subst hz
  rw [bMul_tup, if_pos ⟨by omega, by omega, by simp, by simp⟩]
  simp [repD]
theorem mul_lst1 {y : D} {z : Int} {n : Nat} (hz : z = (n : Int)) (h2 : n ≤ 1000) : bMul (.d (.list [y])) (.d (.int z)) = ret (.d (.list (List.replicate n y))) := by
  subst hz
  show (if (-1000 : Int) ≤ n ∧ (n : Int) ≤ 1000 ∧ [y].length ≤ 1000 then ret (Val.d (.list (repD n [y]))) else die) = _
  rw [if_pos ⟨by omega, by omega, by simp⟩]
  simp [repD]
theorem WF.hlen {ms : List Mv} {h : Nat} (w : WF ms h) {loc : Loc} (h2 : eV 2 loc = ret (.d (eMs ms))) : eB bLen (aC (eO bIx (eO bIx (eV 2) (eC (.int 0))) (eC (.int 0))) aN) loc = ret (.d (.int (h : Int))) := by
  obtain ⟨m, hm, l1, _⟩ := w.at (i := 0) (by have := w.n1; omega)
  have i0 : bIx (.d (eMs ms)) (.d (.int 0)) = ret (.d (eMv m)) := ix_ms hm
  simp [h2, i0, ix_mv0]
  simp [tI, l1]

/-! ### law 9 -/
theorem st_len {ms : List Mv} {h : Nat} : ∀ t, (stF ms h t).length ≤ ms.length ^ t
  | 0 => Nat.le_refl _
  | t + 1 => by
    have ih := st_len (ms := ms) (h := h) t
    have a := ls_len (nxF ms (stF ms h t))
    have b : (nxF ms (stF ms h t)).length = (stF ms h t).length * ms.length := by
      unfold nxF
      rw [List.length_flatMap]
      have : ((stF ms h t).map fun s => (ms.map fun m => befL m s).length) = List.replicate (stF ms h t).length ms.length := by
        rw [List.eq_replicate_iff]
        refine ⟨by simp, fun x hx => ?_⟩
        obtain ⟨s, _, rfl⟩ := List.mem_map.mp hx
        simp
      rw [this, List.sum_replicate_nat]
    rw [Nat.pow_succ]
    exact Nat.le_trans (by rw [b] at a; exact a) (Nat.mul_le_mul_right _ ih)
theorem pow_few {m t : Nat} (hm : m ≤ 3) (ht : t ≤ 4) : m ^ t ≤ 81 := by
  have a : m ^ t ≤ 3 ^ t := Nat.pow_le_pow_left hm t
  have b : 3 ^ t ≤ 3 ^ 4 := Nat.pow_le_pow_right (by omega) ht
  have : 3 ^ 4 = 81 := by decide
  omega
section
variable {ms : List Mv} {h : Nat} (w : WF ms h) (l3 : ms.length ≤ 3)
include l3 in
theorem few09 {t : Nat} (ht : t ≤ 4) : (stF ms h t).length ≤ 81 := Nat.le_trans (st_len t) (pow_few l3 ht)
include l3 in
theorem bnd09 {n : Nat} (hn : n ≤ 4) : ∀ t, t < n → (stF ms h t).length * ms.length ≤ 1200 := fun t ht => by
  have := few09 l3 (h := h) (t := t) (by omega)
  exact Nat.le_trans (Nat.mul_le_mul this l3) (by omega)
include w in
theorem st_anti : ∀ t, AntiK (stF ms h t) ∧ (stF ms h t).Nodup ∧ sortK (uniqK (stF ms h t)) = stF ms h t
  | 0 => by
    refine ⟨fun x hx y hy _ => ?_, by simp [stF], ?_⟩
    · rw [List.mem_singleton.mp hx, List.mem_singleton.mp hy]
    · rw [uq_same (by simp [stF])]
      exact sk_same (.refl _) (by simp [stF])
  | t + 1 => by
    have nn := nx_nn w (S := stF ms h t) fun s hs => (st_nn w t s hs).1
    obtain ⟨a, b⟩ := ls_anti (S := nxF ms (stF ms h t)) fun x hx => (nn x hx).1
    exact ⟨a, b, ls_set fun x hx => (nn x hx).1⟩
/-- where the law stands -/
noncomputable abbrev L9 (x0 x1 : Option Val) (ms : List Mv) (n : Nat) (h : Nat) (x5 x6 x7 x8 x9 x10 x11 : Option Val) : Loc := [x0, x1, some (.d (eMs ms)), some (.d (.int (n : Int))), some (.d (rowD (stF ms h n))), x5, x6, x7, x8, x9, x10, x11]
include w in
theorem one_of {n : Nat} (hn : n ≤ 4) {s : List Int} (hs : s ∈ stF ms h n) (x0 x1 x5 x6 x7 x8 x9 x10 x11 : Option Val) (l3 : ms.length ≤ 3) (st : Store) : ∃ xs, fBody (gN 5) law_L1 (.d (tI s)) (L9 x0 x1 ms n h x5 none x7 x8 x9 x10 x11) st = .ok (.nx, L9 x0 x1 ms n h (some (.d (tI s))) none x7 x8 x9 x10 x11) (st ++ xs) := by
  have h4 := w.h4
  obtain ⟨anti, _, _⟩ := st_anti w n
  have few := few09 l3 (h := h) hn
  obtain ⟨sl, sn⟩ := st_nn w n s hs
  have c1 : law_C1 (L9 x0 x1 ms n h (some (.d (tI s))) none x7 x8 x9 x10 x11) = ret (.d (.list [])) := by
    have e := eLc_filter (it := iSeq (eV 4)) (g := gN 6) (t := tAn (tV (eO bNe (eV 6) (eV 5))) (tV (eB (fixN 2 f_law_over) (aC (eV 5) (aC (eV 6) aN))))) (e := eV 6) (vs := [6]) (loc := L9 x0 x1 ms n h (some (.d (tI s))) none x7 x8 x9 x10 x11) (stF ms h n) (fun s => Val.d (tI s)) (fun u => !decide (u = s) && ovB s u) tI (by
      simp only [iSeq_eq, eV_succ, eV_zero, bd_ret]
      show ret (((stF ms h n).map tI).map Val.d) = _
      rw [List.map_map]
      rfl) (by rw [lim_eq]; omega) fun u hu => by
      have lu := (st_nn w n u hu).1
      have o := law_over_eq (a := s) (b := u) (by omega) (by omega)
      simp only [wip_cons, wip_nil, List.set_cons_succ, List.set_cons_zero, cBody_eq, gN_eq, bd_ret, tAn_eq, tV_eq, eO_eq, eV_succ, eV_zero, s_neT, asB_eq, bd_bd]
      by_cases c : u = s
      · simp [c]
      · simp only [c, decide_false, Bool.not_false, if_true, eB_eq, aC_eq, aN_eq, eV_succ, eV_zero, bd_ret, bd_bd, fix2, o, asB_eq, Bool.true_and]
        cases ovB s u <;> rfl
    have fe : ((stF ms h n).filter fun u => !decide (u = s) && ovB s u) = [] := by
      rw [List.filter_eq_nil_iff]
      intro u hu z
      rw [Bool.and_eq_true, Bool.not_eq_true', decide_eq_false_iff_not] at z
      exact z.1 (anti s hs u hu z.2).symm
    unfold law_C1
    rw [e, fe]
    rfl
  have g : goB ms n s = true := by
    rw [← cov_go w n s sl sn]
    exact List.any_eq_true.mpr ⟨s, hs, ov_refl s⟩
  obtain ⟨xs, ar⟩ := all_rows_ex w sl (n := n) (by omega) (Nat.le_trans (pow_few l3 hn) (by omega)) st
  have rne := (rw_ne ms n s).mpr g
  have shR : Sh 3 (rD (rwF ms n s)) := Sh.list fun x hx => by
    obtain ⟨r, _, rfl⟩ := List.mem_map.mp hx
    exact Sh.lI _
  have eqn : bEq (.d (rD (rwF ms n s))) (.d (.list [])) = ret (.d (.bool false)) := by
    unfold rD at shR ⊢
    rw [s_eqNil shR (by omega)]
    cases q : rwF ms n s with
    | nil => exact absurd q rne
    | cons _ _ => rfl
  refine ⟨xs, ?_⟩
  show law_L1 (L9 x0 x1 ms n h (some (.d (tI s))) none x7 x8 x9 x10 x11) st = _
  have n0 : bNe (.d (.list [])) (.d (.list [])) = ret (.d (.bool false)) := rfl
  have t1 : tV (eO bNe law_C1 (eB bLst aN)) (L9 x0 x1 ms n h (some (.d (tI s))) none x7 x8 x9 x10 x11) st = .ok false st := by
    rw [tV_eq, eO_eq, c1, bd_ret]
    simp only [eB_eq, aN_eq, bd_ret, bLst_eq0, n0, asB_eq]
    rfl
  have t2 : tV (eO bEq (eB (fixN 3 f_law_all_rows) (aC (eV 2) (aC (eV 5) (aC (eV 3) aN)))) (eB bLst aN)) (L9 x0 x1 ms n h (some (.d (tI s))) none x7 x8 x9 x10 x11) st = .ok false (st ++ xs) := by
    refine tv_at (op_at (v := .d (rD (rwF ms n s))) (st1 := st ++ xs) (u := .d (.list [])) (st2 := st ++ xs) ?_ rfl (by rw [eqn]; rfl))
    simp only [eB_eq, aC_eq, aN_eq, eV_succ, eV_zero, bd_ret, bd_bd, fix3]
    exact ar
  rw [law_L1_eq, seq_nx (by rw [if_no t1]; rfl), if_no t2]
  rfl
include w in
theorem turn_of {k n : Nat} (hn : n ≤ 4) (l3 : ms.length ≤ 3) (v : Val) (x0 x5 x7 x8 x9 x10 x11 : Option Val) (st : Store) (d : DS k st) : ∃ s rows st', fBody (gN 7) law_L2 v (L9 x0 (some (.o k)) ms n h x5 none x7 x8 x9 x10 x11) st = .ok (.nx, L9 x0 (some (.o k)) ms n h x5 none (some v) (some (.d (tI s))) (some (.d rows)) x10 x11) st' ∧ Dc k st st' ∧ St h s := by
  have h4 := w.h4
  have few := few09 l3 (h := h) hn
  obtain ⟨s, st1, e1, sl, sb, d1⟩ := any_standing_ex d w (high := 4) (by omega)
  have hs : St h s := ⟨sl, fun x hx => by have := sb x hx; omega⟩
  have sn : ∀ z ∈ s, 0 ≤ z := fun z hz => (sb z hz).1
  obtain ⟨xs, e2⟩ := all_rows_ex w sl (n := n) (by omega) (Nat.le_trans (pow_few l3 hn) (by omega)) st1
  obtain ⟨ys, e3⟩ := can_go_ex w (n := n) (by omega) (bnd09 l3 hn) (by rw [lim_eq]; omega) hs (st1 ++ xs)
  obtain ⟨st4, e4, p4⟩ := first_row_ex w (n := n) (by omega) (bnd09 l3 hn) (by rw [lim_eq]; omega) hs (st1 ++ xs ++ ys)
  have shR : Sh 3 (rD (rwF ms n s)) := Sh.list fun x hx => by
    obtain ⟨r, _, rfl⟩ := List.mem_map.mp hx
    exact Sh.lI _
  have neR : bNe (.d (rD (rwF ms n s))) (.d (.list [])) = ret (.d (.bool (goB ms n s))) := by
    unfold rD at shR ⊢
    rw [s_neNil shR (by omega)]
    have := rw_ne ms n s
    cases q : rwF ms n s with
    | nil =>
      rw [q] at this
      have : goB ms n s = false := by
        cases g : goB ms n s with
        | false => rfl
        | true => exact absurd rfl (this.mpr g)
      rw [this]; rfl
    | cons _ _ =>
      rw [q] at this
      rw [this.mp (by simp)]; rfl
  have nb : ∀ b : Bool, bNe (.d (.bool b)) (.d (.bool b)) = ret (.d (.bool false)) := fun b => ne_self (Sh.bool b) (by omega)
  -- the standing, the rows
  have s1 : sAsg (eB (fixN 3 f_law_any_standing) (aC (eV 1) (aC (eV 2) (aC (eC (.int 4)) aN)))) (gN 8) (L9 x0 (some (.o k)) ms n h x5 none (some v) x8 x9 x10 x11) st = .ok (.nx, L9 x0 (some (.o k)) ms n h x5 none (some v) (some (.d (tI s))) x9 x10 x11) st1 := by
    rw [asg_gN (v := .d (tI s)) (s := st1) (by
      simp only [eB_eq, aC_eq, aN_eq, eC_eq, eV_succ, eV_zero, bd_ret, bd_bd, fix3]
      exact e1)]
    rfl
  have s2 : sAsg (eB (fixN 3 f_law_all_rows) (aC (eV 2) (aC (eV 8) (aC (eV 3) aN)))) (gN 9) (L9 x0 (some (.o k)) ms n h x5 none (some v) (some (.d (tI s))) x9 x10 x11) st1 = .ok (.nx, L9 x0 (some (.o k)) ms n h x5 none (some v) (some (.d (tI s))) (some (.d (rD (rwF ms n s)))) x10 x11) (st1 ++ xs) := by
    rw [asg_gN (v := .d (rD (rwF ms n s))) (s := st1 ++ xs) (by
      simp only [eB_eq, aC_eq, aN_eq, eV_succ, eV_zero, bd_ret, bd_bd, fix3]
      exact e2)]
    rfl
  have r9 : ∀ S, eO bNe (eV 9) (eB bLst aN) (L9 x0 (some (.o k)) ms n h x5 none (some v) (some (.d (tI s))) (some (.d (rD (rwF ms n s)))) x10 x11) S = .ok (.d (.bool (goB ms n s))) S := fun S => by
    simp only [eO_eq, eB_eq, aN_eq, eV_succ, eV_zero, bd_ret, bLst_eq0, neR]
    rfl
  have t3 : tV (eO bNe (eB (fixN 3 f_can_go) (aC (eV 2) (aC (eV 8) (aC (eV 3) aN)))) (eO bNe (eV 9) (eB bLst aN))) (L9 x0 (some (.o k)) ms n h x5 none (some v) (some (.d (tI s))) (some (.d (rD (rwF ms n s)))) x10 x11) (st1 ++ xs) = .ok false (st1 ++ xs ++ ys) := by
    refine tv_at (op_at (v := .d (.bool (goB ms n s))) (st1 := st1 ++ xs ++ ys) ?_ (r9 _) (by rw [nb]; rfl))
    simp only [eB_eq, aC_eq, aN_eq, eV_succ, eV_zero, bd_ret, bd_bd, fix3]
    exact e3
  have c2 : law_C2 (L9 x0 (some (.o k)) ms n h x5 none (some v) (some (.d (tI s))) (some (.d (rD (rwF ms n s)))) x10 x11) = ret (.d (.list (((stF ms h n).filter fun u => ovB s u).map tI))) := by
    unfold law_C2
    refine eLc_filter (stF ms h n) (fun s => Val.d (tI s)) (fun u => ovB s u) tI ?_ (by rw [lim_eq]; omega) fun u hu => ?_
    · simp only [iSeq_eq, eV_succ, eV_zero, bd_ret]
      show ret (((stF ms h n).map tI).map Val.d) = _
      rw [List.map_map]
      rfl
    · have lu := (st_nn w n u hu).1
      have o := law_over_eq (a := s) (b := u) (by omega) (by omega)
      simp only [wip_cons, wip_nil, List.set_cons_succ, List.set_cons_zero, cBody_eq, gN_eq, bd_ret, tV_eq, eB_eq, aC_eq, aN_eq, eV_succ, eV_zero, bd_bd, fix2, o, asB_eq]
      cases ovB s u <;> rfl
  have neC : bNe (.d (.list (((stF ms h n).filter fun u => ovB s u).map tI))) (.d (.list [])) = ret (.d (.bool (goB ms n s))) := by
    rw [s_neNil (n := 3) (s_shRow _) (by omega), ← cov_go w n s sl sn]
    congr 3
    unfold covB
    rw [Bool.eq_iff_iff, List.any_eq_true]
    cases q : (stF ms h n).filter fun u => ovB s u with
    | nil =>
      rw [List.filter_eq_nil_iff] at q
      exact ⟨(fun z => by cases z), fun ⟨u, hu, e⟩ => absurd e (q u hu)⟩
    | cons u r =>
      have : u ∈ (stF ms h n).filter fun u => ovB s u := by rw [q]; exact List.mem_cons_self
      exact ⟨fun _ => ⟨u, (List.mem_filter.mp this).1, (List.mem_filter.mp this).2⟩, fun _ => rfl⟩
  have t4 : tV (eO bNe (eO bNe (eV 9) (eB bLst aN)) (eO bNe law_C2 (eB bLst aN))) (L9 x0 (some (.o k)) ms n h x5 none (some v) (some (.d (tI s))) (some (.d (rD (rwF ms n s)))) x10 x11) (st1 ++ xs ++ ys) = .ok false (st1 ++ xs ++ ys) := by
    refine tv_at (op_at (r9 _) (u := .d (.bool (goB ms n s))) (st2 := st1 ++ xs ++ ys) ?_ (by rw [nb]; rfl))
    rw [eO_eq, c2, bd_ret]
    simp only [eB_eq, aN_eq, bd_ret, bLst_eq0, neC]
    rfl
  have ev : eIf (tV (eO bNe (eV 9) (eB bLst aN))) (eO bIx (eV 9) (eC (.int 0))) (eC .none) (L9 x0 (some (.o k)) ms n h x5 none (some v) (some (.d (tI s))) (some (.d (rD (rwF ms n s)))) x10 x11) st4 = .ok (.d (if goB ms n s = true then lI' (frF ms n s) else .none)) st4 := by
    rw [eIf_eq, bd_eq (tv_at (r9 st4))]
    by_cases g : goB ms n s = true
    · rw [if_pos g, if_pos g]
      obtain ⟨R, er⟩ := fr_head ms n s g
      have i0 : bIx (.d (rD (rwF ms n s))) (.d (.int 0)) = ret (.d (lI' (frF ms n s))) := by
        unfold rD
        rw [bIx_lst, er, List.map_cons, atI_zero]
        rfl
      simp only [eO_eq, eC_eq, eV_succ, eV_zero, bd_ret, i0]
      rfl
    · rw [if_neg g, if_neg g]
      rfl
  have shF : Sh 2 (if goB ms n s = true then lI' (frF ms n s) else .none) := by
    by_cases g : goB ms n s = true
    · rw [if_pos g]; exact Sh.lI _
    · rw [if_neg g]; exact Sh.none.mono (by omega)
  have t5 : tV (eO bNe (eB (fixN 3 f_first_row) (aC (eV 2) (aC (eV 8) (aC (eV 3) aN)))) (eIf (tV (eO bNe (eV 9) (eB bLst aN))) (eO bIx (eV 9) (eC (.int 0))) (eC .none))) (L9 x0 (some (.o k)) ms n h x5 none (some v) (some (.d (tI s))) (some (.d (rD (rwF ms n s)))) x10 x11) (st1 ++ xs ++ ys) = .ok false st4 := by
    refine tv_at (op_at (v := .d (if goB ms n s = true then lI' (frF ms n s) else .none)) (st1 := st4) ?_ ev (by rw [ne_self shF (by omega)]; rfl))
    simp only [eB_eq, aC_eq, aN_eq, eV_succ, eV_zero, bd_ret, bd_bd, fix3]
    exact e4
  refine ⟨s, rD (rwF ms n s), st4, ?_, ?_, hs⟩
  · show law_L2 (L9 x0 (some (.o k)) ms n h x5 none (some v) x8 x9 x10 x11) st = _
    rw [law_L2_eq, seq_nx s1, seq_nx s2, seq_nx (by rw [if_no t3]; rfl), seq_nx (by rw [if_no t4]; rfl), if_no t5]
    rfl
  · have dd := d1.ds d
    have p : Pre st1 st4 := by
      obtain ⟨zs, rfl⟩ := p4
      exact ⟨xs ++ ys ++ zs, by simp⟩
    exact d1.trans (p.dc dd)
include w in
theorem bad_of {n : Nat} {x : D} (hx : cl x = true) (wh : whB 0 8 x = false) {s : List Int} (hs : St h s) (x0 x1 x5 x7 x9 x10 x11 : Option Val) (st : Store) : ∃ ob st', fBody (gN 10) law_L3 (.d x) (L9 x0 x1 ms n h x5 none x7 (some (.d (tI s))) x9 x10 x11) st = .ok (.nx, L9 x0 x1 ms n h x5 none x7 (some (.d (tI s))) x9 (some (.d x)) (some ob)) st' ∧ Pre st st' := by
  have nm : f_need_many [.d x] = thr 3 := by rw [r_need_many hx, if_neg (by rw [wh]; decide)]
  have b1 : f_least_starts [.d (eMs ms), .d x] = thr 3 := by simp [f_least_starts, b_least_starts, runF_eq, w.need, nm]
  have b2 : f_can_go [.d (eMs ms), .d (tI s), .d x] = thr 3 := by simp [f_can_go, b_can_go, runF_eq, w.need, w.st hs, nm]
  have b3 : f_first_row [.d (eMs ms), .d (tI s), .d x] = thr 3 := by simp [f_first_row, b_first_row, runF_eq, w.need, w.st hs, nm]
  obtain ⟨r, hr⟩ : ∃ r, r = RfT 3 := ⟨_, rfl⟩
  have T : ∀ {f : E} {loc : Loc}, f loc = thr 3 → ∀ S, eTold CS f loc S = .ok (.d r) S := fun hf S => by
    rw [hr]
    exact s_thr (by rw [hf]; rfl) (by decide)
  have b4 : bTup [.d (.str "refused"), .d (.str "BadNumber")] = ret (.d r) := by rw [hr]; rfl
  have s1r : Sh 3 r := by
    rw [hr]
    exact ⟨by decide +kernel, by decide +kernel⟩
  clear hr
  have t1 := fun (y10 y11 : Option Val) => T (f := eB (fixN 2 f_least_starts) (aC (eV 2) (aC (eV 10) aN))) (loc := L9 x0 x1 ms n h x5 none x7 (some (.d (tI s))) x9 (some (.d x)) y11) (by
    simp only [eB_eq, aC_eq, aN_eq, eV_succ, eV_zero, bd_ret, bd_bd, fix2]
    exact b1)
  have t2 := fun (y11 : Option Val) => T (f := eB (fixN 3 f_can_go) (aC (eV 2) (aC (eV 8) (aC (eV 10) aN)))) (loc := L9 x0 x1 ms n h x5 none x7 (some (.d (tI s))) x9 (some (.d x)) y11) (by
    simp only [eB_eq, aC_eq, aN_eq, eV_succ, eV_zero, bd_ret, bd_bd, fix3]
    exact b2)
  have t3 := fun (y11 : Option Val) => T (f := eB (fixN 3 f_first_row) (aC (eV 2) (aC (eV 8) (aC (eV 10) aN)))) (loc := L9 x0 x1 ms n h x5 none x7 (some (.d (tI s))) x9 (some (.d x)) y11) (by
    simp only [eB_eq, aC_eq, aN_eq, eV_succ, eV_zero, bd_ret, bd_bd, fix3]
    exact b3)
  have s1 : sAsg (eB bNew (aC (eTold CS (eB (fixN 2 f_least_starts) (aC (eV 2) (aC (eV 10) aN)))) aN)) (gN 11) (L9 x0 x1 ms n h x5 none x7 (some (.d (tI s))) x9 (some (.d x)) x11) st = .ok (.nx, L9 x0 x1 ms n h x5 none x7 (some (.d (tI s))) x9 (some (.d x)) (some (.o st.length))) (st ++ [.lst [.d r]]) := by
    have e : eB bNew (aC (eTold CS (eB (fixN 2 f_least_starts) (aC (eV 2) (aC (eV 10) aN)))) aN) (L9 x0 x1 ms n h x5 none x7 (some (.d (tI s))) x9 (some (.d x)) x11) st = .ok (.o st.length) (st ++ [.lst [.d r]]) := by
      rw [eB_eq, aC_eq, bd_bd, bd_eq (t1 none _ _)]
      rfl
    rw [asg_gN e]
    rfl
  have ap := app_at (o := eV 11) (e := eTold CS (eB (fixN 3 f_can_go) (aC (eV 2) (aC (eV 8) (aC (eV 10) aN))))) (loc := L9 x0 x1 ms n h x5 none x7 (some (.d (tI s))) x9 (some (.d x)) (some (.o st.length))) (st := st ++ [.lst [.d r]]) (k := st.length) (xs := [.d r]) rfl (by simp) (t2 _ _) (by simp) (by simp [lim])
  rw [set_mid] at ap
  have fin : tV (eO bNe (eO bAddO (eV 11) (eB bLst (aC (eTold CS (eB (fixN 3 f_first_row) (aC (eV 2) (aC (eV 8) (aC (eV 10) aN))))) aN))) (eO bMul (eB bLst (aC (eB bTup (aC (eC (.str "refused")) (aC (eC (.str "BadNumber")) aN))) aN)) (eC (.int 3)))) (L9 x0 x1 ms n h x5 none x7 (some (.d (tI s))) x9 (some (.d x)) (some (.o st.length))) (st ++ [.lst [.d r, .d r]]) = .ok false (st ++ [.lst [.d r, .d r]]) := by
    have g : (st ++ [Ob.lst [.d r, .d r]])[st.length]? = some (.lst [.d r, .d r]) := by simp
    have a1 : eB bLst (aC (eTold CS (eB (fixN 3 f_first_row) (aC (eV 2) (aC (eV 8) (aC (eV 10) aN))))) aN) (L9 x0 x1 ms n h x5 none x7 (some (.d (tI s))) x9 (some (.d x)) (some (.o st.length))) (st ++ [.lst [.d r, .d r]]) = .ok (.d (.list [r])) (st ++ [.lst [.d r, .d r]]) := by
      rw [eB_eq, aC_eq, bd_bd, bd_eq (t3 _ _)]
      rfl
    have a2 : bAddO (.o st.length) (.d (.list [r])) (st ++ [.lst [.d r, .d r]]) = .ok (.d (.list [r, r, r])) (st ++ [.lst [.d r, .d r]]) := addO_at (ds := [r, r]) g (by simp [lim])
    have sh : Sh 64 (.list [r, r, r]) := by
      exact (Sh.list (n := 3) fun y hy => by
        simp only [List.mem_cons, List.not_mem_nil, or_false] at hy
        rcases hy with rfl | rfl | rfl <;> exact s1r).mono (by omega)
    have b2 : bMul (.d (.list [r])) (.d (.int 3)) = ret (.d (.list [r, r, r])) := by
      rfl
    have a3 : ∀ loc : Loc, eO bMul (eB bLst (aC (eB bTup (aC (eC (.str "refused")) (aC (eC (.str "BadNumber")) aN))) aN)) (eC (.int 3)) loc = ret (.d (.list [r, r, r])) := fun loc => by
      simp only [eO_eq, eB_eq, aC_eq, aN_eq, eC_eq, bd_ret, bd_bd, b4, bLst_eq1, b2]
    obtain ⟨L, hL⟩ : ∃ L, L9 x0 x1 ms n h x5 none x7 (some (.d (tI s))) x9 (some (.d x)) (some (.o st.length)) = L := ⟨_, rfl⟩
    have v11 : eV 11 L = ret (.o st.length) := by rw [← hL]; rfl
    rw [hL] at a1 ⊢
    have e1 : eO bAddO (eV 11) (eB bLst (aC (eTold CS (eB (fixN 3 f_first_row) (aC (eV 2) (aC (eV 8) (aC (eV 10) aN))))) aN)) L (st ++ [.lst [.d r, .d r]]) = .ok (.d (.list [r, r, r])) (st ++ [.lst [.d r, .d r]]) := by
      rw [eO_eq, v11, bd_ret, bd_eq a1]
      exact a2
    refine tv_at ?_
    rw [eO_eq, bd_eq e1, a3, bd_ret]
    rw [ne_self sh (by omega)]
    rfl
  refine ⟨.o st.length, st ++ [.lst [.d r, .d r]], ?_, ⟨_, rfl⟩⟩
  show law_L3 (L9 x0 x1 ms n h x5 none x7 (some (.d (tI s))) x9 (some (.d x)) x11) st = _
  rw [law_L3_eq, seq_nx s1, seq_nx (exp_at ap)]
  exact (if_no fin).trans rfl
end

end Y
end
section
set_option Elab.async false
set_option linter.all false
set_option maxRecDepth 10000
set_option exponentiation.threshold 5000
namespace Y
open PySem (PyData Str)
/-! ### law 9, its rounds -/
section
variable {ms : List Mv} {h : Nat} (w : WF ms h) (l3 : ms.length ≤ 3)
include w l3
theorem ones_loop {n : Nat} (hn : n ≤ 4) (x0 x1 x7 x8 x9 x10 x11 : Option Val) : ∀ (L : List (List Int)) (x5 : Option Val) (st : Store), (∀ s ∈ L, s ∈ stF ms h n) → ∃ y5 xs, forL (fBody (gN 5) law_L1) (L.map fun s => Val.d (tI s)) (L9 x0 x1 ms n h x5 none x7 x8 x9 x10 x11) st = .ok (.nx, L9 x0 x1 ms n h y5 none x7 x8 x9 x10 x11) (st ++ xs)
  | [], x5, st, _ => ⟨x5, [], by rw [List.append_nil]; rfl⟩
  | s :: L, x5, st, hL => by
    obtain ⟨xs, e⟩ := one_of w hn (hL s List.mem_cons_self) x0 x1 x5 none x7 x8 x9 x10 x11 l3 st
    obtain ⟨y5, ys, e2⟩ := ones_loop hn x0 x1 x7 x8 x9 x10 x11 L (some (.d (tI s))) (st ++ xs) fun z hz => hL z (List.mem_cons_of_mem _ hz)
    refine ⟨y5, xs ++ ys, ?_⟩
    show bd (fBody _ _ _ _) _ st = _
    rw [bd_eq e, ← List.append_assoc]
    exact e2
theorem turns_loop {k n : Nat} (hn : n ≤ 4) (x0 x5 x10 x11 : Option Val) : ∀ (vs : List Val) (x7 x8 x9 : Option Val) (st : Store), DS k st → ∃ y7 y8 y9 st', forL (fBody (gN 7) law_L2) vs (L9 x0 (some (.o k)) ms n h x5 none x7 x8 x9 x10 x11) st = .ok (.nx, L9 x0 (some (.o k)) ms n h x5 none y7 y8 y9 x10 x11) st' ∧ Dc k st st' ∧ ((∃ s, x8 = some (.d (tI s)) ∧ St h s) ∨ vs ≠ [] → ∃ s, y8 = some (.d (tI s)) ∧ St h s)
  | [], x7, x8, x9, st, d => ⟨x7, x8, x9, st, rfl, Dc.refl d, fun z => z.elim id fun z => absurd rfl z⟩
  | v :: vs, x7, x8, x9, st, d => by
    obtain ⟨s, rows, st1, e, d1, hs⟩ := turn_of w (k := k) hn l3 v x0 x5 x7 x8 x9 x10 x11 st d
    obtain ⟨y7, y8, y9, st2, e2, d2, hy⟩ := turns_loop hn x0 x5 x10 x11 vs (some v) (some (.d (tI s))) (some (.d rows)) st1 (d1.ds d)
    refine ⟨y7, y8, y9, st2, ?_, d1.trans d2, fun _ => hy (.inl ⟨s, rfl, hs⟩)⟩
    show bd (fBody _ _ _ _) _ st = _
    rw [bd_eq e]
    exact e2
theorem bads_loop {n : Nat} {s : List Int} (hs : St h s) (x0 x1 x5 x7 x9 : Option Val) : ∀ (L : List D) (x10 x11 : Option Val) (st : Store), (∀ x ∈ L, cl x = true ∧ whB 0 8 x = false) → ∃ y10 y11 st', forL (fBody (gN 10) law_L3) (L.map Val.d) (L9 x0 x1 ms n h x5 none x7 (some (.d (tI s))) x9 x10 x11) st = .ok (.nx, L9 x0 x1 ms n h x5 none x7 (some (.d (tI s))) x9 y10 y11) st' ∧ Pre st st'
  | [], x10, x11, st, _ => ⟨x10, x11, st, rfl, Pre.refl _⟩
  | x :: L, x10, x11, st, hL => by
    obtain ⟨a, b⟩ := hL x List.mem_cons_self
    obtain ⟨ob, st1, e, p⟩ := bad_of w (n := n) a b hs x0 x1 x5 x7 x9 x10 x11 st
    obtain ⟨y10, y11, st2, e2, p2⟩ := bads_loop hs x0 x1 x5 x7 x9 L (some (.d x)) (some ob) st1 fun z hz => hL z (List.mem_cons_of_mem _ hz)
    refine ⟨y10, y11, st2, ?_, p.trans p2⟩
    show bd (fBody _ _ _ _) _ st = _
    rw [bd_eq e]
    exact e2
end
theorem k09_body (ns : List Int) (k : Nat) (loc : Loc) (st : Store) (p : ∃ x1 x2 x3 x4 x5 x7 x8 x9 x10 x11, loc = [some (.s ns), x1, x2, x3, x4, x5, none, x7, x8, x9, x10, x11]) (d : DS k st) : ∃ loc' st', fBody (gN 1) law_L4 (.o k) loc st = .ok (.nx, loc') st' ∧ (∃ x1 x2 x3 x4 x5 x7 x8 x9 x10 x11, loc' = [some (.s ns), x1, x2, x3, x4, x5, none, x7, x8, x9, x10, x11]) ∧ Dc k st st' := by
  obtain ⟨x1, x2, x3, x4, x5, x7, x8, x9, x10, x11, rfl⟩ := p
  obtain ⟨ms, h, st1, e1, w, h3, l3, _, d1⟩ := any_moves_ex d (high := 3) (by omega) (by omega)
  obtain ⟨r, st2, e2, r0, r5, d2⟩ := roll_ex (d1.ds d) (many := 5) (by omega) (by omega)
  obtain ⟨n, rfl⟩ : ∃ n : Nat, r = (n : Int) := ⟨r.toNat, by omega⟩
  have hn : n ≤ 4 := by omega
  have h1 := w.h1
  have h4 := w.h4
  have d12 := d1.trans d2
  have few := few09 l3 (h := h) hn
  have s1 : sAsg (eB bTup (aC (eB (fixN 2 f_law_any_moves) (aC (eV 1) (aC (eC (.int 3)) aN))) (aC (eB (fixN 2 f_law_roll) (aC (eV 1) (aC (eC (.int 5)) aN))) aN))) (gT 2 (gsC (gN 2) (gsC (gN 3) gsN))) [some (.s ns), some (.o k), x2, x3, x4, x5, none, x7, x8, x9, x10, x11] st =
      .ok (.nx, [some (.s ns), some (.o k), some (.d (eMs ms)), some (.d (.int (n : Int))), x4, x5, none, x7, x8, x9, x10, x11]) st2 := by
    have e : eB bTup (aC (eB (fixN 2 f_law_any_moves) (aC (eV 1) (aC (eC (.int 3)) aN))) (aC (eB (fixN 2 f_law_roll) (aC (eV 1) (aC (eC (.int 5)) aN))) aN)) [some (.s ns), some (.o k), x2, x3, x4, x5, none, x7, x8, x9, x10, x11] st = .ok (.d (.tuple [eMs ms, .int (n : Int)])) st2 := by
      rw [eB_eq, aC_eq, bd_bd, bd_eq (call2 rfl rfl e1), aC_eq, bd_bd, bd_bd, bd_eq (call2 rfl rfl e2)]
      rfl
    rw [sAsg_eq, bd_eq e]
    rfl
  obtain ⟨xs, e3⟩ := least_starts_ex w (n := n) (by omega) (bnd09 l3 hn) st2
  have s2 : sAsg (eB (fixN 2 f_least_starts) (aC (eV 2) (aC (eV 3) aN))) (gN 4) [some (.s ns), some (.o k), some (.d (eMs ms)), some (.d (.int (n : Int))), x4, x5, none, x7, x8, x9, x10, x11] st2 = .ok (.nx, L9 (some (.s ns)) (some (.o k)) ms n h x5 none x7 x8 x9 x10 x11) (st2 ++ xs) := by
    rw [asg_gN (call2 rfl rfl e3)]
    rfl
  have t3 : tV (eO bNe (eV 4) (eSetS (eV 4))) (L9 (some (.s ns)) (some (.o k)) ms n h x5 none x7 x8 x9 x10 x11) (st2 ++ xs) = .ok false (st2 ++ xs) := by
    have st := setS_at (L := stF ms h n) (by omega) fun s hs z => by have := (st_nn w n s hs).1; rw [z] at this; simp at this; omega
    rw [(st_anti w n).2.2] at st
    have es : eSetS (eV 4) (L9 (some (.s ns)) (some (.o k)) ms n h x5 none x7 x8 x9 x10 x11) = ret (.d (rowD (stF ms h n))) := by
      unfold eSetS
      simp only [eV_succ, eV_zero, bd_ret, st]
    rw [tV_eq, eO_eq, es]
    simp only [eV_succ, eV_zero, bd_ret]
    rw [ne_self (s_shRow _) (by omega)]
    rfl
  obtain ⟨y5, ys, lp4⟩ := ones_loop w l3 hn (some (.s ns)) (some (.o k)) x7 x8 x9 x10 x11 (stF ms h n) x5 (st2 ++ xs) fun s hs => hs
  have it4 : iSeq (eV 4) (L9 (some (.s ns)) (some (.o k)) ms n h x5 none x7 x8 x9 x10 x11) (st2 ++ xs) = .ok ((stF ms h n).map fun s => Val.d (tI s)) (st2 ++ xs) := by
    simp only [iSeq_eq, eV_succ, eV_zero, bd_ret]
    show R.ok (((stF ms h n).map tI).map Val.d) _ = _
    rw [List.map_map]
    rfl
  have p4 : Pre st2 (st2 ++ xs ++ ys) := ⟨xs ++ ys, by simp⟩
  have d4 := p4.dc (d12.ds d)
  have dd4 := d4.ds (d12.ds d)
  obtain ⟨y7, y8, y9, st5, lp5, d5, hy⟩ := turns_loop w l3 (k := k) hn (some (.s ns)) y5 x10 x11 ((List.range 6).map fun (i : Nat) => Val.d (.int (0 + (i : Int)))) x7 x8 x9 (st2 ++ xs ++ ys) dd4
  obtain ⟨s, rfl, hs⟩ := hy (.inr (by decide))
  have it5 : iCall kRg1 (aC (eC (.int 6)) aN) (L9 (some (.s ns)) (some (.o k)) ms n h y5 none x7 x8 x9 x10 x11) (st2 ++ xs ++ ys) = .ok ((List.range 6).map fun (i : Nat) => Val.d (.int (0 + (i : Int)))) (st2 ++ xs ++ ys) := by
    have e := kRg1_nat (z := 6) (n := 6) rfl (by omega)
    simp only [iCall_eq, aC_eq, aN_eq, eC_eq, bd_ret, e]
    rfl
  obtain ⟨y10, y11, st6, lp6, p6⟩ := bads_loop w l3 (n := n) hs (some (.s ns)) (some (.o k)) y5 y7 y9 [.int (-1), .int 9, .bool true, .none] x10 x11 st5 (by
    intro x hx
    simp only [List.mem_cons, List.not_mem_nil, or_false] at hx
    rcases hx with rfl | rfl | rfl | rfl <;> exact ⟨rfl, rfl⟩)
  have it6 : iSeq (eB bLst (aC (eU bNeg (eC (.int 1))) (aC (eC (.int 9)) (aC (eC (.bool true)) (aC (eC .none) aN))))) (L9 (some (.s ns)) (some (.o k)) ms n h y5 none y7 (some (.d (tI s))) y9 x10 x11) st5 = .ok ([.int (-1), .int 9, .bool true, .none].map Val.d) st5 := rfl
  have t7 : tV (eO bNe (eTold CS (eB (fixN 3 f_can_go) (aC (eV 2) (aC (eC .none) (aC (eC .none) aN))))) (eB bTup (aC (eC (.str "refused")) (aC (eC (.str "BadStanding")) aN)))) (L9 (some (.s ns)) (some (.o k)) ms n h y5 none y7 (some (.d (tI s))) y9 y10 y11) st6 = .ok false st6 := by
    have bs : f_need_standing [.d (eMs ms), .d .none] = thr 2 := by rw [r_need_standing w rfl, if_neg (by simp [awB])]
    have b2 : f_can_go [.d (eMs ms), .d .none, .d .none] = thr 2 := by simp [f_can_go, b_can_go, runF_eq, w.need, bs]
    have t := s_thr (cs := CS) (f := eB (fixN 3 f_can_go) (aC (eV 2) (aC (eC .none) (aC (eC .none) aN)))) (loc := L9 (some (.s ns)) (some (.o k)) ms n h y5 none y7 (some (.d (tI s))) y9 y10 y11) (c := 2) (st := st6) (st' := st6) (by
      simp only [eB_eq, aC_eq, aN_eq, eC_eq, eV_succ, eV_zero, bd_ret, bd_bd, fix3]
      rw [b2]; rfl) (by decide)
    have nt : bNe (.d (.tuple [.str "refused", .str (kindN 2)])) (.d (.tuple [.str "refused", .str "BadStanding"])) = ret (.d (.bool false)) := ne_told (by decide +kernel) (by decide +kernel) rfl
    refine tv_at ?_
    rw [eO_eq, bd_eq t]
    simp only [eB_eq, aC_eq, aN_eq, eC_eq, bd_ret, bd_bd, bTup_eq2, nt]
    rfl
  obtain ⟨zs, e8⟩ := least_starts_ex w (n := 0) (by omega) (fun t ht => by omega) st6
  have t8 : tV (eO bNe (eB (fixN 2 f_least_starts) (aC (eV 2) (aC (eC (.int 0)) aN))) (eB bLst (aC (eO bMul (eB bTup (aC (eC (.int 0)) aN)) (eB bLen (aC (eO bIx (eO bIx (eV 2) (eC (.int 0))) (eC (.int 0))) aN))) aN))) (L9 (some (.s ns)) (some (.o k)) ms n h y5 none y7 (some (.d (tI s))) y9 y10 y11) st6 = .ok false (st6 ++ zs) := by
    obtain ⟨m, hm, l1, l2, _, _⟩ := w.at (i := 0) (by have := w.n1; omega)
    have i0 : bIx (.d (eMs ms)) (.d (.int 0)) = ret (.d (eMv m)) := ix_ms (i := 0) hm
    have i1 : bIx (.d (eMv m)) (.d (.int 0)) = ret (.d (tI m.1)) := by rw [ix_mv0]
    have ln : bLen [.d (tI m.1)] = ret (.d (.int (h : Int))) := by
      show ret (vI ((intsD m.1).length : Int)) = _
      rw [intsD_len, l1]
      rfl
    have rt := rep_tup w.h1 w.h4
    have a3 : eB bLst (aC (eO bMul (eB bTup (aC (eC (.int 0)) aN)) (eB bLen (aC (eO bIx (eO bIx (eV 2) (eC (.int 0))) (eC (.int 0))) aN))) aN) (L9 (some (.s ns)) (some (.o k)) ms n h y5 none y7 (some (.d (tI s))) y9 y10 y11) = ret (.d (rowD (stF ms h 0))) := by
      simp only [eB_eq, aC_eq, aN_eq, eO_eq, eC_eq, eV_succ, eV_zero, bd_ret, bd_bd, bTup_eq1, i0, i1, ln, rt, bLst_eq1]
      rfl
    refine tv_at ?_
    rw [eO_eq, bd_eq (call2 rfl rfl e8), a3, bd_ret, ne_self (s_shRow _) (by omega)]
    rfl
  refine ⟨L9 (some (.s ns)) (some (.o k)) ms n h y5 none y7 (some (.d (tI s))) y9 y10 y11, st6 ++ zs, ?_, ⟨_, _, _, _, _, _, _, _, _, _, rfl⟩, ?_⟩
  · show law_L4 [some (.s ns), some (.o k), x2, x3, x4, x5, none, x7, x8, x9, x10, x11] st = _
    rw [law_L4_eq, seq_nx s1, seq_nx s2, seq_nx (by rw [if_no t3]; rfl), seq_nx ((sFor_at it4).trans lp4), seq_nx ((sFor_at it5).trans lp5), seq_nx ((sFor_at it6).trans lp6), seq_nx (by rw [if_no t7]; rfl), if_no t8]
    rfl
  · have p7 : Pre st5 (st6 ++ zs) := p6.trans ⟨zs, rfl⟩
    exact d12.trans (d4.trans (d5.trans (p7.dc (d5.ds dd4))))
theorem law_true (ns : List Int) (hl : ns.length ≤ 1000) : ∃ st, f_law [.s ns] [] = .ok (.d (.bool true)) st :=
  law_frame (ns := ns) (B := law_L4) (G1 := gN 1) (high := 4) (m := 11) hl (by omega) (fun loc => ∃ x1 x2 x3 x4 x5 x7 x8 x9 x10 x11, loc = [some (.s ns), x1, x2, x3, x4, x5, none, x7, x8, x9, x10, x11]) ⟨_, _, _, _, _, _, _, _, _, _, rfl⟩ fun k loc st p d => k09_body ns k loc st p d

end Y
end
set_option Elab.async false
set_option linter.all false
set_option maxRecDepth 100000
set_option maxHeartbeats 2000000
namespace Y
open PySem PySem.Spec PyProof.Rows L2
def tabAt (K : PySem.W.Frag) (f : Addr) : Option (Addr × Addr) := match K.lookup f with
  | some ⟨_, _, .func fd, _⟩ => (match fd.code with
    | .ref c => (match K.lookup c with
      | some ⟨_, _, .fields vs, _⟩ => (match (vs[11]? : Option Value) with
        | some (.ref P) => some (c, P)
        | _ => none)
      | _ => none)
    | _ => none)
  | _ => none
theorem all_mk {l : PySem.W.OpenLaw} {w : World} {K : PySem.W.Frag} {h : Heap} {mg : Str → Option Value} {fa : Addr} (X : K.In h) (G : h.Ns mainGlobals mg) (hfa : mg "law" = some (.ref fa))
    {od0 an0 : Option Addr} {sl0 : Array (Option Value)} {oc0 kV0 dc0 pm0 cd0 ct0 : Value} {f0 : Addr} {od1 an1 : Option Addr} {sl1 : Array (Option Value)} {oc1 kV1 dc1 pm1 cd1 ct1 : Value} {f1 : Addr} {od2 an2 : Option Addr} {sl2 : Array (Option Value)} {oc2 kV2 dc2 pm2 cd2 ct2 : Value} {f2 : Addr} {od3 an3 : Option Addr} {sl3 : Array (Option Value)} {oc3 kV3 dc3 pm3 cd3 ct3 : Value} {f3 : Addr} {od4 an4 : Option Addr} {sl4 : Array (Option Value)} {oc4 kV4 dc4 pm4 cd4 ct4 : Value} {f4 : Addr} {od5 an5 : Option Addr} {sl5 : Array (Option Value)} {oc5 kV5 dc5 pm5 cd5 ct5 : Value} {f5 : Addr} {od6 an6 : Option Addr} {sl6 : Array (Option Value)} {oc6 kV6 dc6 pm6 cd6 ct6 : Value} {f6 : Addr} {od7 an7 : Option Addr} {sl7 : Array (Option Value)} {oc7 kV7 dc7 pm7 cd7 ct7 : Value} {f7 : Addr} {od8 an8 : Option Addr} {sl8 : Array (Option Value)} {oc8 kV8 dc8 pm8 cd8 ct8 : Value} {f8 : Addr} {od9 an9 : Option Addr} {sl9 : Array (Option Value)} {oc9 kV9 dc9 pm9 cd9 ct9 : Value} {f9 : Addr} {od10 an10 : Option Addr} {sl10 : Array (Option Value)} {oc10 kV10 dc10 pm10 cd10 ct10 : Value} {f10 : Addr} {od11 an11 : Option Addr} {sl11 : Array (Option Value)} {oc11 kV11 dc11 pm11 cd11 ct11 : Value} {f11 : Addr} {od12 an12 : Option Addr} {sl12 : Array (Option Value)} {oc12 kV12 dc12 pm12 cd12 ct12 : Value} {f12 : Addr} {od13 an13 : Option Addr} {sl13 : Array (Option Value)} {oc13 kV13 dc13 pm13 cd13 ct13 : Value} {f13 : Addr} {od14 an14 : Option Addr} {sl14 : Array (Option Value)} {oc14 kV14 dc14 pm14 ct14 : Value} {f14 : Addr} {od15 an15 : Option Addr} {sl15 : Array (Option Value)} {oc15 kV15 dc15 pm15 cd15 ct15 : Value} {f15 : Addr} {od16 an16 : Option Addr} {sl16 : Array (Option Value)} {oc16 kV16 dc16 pm16 cd16 ct16 : Value} {f16 : Addr} {od17 an17 : Option Addr} {sl17 : Array (Option Value)} {oc17 kV17 dc17 pm17 cd17 ct17 : Value} {f17 : Addr} {od18 an18 : Option Addr} {sl18 : Array (Option Value)} {oc18 kV18 dc18 pm18 cd18 ct18 : Value} {f18 : Addr} {od19 an19 : Option Addr} {sl19 : Array (Option Value)} {oc19 kV19 dc19 pm19 cd19 ct19 : Value} {f19 : Addr} {od20 an20 : Option Addr} {sl20 : Array (Option Value)} {oc20 kV20 dc20 pm20 cd20 ct20 : Value} {f20 : Addr} {od21 an21 : Option Addr} {sl21 : Array (Option Value)} {oc21 kV21 dc21 pm21 cd21 ct21 : Value} {f21 : Addr} {od22 an22 : Option Addr} {sl22 : Array (Option Value)} {oc22 kV22 dc22 pm22 cd22 ct22 : Value} {f22 : Addr} {od23 an23 : Option Addr} {sl23 : Array (Option Value)} {oc23 kV23 dc23 pm23 cd23 ct23 : Value} {f23 : Addr} {od24 an24 : Option Addr} {sl24 : Array (Option Value)} {oc24 kV24 dc24 pm24 cd24 ct24 : Value} {f24 : Addr} {od25 an25 : Option Addr} {sl25 : Array (Option Value)} {oc25 kV25 dc25 pm25 cd25 ct25 : Value} {f25 : Addr} {od26 an26 : Option Addr} {sl26 : Array (Option Value)} {oc26 kV26 dc26 pm26 cd26 ct26 : Value} {f26 : Addr} {od27 an27 : Option Addr} {sl27 : Array (Option Value)} {oc27 kV27 dc27 pm27 cd27 ct27 : Value} {f27 : Addr} {od28 an28 : Option Addr} {sl28 : Array (Option Value)} {oc28 kV28 dc28 pm28 cd28 ct28 : Value} {f28 : Addr} {od29 an29 : Option Addr} {sl29 : Array (Option Value)} {oc29 kV29 dc29 pm29 cd29 ct29 : Value} {f29 : Addr} {od30 an30 : Option Addr} {sl30 : Array (Option Value)} {oc30 kV30 dc30 pm30 cd30 ct30 : Value} {f30 : Addr} {od31 an31 : Option Addr} {sl31 : Array (Option Value)} {oc31 kV31 dc31 pm31 cd31 ct31 : Value} {f31 : Addr} {od32 an32 : Option Addr} {sl32 : Array (Option Value)} {oc32 kV32 dc32 pm32 ct32 : Value} {f32 : Addr} {CBadMoves : Addr} {CBadStanding : Addr} {CBadNumber : Addr} {t_GREATEST : Tok} {t_MOST_DONE : Tok} {t_MOST_HEAPS : Tok} {t_MOST_MOVES : Tok} {CBadRow : Addr} {CBadWeights : Addr} {CBadRound : Addr} {CEndless : Addr} {CNothing : Addr} {CFull : Addr} {CBadText : Addr} {CMoveError : Addr} {odT anT : Option Addr} {slT : Array (Option Value)} {ocT kVT dcT pmT cdT ctT : Value} {fT : Addr} {odM anM : Option Addr} {slM : Array (Option Value)} {ocM kVM dcM pmM cdM ctM : Value} {fM : Addr} {cL14 PL14 : Addr} {cL PL : Addr}
    (a0 : PySem.W.nsIn K mainGlobals "is_whole" = some (some (.ref f0))) (l0 : K.lookup f0 = some ⟨oc0, od0, .func (PySem.W.fnOf "is_whole" "is_whole" (defArgs s_is_whole) (defBody s_is_whole) (defScope s_is_whole) .none kV0 dc0 pm0 an0 cd0 ct0), sl0⟩) (c0 : PySem.W.codeIn K cd0 "is_whole" = true) (k0 : PySem.W.keepIn K (.ref f0) = true)
    (a1 : PySem.W.nsIn K mainGlobals "are_whole" = some (some (.ref f1))) (l1 : K.lookup f1 = some ⟨oc1, od1, .func (PySem.W.fnOf "are_whole" "are_whole" (defArgs s_are_whole) (defBody s_are_whole) (defScope s_are_whole) .none kV1 dc1 pm1 an1 cd1 ct1), sl1⟩) (c1 : PySem.W.codeIn K cd1 "are_whole" = true) (k1 : PySem.W.keepIn K (.ref f1) = true)
    (a2 : PySem.W.nsIn K mainGlobals "is_move" = some (some (.ref f2))) (l2 : K.lookup f2 = some ⟨oc2, od2, .func (PySem.W.fnOf "is_move" "is_move" (defArgs s_is_move) (defBody s_is_move) (defScope s_is_move) .none kV2 dc2 pm2 an2 cd2 ct2), sl2⟩) (c2 : PySem.W.codeIn K cd2 "is_move" = true) (k2 : PySem.W.keepIn K (.ref f2) = true)
    (a3 : PySem.W.nsIn K mainGlobals "heaps_in" = some (some (.ref f3))) (l3 : K.lookup f3 = some ⟨oc3, od3, .func (PySem.W.fnOf "heaps_in" "heaps_in" (defArgs s_heaps_in) (defBody s_heaps_in) (defScope s_heaps_in) .none kV3 dc3 pm3 an3 cd3 ct3), sl3⟩) (c3 : PySem.W.codeIn K cd3 "heaps_in" = true) (k3 : PySem.W.keepIn K (.ref f3) = true)
    (a4 : PySem.W.nsIn K mainGlobals "is_moves" = some (some (.ref f4))) (l4 : K.lookup f4 = some ⟨oc4, od4, .func (PySem.W.fnOf "is_moves" "is_moves" (defArgs s_is_moves) (defBody s_is_moves) (defScope s_is_moves) .none kV4 dc4 pm4 an4 cd4 ct4), sl4⟩) (c4 : PySem.W.codeIn K cd4 "is_moves" = true) (k4 : PySem.W.keepIn K (.ref f4) = true)
    (a5 : PySem.W.nsIn K mainGlobals "need_moves" = some (some (.ref f5))) (l5 : K.lookup f5 = some ⟨oc5, od5, .func (PySem.W.fnOf "need_moves" "need_moves" (defArgs s_need_moves) (defBody s_need_moves) (defScope s_need_moves) .none kV5 dc5 pm5 an5 cd5 ct5), sl5⟩) (c5 : PySem.W.codeIn K cd5 "need_moves" = true) (k5 : PySem.W.keepIn K (.ref f5) = true)
    (a6 : PySem.W.nsIn K mainGlobals "heaps_of" = some (some (.ref f6))) (l6 : K.lookup f6 = some ⟨oc6, od6, .func (PySem.W.fnOf "heaps_of" "heaps_of" (defArgs s_heaps_of) (defBody s_heaps_of) (defScope s_heaps_of) .none kV6 dc6 pm6 an6 cd6 ct6), sl6⟩) (c6 : PySem.W.codeIn K cd6 "heaps_of" = true) (k6 : PySem.W.keepIn K (.ref f6) = true)
    (a7 : PySem.W.nsIn K mainGlobals "change" = some (some (.ref f7))) (l7 : K.lookup f7 = some ⟨oc7, od7, .func (PySem.W.fnOf "change" "change" (defArgs s_change) (defBody s_change) (defScope s_change) .none kV7 dc7 pm7 an7 cd7 ct7), sl7⟩) (c7 : PySem.W.codeIn K cd7 "change" = true) (k7 : PySem.W.keepIn K (.ref f7) = true)
    (a8 : PySem.W.nsIn K mainGlobals "is_good_standing" = some (some (.ref f8))) (l8 : K.lookup f8 = some ⟨oc8, od8, .func (PySem.W.fnOf "is_good_standing" "is_good_standing" (defArgs s_is_good_standing) (defBody s_is_good_standing) (defScope s_is_good_standing) .none kV8 dc8 pm8 an8 cd8 ct8), sl8⟩) (c8 : PySem.W.codeIn K cd8 "is_good_standing" = true) (k8 : PySem.W.keepIn K (.ref f8) = true)
    (a9 : PySem.W.nsIn K mainGlobals "need_standing" = some (some (.ref f9))) (l9 : K.lookup f9 = some ⟨oc9, od9, .func (PySem.W.fnOf "need_standing" "need_standing" (defArgs s_need_standing) (defBody s_need_standing) (defScope s_need_standing) .none kV9 dc9 pm9 an9 cd9 ct9), sl9⟩) (c9 : PySem.W.codeIn K cd9 "need_standing" = true) (k9 : PySem.W.keepIn K (.ref f9) = true)
    (a10 : PySem.W.nsIn K mainGlobals "is_over" = some (some (.ref f10))) (l10 : K.lookup f10 = some ⟨oc10, od10, .func (PySem.W.fnOf "is_over" "is_over" (defArgs s_is_over) (defBody s_is_over) (defScope s_is_over) .none kV10 dc10 pm10 an10 cd10 ct10), sl10⟩) (c10 : PySem.W.codeIn K cd10 "is_over" = true) (k10 : PySem.W.keepIn K (.ref f10) = true)
    (a11 : PySem.W.nsIn K mainGlobals "added" = some (some (.ref f11))) (l11 : K.lookup f11 = some ⟨oc11, od11, .func (PySem.W.fnOf "added" "added" (defArgs s_added) (defBody s_added) (defScope s_added) .none kV11 dc11 pm11 an11 cd11 ct11), sl11⟩) (c11 : PySem.W.codeIn K cd11 "added" = true) (k11 : PySem.W.keepIn K (.ref f11) = true)
    (a12 : PySem.W.nsIn K mainGlobals "steps_from" = some (some (.ref f12))) (l12 : K.lookup f12 = some ⟨oc12, od12, .func (PySem.W.fnOf "steps_from" "steps_from" (defArgs s_steps_from) (defBody s_steps_from) (defScope s_steps_from) .none kV12 dc12 pm12 an12 cd12 ct12), sl12⟩) (c12 : PySem.W.codeIn K cd12 "steps_from" = true) (k12 : PySem.W.keepIn K (.ref f12) = true)
    (a13 : PySem.W.nsIn K mainGlobals "one_before" = some (some (.ref f13))) (l13 : K.lookup f13 = some ⟨oc13, od13, .func (PySem.W.fnOf "one_before" "one_before" (defArgs s_one_before) (defBody s_one_before) (defScope s_one_before) .none kV13 dc13 pm13 an13 cd13 ct13), sl13⟩) (c13 : PySem.W.codeIn K cd13 "one_before" = true) (k13 : PySem.W.keepIn K (.ref f13) = true)
    (a14 : PySem.W.nsIn K mainGlobals "least_of" = some (some (.ref f14))) (l14 : K.lookup f14 = some ⟨oc14, od14, .func (PySem.W.fnOf "least_of" "least_of" (defArgs s_least_of) (defBody s_least_of) (defScope s_least_of) .none kV14 dc14 pm14 an14 (.ref cL14) ct14), sl14⟩) (c14 : PySem.W.codeIn K (.ref cL14) "least_of" = true) (k14 : PySem.W.keepIn K (.ref f14) = true)
    (a15 : PySem.W.nsIn K mainGlobals "starts_of" = some (some (.ref f15))) (l15 : K.lookup f15 = some ⟨oc15, od15, .func (PySem.W.fnOf "starts_of" "starts_of" (defArgs s_starts_of) (defBody s_starts_of) (defScope s_starts_of) .none kV15 dc15 pm15 an15 cd15 ct15), sl15⟩) (c15 : PySem.W.codeIn K cd15 "starts_of" = true) (k15 : PySem.W.keepIn K (.ref f15) = true)
    (a16 : PySem.W.nsIn K mainGlobals "need_many" = some (some (.ref f16))) (l16 : K.lookup f16 = some ⟨oc16, od16, .func (PySem.W.fnOf "need_many" "need_many" (defArgs s_need_many) (defBody s_need_many) (defScope s_need_many) .none kV16 dc16 pm16 an16 cd16 ct16), sl16⟩) (c16 : PySem.W.codeIn K cd16 "need_many" = true) (k16 : PySem.W.keepIn K (.ref f16) = true)
    (a17 : PySem.W.nsIn K mainGlobals "least_starts" = some (some (.ref f17))) (l17 : K.lookup f17 = some ⟨oc17, od17, .func (PySem.W.fnOf "least_starts" "least_starts" (defArgs s_least_starts) (defBody s_least_starts) (defScope s_least_starts) .none kV17 dc17 pm17 an17 cd17 ct17), sl17⟩) (c17 : PySem.W.codeIn K cd17 "least_starts" = true) (k17 : PySem.W.keepIn K (.ref f17) = true)
    (a18 : PySem.W.nsIn K mainGlobals "covers_one" = some (some (.ref f18))) (l18 : K.lookup f18 = some ⟨oc18, od18, .func (PySem.W.fnOf "covers_one" "covers_one" (defArgs s_covers_one) (defBody s_covers_one) (defScope s_covers_one) .none kV18 dc18 pm18 an18 cd18 ct18), sl18⟩) (c18 : PySem.W.codeIn K cd18 "covers_one" = true) (k18 : PySem.W.keepIn K (.ref f18) = true)
    (a19 : PySem.W.nsIn K mainGlobals "can_go" = some (some (.ref f19))) (l19 : K.lookup f19 = some ⟨oc19, od19, .func (PySem.W.fnOf "can_go" "can_go" (defArgs s_can_go) (defBody s_can_go) (defScope s_can_go) .none kV19 dc19 pm19 an19 cd19 ct19), sl19⟩) (c19 : PySem.W.codeIn K cd19 "can_go" = true) (k19 : PySem.W.keepIn K (.ref f19) = true)
    (a20 : PySem.W.nsIn K mainGlobals "first_row" = some (some (.ref f20))) (l20 : K.lookup f20 = some ⟨oc20, od20, .func (PySem.W.fnOf "first_row" "first_row" (defArgs s_first_row) (defBody s_first_row) (defScope s_first_row) .none kV20 dc20 pm20 an20 cd20 ct20), sl20⟩) (c20 : PySem.W.codeIn K cd20 "first_row" = true) (k20 : PySem.W.keepIn K (.ref f20) = true)
    (a21 : PySem.W.nsIn K mainGlobals "_law_cell" = some (some (.ref f21))) (l21 : K.lookup f21 = some ⟨oc21, od21, .func (PySem.W.fnOf "_law_cell" "_law_cell" (defArgs s_law_cell) (defBody s_law_cell) (defScope s_law_cell) .none kV21 dc21 pm21 an21 cd21 ct21), sl21⟩) (c21 : PySem.W.codeIn K cd21 "_law_cell" = true) (k21 : PySem.W.keepIn K (.ref f21) = true)
    (a22 : PySem.W.nsIn K mainGlobals "_law_drawn" = some (some (.ref f22))) (l22 : K.lookup f22 = some ⟨oc22, od22, .func (PySem.W.fnOf "_law_drawn" "_law_drawn" (defArgs s_law_drawn) (defBody s_law_drawn) (defScope s_law_drawn) .none kV22 dc22 pm22 an22 cd22 ct22), sl22⟩) (c22 : PySem.W.codeIn K cd22 "_law_drawn" = true) (k22 : PySem.W.keepIn K (.ref f22) = true)
    (a23 : PySem.W.nsIn K mainGlobals "_law_roll" = some (some (.ref f23))) (l23 : K.lookup f23 = some ⟨oc23, od23, .func (PySem.W.fnOf "_law_roll" "_law_roll" (defArgs s_law_roll) (defBody s_law_roll) (defScope s_law_roll) .none kV23 dc23 pm23 an23 cd23 ct23), sl23⟩) (c23 : PySem.W.codeIn K cd23 "_law_roll" = true) (k23 : PySem.W.keepIn K (.ref f23) = true)
    (a24 : PySem.W.nsIn K mainGlobals "_law_rounds" = some (some (.ref f24))) (l24 : K.lookup f24 = some ⟨oc24, od24, .func (PySem.W.fnOf "_law_rounds" "_law_rounds" (defArgs s_law_rounds) (defBody s_law_rounds) (defScope s_law_rounds) .none kV24 dc24 pm24 an24 cd24 ct24), sl24⟩) (c24 : PySem.W.codeIn K cd24 "_law_rounds" = true) (k24 : PySem.W.keepIn K (.ref f24) = true)
    (a25 : PySem.W.nsIn K mainGlobals "_law_any_move" = some (some (.ref f25))) (l25 : K.lookup f25 = some ⟨oc25, od25, .func (PySem.W.fnOf "_law_any_move" "_law_any_move" (defArgs s_law_any_move) (defBody s_law_any_move) (defScope s_law_any_move) .none kV25 dc25 pm25 an25 cd25 ct25), sl25⟩) (c25 : PySem.W.codeIn K cd25 "_law_any_move" = true) (k25 : PySem.W.keepIn K (.ref f25) = true)
    (a26 : PySem.W.nsIn K mainGlobals "_law_any_moves" = some (some (.ref f26))) (l26 : K.lookup f26 = some ⟨oc26, od26, .func (PySem.W.fnOf "_law_any_moves" "_law_any_moves" (defArgs s_law_any_moves) (defBody s_law_any_moves) (defScope s_law_any_moves) .none kV26 dc26 pm26 an26 cd26 ct26), sl26⟩) (c26 : PySem.W.codeIn K cd26 "_law_any_moves" = true) (k26 : PySem.W.keepIn K (.ref f26) = true)
    (a27 : PySem.W.nsIn K mainGlobals "_law_any_standing" = some (some (.ref f27))) (l27 : K.lookup f27 = some ⟨oc27, od27, .func (PySem.W.fnOf "_law_any_standing" "_law_any_standing" (defArgs s_law_any_standing) (defBody s_law_any_standing) (defScope s_law_any_standing) .none kV27 dc27 pm27 an27 cd27 ct27), sl27⟩) (c27 : PySem.W.codeIn K cd27 "_law_any_standing" = true) (k27 : PySem.W.keepIn K (.ref f27) = true)
    (a28 : PySem.W.nsIn K mainGlobals "_law_moved" = some (some (.ref f28))) (l28 : K.lookup f28 = some ⟨oc28, od28, .func (PySem.W.fnOf "_law_moved" "_law_moved" (defArgs s_law_moved) (defBody s_law_moved) (defScope s_law_moved) .none kV28 dc28 pm28 an28 cd28 ct28), sl28⟩) (c28 : PySem.W.codeIn K cd28 "_law_moved" = true) (k28 : PySem.W.keepIn K (.ref f28) = true)
    (a29 : PySem.W.nsIn K mainGlobals "_law_ways" = some (some (.ref f29))) (l29 : K.lookup f29 = some ⟨oc29, od29, .func (PySem.W.fnOf "_law_ways" "_law_ways" (defArgs s_law_ways) (defBody s_law_ways) (defScope s_law_ways) .none kV29 dc29 pm29 an29 cd29 ct29), sl29⟩) (c29 : PySem.W.codeIn K cd29 "_law_ways" = true) (k29 : PySem.W.keepIn K (.ref f29) = true)
    (a30 : PySem.W.nsIn K mainGlobals "_law_over" = some (some (.ref f30))) (l30 : K.lookup f30 = some ⟨oc30, od30, .func (PySem.W.fnOf "_law_over" "_law_over" (defArgs s_law_over) (defBody s_law_over) (defScope s_law_over) .none kV30 dc30 pm30 an30 cd30 ct30), sl30⟩) (c30 : PySem.W.codeIn K cd30 "_law_over" = true) (k30 : PySem.W.keepIn K (.ref f30) = true)
    (a31 : PySem.W.nsIn K mainGlobals "_law_all_rows" = some (some (.ref f31))) (l31 : K.lookup f31 = some ⟨oc31, od31, .func (PySem.W.fnOf "_law_all_rows" "_law_all_rows" (defArgs s_law_all_rows) (defBody s_law_all_rows) (defScope s_law_all_rows) .none kV31 dc31 pm31 an31 cd31 ct31), sl31⟩) (c31 : PySem.W.codeIn K cd31 "_law_all_rows" = true) (k31 : PySem.W.keepIn K (.ref f31) = true)
    (a32 : PySem.W.nsIn K mainGlobals "law" = some (some (.ref f32))) (l32 : K.lookup f32 = some ⟨oc32, od32, .func (PySem.W.fnOf "law" "law" (defArgs s_law) (defBody s_law) (defScope s_law) .none kV32 dc32 pm32 an32 (.ref cL) ct32), sl32⟩) (c32 : PySem.W.codeIn K (.ref cL) "law" = true) (k32 : PySem.W.keepIn K (.ref f32) = true)
    (gBadMoves : PySem.W.nsIn K mainGlobals "BadMoves" = some (some (.ref CBadMoves))) (xBadMoves : PySem.W.excIn K CBadMoves [.type "ValueError", .type "Exception", .type "BaseException", .type "object"] "ValueError.__new__" = true) (kBadMoves : PySem.W.keepIn K (.ref CBadMoves) = true) (bBadMoves : PySem.W.subIn K (.ref CBadMoves) (.type "BaseException") = some true) (tBadMoves : PySem.W.typeIn K (.ref CBadMoves) = some (.type "type"))
    (gBadStanding : PySem.W.nsIn K mainGlobals "BadStanding" = some (some (.ref CBadStanding))) (xBadStanding : PySem.W.excIn K CBadStanding [.type "ValueError", .type "Exception", .type "BaseException", .type "object"] "ValueError.__new__" = true) (kBadStanding : PySem.W.keepIn K (.ref CBadStanding) = true) (bBadStanding : PySem.W.subIn K (.ref CBadStanding) (.type "BaseException") = some true) (tBadStanding : PySem.W.typeIn K (.ref CBadStanding) = some (.type "type"))
    (gBadNumber : PySem.W.nsIn K mainGlobals "BadNumber" = some (some (.ref CBadNumber))) (xBadNumber : PySem.W.excIn K CBadNumber [.type "ValueError", .type "Exception", .type "BaseException", .type "object"] "ValueError.__new__" = true) (kBadNumber : PySem.W.keepIn K (.ref CBadNumber) = true) (bBadNumber : PySem.W.subIn K (.ref CBadNumber) (.type "BaseException") = some true) (tBadNumber : PySem.W.typeIn K (.ref CBadNumber) = some (.type "type"))
    (c_GREATEST : PySem.W.nsIn K mainGlobals "GREATEST" = some (some (.int 9999 t_GREATEST)))
    (c_MOST_DONE : PySem.W.nsIn K mainGlobals "MOST_DONE" = some (some (.int 8 t_MOST_DONE)))
    (c_MOST_HEAPS : PySem.W.nsIn K mainGlobals "MOST_HEAPS" = some (some (.int 4 t_MOST_HEAPS)))
    (c_MOST_MOVES : PySem.W.nsIn K mainGlobals "MOST_MOVES" = some (some (.int 6 t_MOST_MOVES)))
    (z_ValueError : PySem.W.nsIn K mainGlobals "ValueError" = some none)
    (z_all : PySem.W.nsIn K mainGlobals "all" = some none)
    (z_any : PySem.W.nsIn K mainGlobals "any" = some none)
    (z_bool : PySem.W.nsIn K mainGlobals "bool" = some none)
    (z_enumerate : PySem.W.nsIn K mainGlobals "enumerate" = some none)
    (z_int : PySem.W.nsIn K mainGlobals "int" = some none)
    (z_isinstance : PySem.W.nsIn K mainGlobals "isinstance" = some none)
    (z_len : PySem.W.nsIn K mainGlobals "len" = some none)
    (z_max : PySem.W.nsIn K mainGlobals "max" = some none)
    (z_min : PySem.W.nsIn K mainGlobals "min" = some none)
    (z_range : PySem.W.nsIn K mainGlobals "range" = some none)
    (z_set : PySem.W.nsIn K mainGlobals "set" = some none)
    (z_sorted : PySem.W.nsIn K mainGlobals "sorted" = some none)
    (z_sum : PySem.W.nsIn K mainGlobals "sum" = some none)
    (z_tuple : PySem.W.nsIn K mainGlobals "tuple" = some none)
    (z_zip : PySem.W.nsIn K mainGlobals "zip" = some none)
    (gBadRow : PySem.W.nsIn K mainGlobals "BadRow" = some (some (.ref CBadRow)))
    (gBadWeights : PySem.W.nsIn K mainGlobals "BadWeights" = some (some (.ref CBadWeights)))
    (gBadRound : PySem.W.nsIn K mainGlobals "BadRound" = some (some (.ref CBadRound)))
    (gEndless : PySem.W.nsIn K mainGlobals "Endless" = some (some (.ref CEndless)))
    (gNothing : PySem.W.nsIn K mainGlobals "Nothing" = some (some (.ref CNothing)))
    (gFull : PySem.W.nsIn K mainGlobals "Full" = some (some (.ref CFull)))
    (gBadText : PySem.W.nsIn K mainGlobals "BadText" = some (some (.ref CBadText)))
    (gMoveError : PySem.W.nsIn K mainGlobals "MoveError" = some (some (.ref CMoveError))) (bME : PySem.W.subIn K (.ref CMoveError) (.type "BaseException") = some true) (dME : PySem.W.hasDictIn K CMoveError = true) (tME : PySem.W.typeIn K (.ref CMoveError) = some (.type "type")) (hnO : PySem.W.specialIn K (.builtin "object.__class__") "__get__" = some (some (.builtin "getset_descriptor.__get__"))) (htO : PySem.W.takesIn K (.builtin "object.__class__") = some true)
    (y1BadMoves : PySem.W.findIn K (.ref CBadMoves) "__getattribute__" = some (some (.builtin "BaseException.__getattribute__"))) (y2BadMoves : PySem.W.findIn K (.ref CBadMoves) "__getattr__" = some none) (y3BadMoves : PySem.W.hasDictIn K CBadMoves = true) (y4BadMoves : PySem.W.findIn K (.ref CBadMoves) "__class__" = some (some (.builtin "object.__class__"))) (y5BadMoves : PySem.W.mroIn K CBadMoves (.type "object") = some true) (y6BadMoves : PySem.W.subIn K (.ref CBadMoves) (.ref CMoveError) = some true) (y7BadMoves : PySem.W.kitOne K (.ref CBadMoves) (.type "ValueError") = some true)
    (wBadMovesBadMoves : PySem.W.kitOne K (.ref CBadMoves) (.ref CBadMoves) = some true)
    (wBadMovesBadStanding : PySem.W.kitOne K (.ref CBadMoves) (.ref CBadStanding) = some false)
    (wBadMovesBadNumber : PySem.W.kitOne K (.ref CBadMoves) (.ref CBadNumber) = some false)
    (wBadMovesBadRow : PySem.W.kitOne K (.ref CBadMoves) (.ref CBadRow) = some false)
    (wBadMovesBadWeights : PySem.W.kitOne K (.ref CBadMoves) (.ref CBadWeights) = some false)
    (wBadMovesBadRound : PySem.W.kitOne K (.ref CBadMoves) (.ref CBadRound) = some false)
    (wBadMovesEndless : PySem.W.kitOne K (.ref CBadMoves) (.ref CEndless) = some false)
    (wBadMovesNothing : PySem.W.kitOne K (.ref CBadMoves) (.ref CNothing) = some false)
    (wBadMovesFull : PySem.W.kitOne K (.ref CBadMoves) (.ref CFull) = some false)
    (wBadMovesBadText : PySem.W.kitOne K (.ref CBadMoves) (.ref CBadText) = some false)
    (y1BadStanding : PySem.W.findIn K (.ref CBadStanding) "__getattribute__" = some (some (.builtin "BaseException.__getattribute__"))) (y2BadStanding : PySem.W.findIn K (.ref CBadStanding) "__getattr__" = some none) (y3BadStanding : PySem.W.hasDictIn K CBadStanding = true) (y4BadStanding : PySem.W.findIn K (.ref CBadStanding) "__class__" = some (some (.builtin "object.__class__"))) (y5BadStanding : PySem.W.mroIn K CBadStanding (.type "object") = some true) (y6BadStanding : PySem.W.subIn K (.ref CBadStanding) (.ref CMoveError) = some true) (y7BadStanding : PySem.W.kitOne K (.ref CBadStanding) (.type "ValueError") = some true)
    (wBadStandingBadMoves : PySem.W.kitOne K (.ref CBadStanding) (.ref CBadMoves) = some false)
    (wBadStandingBadStanding : PySem.W.kitOne K (.ref CBadStanding) (.ref CBadStanding) = some true)
    (wBadStandingBadNumber : PySem.W.kitOne K (.ref CBadStanding) (.ref CBadNumber) = some false)
    (wBadStandingBadRow : PySem.W.kitOne K (.ref CBadStanding) (.ref CBadRow) = some false)
    (wBadStandingBadWeights : PySem.W.kitOne K (.ref CBadStanding) (.ref CBadWeights) = some false)
    (wBadStandingBadRound : PySem.W.kitOne K (.ref CBadStanding) (.ref CBadRound) = some false)
    (wBadStandingEndless : PySem.W.kitOne K (.ref CBadStanding) (.ref CEndless) = some false)
    (wBadStandingNothing : PySem.W.kitOne K (.ref CBadStanding) (.ref CNothing) = some false)
    (wBadStandingFull : PySem.W.kitOne K (.ref CBadStanding) (.ref CFull) = some false)
    (wBadStandingBadText : PySem.W.kitOne K (.ref CBadStanding) (.ref CBadText) = some false)
    (y1BadNumber : PySem.W.findIn K (.ref CBadNumber) "__getattribute__" = some (some (.builtin "BaseException.__getattribute__"))) (y2BadNumber : PySem.W.findIn K (.ref CBadNumber) "__getattr__" = some none) (y3BadNumber : PySem.W.hasDictIn K CBadNumber = true) (y4BadNumber : PySem.W.findIn K (.ref CBadNumber) "__class__" = some (some (.builtin "object.__class__"))) (y5BadNumber : PySem.W.mroIn K CBadNumber (.type "object") = some true) (y6BadNumber : PySem.W.subIn K (.ref CBadNumber) (.ref CMoveError) = some true) (y7BadNumber : PySem.W.kitOne K (.ref CBadNumber) (.type "ValueError") = some true)
    (wBadNumberBadMoves : PySem.W.kitOne K (.ref CBadNumber) (.ref CBadMoves) = some false)
    (wBadNumberBadStanding : PySem.W.kitOne K (.ref CBadNumber) (.ref CBadStanding) = some false)
    (wBadNumberBadNumber : PySem.W.kitOne K (.ref CBadNumber) (.ref CBadNumber) = some true)
    (wBadNumberBadRow : PySem.W.kitOne K (.ref CBadNumber) (.ref CBadRow) = some false)
    (wBadNumberBadWeights : PySem.W.kitOne K (.ref CBadNumber) (.ref CBadWeights) = some false)
    (wBadNumberBadRound : PySem.W.kitOne K (.ref CBadNumber) (.ref CBadRound) = some false)
    (wBadNumberEndless : PySem.W.kitOne K (.ref CBadNumber) (.ref CEndless) = some false)
    (wBadNumberNothing : PySem.W.kitOne K (.ref CBadNumber) (.ref CNothing) = some false)
    (wBadNumberFull : PySem.W.kitOne K (.ref CBadNumber) (.ref CFull) = some false)
    (wBadNumberBadText : PySem.W.kitOne K (.ref CBadNumber) (.ref CBadText) = some false)
    (aT : PySem.W.nsIn K mainGlobals "_law_told" = some (some (.ref fT))) (lT : K.lookup fT = some ⟨ocT, odT, .func (PySem.W.fnOf "_law_told" "_law_told" (defArgs s_law_told) (defBody s_law_told) (defScope s_law_told) .none kVT dcT pmT anT cdT ctT), slT⟩) (cT : PySem.W.codeIn K cdT "_law_told" = true) (kT : PySem.W.keepIn K (.ref fT) = true)
    (aM : PySem.W.nsIn K mainGlobals "_law_term" = some (some (.ref fM))) (lM : K.lookup fM = some ⟨ocM, odM, .func (PySem.W.fnOf "_law_term" "_law_term" (defArgs s_law_term) (defBody s_law_term) (defScope s_law_term) .none kVM dcM pmM anM cdM ctM), slM⟩) (cM : PySem.W.codeIn K cdM "_law_term" = true) (kM : PySem.W.keepIn K (.ref fM) = true)
    (tb14 : tabAt K f14 = some (cL14, PL14)) (nP14 : K.lookup PL14 = none) (hC14 : PySem.W.codeHdIn K cL14 PL14 = true)
    (tb : PySem.W.tabIn K "law" = some (cL, PL)) (nP : K.lookup PL = none) (hC : PySem.W.codeHdIn K cL PL = true)
    (nex14 : PL ≠ PL14)
    (hP14 : h.get? PL14 = some (PySem.W.tabObj #[])) (hP : h.get? PL = some (PySem.W.tabObj #[])) :
    LamX.LawAtS l w K (L2N.CX l.prog w) 12 63 "script" mg fa h := by
  have e := hfa.symm.trans (PySem.W.mg_of X G a32)
  cases e
  have B : Blt mg := ⟨PySem.W.mg_none_of X G z_ValueError, PySem.W.mg_none_of X G z_all, PySem.W.mg_none_of X G z_any, PySem.W.mg_none_of X G z_bool, PySem.W.mg_none_of X G z_enumerate, PySem.W.mg_none_of X G z_int, PySem.W.mg_none_of X G z_isinstance, PySem.W.mg_none_of X G z_len, PySem.W.mg_none_of X G z_max, PySem.W.mg_none_of X G z_min, PySem.W.mg_none_of X G z_range, PySem.W.mg_none_of X G z_set, PySem.W.mg_none_of X G z_sorted, PySem.W.mg_none_of X G z_sum, PySem.W.mg_none_of X G z_tuple, PySem.W.mg_none_of X G z_zip⟩
  have X_BadMoves : ExcF mg K "BadMoves" CBadMoves := exc_mk X G gBadMoves xBadMoves kBadMoves bBadMoves tBadMoves
  have X_BadStanding : ExcF mg K "BadStanding" CBadStanding := exc_mk X G gBadStanding xBadStanding kBadStanding bBadStanding tBadStanding
  have X_BadNumber : ExcF mg K "BadNumber" CBadNumber := exc_mk X G gBadNumber xBadNumber kBadNumber bBadNumber tBadNumber
  have q_GREATEST := PySem.W.mg_of X G c_GREATEST
  have q_MOST_DONE := PySem.W.mg_of X G c_MOST_DONE
  have q_MOST_HEAPS := PySem.W.mg_of X G c_MOST_HEAPS
  have q_MOST_MOVES := PySem.W.mg_of X G c_MOST_MOVES
  have F0 := fun_mk (st := s_is_whole) l0 c0 k0
  have A0 : DefAt mg K "is_whole" s_is_whole ["thing", "low", "high"] := at_mk X G a0 F0 (F0.binds (ps := ["thing", "low", "high"]) fun _ _ _ _ _ _ us hl => match us, hl with | [_, _, _], _ => rfl)
  have F1 := fun_mk (st := s_are_whole) l1 c1 k1
  have A1 : DefAt mg K "are_whole" s_are_whole ["thing", "many", "high"] := at_mk X G a1 F1 (F1.binds (ps := ["thing", "many", "high"]) fun _ _ _ _ _ _ us hl => match us, hl with | [_, _, _], _ => rfl)
  have F2 := fun_mk (st := s_is_move) l2 c2 k2
  have A2 : DefAt mg K "is_move" s_is_move ["thing", "heaps"] := at_mk X G a2 F2 (F2.binds (ps := ["thing", "heaps"]) fun _ _ _ _ _ _ us hl => match us, hl with | [_, _], _ => rfl)
  have F3 := fun_mk (st := s_heaps_in) l3 c3 k3
  have A3 : DefAt mg K "heaps_in" s_heaps_in ["thing"] := at_mk X G a3 F3 (F3.binds (ps := ["thing"]) fun _ _ _ _ _ _ us hl => match us, hl with | [_], _ => rfl)
  have F4 := fun_mk (st := s_is_moves) l4 c4 k4
  have A4 : DefAt mg K "is_moves" s_is_moves ["thing"] := at_mk X G a4 F4 (F4.binds (ps := ["thing"]) fun _ _ _ _ _ _ us hl => match us, hl with | [_], _ => rfl)
  have F5 := fun_mk (st := s_need_moves) l5 c5 k5
  have A5 : DefAt mg K "need_moves" s_need_moves ["thing"] := at_mk X G a5 F5 (F5.binds (ps := ["thing"]) fun _ _ _ _ _ _ us hl => match us, hl with | [_], _ => rfl)
  have F6 := fun_mk (st := s_heaps_of) l6 c6 k6
  have A6 : DefAt mg K "heaps_of" s_heaps_of ["moves"] := at_mk X G a6 F6 (F6.binds (ps := ["moves"]) fun _ _ _ _ _ _ us hl => match us, hl with | [_], _ => rfl)
  have F7 := fun_mk (st := s_change) l7 c7 k7
  have A7 : DefAt mg K "change" s_change ["move"] := at_mk X G a7 F7 (F7.binds (ps := ["move"]) fun _ _ _ _ _ _ us hl => match us, hl with | [_], _ => rfl)
  have F8 := fun_mk (st := s_is_good_standing) l8 c8 k8
  have A8 : DefAt mg K "is_good_standing" s_is_good_standing ["moves", "thing"] := at_mk X G a8 F8 (F8.binds (ps := ["moves", "thing"]) fun _ _ _ _ _ _ us hl => match us, hl with | [_, _], _ => rfl)
  have F9 := fun_mk (st := s_need_standing) l9 c9 k9
  have A9 : DefAt mg K "need_standing" s_need_standing ["moves", "thing"] := at_mk X G a9 F9 (F9.binds (ps := ["moves", "thing"]) fun _ _ _ _ _ _ us hl => match us, hl with | [_, _], _ => rfl)
  have F10 := fun_mk (st := s_is_over) l10 c10 k10
  have A10 : DefAt mg K "is_over" s_is_over ["one", "other"] := at_mk X G a10 F10 (F10.binds (ps := ["one", "other"]) fun _ _ _ _ _ _ us hl => match us, hl with | [_, _], _ => rfl)
  have F11 := fun_mk (st := s_added) l11 c11 k11
  have A11 : DefAt mg K "added" s_added ["one", "other"] := at_mk X G a11 F11 (F11.binds (ps := ["one", "other"]) fun _ _ _ _ _ _ us hl => match us, hl with | [_, _], _ => rfl)
  have F12 := fun_mk (st := s_steps_from) l12 c12 k12
  have A12 : DefAt mg K "steps_from" s_steps_from ["moves", "standing"] := at_mk X G a12 F12 (F12.binds (ps := ["moves", "standing"]) fun _ _ _ _ _ _ us hl => match us, hl with | [_, _], _ => rfl)
  have F13 := fun_mk (st := s_one_before) l13 c13 k13
  have A13 : DefAt mg K "one_before" s_one_before ["move", "standing"] := at_mk X G a13 F13 (F13.binds (ps := ["move", "standing"]) fun _ _ _ _ _ _ us hl => match us, hl with | [_, _], _ => rfl)
  have F14 := fun_mk (st := s_least_of) l14 c14 k14
  have mg14 := PySem.W.mg_of X G a14
  have Bd14 := F14.binds (ps := ["standings"]) fun _ _ _ _ _ _ us hl => match us, hl with | [_], _ => rfl
  have F15 := fun_mk (st := s_starts_of) l15 c15 k15
  have A15 : DefAt mg K "starts_of" s_starts_of ["moves", "many"] := at_mk X G a15 F15 (F15.binds (ps := ["moves", "many"]) fun _ _ _ _ _ _ us hl => match us, hl with | [_, _], _ => rfl)
  have F16 := fun_mk (st := s_need_many) l16 c16 k16
  have A16 : DefAt mg K "need_many" s_need_many ["many"] := at_mk X G a16 F16 (F16.binds (ps := ["many"]) fun _ _ _ _ _ _ us hl => match us, hl with | [_], _ => rfl)
  have F17 := fun_mk (st := s_least_starts) l17 c17 k17
  have A17 : DefAt mg K "least_starts" s_least_starts ["moves", "many"] := at_mk X G a17 F17 (F17.binds (ps := ["moves", "many"]) fun _ _ _ _ _ _ us hl => match us, hl with | [_, _], _ => rfl)
  have F18 := fun_mk (st := s_covers_one) l18 c18 k18
  have A18 : DefAt mg K "covers_one" s_covers_one ["standing", "some"] := at_mk X G a18 F18 (F18.binds (ps := ["standing", "some"]) fun _ _ _ _ _ _ us hl => match us, hl with | [_, _], _ => rfl)
  have F19 := fun_mk (st := s_can_go) l19 c19 k19
  have A19 : DefAt mg K "can_go" s_can_go ["moves", "standing", "many"] := at_mk X G a19 F19 (F19.binds (ps := ["moves", "standing", "many"]) fun _ _ _ _ _ _ us hl => match us, hl with | [_, _, _], _ => rfl)
  have F20 := fun_mk (st := s_first_row) l20 c20 k20
  have A20 : DefAt mg K "first_row" s_first_row ["moves", "standing", "many"] := at_mk X G a20 F20 (F20.binds (ps := ["moves", "standing", "many"]) fun _ _ _ _ _ _ us hl => match us, hl with | [_, _, _], _ => rfl)
  have F21 := fun_mk (st := s_law_cell) l21 c21 k21
  have A21 : DefAt mg K "_law_cell" s_law_cell ["script", "k"] := at_mk X G a21 F21 (F21.binds (ps := ["script", "k"]) fun _ _ _ _ _ _ us hl => match us, hl with | [_, _], _ => rfl)
  have F22 := fun_mk (st := s_law_drawn) l22 c22 k22
  have A22 : DefAt mg K "_law_drawn" s_law_drawn ["cell", "k"] := at_mk X G a22 F22 (F22.binds (ps := ["cell", "k"]) fun _ _ _ _ _ _ us hl => match us, hl with | [_, _], _ => rfl)
  have F23 := fun_mk (st := s_law_roll) l23 c23 k23
  have A23 : DefAt mg K "_law_roll" s_law_roll ["dice", "many"] := at_mk X G a23 F23 (F23.binds (ps := ["dice", "many"]) fun _ _ _ _ _ _ us hl => match us, hl with | [_, _], _ => rfl)
  have F24 := fun_mk (st := s_law_rounds) l24 c24 k24
  have A24 : DefAt mg K "_law_rounds" s_law_rounds ["script", "high"] := at_mk X G a24 F24 (F24.binds (ps := ["script", "high"]) fun _ _ _ _ _ _ us hl => match us, hl with | [_, _], _ => rfl)
  have F25 := fun_mk (st := s_law_any_move) l25 c25 k25
  have A25 : DefAt mg K "_law_any_move" s_law_any_move ["dice", "heaps"] := at_mk X G a25 F25 (F25.binds (ps := ["dice", "heaps"]) fun _ _ _ _ _ _ us hl => match us, hl with | [_, _], _ => rfl)
  have F26 := fun_mk (st := s_law_any_moves) l26 c26 k26
  have A26 : DefAt mg K "_law_any_moves" s_law_any_moves ["dice", "high"] := at_mk X G a26 F26 (F26.binds (ps := ["dice", "high"]) fun _ _ _ _ _ _ us hl => match us, hl with | [_, _], _ => rfl)
  have F27 := fun_mk (st := s_law_any_standing) l27 c27 k27
  have A27 : DefAt mg K "_law_any_standing" s_law_any_standing ["dice", "moves", "high"] := at_mk X G a27 F27 (F27.binds (ps := ["dice", "moves", "high"]) fun _ _ _ _ _ _ us hl => match us, hl with | [_, _, _], _ => rfl)
  have F28 := fun_mk (st := s_law_moved) l28 c28 k28
  have A28 : DefAt mg K "_law_moved" s_law_moved ["standing", "move"] := at_mk X G a28 F28 (F28.binds (ps := ["standing", "move"]) fun _ _ _ _ _ _ us hl => match us, hl with | [_, _], _ => rfl)
  have F29 := fun_mk (st := s_law_ways) l29 c29 k29
  have A29 : DefAt mg K "_law_ways" s_law_ways ["moves", "standing"] := at_mk X G a29 F29 (F29.binds (ps := ["moves", "standing"]) fun _ _ _ _ _ _ us hl => match us, hl with | [_, _], _ => rfl)
  have F30 := fun_mk (st := s_law_over) l30 c30 k30
  have A30 : DefAt mg K "_law_over" s_law_over ["one", "other"] := at_mk X G a30 F30 (F30.binds (ps := ["one", "other"]) fun _ _ _ _ _ _ us hl => match us, hl with | [_, _], _ => rfl)
  have F31 := fun_mk (st := s_law_all_rows) l31 c31 k31
  have A31 : DefAt mg K "_law_all_rows" s_law_all_rows ["moves", "standing", "many"] := at_mk X G a31 F31 (F31.binds (ps := ["moves", "standing", "many"]) fun _ _ _ _ _ _ us hl => match us, hl with | [_, _, _], _ => rfl)
  have FT := fun_mk (st := s_law_told) lT cT kT
  have FM := fun_mk (st := s_law_term) lM cM kM
  have TFm : TermF mg K (fun c => [CMoveError, CBadMoves, CBadStanding, CBadNumber, CBadRow, CBadWeights, CBadRound, CEndless, CNothing, CFull, CBadText].getD c 0) := ⟨PySem.W.mg_of X G gBadMoves, PySem.W.mg_of X G gBadStanding, PySem.W.mg_of X G gBadNumber, PySem.W.mg_of X G gBadRow, PySem.W.mg_of X G gBadWeights, PySem.W.mg_of X G gBadRound, PySem.W.mg_of X G gEndless, PySem.W.mg_of X G gNothing, PySem.W.mg_of X G gFull, PySem.W.mg_of X G gBadText, B.isinstance, B.sum, B.int, B.ValueError⟩
  have TCm : ∀ c ∈ CS, TermC K (fun c => [CMoveError, CBadMoves, CBadStanding, CBadNumber, CBadRow, CBadWeights, CBadRound, CEndless, CNothing, CFull, CBadText].getD c 0) c := by
    intro c hc
    simp only [CS, List.mem_cons, List.mem_nil_iff, or_false] at hc
    rcases hc with rfl | rfl | rfl
    · exact ⟨by decide, by decide, ⟨y1BadMoves, y2BadMoves, bBadMoves, y3BadMoves, y4BadMoves, hnO, htO, y5BadMoves⟩, fun j h1 h2 => by
        have : j = 1 ∨ j = 2 ∨ j = 3 ∨ j = 4 ∨ j = 5 ∨ j = 6 ∨ j = 7 ∨ j = 8 ∨ j = 9 ∨ j = 10 := by omega
        rcases this with rfl | rfl | rfl | rfl | rfl | rfl | rfl | rfl | rfl | rfl
        · exact wBadMovesBadMoves
        · exact wBadMovesBadStanding
        · exact wBadMovesBadNumber
        · exact wBadMovesBadRow
        · exact wBadMovesBadWeights
        · exact wBadMovesBadRound
        · exact wBadMovesEndless
        · exact wBadMovesNothing
        · exact wBadMovesFull
        · exact wBadMovesBadText, y7BadMoves⟩
    · exact ⟨by decide, by decide, ⟨y1BadStanding, y2BadStanding, bBadStanding, y3BadStanding, y4BadStanding, hnO, htO, y5BadStanding⟩, fun j h1 h2 => by
        have : j = 1 ∨ j = 2 ∨ j = 3 ∨ j = 4 ∨ j = 5 ∨ j = 6 ∨ j = 7 ∨ j = 8 ∨ j = 9 ∨ j = 10 := by omega
        rcases this with rfl | rfl | rfl | rfl | rfl | rfl | rfl | rfl | rfl | rfl
        · exact wBadStandingBadMoves
        · exact wBadStandingBadStanding
        · exact wBadStandingBadNumber
        · exact wBadStandingBadRow
        · exact wBadStandingBadWeights
        · exact wBadStandingBadRound
        · exact wBadStandingEndless
        · exact wBadStandingNothing
        · exact wBadStandingFull
        · exact wBadStandingBadText, y7BadStanding⟩
    · exact ⟨by decide, by decide, ⟨y1BadNumber, y2BadNumber, bBadNumber, y3BadNumber, y4BadNumber, hnO, htO, y5BadNumber⟩, fun j h1 h2 => by
        have : j = 1 ∨ j = 2 ∨ j = 3 ∨ j = 4 ∨ j = 5 ∨ j = 6 ∨ j = 7 ∨ j = 8 ∨ j = 9 ∨ j = 10 := by omega
        rcases this with rfl | rfl | rfl | rfl | rfl | rfl | rfl | rfl | rfl | rfl
        · exact wBadNumberBadMoves
        · exact wBadNumberBadStanding
        · exact wBadNumberBadNumber
        · exact wBadNumberBadRow
        · exact wBadNumberBadWeights
        · exact wBadNumberBadRound
        · exact wBadNumberEndless
        · exact wBadNumberNothing
        · exact wBadNumberFull
        · exact wBadNumberBadText, y7BadNumber⟩
  have Xm : ∀ c ∈ CS, PySem.W.exmOne K (.ref ((fun c => [CMoveError, CBadMoves, CBadStanding, CBadNumber, CBadRow, CBadWeights, CBadRound, CEndless, CNothing, CFull, CBadText].getD c 0) c)) (.ref CMoveError) = some true := by
    intro c hc
    simp only [CS, List.mem_cons, List.mem_nil_iff, or_false] at hc
    rcases hc with rfl | rfl | rfl
    · exact PySem.W.exm_ref bME dME tME y6BadMoves
    · exact PySem.W.exm_ref bME dME tME y6BadStanding
    · exact PySem.W.exm_ref bME dME tME y6BadNumber
  have TF : ToldF mg K (fun c => [CMoveError, CBadMoves, CBadStanding, CBadNumber, CBadRow, CBadWeights, CBadRound, CEndless, CNothing, CFull, CBadText].getD c 0) CS s_law_told s_law_term := told_mk FT (PySem.W.mg_of X G aT) FM (PySem.W.mg_of X G aM) (FT.binds (ps := ["deed"]) fun _ _ _ _ _ _ us hl => match us, hl with | [_], _ => rfl) (FM.binds (ps := ["e"]) fun _ _ _ _ _ _ us hl => match us, hl with | [_], _ => rfl) TFm TCm (PySem.W.mg_of X G gMoveError) Xm
  refine ⟨PySem.W.fnOf "law" "law" (defArgs s_law) (defBody s_law) (defScope s_law) .none kV32 dc32 pm32 an32 (.ref cL) ct32, [(cL14, PL14), (cL, PL)], spL K [(PL14, (Str.ofString "least_of" ++ Str.ofString ".<locals>.") ++ Str.ofString "<lambda>"), (PL, (Str.ofString "law" ++ Str.ofString ".<locals>.") ++ Str.ofString "<lambda>")] f_law, fun p hp => ?_, fun p hp => ?_, fun p hp => ?_, fun s v => .of_eq rfl, fun H a ns hl hb hH hS => spL_trueTs (fun p hp => by simp only [List.mem_cons, List.mem_nil_iff, or_false] at hp; rcases hp with rfl | rfl <;> first | exact hH (cL14, PL14) (by simp) | exact hH (cL, PL) (by simp)) hS (law_true ns (Nat.le_trans hl (by decide))), fun base _ _ hTB => ?_⟩
  · simp only [List.mem_cons, List.mem_nil_iff, or_false] at hp
    rcases hp with rfl | rfl
    · exact hP14
    · exact hP
  · simp only [List.mem_cons, List.mem_nil_iff, or_false] at hp
    rcases hp with rfl | rfl
    · exact nP14
    · exact nP
  · simp only [List.mem_cons, List.mem_nil_iff, or_false] at hp
    rcases hp with rfl | rfl
    · exact PySem.W.codeHd_of_K X hC14
    · exact PySem.W.codeHd_of_K X hC
  have TB14 := hTB (cL14, PL14) (by simp)
  have TB := hTB (cL, PL) (by simp)
  let G : Glo := ⟨K, [(PL14, (Str.ofString "least_of" ++ Str.ofString ".<locals>.") ++ Str.ofString "<lambda>"), (PL, (Str.ofString "law" ++ Str.ofString ".<locals>.") ++ Str.ofString "<lambda>")], fun c => [CMoveError, CBadMoves, CBadStanding, CBadNumber, CBadRow, CBadWeights, CBadRound, CEndless, CNothing, CFull, CBadText].getD c 0, fun _ => 0⟩
  have D0 : DefOk l.prog w mg base G 1 "is_whole" 3 f_is_whole := ok_is_whole (G := G) A0 B 
  have D1 : DefOk l.prog w mg base G 2 "are_whole" 3 f_are_whole := ok_are_whole (G := G) A1 B D0
  have D2 : DefOk l.prog w mg base G 3 "is_move" 2 f_is_move := ok_is_move (G := G) A2 B D1
  have D3 : DefOk l.prog w mg base G 1 "heaps_in" 1 f_heaps_in := ok_heaps_in (G := G) A3 B 
  have D4 : DefOk l.prog w mg base G 4 "is_moves" 1 f_is_moves := ok_is_moves (G := G) A4 B D3 D2 ⟨_, q_MOST_HEAPS⟩ ⟨_, q_MOST_MOVES⟩
  have D5 : DefOk l.prog w mg base G 5 "need_moves" 1 f_need_moves := ok_need_moves (G := G) A5 B D4 X_BadMoves
  have D6 : DefOk l.prog w mg base G 1 "heaps_of" 1 f_heaps_of := ok_heaps_of (G := G) A6 B 
  have D7 : DefOk l.prog w mg base G 1 "change" 1 f_change := ok_change (G := G) A7 B 
  have D8 : DefOk l.prog w mg base G 3 "is_good_standing" 2 f_is_good_standing := ok_is_good_standing (G := G) A8 B D1 D6 ⟨_, q_GREATEST⟩
  have D9 : DefOk l.prog w mg base G 4 "need_standing" 2 f_need_standing := ok_need_standing (G := G) A9 B D8 X_BadStanding
  have D10 : DefOk l.prog w mg base G 1 "is_over" 2 f_is_over := ok_is_over (G := G) A10 B 
  have D11 : DefOk l.prog w mg base G 1 "added" 2 f_added := ok_added (G := G) A11 B 
  have D12 : DefOk l.prog w mg base G 2 "steps_from" 2 f_steps_from := ok_steps_from (G := G) A12 B D11 D7 D10
  have D13 : DefOk l.prog w mg base G 2 "one_before" 2 f_one_before := ok_one_before (G := G) A13 B D7
  have D14 : DefOk l.prog w mg base G 6 "least_of" 1 f_least_of := ok_least_of (G := G) l14 c14 mg14 k14 Bd14 TB14 (show _ ∈ [(PL14, (Str.ofString "least_of" ++ Str.ofString ".<locals>.") ++ Str.ofString "<lambda>"), (PL, (Str.ofString "law" ++ Str.ofString ".<locals>.") ++ Str.ofString "<lambda>")] from List.mem_cons_self) (fun p hp h0 => by have hp : p ∈ [(PL14, (Str.ofString "least_of" ++ Str.ofString ".<locals>.") ++ Str.ofString "<lambda>"), (PL, (Str.ofString "law" ++ Str.ofString ".<locals>.") ++ Str.ofString "<lambda>")] := hp; simp only [List.mem_cons, List.mem_nil_iff, or_false] at hp; rcases hp with rfl | rfl <;> first | exact absurd h0 nex14 | exact rfl) B D10
  have D15 : DefOk l.prog w mg base G 7 "starts_of" 2 f_starts_of := ok_starts_of (G := G) A15 B D6 D14 D13
  have D16 : DefOk l.prog w mg base G 2 "need_many" 1 f_need_many := ok_need_many (G := G) A16 B D0 ⟨_, q_MOST_DONE⟩ X_BadNumber
  have D17 : DefOk l.prog w mg base G 8 "least_starts" 2 f_least_starts := ok_least_starts (G := G) A17 B D16 D5 D15
  have D18 : DefOk l.prog w mg base G 2 "covers_one" 2 f_covers_one := ok_covers_one (G := G) A18 B D10
  have D19 : DefOk l.prog w mg base G 8 "can_go" 3 f_can_go := ok_can_go (G := G) A19 B D18 D16 D5 D9 D15
  have D20 : DefOk l.prog w mg base G 8 "first_row" 3 f_first_row := ok_first_row (G := G) A20 B D18 D16 D5 D9 D15 D12
  have D21 : DefOk l.prog w mg base G 1 "_law_cell" 2 f_law_cell := ok_law_cell (G := G) A21 B 
  have D22 : DefOk l.prog w mg base G 1 "_law_drawn" 2 f_law_drawn := ok_law_drawn (G := G) A22 B 
  have D23 : DefOk l.prog w mg base G 2 "_law_roll" 2 f_law_roll := ok_law_roll (G := G) A23 B D22
  have D24 : DefOk l.prog w mg base G 2 "_law_rounds" 2 f_law_rounds := ok_law_rounds (G := G) A24 B D21
  have D25 : DefOk l.prog w mg base G 3 "_law_any_move" 2 f_law_any_move := ok_law_any_move (G := G) A25 B D23
  have D26 : DefOk l.prog w mg base G 4 "_law_any_moves" 2 f_law_any_moves := ok_law_any_moves (G := G) A26 B D25 D23
  have D27 : DefOk l.prog w mg base G 3 "_law_any_standing" 3 f_law_any_standing := ok_law_any_standing (G := G) A27 B D23
  have D28 : DefOk l.prog w mg base G 1 "_law_moved" 2 f_law_moved := ok_law_moved (G := G) A28 B 
  have D29 : DefOk l.prog w mg base G 2 "_law_ways" 2 f_law_ways := ok_law_ways (G := G) A29 B D28
  have D30 : DefOk l.prog w mg base G 1 "_law_over" 2 f_law_over := ok_law_over (G := G) A30 B 
  have D31 : DefOk l.prog w mg base G 3 "_law_all_rows" 3 f_law_all_rows := ok_law_all_rows (G := G) A31 B D29
  have L : FnOk l.prog w K mg base (L2N.CX l.prog w) 12 fa _ ["script"] (spF G 1 f_law) := ok_law (G := G) l32 c32 TF TB (show _ ∈ [(PL14, (Str.ofString "least_of" ++ Str.ofString ".<locals>.") ++ Str.ofString "<lambda>"), (PL, (Str.ofString "law" ++ Str.ofString ".<locals>.") ++ Str.ofString "<lambda>")] from (List.mem_cons_of_mem _ List.mem_cons_self)) (fun p hp h0 => by have hp : p ∈ [(PL14, (Str.ofString "least_of" ++ Str.ofString ".<locals>.") ++ Str.ofString "<lambda>"), (PL, (Str.ofString "law" ++ Str.ofString ".<locals>.") ++ Str.ofString "<lambda>")] := hp; simp only [List.mem_cons, List.mem_nil_iff, or_false] at hp; rcases hp with rfl | rfl <;> first | exact absurd h0 nex14.symm | exact rfl) B D31 D26 D27 D30 D23 D24 D19 D20 D17
  exact L.imp fun vs H Q E q => q _ _
end Y
open PySem PySem.W PyProof.Rows
set_option maxRecDepth 100000 in
set_option maxHeartbeats 0 in
theorem PySem.Challenge.cw_spentheaps_k09_whole_least_starts_holds : PySem.Challenge.rw_spentheaps_k09_whole_least_starts.Holds := by
  w_on; o_law; k_head; (case hw => w_witness2)
  k_fill
  refine LamX.walk_ofTs (l := PySem.Challenge.rw_spentheaps_k09_whole_least_starts) (n := 63) (k := 12) (x := "script") (CX := fun w => L2N.CX PySem.Challenge.rw_spentheaps_k09_whole_least_starts.prog w) rfl (by decide) rfl ⟨rfl, by decide, by decide⟩ (fun w h Y => PySem.W.km_in_of Y) ?F (fun _ _ _ _ _ z => Y.cx_false z)
  case F =>
    intro w mg fa h Y9 KX G hmg
    refine' Y.all_mk KX G hmg ?a0 ?l0 ?c0 ?k0 ?a1 ?l1 ?c1 ?k1 ?a2 ?l2 ?c2 ?k2 ?a3 ?l3 ?c3 ?k3 ?a4 ?l4 ?c4 ?k4 ?a5 ?l5 ?c5 ?k5 ?a6 ?l6 ?c6 ?k6 ?a7 ?l7 ?c7 ?k7 ?a8 ?l8 ?c8 ?k8 ?a9 ?l9 ?c9 ?k9 ?a10 ?l10 ?c10 ?k10 ?a11 ?l11 ?c11 ?k11 ?a12 ?l12 ?c12 ?k12 ?a13 ?l13 ?c13 ?k13 ?a14 ?l14 ?c14 ?k14 ?a15 ?l15 ?c15 ?k15 ?a16 ?l16 ?c16 ?k16 ?a17 ?l17 ?c17 ?k17 ?a18 ?l18 ?c18 ?k18 ?a19 ?l19 ?c19 ?k19 ?a20 ?l20 ?c20 ?k20 ?a21 ?l21 ?c21 ?k21 ?a22 ?l22 ?c22 ?k22 ?a23 ?l23 ?c23 ?k23 ?a24 ?l24 ?c24 ?k24 ?a25 ?l25 ?c25 ?k25 ?a26 ?l26 ?c26 ?k26 ?a27 ?l27 ?c27 ?k27 ?a28 ?l28 ?c28 ?k28 ?a29 ?l29 ?c29 ?k29 ?a30 ?l30 ?c30 ?k30 ?a31 ?l31 ?c31 ?k31 ?a32 ?l32 ?c32 ?k32 ?gBadMoves ?xBadMoves ?kBadMoves ?bBadMoves ?tBadMoves ?gBadStanding ?xBadStanding ?kBadStanding ?bBadStanding ?tBadStanding ?gBadNumber ?xBadNumber ?kBadNumber ?bBadNumber ?tBadNumber ?c_GREATEST ?c_MOST_DONE ?c_MOST_HEAPS ?c_MOST_MOVES ?z_ValueError ?z_all ?z_any ?z_bool ?z_enumerate ?z_int ?z_isinstance ?z_len ?z_max ?z_min ?z_range ?z_set ?z_sorted ?z_sum ?z_tuple ?z_zip ?gBadRow ?gBadWeights ?gBadRound ?gEndless ?gNothing ?gFull ?gBadText ?gMoveError ?bME ?dME ?tME ?hnO ?htO ?y1BadMoves ?y2BadMoves ?y3BadMoves ?y4BadMoves ?y5BadMoves ?y6BadMoves ?y7BadMoves ?wBadMovesBadMoves ?wBadMovesBadStanding ?wBadMovesBadNumber ?wBadMovesBadRow ?wBadMovesBadWeights ?wBadMovesBadRound ?wBadMovesEndless ?wBadMovesNothing ?wBadMovesFull ?wBadMovesBadText ?y1BadStanding ?y2BadStanding ?y3BadStanding ?y4BadStanding ?y5BadStanding ?y6BadStanding ?y7BadStanding ?wBadStandingBadMoves ?wBadStandingBadStanding ?wBadStandingBadNumber ?wBadStandingBadRow ?wBadStandingBadWeights ?wBadStandingBadRound ?wBadStandingEndless ?wBadStandingNothing ?wBadStandingFull ?wBadStandingBadText ?y1BadNumber ?y2BadNumber ?y3BadNumber ?y4BadNumber ?y5BadNumber ?y6BadNumber ?y7BadNumber ?wBadNumberBadMoves ?wBadNumberBadStanding ?wBadNumberBadNumber ?wBadNumberBadRow ?wBadNumberBadWeights ?wBadNumberBadRound ?wBadNumberEndless ?wBadNumberNothing ?wBadNumberFull ?wBadNumberBadText ?aT ?lT ?cT ?kT ?aM ?lM ?cM ?kM ?tb14 ?nP14 ?hC14 ?tb ?nP ?hC ?nex14 ?hP14 ?hP
    (case hP14 => exact PySem.W.km_tabs_of Y9 _ List.mem_cons_self)
    (case hP => exact PySem.W.km_tabs_of Y9 _ (List.mem_cons_of_mem _ List.mem_cons_self))
    (case a0 => k_is)
    (case l0 => k_is)
    (case c0 => k_is)
    (case k0 => k_is)
    (case a1 => k_is)
    (case l1 => k_is)
    (case c1 => k_is)
    (case k1 => k_is)
    (case a2 => k_is)
    (case l2 => k_is)
    (case c2 => k_is)
    (case k2 => k_is)
    (case a3 => k_is)
    (case l3 => k_is)
    (case c3 => k_is)
    (case k3 => k_is)
    (case a4 => k_is)
    (case l4 => k_is)
    (case c4 => k_is)
    (case k4 => k_is)
    (case a5 => k_is)
    (case l5 => k_is)
    (case c5 => k_is)
    (case k5 => k_is)
    (case a6 => k_is)
    (case l6 => k_is)
    (case c6 => k_is)
    (case k6 => k_is)
    (case a7 => k_is)
    (case l7 => k_is)
    (case c7 => k_is)
    (case k7 => k_is)
    (case a8 => k_is)
    (case l8 => k_is)
    (case c8 => k_is)
    (case k8 => k_is)
    (case a9 => k_is)
    (case l9 => k_is)
    (case c9 => k_is)
    (case k9 => k_is)
    (case a10 => k_is)
    (case l10 => k_is)
    (case c10 => k_is)
    (case k10 => k_is)
    (case a11 => k_is)
    (case l11 => k_is)
    (case c11 => k_is)
    (case k11 => k_is)
    (case a12 => k_is)
    (case l12 => k_is)
    (case c12 => k_is)
    (case k12 => k_is)
    (case a13 => k_is)
    (case l13 => k_is)
    (case c13 => k_is)
    (case k13 => k_is)
    (case a14 => k_is)
    (case l14 => k_is)
    (case c14 => k_is)
    (case k14 => k_is)
    (case a15 => k_is)
    (case l15 => k_is)
    (case c15 => k_is)
    (case k15 => k_is)
    (case a16 => k_is)
    (case l16 => k_is)
    (case c16 => k_is)
    (case k16 => k_is)
    (case a17 => k_is)
    (case l17 => k_is)
    (case c17 => k_is)
    (case k17 => k_is)
    (case a18 => k_is)
    (case l18 => k_is)
    (case c18 => k_is)
    (case k18 => k_is)
    (case a19 => k_is)
    (case l19 => k_is)
    (case c19 => k_is)
    (case k19 => k_is)
    (case a20 => k_is)
    (case l20 => k_is)
    (case c20 => k_is)
    (case k20 => k_is)
    (case a21 => k_is)
    (case l21 => k_is)
    (case c21 => k_is)
    (case k21 => k_is)
    (case a22 => k_is)
    (case l22 => k_is)
    (case c22 => k_is)
    (case k22 => k_is)
    (case a23 => k_is)
    (case l23 => k_is)
    (case c23 => k_is)
    (case k23 => k_is)
    (case a24 => k_is)
    (case l24 => k_is)
    (case c24 => k_is)
    (case k24 => k_is)
    (case a25 => k_is)
    (case l25 => k_is)
    (case c25 => k_is)
    (case k25 => k_is)
    (case a26 => k_is)
    (case l26 => k_is)
    (case c26 => k_is)
    (case k26 => k_is)
    (case a27 => k_is)
    (case l27 => k_is)
    (case c27 => k_is)
    (case k27 => k_is)
    (case a28 => k_is)
    (case l28 => k_is)
    (case c28 => k_is)
    (case k28 => k_is)
    (case a29 => k_is)
    (case l29 => k_is)
    (case c29 => k_is)
    (case k29 => k_is)
    (case a30 => k_is)
    (case l30 => k_is)
    (case c30 => k_is)
    (case k30 => k_is)
    (case a31 => k_is)
    (case l31 => k_is)
    (case c31 => k_is)
    (case k31 => k_is)
    (case a32 => k_is)
    (case l32 => k_is)
    (case c32 => k_is)
    (case k32 => k_is)
    (case gBadMoves => k_is)
    (case xBadMoves => k_exc)
    (case kBadMoves => k_is)
    (case bBadMoves => k_is)
    (case tBadMoves => k_is)
    (case gBadStanding => k_is)
    (case xBadStanding => k_exc)
    (case kBadStanding => k_is)
    (case bBadStanding => k_is)
    (case tBadStanding => k_is)
    (case gBadNumber => k_is)
    (case xBadNumber => k_exc)
    (case kBadNumber => k_is)
    (case bBadNumber => k_is)
    (case tBadNumber => k_is)
    (case c_GREATEST => k_is)
    (case c_MOST_DONE => k_is)
    (case c_MOST_HEAPS => k_is)
    (case c_MOST_MOVES => k_is)
    (case z_ValueError => k_is)
    (case z_all => k_is)
    (case z_any => k_is)
    (case z_bool => k_is)
    (case z_enumerate => k_is)
    (case z_int => k_is)
    (case z_isinstance => k_is)
    (case z_len => k_is)
    (case z_max => k_is)
    (case z_min => k_is)
    (case z_range => k_is)
    (case z_set => k_is)
    (case z_sorted => k_is)
    (case z_sum => k_is)
    (case z_tuple => k_is)
    (case z_zip => k_is)
    (case gBadRow => k_is)
    (case gBadWeights => k_is)
    (case gBadRound => k_is)
    (case gEndless => k_is)
    (case gNothing => k_is)
    (case gFull => k_is)
    (case gBadText => k_is)
    (case gMoveError => k_is)
    (case bME => k_is)
    (case dME => k_is)
    (case tME => k_is)
    (case hnO => k_is)
    (case htO => k_is)
    (case y1BadMoves => k_is)
    (case y2BadMoves => k_is)
    (case y3BadMoves => k_is)
    (case y4BadMoves => k_is)
    (case y5BadMoves => k_is)
    (case y6BadMoves => k_is)
    (case y7BadMoves => kernel_rfl)
    (case wBadMovesBadMoves => kernel_rfl)
    (case wBadMovesBadStanding => kernel_rfl)
    (case wBadMovesBadNumber => kernel_rfl)
    (case wBadMovesBadRow => kernel_rfl)
    (case wBadMovesBadWeights => kernel_rfl)
    (case wBadMovesBadRound => kernel_rfl)
    (case wBadMovesEndless => kernel_rfl)
    (case wBadMovesNothing => kernel_rfl)
    (case wBadMovesFull => kernel_rfl)
    (case wBadMovesBadText => kernel_rfl)
    (case y1BadStanding => k_is)
    (case y2BadStanding => k_is)
    (case y3BadStanding => k_is)
    (case y4BadStanding => k_is)
    (case y5BadStanding => k_is)
    (case y6BadStanding => k_is)
    (case y7BadStanding => kernel_rfl)
    (case wBadStandingBadMoves => kernel_rfl)
    (case wBadStandingBadStanding => kernel_rfl)
    (case wBadStandingBadNumber => kernel_rfl)
    (case wBadStandingBadRow => kernel_rfl)
    (case wBadStandingBadWeights => kernel_rfl)
    (case wBadStandingBadRound => kernel_rfl)
    (case wBadStandingEndless => kernel_rfl)
    (case wBadStandingNothing => kernel_rfl)
    (case wBadStandingFull => kernel_rfl)
    (case wBadStandingBadText => kernel_rfl)
    (case y1BadNumber => k_is)
    (case y2BadNumber => k_is)
    (case y3BadNumber => k_is)
    (case y4BadNumber => k_is)
    (case y5BadNumber => k_is)
    (case y6BadNumber => k_is)
    (case y7BadNumber => kernel_rfl)
    (case wBadNumberBadMoves => kernel_rfl)
    (case wBadNumberBadStanding => kernel_rfl)
    (case wBadNumberBadNumber => kernel_rfl)
    (case wBadNumberBadRow => kernel_rfl)
    (case wBadNumberBadWeights => kernel_rfl)
    (case wBadNumberBadRound => kernel_rfl)
    (case wBadNumberEndless => kernel_rfl)
    (case wBadNumberNothing => kernel_rfl)
    (case wBadNumberFull => kernel_rfl)
    (case wBadNumberBadText => kernel_rfl)
    (case aT => k_is)
    (case lT => k_is)
    (case cT => k_is)
    (case kT => k_is)
    (case aM => k_is)
    (case lM => k_is)
    (case cM => k_is)
    (case kM => k_is)
    (case tb14 => kernel_rfl)
    (case nP14 => kernel_rfl)
    (case hC14 => kernel_rfl)
    (case tb => kernel_rfl)
    (case nP => kernel_rfl)
    (case hC => kernel_rfl)
    (case nex14 => decide)

#print axioms PySem.Challenge.cw_spentheaps_k09_whole_least_starts_holds
