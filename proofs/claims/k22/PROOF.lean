import PyProof.Rows.All
import Wide.All
import OpenK.AllK
import Wide.FinOn
import PyProof.EqLayable
import HandS.ForMost
import HandS.Exc
import HandS.ExcOwn
import HandS.TryOnly
import HandS.WordsExc
import HandS.Zip
import HandS.Walk
import HandS.IsInst
import HandS.TupAny
import HandS.TupMul
import HandS.Wide
import HandS.EndTab
import HandS.Lambda
import HandS.Evl
import HandS.ExcCtx
import HandS.HotCalls
import HandS.ExcIs
import HandS.TupLe
import KE.KTupSum
import KE.GoesEnum
import KE.GoesMore
import HandS.Style
import KE.DataEq
import KE.DataFind
import KE.SortData
import HandS.TupLen
import HandS.Conv
import KE.KDictSum
import HandS.Nested
import HandS.Keys
import KE.SortKeyHeap
import KE.DataMinMax
import HandS.SortKw
import HandS.Deep
import HandS.Text
import HandS.FStr
import HandS.Replace
import KE.IntTextLaws
import PyProof.StrOps2
import HandS.Comp
import PyProof.NeKinds
import KE.KNestM
import HandS.EndBits
import PySem.Challenge.RW_spentheaps_k22_whole_texts
section
set_option Elab.async false
set_option linter.all false
/-! Sem: a plain reading of Python's defs as functions over data and a store. -/
namespace Y
open PySem (PyData Str)
abbrev D := PyData
/-- a value: data that never changes, the k-th object of the store, or the script -/
inductive Val where
  | d (x : D)
  | o (k : Nat)
  | s (ns : List Int)
/-- an object that may change -/
inductive Ob where
  | lst (xs : List Val)
  | ins (C : Nat) (fs : List (Str × Val))
  | gone
  | tup (xs : List Val)
  | dct (kvs : List (List Int × D))
  /-- a dict that changes no more -/
  | dcf (kvs : List (List Int × D))
abbrev Store := List Ob
abbrev Loc := List (Option Val)
/-- a result: a value, an exception of the c-th class, or nothing is said -/
inductive R (α : Type) where
  | ok (a : α) (st : Store)
  | ex (c : Nat) (st : Store)
  | bad
abbrev M (α : Type) := Store → R α
def ret {α : Type} (a : α) : M α := fun st => .ok a st
def die {α : Type} : M α := fun _ => .bad
def thr {α : Type} (c : Nat) : M α := fun st => .ex c st
def bd {α β : Type} (m : M α) (f : α → M β) : M β := fun st => match m st with
  | .ok a s => f a s
  | .ex c s => .ex c s
  | .bad => .bad
/-- an exception is not allowed here -/
def noex {α : Type} (m : M α) : M α := fun st => match m st with
  | .ok a s => .ok a s
  | _ => .bad
def lim : Nat := 100000
/-! ### expressions -/
abbrev E := Loc → M Val
abbrev A := Loc → M (List Val)
abbrev Tst := Loc → M Bool
def eV (i : Nat) : E := fun loc => match loc[i]? with
  | some (some v) => ret v
  | _ => die
def eC (x : D) : E := fun _ => ret (.d x)
def eO (op : Val → Val → M Val) (a b : E) : E := fun loc => bd (a loc) fun x => bd (b loc) fun y => op x y
def eU (op : Val → M Val) (a : E) : E := fun loc => bd (a loc) op
def aN : A := fun _ => ret []
def aC (e : E) (as : A) : A := fun loc => bd (e loc) fun x => bd (as loc) fun xs => ret (x :: xs)
def eB (b : List Val → M Val) (as : A) : E := fun loc => bd (as loc) b
def toDs : List Val → Option (List D)
  | [] => some []
  | .d x :: r => (toDs r).map (x :: ·)
  | _ :: _ => none
def bTup (vs : List Val) : M Val := match toDs vs with
  | some ds => if ds.length ≤ lim then ret (.d (.tuple ds)) else die
  | none => die
def bLst (vs : List Val) : M Val := match toDs vs with
  | some ds => if ds.length ≤ lim then ret (.d (.list ds)) else die
  | none => die
/-- a new list that may change -/
def bNew (vs : List Val) : M Val := fun st => if vs.length ≤ lim then .ok (.o st.length) (st ++ [.lst vs]) else .bad
def asB : Val → M Bool
  | .d (.bool b) => ret b
  | _ => die
def vB (b : Bool) : Val := .d (.bool b)
def vI (i : Int) : Val := .d (.int i)
/-- tests -/
def tV (e : E) : Tst := fun loc => bd (e loc) asB
def tAn (t u : Tst) : Tst := fun loc => bd (t loc) fun b => if b = true then u loc else ret false
def tOrr (t u : Tst) : Tst := fun loc => bd (t loc) fun b => if b = true then ret true else u loc
def tNo (t : Tst) : Tst := fun loc => bd (t loc) fun b => ret (!b)
def tTr : Tst := fun _ => ret true
def eAn (a b : E) : E := fun loc => bd (a loc) fun v => bd (asB v) fun c => if c = true then b loc else ret (vB false)
def eOr (a b : E) : E := fun loc => bd (a loc) fun v => bd (asB v) fun c => if c = true then ret (vB true) else b loc
def eNo (a : E) : E := fun loc => bd (a loc) fun v => bd (asB v) fun c => ret (vB (!c))
def eIf (t : Tst) (a b : E) : E := fun loc => bd (t loc) fun c => if c = true then a loc else b loc
/-- a < b < c -/
def eCh (o1 o2 : Val → Val → M Val) (a b c : E) : E := fun loc => bd (a loc) fun x => bd (b loc) fun y => bd (o1 x y) fun r => bd (asB r) fun k => if k = true then bd (c loc) fun z => o2 y z else ret (vB false)
/-! ### what is walked -/
abbrev I := Loc → M (List Val)
def seqOf : Val → M (List D)
  | .d (.list ds) => ret ds
  | .d (.tuple ds) => ret ds
  | _ => die
def iSeq (e : E) : I := fun loc => bd (e loc) fun v => bd (seqOf v) fun ds => ret (ds.map .d)
def asI : Val → M Int
  | .d (.int i) => ret i
  | _ => die
/-- a call of range, zip, enumerate is walked -/
def iCall (k : List Val → M (List Val)) (as : A) : I := fun loc => bd (as loc) k
def rng (lo : Int) (n : Nat) : List Val := (List.range n).map fun (i : Nat) => vI (lo + (i : Int))
def kRg1 : List Val → M (List Val)
  | [.d (.int n)] => if -1000000 ≤ n ∧ n ≤ 1000000 then ret (rng 0 n.toNat) else die
  | _ => die
def kRg2 : List Val → M (List Val)
  | [.d (.int m), .d (.int n)] => if -1000000 ≤ m ∧ m ≤ 1000000 ∧ -1000000 ≤ n ∧ n ≤ 1000000 then ret (rng m (n - m).toNat) else die
  | _ => die
def zip2 : List D → List D → List Val
  | x :: xs, y :: ys => .d (.tuple [x, y]) :: zip2 xs ys
  | _, _ => []
def zip3 : List D → List D → List D → List Val
  | x :: xs, y :: ys, z :: zs => .d (.tuple [x, y, z]) :: zip3 xs ys zs
  | _, _, _ => []
def kZip2 : List Val → M (List Val)
  | [v, w] => bd (seqOf v) fun xs => bd (seqOf w) fun ys => ret (zip2 xs ys)
  | _ => die
def kZip3 : List Val → M (List Val)
  | [v, w, u] => bd (seqOf v) fun xs => bd (seqOf w) fun ys => bd (seqOf u) fun zs => ret (zip3 xs ys zs)
  | _ => die
def enumF (n : Nat) : List D → List Val
  | [] => []
  | x :: xs => .d (.tuple [.int (n : Int), x]) :: enumF (n + 1) xs
def kEnum : List Val → M (List Val)
  | [v] => bd (seqOf v) fun ds => ret (enumF 0 ds)
  | _ => die
def kEnumL : List Val → M (List Val)
  | [.d (.list ds)] => ret (enumF 0 ds)
  | _ => die
/-! ### targets -/
abbrev G := Val → Loc → M Loc
def gN (i : Nat) : G := fun v loc => ret (loc.set i (some v))
abbrev Gs := List Val → Loc → M Loc
def gsN : Gs := fun vs loc => match vs with
  | [] => ret loc
  | _ => die
def gsC (g : G) (gs : Gs) : Gs := fun vs loc => match vs with
  | v :: r => bd (g v loc) fun l => gs r l
  | [] => die
def gT (n : Nat) (gs : Gs) : G := fun v loc => match v with
  | .d (.tuple ds) => if ds.length = n then gs (ds.map .d) loc else die
  | _ => die
/-! ### comprehensions -/
def wip (loc : Loc) : List Nat → Loc
  | [] => loc
  | v :: vs => (wip loc vs).set v none
def consO : Option Val → List Val → List Val
  | some y, ys => y :: ys
  | none, ys => ys
def compL (body : Val → M (Option Val)) : List Val → M (List Val)
  | [] => ret []
  | x :: xs => bd (body x) fun o => bd (compL body xs) fun ys => ret (consO o ys)
def cBody (g : G) (t : Tst) (e : E) (loc : Loc) (x : Val) : M (Option Val) :=
  bd (g x loc) fun l => bd (t l) fun b => if b = true then bd (e l) fun y => ret (some y) else ret none
def eLc (it : I) (g : G) (t : Tst) (e : E) (vs : List Nat) : E := fun loc => bd (it loc) fun xs => if xs.length ≤ lim then bd (noex (compL (cBody g t e (wip loc vs)) xs)) bLst else die
/-- .. whose list may change -/
def eLcN (it : I) (g : G) (t : Tst) (e : E) (vs : List Nat) : E := fun loc => bd (it loc) fun xs => if xs.length ≤ lim then bd (noex (compL (cBody g t e (wip loc vs)) xs)) bNew else die
/-! ### statements -/
inductive Fl where
  | nx | rt (v : Val) | bk | ct
abbrev S := Loc → M (Fl × Loc)
def sNil : S := fun loc => ret (.nx, loc)
def sSeq (a b : S) : S := fun loc => bd (a loc) fun r => match r.1 with
  | .nx => b r.2
  | _ => ret r
def sRet (e : E) : S := fun loc => bd (e loc) fun v => ret (.rt v, loc)
def sAsg (e : E) (g : G) : S := fun loc => bd (e loc) fun v => bd (g v loc) fun l => ret (.nx, l)
def sExp (e : E) : S := fun loc => bd (e loc) fun _ => ret (.nx, loc)
def sIf (t : Tst) (a b : S) : S := fun loc => bd (t loc) fun c => if c = true then a loc else b loc
def sRaise (c : Nat) : S := fun _ => thr c
def sBrk : S := fun loc => ret (.bk, loc)
def sCnt : S := fun loc => ret (.ct, loc)
/-- a, b = e, f -/
def sPar (i j : Nat) (a b : E) : S := fun loc => bd (a loc) fun v => bd (b loc) fun w => ret (.nx, (loc.set i (some v)).set j (some w))
def forL (body : Val → S) : List Val → S
  | [] => fun loc => ret (.nx, loc)
  | x :: xs => fun loc => bd (body x loc) fun r => match r.1 with
    | .nx => forL body xs r.2
    | .ct => forL body xs r.2
    | .bk => ret (.nx, r.2)
    | .rt v => ret (.rt v, r.2)
def fBody (g : G) (b : S) (x : Val) : S := fun loc => bd (g x loc) b
def sFor (it : I) (g : G) (b : S) : S := fun loc => bd (it loc) fun xs => forL (fBody g b) xs loc
open Classical in
/-- a loop over a list of the store that the body leaves as it is -/
noncomputable def forO (k : Nat) (xs0 : List Val) (body : Val → S) : List Val → S
  | [] => fun loc st => if st[k]? = some (.lst xs0) then .ok (.nx, loc) st else .bad
  | x :: xs => fun loc st => if st[k]? = some (.lst xs0) then (bd (body x loc) fun r => match r.1 with
    | .nx => forO k xs0 body xs r.2
    | .ct => forO k xs0 body xs r.2
    | .bk => ret (.nx, r.2)
    | .rt v => ret (.rt v, r.2)) st else .bad
def getL : Val → M (Nat × List Val)
  | .o k => fun st => match st[k]? with
    | some (.lst xs) => .ok (k, xs) st
    | _ => .bad
  | _ => die
noncomputable def sForO (e : E) (g : G) (b : S) : S := fun loc => bd (e loc) fun v => bd (getL v) fun p => forO p.1 p.2 (fBody g b) p.2 loc
def whl (t : Tst) (b : S) : Nat → S
  | 0 => fun _ => die
  | n + 1 => fun loc => bd (t loc) fun c => if c = true then bd (b loc) fun r => match r.1 with
      | .nx => whl t b n r.2
      | .ct => whl t b n r.2
      | .bk => ret (.nx, r.2)
      | .rt v => ret (.rt v, r.2)
    else ret (.nx, loc)
open Classical in
noncomputable def sWhile (t : Tst) (b : S) : S := fun loc st =>
  if h : ∃ n, whl t b n loc st ≠ .bad then whl t b h.choose loc st else .bad
/-! ### defs -/
def runF (n : Nat) (b : S) : List Val → M Val := fun args =>
  bd (b (args.map some ++ List.replicate (n - args.length) none)) fun r => match r.1 with
    | .rt v => ret v
    | .nx => ret (.d .none)
    | _ => die
/-- f at n arguments, nothing else -/
def fixN (n : Nat) (f : List Val → M Val) : List Val → M Val := fun as => if as.length = n then f as else die
/-! ### operators and built-ins -/
def mulOk (i j : Int) : Bool := decide (i.natAbs < 2 ^ 64) || decide (j.natAbs < 2 ^ 64) || decide (i.natAbs.log2 + j.natAbs.log2 < 1000000)
def bAdd : Val → Val → M Val
  | .d (.int i), .d (.int j) => ret (vI (i + j))
  | .d (.list xs), .d (.list ys) => if xs.length + ys.length ≤ lim then ret (.d (.list (xs ++ ys))) else die
  | .d (.tuple xs), .d (.tuple ys) => if xs.length + ys.length ≤ lim then ret (.d (.tuple (xs ++ ys))) else die
  | .d (.str x), .d (.str y) => if x.length + y.length ≤ lim then ret (.d (.str (x ++ y))) else die
  | _, _ => die
def bSub : Val → Val → M Val
  | .d (.int i), .d (.int j) => ret (vI (i - j))
  | _, _ => die
def repD (k : Int) (xs : List D) : List D := (List.replicate k.toNat xs).flatten
def bMul : Val → Val → M Val
  | .d (.int i), .d (.int j) => if mulOk i j = true then ret (vI (i * j)) else die
  | .d (.list xs), .d (.int k) => if -1000 ≤ k ∧ k ≤ 1000 ∧ xs.length ≤ 1000 then ret (.d (.list (repD k xs))) else die
  | .d (.tuple xs), .d (.int k) => if 1 ≤ k ∧ k ≤ 1000 ∧ 1 ≤ xs.length ∧ xs.length ≤ 1000 then ret (.d (.tuple (repD k xs))) else die
  | _, _ => die
def bDiv : Val → Val → M Val
  | .d (.int i), .d (.int j) => if 0 < j ∧ j.natAbs.log2 < 9000 then ret (vI (i / j)) else die
  | _, _ => die
def bMod : Val → Val → M Val
  | .d (.int i), .d (.int j) => if 0 < j then ret (vI (i % j)) else die
  | _, _ => die
def bPow : Val → Val → M Val
  | .d (.int i), .d (.int j) => if 0 ≤ j ∧ j ≤ 1000000 ∧ i.natAbs < 2 ^ 64 then ret (vI (i ^ j.toNat)) else die
  | _, _ => die
def bNeg : Val → M Val
  | .d (.int i) => ret (vI (-i))
  | _ => die
def bCmp (p : Int → Int → Bool) : Val → Val → M Val
  | .d (.int i), .d (.int j) => ret (vB (p i j))
  | _, _ => die
def bLt : Val → Val → M Val := bCmp fun i j => decide (i < j)
def bLe : Val → Val → M Val := bCmp fun i j => decide (i ≤ j)
def bGt : Val → Val → M Val := bCmp fun i j => decide (j < i)
def bGe : Val → Val → M Val := bCmp fun i j => decide (j ≤ i)
def intsD (ns : List Int) : List D := ns.map PyData.int
/-- what a value is as data, now -/
def snap : Val → M D
  | .d x => ret x
  | .s ns => ret (.list (intsD ns))
  | .o k => fun st => match st[k]? with
    | some (.lst xs) => (match toDs xs with
      | some ds => .ok (.list ds) st
      | none => .bad)
    | _ => .bad
def eqD (x y : D) : M Bool := if PySem.SeqAt.shaped x = true ∧ PySem.SeqAt.shaped y = true then ret (PyData.eqv x y) else die
def bEq (a b : Val) : M Val := bd (snap a) fun x => bd (snap b) fun y => bd (eqD x y) fun r => ret (vB r)
def bNe (a b : Val) : M Val := bd (snap a) fun x => bd (snap b) fun y => bd (eqD x y) fun r => ret (vB (!r))
def isN : Val → Bool
  | .d .none => true
  | _ => false
def bIsN (a : Val) : M Val := ret (vB (isN a))
def bNotN (a : Val) : M Val := ret (vB (!isN a))
def ixN (n : Nat) (i : Int) : Option Nat := if 0 ≤ i then (if i < n then some i.toNat else none) else if -(n : Int) ≤ i then some (i + n).toNat else none
def atI {α : Type} (xs : List α) (i : Int) : Option α := (ixN xs.length i).bind fun j => xs[j]?
def oget {α : Type} : Option α → M α
  | some a => ret a
  | none => die
def bIx : Val → Val → M Val
  | .d (.list xs), .d (.int i) => bd (oget (atI xs i)) fun x => ret (.d x)
  | .d (.tuple xs), .d (.int i) => bd (oget (atI xs i)) fun x => ret (.d x)
  | .s ns, .d (.int i) => bd (oget (atI ns i)) fun x => ret (vI x)
  | .o k, .d (.int i) => fun st => match st[k]? with
    | some (.lst xs) => (bd (oget (atI xs i)) ret) st
    | _ => .bad
  | _, _ => die
def bLen : List Val → M Val
  | [.d (.list xs)] => ret (vI xs.length)
  | [.d (.tuple xs)] => ret (vI xs.length)
  | [.s ns] => ret (vI ns.length)
  | [.o k] => fun st => match st[k]? with
    | some (.lst xs) => .ok (vI xs.length) st
    | _ => .bad
  | _ => die
def isTy (T : String) : D → Bool
  | .none => false
  | .bool _ => T == "int" || T == "bool"
  | .int _ => T == "int"
  | .str _ => T == "str"
  | .list _ => T == "list"
  | .tuple _ => T == "tuple"
  | .dict _ => T == "dict"
def bIsi (T : String) : Val → M Val
  | .d (.dict _) => die
  | .d x => ret (vB (isTy T x))
  | _ => die
def toBs : List D → Option (List Bool)
  | [] => some []
  | .bool b :: r => (toBs r).map (b :: ·)
  | _ :: _ => none
def toIs : List D → Option (List Int)
  | [] => some []
  | .int i :: r => (toIs r).map (i :: ·)
  | _ :: _ => none
def bAll : List Val → M Val
  | [.d (.list ds)] => bd (oget (toBs ds)) fun bs => ret (vB (bs.all id))
  | _ => die
def bAny : List Val → M Val
  | [.d (.list ds)] => bd (oget (toBs ds)) fun bs => ret (vB (bs.any id))
  | _ => die
def bSum : List Val → M Val
  | [.d (.list ds)] => bd (oget (toIs ds)) fun ns => ret (vI ns.sum)
  | _ => die
def bTuple : List Val → M Val
  | [.d (.list ds)] => ret (.d (.tuple ds))
  | [.d (.tuple ds)] => ret (.d (.tuple ds))
  | [.o k] => fun st => match st[k]? with
    | some (.lst xs) => (match toDs xs with
      | some ds => .ok (.d (.tuple ds)) st
      | none => .bad)
    | _ => .bad
  | _ => die
def bMax2 : List Val → M Val
  | [.d (.int i), .d (.int j)] => ret (vI (if j > i then j else i))
  | _ => die
def bMin2 : List Val → M Val
  | [.d (.int i), .d (.int j)] => ret (vI (if j < i then j else i))
  | _ => die
def sIx (n d : Nat) : Option Int → Nat
  | none => d
  | some v => if v < 0 then (v + n).toNat else min v.toNat n
def cutD (xs : List D) (lo hi : Option Int) : List D := (xs.drop (sIx xs.length 0 lo)).take (sIx xs.length xs.length hi - sIx xs.length 0 lo)
abbrev Oe := Loc → M (Option Int)
def oN : Oe := fun _ => ret none
def oS (e : E) : Oe := fun loc => bd (e loc) fun v => bd (asI v) fun i => ret (some i)
def bSl (v : Val) (lo hi : Option Int) : M Val := match v with
  | .d (.tuple xs) => ret (.d (.tuple (cutD xs lo hi)))
  | .d (.list xs) => ret (.d (.list (cutD xs lo hi)))
  | _ => die
def eSl (e : E) (lo hi : Oe) : E := fun loc => bd (e loc) fun v => bd (lo loc) fun l => bd (hi loc) fun h => bSl v l h
/-- o[i] = v on an object of the store -/
def gSub (o i : E) : G := fun v loc => bd (o loc) fun x => bd (i loc) fun y => match x, y with
  | .o k, .d (.int j) => fun st => match st[k]? with
    | some (.lst xs) => (match ixN xs.length j with
      | some m => .ok loc (st.set k (.lst (xs.set m v)))
      | none => .bad)
    | _ => .bad
  | _, _ => die
/-- o.append(e) -/
def chkL : Val → M Nat
  | .o k => fun st => match st[k]? with
    | some (.lst _) => .ok k st
    | _ => .bad
  | _ => die
def appS (k : Nat) (v : Val) : M Val := fun st => match st[k]? with
  | some (.lst xs) => if xs.length < lim then .ok (.d .none) (st.set k (.lst (xs ++ [v]))) else .bad
  | _ => .bad
def eApp (o e : E) : E := fun loc => bd (o loc) fun x => bd (chkL x) fun k => bd (e loc) fun v => appS k v
/-! ### refusals told -/
def kindN (c : Nat) : PySem.Str := (["BadMoves", "BadStanding", "BadNumber", "BadRow", "BadWeights", "BadRound", "Endless", "Nothing", "Full", "BadText"] : List PySem.Str).getD (c - 1) "other"
def eTold (cs : List Nat) (f : E) : E := fun loc st => match f loc st with
  | .ok v st' => .ok v st'
  | .ex c st' => if c ∈ cs then .ok (.d (.tuple [.str "refused", .str (kindN c)])) st' else .bad
  | .bad => .bad
end Y
end
section
set_option Elab.async false
set_option Elab.async false
set_option linter.all false
set_option maxRecDepth 100000
set_option maxHeartbeats 1000000
/-! Snd: the functions of Sem, lifted to the hand layer's readings. -/
namespace Y
open PySem PySem.Spec PyProof.Rows L2
/-- what is fixed: the written part, the tables of code objects, the addresses of the errors' classes and of the instances' classes -/
structure Glo where
  K : PySem.W.Frag
  T : List (Addr × Str)
  cl : Nat → Addr
  ic : Nat → Addr
mutual
inductive Dt (F : Hp) : V → D → Prop
  | non : Dt F .non .none
  | bl (b : Bool) : Dt F (.bl b) (.bool b)
  | int (i : Int) : Dt F (.int i) (.int i)
  | str (x : Str) : Dt F (.str x) (.str x)
  | lst {a : Addr} {xs : List V} {ds : List D} : F a = some (.lst xs) → DtA F xs ds → Dt F (.ref a) (.list ds)
  | tup {a : Addr} {xs : List V} {ds : List D} : F a = some (.tup xs) → DtA F xs ds → Dt F (.ref a) (.tuple ds)
inductive DtA (F : Hp) : List V → List D → Prop
  | nil : DtA F [] []
  | cons {v : V} {vs : List V} {d : D} {ds : List D} : Dt F v d → DtA F vs ds → DtA F (v :: vs) (d :: ds)
end
abbrev Exn (F F' : Hp) : Prop := ∀ a o, F a = some o → F' a = some o
mutual
theorem Dt.mono {F F' : Hp} (e : Exn F F') : ∀ {v : V} {d : D}, Dt F v d → Dt F' v d
  | _, _, .non => .non
  | _, _, .bl b => .bl b
  | _, _, .int i => .int i
  | _, _, .str x => .str x
  | _, _, .lst h k => .lst (e _ _ h) (DtA.mono e k)
  | _, _, .tup h k => .tup (e _ _ h) (DtA.mono e k)
theorem DtA.mono {F F' : Hp} (e : Exn F F') : ∀ {v : List V} {d : List D}, DtA F v d → DtA F' v d
  | _, _, .nil => .nil
  | _, _, .cons h k => .cons (Dt.mono e h) (DtA.mono e k)
end
mutual
theorem Dt.dp {K : PySem.W.Frag} {F : Hp} : ∀ {v : V} {d : D}, Dt F v d → Dp K F v d
  | _, _, .non => .non
  | _, _, .bl b => .bl b
  | _, _, .int i => .int i
  | _, _, .str x => .str x
  | _, _, .lst h k => .lst (SqL.of h) (DtA.dp k)
  | _, _, .tup h k => .tup (SqT.of h) (DtA.dp k)
theorem DtA.dp {K : PySem.W.Frag} {F : Hp} : ∀ {v : List V} {d : List D}, DtA F v d → DpAll K F v d
  | _, _, .nil => .nil
  | _, _, .cons h k => .cons (Dt.dp h) (DtA.dp k)
end
theorem DtA.length {F : Hp} : ∀ {v : List V} {d : List D}, DtA F v d → v.length = d.length
  | _, _, .nil => rfl
  | _, _, .cons _ k => by rw [List.length_cons, List.length_cons, k.length]
theorem DtA.get {F : Hp} : ∀ {v : List V} {d : List D} {i : Nat} {x : D}, DtA F v d → d[i]? = some x → ∃ u, v[i]? = some u ∧ Dt F u x
  | _, _, _, _, .nil, e => by simp at e
  | _, _, 0, _, .cons h _, e => by simp at e; subst e; exact ⟨_, rfl, h⟩
  | _, _, i + 1, x, .cons _ k, e => by
    obtain ⟨u, h1, h2⟩ := DtA.get (i := i) (x := x) k (by simpa using e)
    exact ⟨u, by simpa using h1, h2⟩
theorem DtA.get' {F : Hp} {v : List V} {d : List D} {i : Nat} {u : V} (h : DtA F v d) (e : v[i]? = some u) : ∃ x, d[i]? = some x ∧ Dt F u x := by
  have hl := h.length
  have hi : i < v.length := (List.getElem?_eq_some_iff.mp e).1
  have hd : d[i]? = some (d[i]'(by omega)) := List.getElem?_eq_getElem (by omega)
  obtain ⟨u', h1, h2⟩ := h.get hd
  rw [e] at h1
  cases h1
  exact ⟨_, hd, h2⟩
theorem DtA.append {F : Hp} : ∀ {v w : List V} {d e : List D}, DtA F v d → DtA F w e → DtA F (v ++ w) (d ++ e)
  | _, _, _, _, .nil, s => s
  | _, _, _, _, .cons h k, s => .cons h (DtA.append k s)
theorem DtA.take {F : Hp} : ∀ {v : List V} {d : List D} (n : Nat), DtA F v d → DtA F (v.take n) (d.take n)
  | _, _, 0, _ => .nil
  | _, _, _ + 1, .nil => .nil
  | _, _, n + 1, .cons h k => .cons h (DtA.take n k)
theorem DtA.drop {F : Hp} : ∀ {v : List V} {d : List D} (n : Nat), DtA F v d → DtA F (v.drop n) (d.drop n)
  | _, _, 0, h => h
  | _, _, _ + 1, .nil => .nil
  | _, _, n + 1, .cons _ k => DtA.drop n k
theorem DtA.rep {F : Hp} {v : List V} {d : List D} (h : DtA F v d) : ∀ n : Nat, DtA F (List.replicate n v).flatten (List.replicate n d).flatten
  | 0 => .nil
  | n + 1 => by
    rw [List.replicate_succ, List.replicate_succ, List.flatten_cons, List.flatten_cons]
    exact h.append (DtA.rep h n)
/-! ### values, stores -/
def VR (G : Glo) (F : Hp) (ρ : List Addr) (v : V) : Val → Prop
  | .d x => Dt F v x
  | .o k => ∃ a, ρ[k]? = some a ∧ v = .ref a
  | .s ns => ∃ a, v = .ref a ∧ SqL G.K F a (ns.map V.int)
def VRs (G : Glo) (F : Hp) (ρ : List Addr) : List V → List Val → Prop := Paired (VR G F ρ)
def OR (G : Glo) (F : Hp) (ρ : List Addr) (h : HO) : Ob → Prop
  | .lst xs => ∃ vs, h = .lst vs ∧ VRs G F ρ vs xs
  | .ins C fs => ∃ dx fv, h = .ins (G.ic C) dx fv ∧ Paired (fun (p : Str × V) (q : Str × Val) => p.1 = q.1 ∧ VR G F ρ p.2 q.2) fv fs
  | .gone => ∃ vs, h = .lst vs
  | .tup xs => ∃ vs, h = .tup vs ∧ VRs G F ρ vs xs
  | .dct kvs => ∃ us, h = .dT us ∧ Paired (fun (p : List Key × V) (q : List Int × D) => p.1 = q.1.map Sum.inl ∧ Dt F p.2 q.2) us kvs
  | .dcf kvs => ∃ od us, h = .frz od (.dT us) ∧ Paired (fun (p : List Key × V) (q : List Int × D) => p.1 = q.1.map Sum.inl ∧ Dt F p.2 q.2) us kvs
/-- objects that do not change: their places may be data, too -/
def Im : Ob → Prop
  | .gone => True
  | .tup _ => True
  | .dcf _ => True
  | _ => False
/-- S: what else stands there and is not to change; F: the data; ρ: where the store's objects are -/
structure Rep (G : Glo) (S F : Hp) (ρ : List Addr) (H : Hp) (st : Store) : Prop where
  sd : ∀ (a : Addr) (o : HO), S a = some o → H a = some o ∧ F a = none ∧ a ∉ ρ ∧ ∃ xs, o = .lst xs
  ex : ∀ (a : Addr) (o : HO), F a = some o → H a = some o
  nt : ∀ (a : Addr) (ps : Array Value), F a ≠ some (.tbl ps)
  len : ρ.length = st.length
  nd : ρ.Nodup
  own : ∀ (k : Nat) (ob : Ob), st[k]? = some ob → ∃ a h, ρ[k]? = some a ∧ (Im ob ∨ F a = none) ∧ H a = some h ∧ OR G F ρ h ob
  tab : LamX.Tabs G.T H
structure Gr (F : Hp) (ρ : List Addr) (F' : Hp) (ρ' : List Addr) : Prop where
  f : Exn F F'
  r : ∃ l, ρ' = ρ ++ l
theorem Gr.refl {F : Hp} {ρ : List Addr} : Gr F ρ F ρ := ⟨fun _ _ h => h, [], by simp⟩
theorem Gr.trans {F F1 F2 : Hp} {ρ ρ1 ρ2 : List Addr} (a : Gr F ρ F1 ρ1) (b : Gr F1 ρ1 F2 ρ2) : Gr F ρ F2 ρ2 := by
  obtain ⟨l, e⟩ := a.r
  obtain ⟨l', e'⟩ := b.r
  exact ⟨fun x o h => b.f x o (a.f x o h), l ++ l', by rw [e', e, List.append_assoc]⟩
theorem Gr.get {F F' : Hp} {ρ ρ' : List Addr} (g : Gr F ρ F' ρ') {k : Nat} {a : Addr} (h : ρ[k]? = some a) : ρ'[k]? = some a := by
  obtain ⟨l, e⟩ := g.r
  have hk : k < ρ.length := (List.getElem?_eq_some_iff.mp h).1
  rw [e, List.getElem?_append_left hk]
  exact h
theorem VR.mono {G : Glo} {F F' : Hp} {ρ ρ' : List Addr} (g : Gr F ρ F' ρ') {v : V} : ∀ {x : Val}, VR G F ρ v x → VR G F' ρ' v x
  | .d _, h => Dt.mono g.f h
  | .o _, ⟨a, h, e⟩ => ⟨a, g.get h, e⟩
  | .s _, ⟨a, e, h⟩ => ⟨a, e, Evl.ex_l g.f h⟩
theorem VRs.mono {G : Glo} {F F' : Hp} {ρ ρ' : List Addr} (g : Gr F ρ F' ρ') {v : List V} {x : List Val} (h : VRs G F ρ v x) : VRs G F' ρ' v x := Paired.mapP h fun _ _ q => q.mono g
theorem OR.mono {G : Glo} {F F' : Hp} {ρ ρ' : List Addr} (g : Gr F ρ F' ρ') {h : HO} : ∀ {x : Ob}, OR G F ρ h x → OR G F' ρ' h x
  | .lst _, ⟨vs, e, q⟩ => ⟨vs, e, q.mono g⟩
  | .ins _ _, ⟨dx, fv, e, q⟩ => ⟨dx, fv, e, Paired.mapP q fun _ _ z => ⟨z.1, z.2.mono g⟩⟩
  | .gone, z => z
  | .tup _, ⟨vs, e, q⟩ => ⟨vs, e, q.mono g⟩
  | .dct _, ⟨us, e, q⟩ => ⟨us, e, Paired.mapP q fun _ _ z => ⟨z.1, z.2.mono g.f⟩⟩
  | .dcf _, ⟨od, us, e, q⟩ => ⟨od, us, e, Paired.mapP q fun _ _ z => ⟨z.1, z.2.mono g.f⟩⟩
theorem VRs.length {G : Glo} {F : Hp} {ρ : List Addr} {v : List V} {x : List Val} (h : VRs G F ρ v x) : v.length = x.length := Paired.length h
def LR (G : Glo) (F : Hp) (ρ : List Addr) (σ : L2.St) (loc : Loc) : Prop := σ.length = loc.length ∧ ∀ (i : Nat) (v : Val), loc[i]? = some (some v) → ∃ u, σ[i]? = some (some u) ∧ VR G F ρ u v
theorem LR.mono {G : Glo} {F F' : Hp} {ρ ρ' : List Addr} (g : Gr F ρ F' ρ') {σ : L2.St} {loc : Loc} (h : LR G F ρ σ loc) : LR G F' ρ' σ loc :=
  ⟨h.1, fun i v e => let ⟨u, a, b⟩ := h.2 i v e; ⟨u, a, b.mono g⟩⟩
theorem LR.set {G : Glo} {F : Hp} {ρ : List Addr} {σ : L2.St} {loc : Loc} (h : LR G F ρ σ loc) {u : V} {v : Val} (r : VR G F ρ u v) (i : Nat) : LR G F ρ (σ.set i (some u)) (loc.set i (some v)) := by
  refine ⟨by rw [List.length_set, List.length_set]; exact h.1, fun j w e => ?_⟩
  by_cases hj : i = j
  · subst hj
    rw [List.getElem?_set] at e
    rw [if_pos rfl] at e
    split at e
    · rename_i hlt
      cases e
      refine ⟨u, ?_, r⟩
      rw [List.getElem?_set, if_pos rfl, if_pos (by rw [h.1]; exact hlt)]
    · cases e
  · rw [List.getElem?_set, if_neg hj] at e
    rw [List.getElem?_set, if_neg hj]
    exact h.2 j w e
theorem LR.wip {G : Glo} {F : Hp} {ρ : List Addr} {σ : L2.St} {loc : Loc} (h : LR G F ρ σ loc) : ∀ vs : List Nat, LR G F ρ (L2.wipe σ vs) (Y.wip loc vs)
  | [] => h
  | v :: vs => by
    have ih := LR.wip h vs
    unfold L2.wipe Y.wip
    refine ⟨by rw [List.length_set, List.length_set]; exact ih.1, fun j w e => ?_⟩
    by_cases hj : v = j
    · subst hj
      rw [List.getElem?_set, if_pos rfl] at e
      split at e <;> cases e
    · rw [List.getElem?_set, if_neg hj] at e
      rw [List.getElem?_set, if_neg hj]
      exact ih.2 j w e
/-! ### the heap grows by data -/
theorem fresh_ne {H : Hp} {a p : Addr} {o : HO} (h : H a = some o) (hp : H p = none) : a ≠ p := ne_of_none h hp
theorem Rep.new {G : Glo} {S F : Hp} {ρ : List Addr} {H : Hp} {st : Store} (r : Rep G S F ρ H st) {p : Addr} {o : HO} (hp : H p = none) (ho : ∀ ps, o ≠ .tbl ps) : Rep G S (upd F p o) ρ (upd H p o) st ∧ Gr F ρ (upd F p o) ρ := by
  have fp : F p = none := by
    cases q : F p with
    | none => rfl
    | some u => rw [r.ex p u q] at hp; cases hp
  have g : Gr F ρ (upd F p o) ρ := ⟨fun a u h => by rw [upd_ne (ne_of_none h fp)]; exact h, [], by simp⟩
  refine ⟨⟨fun a u h => ?_, fun a u h => ?_, fun a ps h => ?_, r.len, r.nd, fun k ob e => ?_, r.tab.ext fun b u h => by rw [upd_ne (ne_of_none h hp)]; exact h⟩, g⟩
  · obtain ⟨h1, h2, h3, h4⟩ := r.sd a u h
    have ha : a ≠ p := ne_of_none h1 hp
    exact ⟨by rw [upd_ne ha]; exact h1, by rw [upd_ne ha]; exact h2, h3, h4⟩
  · by_cases ha : a = p
    · subst ha
      rw [upd_same] at h ⊢
      exact h
    · rw [upd_ne ha] at h ⊢
      exact r.ex a u h
  · by_cases ha : a = p
    · subst ha
      rw [upd_same] at h
      exact ho ps (Option.some.inj h)
    · rw [upd_ne ha] at h
      exact r.nt a ps h
  · obtain ⟨a, h, e1, e2, e3, e4⟩ := r.own k ob e
    have ha : a ≠ p := ne_of_none e3 hp
    exact ⟨a, h, e1, e2.imp id (fun z => by rw [upd_ne ha]; exact z), by rw [upd_ne ha]; exact e3, e4.mono g⟩
/-- a new object of the store -/
theorem Rep.push {G : Glo} {S F : Hp} {ρ : List Addr} {H : Hp} {st : Store} (r : Rep G S F ρ H st) {p : Addr} {o : HO} {ob : Ob} (hp : H p = none) (ho : OR G F ρ o ob) : Rep G S F (ρ ++ [p]) (upd H p o) (st ++ [ob]) ∧ Gr F ρ F (ρ ++ [p]) := by
  have fp : F p = none := by
    cases q : F p with
    | none => rfl
    | some u => rw [r.ex p u q] at hp; cases hp
  have g : Gr F ρ F (ρ ++ [p]) := ⟨fun _ _ h => h, [p], rfl⟩
  have np : p ∉ ρ := fun hm => by
    obtain ⟨k, hk⟩ := List.mem_iff_getElem?.mp hm
    have hlt : k < st.length := by rw [← r.len]; exact (List.getElem?_eq_some_iff.mp hk).1
    obtain ⟨a, h, e1, e2, e3, e4⟩ := r.own k st[k] (List.getElem?_eq_getElem hlt)
    rw [hk] at e1
    cases e1
    rw [e3] at hp
    cases hp
  refine ⟨⟨fun a u h => ?_, fun a u h => by rw [upd_ne (ne_of_none h fp)]; exact r.ex a u h, r.nt, by rw [List.length_append, List.length_append, r.len] <;> rfl, ?_, fun k b e => ?_, r.tab.ext fun b u h => by rw [upd_ne (ne_of_none h hp)]; exact h⟩, g⟩
  · obtain ⟨h1, h2, h3, h4⟩ := r.sd a u h
    have ha : a ≠ p := ne_of_none h1 hp
    exact ⟨by rw [upd_ne ha]; exact h1, h2, fun z => (List.mem_append.mp z).elim h3 fun q => ha (by simpa using q), h4⟩
  · refine List.nodup_append.mpr ⟨r.nd, List.nodup_cons.mpr ⟨by simp, List.nodup_nil⟩, fun a ha b hb => ?_⟩
    have e : b = p := by simpa using hb
    subst e
    intro e
    subst e
    exact np ha
  · by_cases hk : k < st.length
    · rw [List.getElem?_append_left hk] at e
      obtain ⟨a, h, e1, e2, e3, e4⟩ := r.own k b e
      exact ⟨a, h, g.get e1, e2, by rw [upd_ne (ne_of_none e3 hp)]; exact e3, e4.mono g⟩
    · rw [List.getElem?_append_right (by omega)] at e
      have hk0 : k - st.length = 0 := by
        have := (List.getElem?_eq_some_iff.mp e).1
        simp at this
        omega
      rw [hk0] at e
      have e' : ob = b := by simpa using e
      subst e'
      have ke : k = st.length := by omega
      subst ke
      refine ⟨p, o, ?_, .inr fp, upd_same, ho.mono g⟩
      rw [List.getElem?_append_right (by rw [r.len]; exact Nat.le_refl _), r.len]
      simp
/-- an object of the store changes -/
theorem Rep.put {G : Glo} {S F : Hp} {ρ : List Addr} {H : Hp} {st : Store} (r : Rep G S F ρ H st) {k : Nat} {a : Addr} {o : HO} {ob ob' : Ob} (hk : st[k]? = some ob) (ha : ρ[k]? = some a) (ho : OR G F ρ o ob') (hnt : ∀ p q, (p, q) ∈ G.T → p ≠ a) (hnc : ∀ c q, H c = some (LamX.CodeO c q) → c ≠ a) (hob : ¬ Im ob := by intro z; exact z) : Rep G S F ρ (upd H a o) (st.set k ob') := by
  obtain ⟨a', h', e1, e2, e3, e4⟩ := r.own k ob hk
  rw [ha] at e1
  cases e1
  have e2 := e2.resolve_left hob
  have hlt : k < st.length := (List.getElem?_eq_some_iff.mp hk).1
  refine ⟨fun b u h => ?_, fun b u h => by rw [upd_ne (ne_of_none h e2)]; exact r.ex b u h, r.nt, by rw [List.length_set]; exact r.len, r.nd, fun j b e => ?_, fun p hp => ?_⟩
  · obtain ⟨h1, h2, h3, h4⟩ := r.sd b u h
    have hb : b ≠ a := fun z => h3 (by rw [z]; exact List.mem_of_getElem? ha)
    exact ⟨by rw [upd_ne hb]; exact h1, h2, h3, h4⟩
  · by_cases hj : k = j
    · subst hj
      rw [List.getElem?_set_self hlt] at e
      cases e
      exact ⟨a, o, ha, .inr e2, upd_same, ho⟩
    · rw [List.getElem?_set_ne hj] at e
      obtain ⟨c, h, q1, q2, q3, q4⟩ := r.own j b e
      have hc : c ≠ a := fun z => by
        subst z
        obtain ⟨i1, z1⟩ := List.getElem?_eq_some_iff.mp ha
        obtain ⟨i2, z2⟩ := List.getElem?_eq_some_iff.mp q1
        exact hj ((List.getElem_inj r.nd).mp (z1.trans z2.symm))
      exact ⟨c, h, q1, q2, by rw [upd_ne hc]; exact q3, q4⟩
  · obtain ⟨ps, h1, h2, h3⟩ := r.tab p hp
    refine ⟨ps, by rw [upd_ne (hnt p.1 p.2 hp)]; exact h1, h2, fun pos cv hc => ?_⟩
    obtain ⟨c, z1, z2⟩ := h3 pos cv hc
    exact ⟨c, z1, by rw [upd_ne (hnc c p.2 z2)]; exact z2⟩
/-- a thing beside comes, changes, becomes data -/
theorem Rep.side {G : Glo} {S F : Hp} {ρ : List Addr} {H : Hp} {st : Store} (r : Rep G S F ρ H st) {p : Addr} {xs : List V} (hp : H p = none) : Rep G (upd S p (.lst xs)) F ρ (upd H p (.lst xs)) st := by
  have fp : F p = none := by
    cases q : F p with
    | none => rfl
    | some u => rw [r.ex p u q] at hp; cases hp
  have np : p ∉ ρ := fun hm => by
    obtain ⟨k, hk⟩ := List.mem_iff_getElem?.mp hm
    have hlt : k < st.length := by rw [← r.len]; exact (List.getElem?_eq_some_iff.mp hk).1
    obtain ⟨a, h, e1, e2, e3, e4⟩ := r.own k st[k] (List.getElem?_eq_getElem hlt)
    rw [hk] at e1
    cases e1
    rw [e3] at hp
    cases hp
  refine ⟨fun a u h => ?_, fun a u h => by rw [upd_ne (ne_of_none h fp)]; exact r.ex a u h, r.nt, r.len, r.nd, fun k b e => ?_, r.tab.ext fun b u h => by rw [upd_ne (ne_of_none h hp)]; exact h⟩
  · by_cases ha : a = p
    · subst ha
      rw [upd_same] at h ⊢
      exact ⟨h, fp, np, _, (Option.some.inj h).symm⟩
    · rw [upd_ne ha] at h ⊢
      exact r.sd a u h
  · obtain ⟨a, h, e1, e2, e3, e4⟩ := r.own k b e
    exact ⟨a, h, e1, e2, by rw [upd_ne (ne_of_none e3 hp)]; exact e3, e4⟩
theorem Rep.side2 {G : Glo} {S F : Hp} {ρ : List Addr} {H : Hp} {st : Store} {p : Addr} {xs ys : List V} (r : Rep G (upd S p (.lst xs)) F ρ H st) : Rep G (upd S p (.lst ys)) F ρ (upd H p (.lst ys)) st := by
  obtain ⟨hp, fp, np, _⟩ := r.sd p _ upd_same
  refine ⟨fun a u h => ?_, fun a u h => by rw [upd_ne (ne_of_none h fp)]; exact r.ex a u h, r.nt, r.len, r.nd, fun k b e => ?_, fun q hq => ?_⟩
  · by_cases ha : a = p
    · subst ha
      rw [upd_same] at h ⊢
      exact ⟨h, fp, np, _, (Option.some.inj h).symm⟩
    · rw [upd_ne ha] at h ⊢
      exact r.sd a u (by rw [upd_ne ha]; exact h)
  · obtain ⟨a, h, e1, e2, e3, e4⟩ := r.own k b e
    have ha : a ≠ p := fun z => np (by rw [← z]; exact List.mem_of_getElem? e1)
    exact ⟨a, h, e1, e2, by rw [upd_ne ha]; exact e3, e4⟩
  · obtain ⟨ps, h1, h2, h3⟩ := r.tab q hq
    have n1 : q.1 ≠ p := fun z => by
      rw [z, hp] at h1
      cases h1
    refine ⟨ps, by rw [upd_ne n1]; exact h1, h2, fun pos cv hc => ?_⟩
    obtain ⟨c, z1, z2⟩ := h3 pos cv hc
    have n2 : c ≠ p := fun z => by
      subst z
      rw [hp] at z2
      cases z2
    exact ⟨c, z1, by rw [upd_ne n2]; exact z2⟩
theorem Rep.data {G : Glo} {S F : Hp} {ρ : List Addr} {H : Hp} {st : Store} {p : Addr} {xs : List V} (r : Rep G (upd S p (.lst xs)) F ρ H st) (hs : S p = none) : Rep G S (upd F p (.lst xs)) ρ H st ∧ Gr F ρ (upd F p (.lst xs)) ρ := by
  obtain ⟨hp, fp, np, _⟩ := r.sd p _ upd_same
  have g : Gr F ρ (upd F p (.lst xs)) ρ := ⟨fun a u h => by rw [upd_ne (ne_of_none h fp)]; exact h, [], by simp⟩
  refine ⟨⟨fun a u h => ?_, fun a u h => ?_, fun a ps h => ?_, r.len, r.nd, fun k b e => ?_, r.tab⟩, g⟩
  · have ha : a ≠ p := ne_of_none h hs
    obtain ⟨h1, h2, h3, h4⟩ := r.sd a u (by rw [upd_ne ha]; exact h)
    exact ⟨h1, by rw [upd_ne ha]; exact h2, h3, h4⟩
  · by_cases ha : a = p
    · subst ha
      rw [upd_same] at h
      rw [hp]
      exact h
    · rw [upd_ne ha] at h
      exact r.ex a u h
  · by_cases ha : a = p
    · subst ha
      rw [upd_same] at h
      cases h
    · rw [upd_ne ha] at h
      exact r.nt a ps h
  · obtain ⟨a, h, e1, e2, e3, e4⟩ := r.own k b e
    have ha : a ≠ p := fun z => np (by rw [← z]; exact List.mem_of_getElem? e1)
    exact ⟨a, h, e1, e2.imp id (fun z => by rw [upd_ne ha]; exact z), e3, e4.mono g⟩
theorem Rep.owned {G : Glo} {S F : Hp} {ρ : List Addr} {H : Hp} {st : Store} {p : Addr} {xs : List V} (r : Rep G (upd S p (.lst xs)) F ρ H st) (hs : S p = none) {ob : Ob} (ho : OR G F ρ (.lst xs) ob) : Rep G S F (ρ ++ [p]) H (st ++ [ob]) ∧ Gr F ρ F (ρ ++ [p]) := by
  obtain ⟨hp, fp, np, _⟩ := r.sd p _ upd_same
  have g : Gr F ρ F (ρ ++ [p]) := ⟨fun _ _ h => h, [p], rfl⟩
  refine ⟨⟨fun a u h => ?_, r.ex, r.nt, by rw [List.length_append, List.length_append, r.len] <;> rfl, ?_, fun k b e => ?_, r.tab⟩, g⟩
  · have ha : a ≠ p := ne_of_none h hs
    obtain ⟨h1, h2, h3, h4⟩ := r.sd a u (by rw [upd_ne ha]; exact h)
    exact ⟨h1, h2, fun z => (List.mem_append.mp z).elim h3 fun q => ha (by simpa using q), h4⟩
  · refine List.nodup_append.mpr ⟨r.nd, List.nodup_cons.mpr ⟨by simp, List.nodup_nil⟩, fun a ha b hb => ?_⟩
    have e : b = p := by simpa using hb
    subst e
    intro e
    subst e
    exact np ha
  · by_cases hk : k < st.length
    · rw [List.getElem?_append_left hk] at e
      obtain ⟨a, h, e1, e2, e3, e4⟩ := r.own k b e
      exact ⟨a, h, g.get e1, e2, e3, e4.mono g⟩
    · rw [List.getElem?_append_right (by omega)] at e
      have hk0 : k - st.length = 0 := by
        have := (List.getElem?_eq_some_iff.mp e).1
        simp at this
        omega
      rw [hk0] at e
      have e' : ob = b := by simpa using e
      subst e'
      have ke : k = st.length := by omega
      subst ke
      refine ⟨p, _, ?_, .inr fp, hp, ho.mono g⟩
      rw [List.getElem?_append_right (by rw [r.len]; exact Nat.le_refl _), r.len]
      simp
/-- where the object is a list or an instance no table and no code object stands -/
def Plain : HO → Prop
  | .lst _ => True
  | .ins _ _ _ => True
  | _ => False
theorem Rep.put' {G : Glo} {S F : Hp} {ρ : List Addr} {H : Hp} {st : Store} (r : Rep G S F ρ H st) {k : Nat} {a : Addr} {h o : HO} {ob ob' : Ob} (hk : st[k]? = some ob) (ha : ρ[k]? = some a) (hh : H a = some h) (hp : Plain h) (ho : OR G F ρ o ob') (hob : ¬ Im ob := by intro z; exact z) : Rep G S F ρ (upd H a o) (st.set k ob') := by
  refine r.put hk ha ho (fun p q hm z => ?_) (fun c q e z => ?_) hob
  · obtain ⟨ps, h1, _⟩ := r.tab (p, q) hm
    rw [z, hh] at h1
    cases h1
    exact hp
  · subst z
    rw [hh] at e
    cases e
    exact hp
end Y
end
section
set_option Elab.async false
set_option Elab.async false
set_option linter.all false
set_option maxRecDepth 100000
set_option maxHeartbeats 1000000
/-! Lft: expressions and statements lifted. -/
namespace Y
open PySem PySem.Spec PyProof.Rows L2
/-- what is wanted behind a result -/
def out (G : Glo) (S F : Hp) (ρ : List Addr) {α β : Type} (Rl : Hp → List Addr → β → α → Prop) (Q : β → Hp → Prop) (E : XK) : R α → Prop
  | .ok v st => ∀ (F' : Hp) (ρ' : List Addr) (H' : Hp) (u : β), Gr F ρ F' ρ' → Rep G S F' ρ' H' st → Rl F' ρ' u v → Q u H'
  | .ex c st => ∀ (F' : Hp) (ρ' : List Addr) (H' : Hp), Gr F ρ F' ρ' → Rep G S F' ρ' H' st → E (.ref (G.cl c)) none H'
  | .bad => False
section
variable {G : Glo} {S F F' : Hp} {ρ ρ' : List Addr} {H : Hp} {st : Store} {α β γ δ : Type} {Rl : Hp → List Addr → β → α → Prop} {Rk : Hp → List Addr → δ → γ → Prop} {Q : β → Hp → Prop} {Qk : δ → Hp → Prop} {E : XK}
theorem out.mono (g : Gr F ρ F' ρ') : ∀ {r : R α}, out G S F ρ Rl Q E r → out G S F' ρ' Rl Q E r
  | .ok _ _, h => fun F2 ρ2 H2 u g2 => h F2 ρ2 H2 u (g.trans g2)
  | .ex _ _, h => fun F2 ρ2 H2 g2 => h F2 ρ2 H2 (g.trans g2)
  | .bad, h => h
/-- at a value that is there -/
theorem out.at {v : α} (h : out G S F ρ Rl Q E (.ok v st)) (r : Rep G S F ρ H st) {u : β} (rl : Rl F ρ u v) : Q u H := h F ρ H u Gr.refl r rl
/-- a value that is there, the heap grown -/
theorem out.go {v : α} {H' : Hp} {st' : Store} (h : out G S F ρ Rl Q E (.ok v st')) (g : Gr F ρ F' ρ') (r : Rep G S F' ρ' H' st') {u : β} (rl : Rl F' ρ' u v) : Q u H' := h F' ρ' H' u g r rl
/-- what stands behind a first part -/
def Then (G : Glo) (S F : Hp) (ρ : List Addr) (Rl : Hp → List Addr → β → α → Prop) (Rk : Hp → List Addr → δ → γ → Prop) (Qk : δ → Hp → Prop) (E : XK) (f : α → M γ) (u : β) (H1 : Hp) : Prop :=
  ∃ (F1 : Hp) (ρ1 : List Addr) (a : α) (st1 : Store), Gr F ρ F1 ρ1 ∧ Rep G S F1 ρ1 H1 st1 ∧ Rl F1 ρ1 u a ∧ out G S F1 ρ1 Rk Qk E (f a st1)
theorem out.bd {m : M α} {f : α → M γ} (h : out G S F ρ Rk Qk E (Y.bd m f st)) : out G S F ρ Rl (Then G S F ρ Rl Rk Qk E f) E (m st) := by
  unfold Y.bd at h
  cases e : m st with
  | ok a s =>
    rw [e] at h
    intro F1 ρ1 H1 u g r rl
    exact ⟨F1, ρ1, a, s, g, r, rl, out.mono (r := f a s) g h⟩
  | ex c s =>
    rw [e] at h
    exact h
  | bad =>
    rw [e] at h
    exact h
theorem out.imp {Q' : β → Hp → Prop} (hq : ∀ u H', Q u H' → Q' u H') : ∀ {r : R α}, out G S F ρ Rl Q E r → out G S F ρ Rl Q' E r
  | .ok _ _, h => fun F2 ρ2 H2 u g r rl => hq u H2 (h F2 ρ2 H2 u g r rl)
  | .ex _ _, h => h
  | .bad, h => h
end
def BR : Hp → List Addr → Bool → Bool → Prop := fun _ _ b c => b = c
def IR : Hp → List Addr → Option Int → Option Int → Prop := fun _ _ b c => b = c
/-- an expression, arguments, a test, a slice's part -/
def lE (G : Glo) (E : XK) (f : Y.E) : TE := fun σ H Q => ∃ (S F : Hp) (ρ : List Addr) (loc : Loc) (st : Store), Rep G S F ρ H st ∧ LR G F ρ σ loc ∧ out G S F ρ (VR G) Q E (f loc st)
def lA (G : Glo) (E : XK) (f : Y.A) : TA := fun σ H Q => ∃ (S F : Hp) (ρ : List Addr) (loc : Loc) (st : Store), Rep G S F ρ H st ∧ LR G F ρ σ loc ∧ out G S F ρ (VRs G) Q E (f loc st)
def lT (G : Glo) (E : XK) (f : Tst) : TT := fun σ H Q => ∃ (S F : Hp) (ρ : List Addr) (loc : Loc) (st : Store), Rep G S F ρ H st ∧ LR G F ρ σ loc ∧ out G S F ρ BR Q E (f loc st)
def lO (G : Glo) (E : XK) (f : Oe) : TO := fun σ H Q => ∃ (S F : Hp) (ρ : List Addr) (loc : Loc) (st : Store), Rep G S F ρ H st ∧ LR G F ρ σ loc ∧ out G S F ρ IR Q E (f loc st)
section
variable {X : Cx} {G : Glo} {E : XK}
theorem PE.imp {X : Cx} {e : Expr} {t t' : TE} (h : PE X e t) (i : ∀ σ H Q, t' σ H Q → t σ H Q) : PE X e t' := ⟨fun pins s σ H Q I q => h.run pins s σ H Q I (i σ H Q q)⟩
theorem PT.imp {X : Cx} {e : Expr} {t t' : TT} (h : PT X e t) (i : ∀ σ H Q, t' σ H Q → t σ H Q) : PT X e t' := ⟨fun pins s σ H Q I q => h.run pins s σ H Q I (i σ H Q q)⟩
theorem PW.imp {X : Cx} {e : Expr} {t t' : TT} (h : PW X e t) (i : ∀ σ H Q, t' σ H Q → t σ H Q) : PW X e t' := ⟨fun wh pins s σ H Q I q => h.run wh pins s σ H Q I (i σ H Q q)⟩
theorem PA.imp {X : Cx} {e : List Expr} {t t' : TA} (h : PA X e t) (i : ∀ σ H Q, t' σ H Q → t σ H Q) : PA X e t' := ⟨fun pos pins s σ H Q I q => h.run pos pins s σ H Q I (i σ H Q q)⟩
theorem PO.imp {X : Cx} {e : Option Expr} {t t' : TO} (h : PO X e t) (i : ∀ σ H Q, t' σ H Q → t σ H Q) : PO X e t' := ⟨fun pins s σ H Q I q => h.run pins s σ H Q I (i σ H Q q)⟩
theorem PS.imp {X : Cx} {e : Stmt} {t t' : TS} (h : PS X e t) (i : ∀ D σ H, t' D σ H → t D σ H) : PS X e t' := ⟨fun pins s σ H D I q => h.run pins s σ H D I (i D σ H q)⟩
theorem PSs.imp {X : Cx} {e : List Stmt} {t t' : TS} (h : PSs X e t) (i : ∀ D σ H, t' D σ H → t D σ H) : PSs X e t' := ⟨fun pins s σ H D I q => h.run pins s σ H D I (i D σ H q)⟩
theorem PTs.imp {X : Cx} {e : List Expr} {t t' : TT} (h : PTs X e t) (i : ∀ σ H Q, t' σ H Q → t σ H Q) : PTs X e t' := ⟨fun pins s σ H Q I q => h.run pins s σ H Q I (i σ H Q q)⟩
theorem PI.imp {X : Cx} {tg e : Expr} {t t' : TI} (h : PI X tg e t) (i : ∀ σ H Q, t' σ H Q → t σ H Q) : PI X tg e t' := ⟨fun pins s σ H Q I q => h.run pins s σ H Q I (i σ H Q q)⟩
theorem PG.imp {X : Cx} {tg : Expr} {t t' : TG} (h : PG X tg t) (i : ∀ v σ H Q, t' v σ H Q → t v σ H Q) : PG X tg t' := ⟨fun pins s σ H v u Q I r q => h.run pins s σ H v u Q I r (i v σ H Q q)⟩
theorem PGs.imp {X : Cx} {tg : List Expr} {t t' : TGs} (h : PGs X tg t) (i : ∀ v σ H Q, t' v σ H Q → t v σ H Q) : PGs X tg t' := ⟨fun pins s σ H v u Q I r q => h.run pins s σ H v u Q I r (i v σ H Q q)⟩
/-! ### names, constants -/
theorem qe_var (i : Nat) {x : Str} {pos : Pos} (hN : X.N[i]? = some x := by rfl) (hv : Vis X.env.scope x := by first | exact Or.inl rfl | exact Or.inr (Or.inl rfl) | exact Or.inr (Or.inr rfl)) (hd : (x == ("__debug__" : Str)) = false := by decide)
    (hcd : (x == ("__classdict__" : Str)) = false := by decide) : PE X (.Name x pos) (lE G E (eV i)) := by
  refine PE.imp (pe_var (i := i) hN hv hd hcd) fun σ H Q h => ?_
  obtain ⟨S, F, ρ, loc, st, r, l, o⟩ := h
  unfold eV at o
  cases e : loc[i]? with
  | none => rw [e] at o; exact o.elim
  | some w =>
    cases w with
    | none => rw [e] at o; exact o.elim
    | some v =>
      rw [e] at o
      obtain ⟨u, h1, h2⟩ := l.2 i v e
      exact ⟨u, h1, out.at (v := v) o r h2⟩
theorem lE_C {x : D} {v : V} (hx : ∀ F, Dt F v x) : ∀ σ H Q, lE G E (eC x) σ H Q → tC v σ H Q := fun σ H Q ⟨S, F, ρ, loc, st, r, l, o⟩ => out.at (v := Val.d x) o r (hx F)
theorem qe_int {i j pos} : PE X (.Constant (.int i) j pos) (lE G E (eC (.int i))) := PE.imp pe_int (lE_C fun _ => .int i)
theorem qe_bl {b j pos} : PE X (.Constant (.bool b) j pos) (lE G E (eC (.bool b))) := PE.imp pe_bl (lE_C fun _ => .bl b)
theorem qe_non {j pos} : PE X (.Constant .none j pos) (lE G E (eC .none)) := PE.imp pe_non (lE_C fun _ => .non)
theorem qe_str {x j pos} : PE X (.Constant (.str x) j pos) (lE G E (eC (.str x))) := PE.imp pe_str (lE_C fun _ => .str x)
/-- a module's int or text -/
theorem qe_gint {x : Str} {i : Int} {u : Value} {pos : Pos} (hg : Gl X x) (hm : X.mg x = some u) (r : RelV (.int i) u) (hd : (x == ("__debug__" : Str)) = false := by decide) : PE X (.Name x pos) (lE G E (eC (.int i))) := PE.imp (pe_glob hg hm r hd) (lE_C fun _ => .int i)
theorem qe_gstr {x : Str} {i : Str} {u : Value} {pos : Pos} (hg : Gl X x) (hm : X.mg x = some u) (r : RelV (.str i) u) (hd : (x == ("__debug__" : Str)) = false := by decide) : PE X (.Name x pos) (lE G E (eC (.str i))) := PE.imp (pe_glob hg hm r hd) (lE_C fun _ => .str i)
/-! ### operators -/
def OSnd (G : Glo) (r : R2) (op : Val → Val → M Val) : Prop := ∀ (S F : Hp) (ρ : List Addr) (H : Hp) (st : Store) (x y : V) (a b : Val) (Q : VK) (E : XK), Rep G S F ρ H st → VR G F ρ x a → VR G F ρ y b → out G S F ρ (VR G) Q E (op a b st) → r x y H Q
def USnd (G : Glo) (r : V → Hp → VK → Prop) (op : Val → M Val) : Prop := ∀ (S F : Hp) (ρ : List Addr) (H : Hp) (st : Store) (x : V) (a : Val) (Q : VK) (E : XK), Rep G S F ρ H st → VR G F ρ x a → out G S F ρ (VR G) Q E (op a st) → r x H Q
def BSnd (G : Glo) (r : List V → Hp → VK → Prop) (b : List Val → M Val) : Prop := ∀ (S F : Hp) (ρ : List Addr) (H : Hp) (st : Store) (xs : List V) (as : List Val) (Q : VK) (E : XK), Rep G S F ρ H st → VRs G F ρ xs as → out G S F ρ (VR G) Q E (b as st) → r xs H Q
theorem lE_O {r : R2} {op : Val → Val → M Val} (hs : OSnd G r op) {fa fb : Y.E} : ∀ σ H Q, lE G E (eO op fa fb) σ H Q → tOp r (lE G E fa) (lE G E fb) σ H Q := fun σ H Q ⟨S, F, ρ, loc, st, rp, l, o⟩ => by
  refine ⟨S, F, ρ, loc, st, rp, l, out.imp (fun x H1 h1 => ?_) (out.bd (Rl := VR G) o)⟩
  obtain ⟨F1, ρ1, a, st1, g1, r1, v1, o1⟩ := h1
  refine ⟨S, F1, ρ1, loc, st1, r1, l.mono g1, out.imp (fun y H2 h2 => ?_) (out.bd (Rl := VR G) o1)⟩
  obtain ⟨F2, ρ2, b, st2, g2, r2, v2, o2⟩ := h2
  exact hs S F2 ρ2 H2 st2 x y a b Q E r2 (v1.mono g2) v2 o2
theorem qe_op {op : Operator} {r : R2} {f : Val → Val → M Val} {a b : Expr} {fa fb : Y.E} {pos : Pos} (ho : OpR X (binaryOp op) r) (hs : OSnd G r f) (ha : PE X a (lE G E fa)) (hb : PE X b (lE G E fb)) : PE X (.BinOp a op b pos) (lE G E (eO f fa fb)) := PE.imp (pe_op ho ha hb) (lE_O hs)
theorem qe_cmp {op : CmpOp} {r : R2} {f : Val → Val → M Val} {a b : Expr} {fa fb : Y.E} {pos : Pos} (ho : OpR X (compareOp op) r) (hs : OSnd G r f) (ha : PE X a (lE G E fa)) (hb : PE X b (lE G E fb)) (hm : behindInMarks op b = false) : PE X (.Compare a [op] [b] pos) (lE G E (eO f fa fb)) := PE.imp (pe_cmpR ho ha hb hm) (lE_O hs)
theorem qe_ix {r : R2} {f : Val → Val → M Val} {a b : Expr} {fa fb : Y.E} {pos : Pos} (ho : IxR X r) (hs : OSnd G r f) (ha : PE X a (lE G E fa)) (hb : PE X b (lE G E fb)) (hp : PlainIx b) : PE X (.Subscript a b pos) (lE G E (eO f fa fb)) := PE.imp (pe_ix ho ha hb hp) (lE_O hs)
theorem qe_un {op : UnaryOp} {r : V → Hp → VK → Prop} {f : Val → M Val} {a : Expr} {fa : Y.E} {pos : Pos} (ho : UnR X (unaryOp op) r) (hs : USnd G r f) (ha : PE X a (lE G E fa)) : PE X (.UnaryOp op a pos) (lE G E (eU f fa)) := by
  refine PE.imp (pe_un ho ha) fun σ H Q ⟨S, F, ρ, loc, st, rp, l, o⟩ => ⟨S, F, ρ, loc, st, rp, l, out.imp (fun x H1 h1 => ?_) (out.bd (Rl := VR G) o)⟩
  obtain ⟨F1, ρ1, a, st1, g1, r1, v1, o1⟩ := h1
  exact hs S F1 ρ1 H1 st1 x a Q E r1 v1 o1
/-! ### arguments, calls -/
theorem qa_nil : PA X [] (lA G E aN) := PA.imp pa_nil fun σ H Q ⟨S, F, ρ, loc, st, rp, l, o⟩ => out.at (v := ([] : List Val)) o rp .nil
theorem qa_cons {e : Expr} {es : List Expr} {f : Y.E} {fs : Y.A} (h : PE X e (lE G E f)) (hr : PA X es (lA G E fs)) (hs : starEach (e :: es) X.env = (false, eval e X.env) :: starEach es X.env := by rfl) : PA X (e :: es) (lA G E (aC f fs)) := by
  refine PA.imp (pa_cons h hr hs) fun σ H Q ⟨S, F, ρ, loc, st, rp, l, o⟩ => ⟨S, F, ρ, loc, st, rp, l, out.imp (fun x H1 h1 => ?_) (out.bd (Rl := VR G) o)⟩
  obtain ⟨F1, ρ1, a, st1, g1, r1, v1, o1⟩ := h1
  refine ⟨S, F1, ρ1, loc, st1, r1, l.mono g1, out.imp (fun y H2 h2 => ?_) (out.bd (Rl := VRs G) o1)⟩
  obtain ⟨F2, ρ2, b, st2, g2, r2, v2, o2⟩ := h2
  exact out.at (v := a :: b) o2 r2 (.cons (v1.mono g2) v2)
theorem lE_B {r : List V → Hp → VK → Prop} {b : List Val → M Val} (hs : BSnd G r b) {fa : Y.A} : ∀ σ H Q, lE G E (eB b fa) σ H Q → tCB r (lA G E fa) σ H Q := fun σ H Q ⟨S, F, ρ, loc, st, rp, l, o⟩ => by
  refine ⟨S, F, ρ, loc, st, rp, l, out.imp (fun x H1 h1 => ?_) (out.bd (Rl := VRs G) o)⟩
  obtain ⟨F1, ρ1, a, st1, g1, r1, v1, o1⟩ := h1
  exact hs S F1 ρ1 H1 st1 x a Q E r1 v1 o1
end

section
variable {X : Cx} {G : Glo} {E : XK}
theorem qe_callB {r : List V → Hp → VK → Prop} {b : List Val → M Val} {x : Str} {p pos : Pos} {e : Expr} {es : List Expr} {fa : Y.A} {id : String} (hr : CallR X (.builtin id) r) (hs : BSnd G r b) (hg : Gl X x) (hm : X.mg x = none) (hv : bootBuiltins x = some (.builtin id)) (ha : PA X (e :: es) (lA G E fa))
    (hn : x ≠ Str.ofString "__name__" := by decide) (hd : (x == Str.ofString "__debug__") = false := by decide) (he : starEach (e :: es) X.env = (false, eval e X.env) :: starEach es X.env := by rfl) (hpl : (backTo pos (starEach es X.env)).any (·.1) = false := by rfl) :
    PE X (.Call (.Name x p) (e :: es) [] pos) (lE G E (eB b fa)) := PE.imp (pe_callB hr hg hm hv ha hn hd he hpl) (lE_B hs)
theorem qe_callTy {r : List V → Hp → VK → Prop} {b : List Val → M Val} {x : Str} {p pos : Pos} {e : Expr} {es : List Expr} {fa : Y.A} {T : String} (hr : CallR X (.type T) r) (hs : BSnd G r b) (hg : Gl X x) (hm : X.mg x = none) (hv : bootBuiltins x = some (.type T)) (ha : PA X (e :: es) (lA G E fa))
    (hn : x ≠ Str.ofString "__name__" := by decide) (hd : (x == Str.ofString "__debug__") = false := by decide) (he : starEach (e :: es) X.env = (false, eval e X.env) :: starEach es X.env := by rfl) (hpl : (backTo pos (starEach es X.env)).any (·.1) = false := by rfl) :
    PE X (.Call (.Name x p) (e :: es) [] pos) (lE G E (eB b fa)) := PE.imp (pe_callTy hr hg hm hv ha hn hd he hpl) (lE_B hs)
/-! ### a def's promise -/
def spF (G : Glo) (n : Nat) (f : List Val → M Val) : Sp := fun vs H Q E => ∃ (S F : Hp) (ρ : List Addr) (st : Store) (as : List Val), Rep G S F ρ H st ∧ VRs G F ρ vs as ∧ as.length = n ∧ out G S F ρ (VR G) Q E (f as st)
theorem lE_call {n : Nat} {f : List Val → M Val} {fa : Y.A} : ∀ σ H Q, lE G E (eB (fixN n f) fa) σ H Q → tCallS (spF G n f) (fun _ => E) (lA G E fa) σ H Q := fun σ H Q ⟨S, F, ρ, loc, st, rp, l, o⟩ => by
  refine ⟨S, F, ρ, loc, st, rp, l, out.imp (fun x H1 h1 => ?_) (out.bd (Rl := VRs G) o)⟩
  obtain ⟨F1, ρ1, a, st1, g1, r1, v1, o1⟩ := h1
  unfold fixN at o1
  split at o1
  · rename_i hl
    exact ⟨S, F1, ρ1, st1, a, r1, v1, hl, o1⟩
  · exact o1.elim
theorem qe_call {CX : CXT} {k n : Nat} {f : Addr} {fd : FuncData} {ps : List Str} {sem : List Val → M Val} {x : Str} {p pos : Pos} {e : Expr} {es : List Expr} {fa : Y.A} (Fo : FnOk X.prog X.w X.K X.mg X.base CX k f fd ps (spF G n sem)) (hr : Room k X.A) (hg : Gl X x) (hm : X.mg x = some (.ref f)) (hk : PySem.W.keepIn X.K (.ref f) = true) (hb : Binds X.K fd ps []) (hx : ∀ σ, PassesAt CX X σ E)
    (ha : PA X (e :: es) (lA G E fa)) (hdb : (x == ("__debug__" : Str)) = false := by decide) (he : starEach (e :: es) X.env = (false, eval e X.env) :: starEach es X.env := by rfl) (hpl : (backTo pos (starEach es X.env)).any (·.1) = false := by rfl) :
    PE X (.Call (.Name x p) (e :: es) [] pos) (lE G E (eB (fixN n sem) fa)) := PE.imp (pe_callS (E := fun _ => E) Fo hr hg hm hk hb hx ha hdb he hpl) lE_call
/-! ### displays -/
theorem toDs_rel {F : Hp} {ρ : List Addr} : ∀ {us : List V} {vs : List Val} {ds : List D}, VRs G F ρ us vs → toDs vs = some ds → DtA F us ds
  | _, [], ds, .nil, e => by
    cases e
    exact .nil
  | _, .d x :: r, ds, .cons h k, e => by
    unfold toDs at e
    cases q : toDs r with
    | none => rw [q] at e; cases e
    | some es =>
      rw [q] at e
      cases e
      exact .cons h (toDs_rel k q)
  | _, .o _ :: r, ds, .cons h k, e => by cases e
  | _, .s _ :: r, ds, .cons h k, e => by cases e
theorem lim_le : lim ≤ sizeLine := by rw [sizeLine_eq]; decide
theorem sz {n : Nat} (h : n ≤ lim) : n ≤ sizeLine := Nat.le_trans h lim_le
theorem sz' {n : Nat} (h : n < lim) : n < sizeLine := Nat.lt_of_lt_of_le h lim_le
theorem tup_nt {xs : List V} : ∀ ps, HO.tup xs ≠ .tbl ps := fun _ z => by cases z
theorem lst_nt {xs : List V} : ∀ ps, HO.lst xs ≠ .tbl ps := fun _ z => by cases z
/-- data handed on as a new tuple -/
theorem out_tup {S F : Hp} {ρ : List Addr} {H : Hp} {st : Store} {Q : VK} {E : XK} {us : List V} {ds : List D} (r : Rep G S F ρ H st) (h : DtA F us ds) (o : out G S F ρ (VR G) Q E (.ok (.d (.tuple ds)) st)) (p : Addr) (hp : H p = none) : Q (.ref p) (upd H p (.tup us)) := by
  obtain ⟨r', g⟩ := r.new hp (tup_nt (xs := us))
  exact o _ _ _ _ g r' (Dt.tup upd_same (h.mono g.f))
theorem out_lst {S F : Hp} {ρ : List Addr} {H : Hp} {st : Store} {Q : VK} {E : XK} {us : List V} {ds : List D} (r : Rep G S F ρ H st) (h : DtA F us ds) (o : out G S F ρ (VR G) Q E (.ok (.d (.list ds)) st)) (p : Addr) (hp : H p = none) : Q (.ref p) (upd H p (.lst us)) := by
  obtain ⟨r', g⟩ := r.new hp (lst_nt (xs := us))
  exact o _ _ _ _ g r' (Dt.lst upd_same (h.mono g.f))
theorem out_own {S F : Hp} {ρ : List Addr} {H : Hp} {st : Store} {Q : VK} {E : XK} {us : List V} {vs : List Val} (r : Rep G S F ρ H st) (h : VRs G F ρ us vs) (o : out G S F ρ (VR G) Q E (.ok (.o st.length) (st ++ [.lst vs]))) (p : Addr) (hp : H p = none) : Q (.ref p) (upd H p (.lst us)) := by
  obtain ⟨r', g⟩ := r.push (ob := .lst vs) hp ⟨us, rfl, h⟩
  refine o _ _ _ _ g r' ⟨p, ?_, rfl⟩
  rw [List.getElem?_append_right (by rw [r.len]; exact Nat.le_refl _), r.len]
  simp
theorem qe_tup {es : List Expr} {fa : Y.A} {x1 : Nat} {pos : Pos} (h : PA X es (lA G E fa)) : PE X (.Tuple es x1 pos) (lE G E (eB bTup fa)) := by
  refine PE.imp (pe_tup h) fun σ H Q ⟨S, F, ρ, loc, st, rp, l, o⟩ => ⟨S, F, ρ, loc, st, rp, l, out.imp (fun x H1 h1 => ?_) (out.bd (Rl := VRs G) o)⟩
  obtain ⟨F1, ρ1, a, st1, g1, r1, v1, o1⟩ := h1
  unfold bTup at o1
  cases hd : toDs a with
  | none =>
    rw [hd] at o1
    exact o1.elim
  | some ds =>
    rw [hd] at o1
    dsimp only at o1
    by_cases hl : ds.length ≤ lim
    · rw [if_pos hl] at o1
      have hq := toDs_rel v1 hd
      exact ⟨sz (by rw [hq.length]; exact hl), fun p hp => out_tup r1 hq o1 p hp⟩
    · rw [if_neg hl] at o1
      exact o1.elim
theorem qe_lst {es : List Expr} {fa : Y.A} {pos : Pos} (h : PA X es (lA G E fa)) : PE X (.List es pos) (lE G E (eB bLst fa)) := by
  refine PE.imp (pe_lst h) fun σ H Q ⟨S, F, ρ, loc, st, rp, l, o⟩ => ⟨S, F, ρ, loc, st, rp, l, out.imp (fun x H1 h1 => ?_) (out.bd (Rl := VRs G) o)⟩
  obtain ⟨F1, ρ1, a, st1, g1, r1, v1, o1⟩ := h1
  unfold bLst at o1
  cases hd : toDs a with
  | none =>
    rw [hd] at o1
    exact o1.elim
  | some ds =>
    rw [hd] at o1
    dsimp only at o1
    by_cases hl : ds.length ≤ lim
    · rw [if_pos hl] at o1
      have hq := toDs_rel v1 hd
      exact ⟨sz (by rw [hq.length]; exact hl), fun p hp => out_lst r1 hq o1 p hp⟩
    · rw [if_neg hl] at o1
      exact o1.elim
/-- a list that may change -/
theorem qe_new {es : List Expr} {fa : Y.A} {pos : Pos} (h : PA X es (lA G E fa)) : PE X (.List es pos) (lE G E (eB bNew fa)) := by
  refine PE.imp (pe_lst h) fun σ H Q ⟨S, F, ρ, loc, st, rp, l, o⟩ => ⟨S, F, ρ, loc, st, rp, l, out.imp (fun x H1 h1 => ?_) (out.bd (Rl := VRs G) o)⟩
  obtain ⟨F1, ρ1, a, st1, g1, r1, v1, o1⟩ := h1
  unfold bNew at o1
  split at o1
  · rename_i hl
    exact ⟨sz (by rw [v1.length]; exact hl), fun p hp => out_own r1 v1 o1 p hp⟩
  · exact o1.elim
/-! ### tests -/
theorem asB_of {S F : Hp} {ρ : List Addr} {H : Hp} {st : Store} {Q : Bool → Hp → Prop} {E : XK} {x : V} {a : Val} (r : Rep G S F ρ H st) (h : VR G F ρ x a) (o : out G S F ρ BR Q E (asB a st)) : ∃ c, x = .bl c ∧ Q c H := by
  unfold asB at o
  split at o
  · rename_i b
    cases (show Dt F x (.bool b) from h) with
    | bl _ => exact ⟨b, rfl, out.at (v := b) o r rfl⟩
  · exact o.elim
theorem qt_val {e : Expr} {f : Y.E} (h : PE X e (lE G E f)) (he : ∀ whole, isTrue e X.env whole = (do let v ← whole; standAt e.pos; holding [v] (truthy v)) := by intro _; rfl) : PT X e (lT G E (tV f)) := by
  refine PT.imp (pt_val h he) fun σ H Q ⟨S, F, ρ, loc, st, rp, l, o⟩ => ⟨S, F, ρ, loc, st, rp, l, out.imp (fun x H1 h1 => ?_) (out.bd (Rl := VR G) o)⟩
  obtain ⟨F1, ρ1, a, st1, g1, r1, v1, o1⟩ := h1
  exact asB_of r1 v1 o1
/-- a comparison as a test (its own rule) -/
theorem qt_cmp {op : CmpOp} {r : R2} {f : Val → Val → M Val} {a b : Expr} {fa fb : Y.E} {pos : Pos} (ho : OpR X (compareOp op) r) (hs : OSnd G r f) (ha : PE X a (lE G E fa)) (hb : PE X b (lE G E fb)) (hm : behindInMarks op b = false) : PT X (.Compare a [op] [b] pos) (lT G E (tV (eO f fa fb))) := by
  refine PT.imp (pt_cmpR ho ha hb hm) fun σ H Q ⟨S, F, ρ, loc, st, rp, l, o⟩ => ?_
  refine lE_O (E := E) hs σ H _ ⟨S, F, ρ, loc, st, rp, l, out.imp (fun x H1 h1 => ?_) (out.bd (Rl := VR G) o)⟩
  obtain ⟨F1, ρ1, a, st1, g1, r1, v1, o1⟩ := h1
  exact asB_of r1 v1 o1
theorem lT_not {t : Tst} : ∀ σ H Q, lT G E (tNo t) σ H Q → tNot (lT G E t) σ H Q := fun σ H Q ⟨S, F, ρ, loc, st, rp, l, o⟩ => by
  refine ⟨S, F, ρ, loc, st, rp, l, out.imp (fun x H1 h1 => ?_) (out.bd (Rl := BR) o)⟩
  obtain ⟨F1, ρ1, a, st1, g1, r1, v1, o1⟩ := h1
  cases v1
  exact out.at (v := !x) o1 r1 rfl
theorem qt_not {e : Expr} {t : Tst} {pos : Pos} (h : PT X e (lT G E t)) : PT X (.UnaryOp .Not e pos) (lT G E (tNo t)) := PT.imp (pt_not h) lT_not
theorem lT_and {t u : Tst} : ∀ σ H Q, lT G E (tAn t u) σ H Q → tAnd (lT G E t) (lT G E u) σ H Q := fun σ H Q ⟨S, F, ρ, loc, st, rp, l, o⟩ => by
  refine ⟨S, F, ρ, loc, st, rp, l, out.imp (fun x H1 h1 => ?_) (out.bd (Rl := BR) o)⟩
  obtain ⟨F1, ρ1, a, st1, g1, r1, v1, o1⟩ := h1
  cases v1
  cases x with
  | true => exact ⟨S, F1, ρ1, loc, st1, r1, l.mono g1, o1⟩
  | false => exact out.at (v := false) o1 r1 rfl
theorem lT_or {t u : Tst} : ∀ σ H Q, lT G E (tOrr t u) σ H Q → tOr (lT G E t) (lT G E u) σ H Q := fun σ H Q ⟨S, F, ρ, loc, st, rp, l, o⟩ => by
  refine ⟨S, F, ρ, loc, st, rp, l, out.imp (fun x H1 h1 => ?_) (out.bd (Rl := BR) o)⟩
  obtain ⟨F1, ρ1, a, st1, g1, r1, v1, o1⟩ := h1
  cases v1
  cases x with
  | true => exact out.at (v := true) o1 r1 rfl
  | false => exact ⟨S, F1, ρ1, loc, st1, r1, l.mono g1, o1⟩
theorem qw_and1 {a : Expr} {t : Tst} {pos : Pos} (h : PT X a (lT G E t)) : PW X (.BoolOp .And [a] pos) (lT G E t) := pw_and1 h
theorem qw_or1 {a : Expr} {t : Tst} {pos : Pos} (h : PT X a (lT G E t)) : PW X (.BoolOp .Or [a] pos) (lT G E t) := pw_or1 h
theorem qw_and {a b : Expr} {rest : List Expr} {t u : Tst} {pos : Pos} (h : PT X a (lT G E t)) (hb : PW X (.BoolOp .And (b :: rest) pos) (lT G E u)) : PW X (.BoolOp .And (a :: b :: rest) pos) (lT G E (tAn t u)) := PW.imp (pw_and h hb) lT_and
theorem qw_or {a b : Expr} {rest : List Expr} {t u : Tst} {pos : Pos} (h : PT X a (lT G E t)) (hb : PW X (.BoolOp .Or (b :: rest) pos) (lT G E u)) : PW X (.BoolOp .Or (a :: b :: rest) pos) (lT G E (tOrr t u)) := PW.imp (pw_or h hb) lT_or
/-! ### and, or, not as values -/
theorem qe_one {op : BoolOp} {a : Expr} {f : Y.E} {pos : Pos} (h : PE X a (lE G E f)) : PE X (.BoolOp op [a] pos) (lE G E f) := pe_one h
theorem qe_and {a b : Expr} {rest : List Expr} {f g : Y.E} {pos : Pos} (h : PE X a (lE G E f)) (hb : PE X (.BoolOp .And (b :: rest) pos) (lE G E g)) : PE X (.BoolOp .And (a :: b :: rest) pos) (lE G E (eAn f g)) := by
  refine PE.imp (pe_and h hb) fun σ H Q ⟨S, F, ρ, loc, st, rp, l, o⟩ => ⟨S, F, ρ, loc, st, rp, l, out.imp (fun x H1 h1 => ?_) (out.bd (Rl := VR G) o)⟩
  obtain ⟨F1, ρ1, a, st1, g1, r1, v1, o1⟩ := h1
  obtain ⟨c, hx, F2, ρ2, b, st2, g2, r2, v2, o2⟩ := asB_of r1 v1 (out.bd (Rl := BR) o1)
  refine ⟨c, hx, ?_⟩
  cases v2
  cases c with
  | true => exact ⟨S, F2, ρ2, loc, st2, r2, l.mono (g1.trans g2), o2⟩
  | false => exact out.at (v := vB false) o2 r2 (.bl false)
theorem qe_or {a b : Expr} {rest : List Expr} {f g : Y.E} {pos : Pos} (h : PE X a (lE G E f)) (hb : PE X (.BoolOp .Or (b :: rest) pos) (lE G E g)) : PE X (.BoolOp .Or (a :: b :: rest) pos) (lE G E (eOr f g)) := by
  refine PE.imp (pe_or h hb) fun σ H Q ⟨S, F, ρ, loc, st, rp, l, o⟩ => ⟨S, F, ρ, loc, st, rp, l, out.imp (fun x H1 h1 => ?_) (out.bd (Rl := VR G) o)⟩
  obtain ⟨F1, ρ1, a, st1, g1, r1, v1, o1⟩ := h1
  obtain ⟨c, hx, F2, ρ2, b, st2, g2, r2, v2, o2⟩ := asB_of r1 v1 (out.bd (Rl := BR) o1)
  refine ⟨c, hx, ?_⟩
  cases v2
  cases c with
  | true => exact out.at (v := vB true) o2 r2 (.bl true)
  | false => exact ⟨S, F2, ρ2, loc, st2, r2, l.mono (g1.trans g2), o2⟩
theorem qe_not {a : Expr} {f : Y.E} {pos : Pos} (h : PE X a (lE G E f)) : PE X (.UnaryOp .Not a pos) (lE G E (eNo f)) := by
  refine PE.imp (pe_not h) fun σ H Q ⟨S, F, ρ, loc, st, rp, l, o⟩ => ⟨S, F, ρ, loc, st, rp, l, out.imp (fun x H1 h1 => ?_) (out.bd (Rl := VR G) o)⟩
  obtain ⟨F1, ρ1, a, st1, g1, r1, v1, o1⟩ := h1
  obtain ⟨c, hx, F2, ρ2, b, st2, g2, r2, v2, o2⟩ := asB_of r1 v1 (out.bd (Rl := BR) o1)
  cases v2
  exact ⟨c, hx, out.at (v := vB (!c)) o2 r2 (.bl (!c))⟩
theorem qe_if {c a b : Expr} {t : Tst} {f g : Y.E} {pos : Pos} (hc : PT X c (lT G E t)) (ha : PE X a (lE G E f)) (hb : PE X b (lE G E g)) : PE X (.IfExp c a b pos) (lE G E (eIf t f g)) := by
  refine PE.imp (pe_ifExp hc ha hb) fun σ H Q ⟨S, F, ρ, loc, st, rp, l, o⟩ => ⟨S, F, ρ, loc, st, rp, l, out.imp (fun x H1 h1 => ?_) (out.bd (Rl := BR) o)⟩
  obtain ⟨F1, ρ1, a, st1, g1, r1, v1, o1⟩ := h1
  cases v1
  cases x with
  | true => exact ⟨S, F1, ρ1, loc, st1, r1, l.mono g1, o1⟩
  | false => exact ⟨S, F1, ρ1, loc, st1, r1, l.mono g1, o1⟩
theorem qe_chain {op op' : CmpOp} {r r' : R2} {f f' : Val → Val → M Val} {a b c : Expr} {fa fb fc : Y.E} {pos : Pos} (ho : OpR X (compareOp op) r) (hs : OSnd G r f) (ho' : OpR X (compareOp op') r') (hs' : OSnd G r' f') (ha : PE X a (lE G E fa)) (hb : PE X b (lE G E fb)) (hc : PE X c (lE G E fc))
    (hm : lastMarks [op, op'] [b, c] = false := by rfl) : PE X (.Compare a [op, op'] [b, c] pos) (lE G E (eCh f f' fa fb fc)) := by
  refine PE.imp (pe_chain ho ho' ha hb hc hm) fun σ H Q ⟨S, F, ρ, loc, st, rp, l, o⟩ => ⟨S, F, ρ, loc, st, rp, l, out.imp (fun x H1 h1 => ?_) (out.bd (Rl := VR G) o)⟩
  obtain ⟨F1, ρ1, a, st1, g1, r1, v1, o1⟩ := h1
  refine ⟨S, F1, ρ1, loc, st1, r1, l.mono g1, out.imp (fun y H2 h2 => ?_) (out.bd (Rl := VR G) o1)⟩
  obtain ⟨F2, ρ2, b, st2, g2, r2, v2, o2⟩ := h2
  refine hs S F2 ρ2 H2 st2 x y a b _ E r2 (v1.mono g2) v2 (out.imp (fun z H3 h3 => ?_) (out.bd (Rl := VR G) o2))
  obtain ⟨F3, ρ3, c, st3, g3, r3, v3, o3⟩ := h3
  obtain ⟨k, hx, F4, ρ4, b', st4, g4, r4, v4, o4⟩ := asB_of r3 v3 (out.bd (Rl := BR) o3)
  refine ⟨k, hx, ?_⟩
  cases v4
  cases k with
  | false => exact out.at (v := vB false) o4 r4 (.bl false)
  | true =>
    refine ⟨S, F4, ρ4, loc, st4, r4, l.mono (((g1.trans g2).trans g3).trans g4), out.imp (fun w H5 h5 => ?_) (out.bd (Rl := VR G) o4)⟩
    obtain ⟨F5, ρ5, e5, st5, g5, r5, v5, o5⟩ := h5
    exact hs' S F5 ρ5 H5 st5 y w b e5 Q E r5 (v2.mono ((g3.trans g4).trans g5)) v5 o5
/-! ### slices -/
theorem qo_none : PO X none (lO G E oN) := PO.imp po_none fun σ H Q ⟨S, F, ρ, loc, st, rp, l, o⟩ => out.at (v := (none : Option Int)) o rp rfl
theorem asI_of {S F : Hp} {ρ : List Addr} {H : Hp} {st : Store} {β : Type} {Q : Int → Hp → Prop} {E : XK} {x : V} {a : Val} (r : Rep G S F ρ H st) (h : VR G F ρ x a) (o : out G S F ρ (fun _ _ (i : Int) j => i = j) Q E (asI a st)) : ∃ c, x = .int c ∧ Q c H := by
  unfold asI at o
  split at o
  · rename_i b
    cases (show Dt F x (.int b) from h) with
    | int _ => exact ⟨b, rfl, out.at (v := b) o r rfl⟩
  · exact o.elim
theorem qo_some {e : Expr} {f : Y.E} (h : PE X e (lE G E f)) : PO X (some e) (lO G E (oS f)) := by
  refine PO.imp (po_some h) fun σ H Q ⟨S, F, ρ, loc, st, rp, l, o⟩ => ⟨S, F, ρ, loc, st, rp, l, out.imp (fun x H1 h1 => ?_) (out.bd (Rl := VR G) o)⟩
  obtain ⟨F1, ρ1, a, st1, g1, r1, v1, o1⟩ := h1
  obtain ⟨c, hx, F2, ρ2, b, st2, g2, r2, v2, o2⟩ := asI_of (β := Int) r1 v1 (out.bd (Rl := fun _ _ (i : Int) j => i = j) o1)
  cases v2
  exact ⟨c, hx, out.at (v := some c) o2 r2 rfl⟩
def LSnd (G : Glo) (r : V → Option Int → Option Int → Hp → VK → Prop) (f : Val → Option Int → Option Int → M Val) : Prop := ∀ (S F : Hp) (ρ : List Addr) (H : Hp) (st : Store) (x : V) (a : Val) (lo hi : Option Int) (Q : VK) (E : XK), Rep G S F ρ H st → VR G F ρ x a → out G S F ρ (VR G) Q E (f a lo hi st) → r x lo hi H Q
theorem qe_slice {r : V → Option Int → Option Int → Hp → VK → Prop} {e : Expr} {lo hi : Option Expr} {f : Y.E} {fl fh : Oe} {p2 pos : Pos} (hr : SlR X r) (hs : LSnd G r bSl) (he : PE X e (lE G E f)) (hl : PO X lo (lO G E fl)) (hu : PO X hi (lO G E fh)) : PE X (.Subscript e (.Slice lo hi none p2) pos) (lE G E (eSl f fl fh)) := by
  refine PE.imp (pe_slice hr he hl hu) fun σ H Q ⟨S, F, ρ, loc, st, rp, l, o⟩ => ⟨S, F, ρ, loc, st, rp, l, out.imp (fun x H1 h1 => ?_) (out.bd (Rl := VR G) o)⟩
  obtain ⟨F1, ρ1, a, st1, g1, r1, v1, o1⟩ := h1
  refine ⟨S, F1, ρ1, loc, st1, r1, l.mono g1, out.imp (fun y H2 h2 => ?_) (out.bd (Rl := IR) o1)⟩
  obtain ⟨F2, ρ2, b, st2, g2, r2, v2, o2⟩ := h2
  refine ⟨S, F2, ρ2, loc, st2, r2, l.mono (g1.trans g2), out.imp (fun z H3 h3 => ?_) (out.bd (Rl := IR) o2)⟩
  obtain ⟨F3, ρ3, c, st3, g3, r3, v3, o3⟩ := h3
  cases v2
  cases v3
  exact hs S F3 ρ3 H3 st3 x a _ _ Q E r3 (v1.mono (g2.trans g3)) o3
end
end Y
end
section
set_option Elab.async false
set_option Elab.async false
set_option linter.all false
set_option maxRecDepth 100000
set_option maxHeartbeats 1000000
/-! Stm: targets, walks, comprehensions, statements, defs, lifted. -/
namespace Y
open PySem PySem.Spec PyProof.Rows L2
/-! ### targets -/
theorem wipe_get {σ : L2.St} {j : Nat} : ∀ {vs : List Nat}, j ∈ vs → (L2.wipe σ vs)[j]? = if j < σ.length then some none else none
  | [], h => by cases h
  | v :: vs, h => by
    unfold L2.wipe
    rw [List.getElem?_set]
    by_cases e : v = j
    · subst e
      rw [if_pos rfl, L2.wipe_length]
    · rw [if_neg e]
      exact wipe_get (by simpa [Ne.symm e] using h)
theorem wipe_set {σ : L2.St} {i : Nat} {x : Option V} {vs : List Nat} (h : i ∈ vs) : L2.wipe (σ.set i x) vs = L2.wipe σ vs := by
  refine List.ext_getElem? fun j => ?_
  by_cases hj : j ∈ vs
  · rw [wipe_get hj, wipe_get hj, List.length_set]
  · rw [wipe_out hj, wipe_out hj, List.getElem?_set, if_neg (fun e => hj (by rw [← e]; exact h))]
def TR (G : Glo) (vs : List Nat) (σ : L2.St) : Hp → List Addr → L2.St → Loc → Prop := fun F ρ σ' loc' => LR G F ρ σ' loc' ∧ L2.wipe σ' vs = L2.wipe σ vs
def lG (G : Glo) (E : XK) (vs : List Nat) (g : Y.G) : TG := fun v σ H Q => ∃ (S F : Hp) (ρ : List Addr) (loc : Loc) (st : Store) (x : Val), Rep G S F ρ H st ∧ LR G F ρ σ loc ∧ VR G F ρ v x ∧ out G S F ρ (TR G vs σ) Q E (g x loc st)
def lGs (G : Glo) (E : XK) (vs : List Nat) (g : Y.Gs) : TGs := fun v σ H Q => ∃ (S F : Hp) (ρ : List Addr) (loc : Loc) (st : Store) (x : List Val), Rep G S F ρ H st ∧ LR G F ρ σ loc ∧ VRs G F ρ v x ∧ out G S F ρ (TR G vs σ) Q E (g x loc st)
section
variable {X : Cx} {G : Glo} {E : XK} {vs : List Nat}
theorem qg_name (i : Nat) {x : Str} {pos : Pos} (hN : X.N.Nodup) (hi : X.N[i]? = some x) (hx : L2.Loc X.env.scope x) (hv : i ∈ vs := by decide) (hf : X.fn x = true ∨ X.env.scope.names.lookup x = some .local := by first | exact .inl rfl | exact .inr rfl | assumption) : PG X (.Name x pos) (lG G E vs (gN i)) := by
  refine PG.imp (pg_name (i := i) hN hi hx hf) fun v σ H Q ⟨S, F, ρ, loc, st, y, rp, l, r, o⟩ => ?_
  exact out.at (v := loc.set i (some y)) o rp ⟨l.set r i, wipe_set hv⟩
theorem qgs_nil : PGs X [] (lGs G E vs gsN) := by
  refine PGs.imp pgs_nil fun v σ H Q ⟨S, F, ρ, loc, st, y, rp, l, r, o⟩ => ?_
  cases r with
  | nil => exact ⟨rfl, out.at (v := loc) o rp ⟨l, rfl⟩⟩
  | cons _ _ => exact o.elim
theorem qgs_cons {e : Expr} {es : List Expr} {g : Y.G} {gs : Y.Gs} (h1 : PG X e (lG G E vs g)) (h2 : PGs X es (lGs G E vs gs)) (hs : List.map (fun x => x.snd) (assignEach (e :: es) X.env) = assign e X.env :: List.map (fun x => x.snd) (assignEach es X.env) := by rfl) : PGs X (e :: es) (lGs G E vs (gsC g gs)) := by
  refine PGs.imp (pgs_cons h1 h2 hs) fun v σ H Q ⟨S, F, ρ, loc, st, y, rp, l, r, o⟩ => ?_
  cases r with
  | nil => exact o.elim
  | @cons v1 y1 vr yr r1 rr =>
    refine ⟨v1, vr, rfl, S, F, ρ, loc, st, y1, rp, l, r1, out.imp (fun σ1 H1 h => ?_) (out.bd (Rl := TR G vs σ) o)⟩
    obtain ⟨F1, ρ1, loc1, st1, g1, rp1, ⟨l1, w1⟩, o1⟩ := h
    refine ⟨S, F1, ρ1, loc1, st1, yr, rp1, l1, VRs.mono g1 rr, ?_⟩
    unfold TR at o1 ⊢
    rw [w1]
    exact o1
theorem dt_vrs {F : Hp} {ρ : List Addr} : ∀ {us : List V} {ds : List D}, DtA F us ds → VRs G F ρ us (ds.map .d)
  | _, _, .nil => .nil
  | _, _, .cons h k => .cons h (dt_vrs k)
theorem qg_tup {es : List Expr} {k n : Nat} {gs : Y.Gs} {pos : Pos} (hc : X.calm = true) (h : PGs X es (lGs G E vs gs)) (hl : (assignEach es X.env).length = n := by rfl) (hf : List.findIdx? (fun x => x.fst) (assignEach es X.env) = none := by rfl) : PG X (.Tuple es k pos) (lG G E vs (gT n gs)) := by
  refine PG.imp (pg_tup hc h hl hf) fun v σ H Q ⟨S, F, ρ, loc, st, y, rp, l, r, o⟩ => ?_
  cases y with
  | o _ => exact o.elim
  | s _ => exact o.elim
  | d x =>
    cases x with
    | tuple ds =>
      cases (show Dt F v (.tuple ds) from r) with
      | @tup a xs ds ha hd =>
        have o' : out G S F ρ (TR G vs σ) Q E ((if ds.length = n then gs (ds.map .d) loc else die) st) := o
        by_cases e : ds.length = n
        · rw [if_pos e] at o'
          exact ⟨a, xs, rfl, SqT.of (rp.ex _ _ ha), by rw [hd.length]; exact e, S, F, ρ, loc, st, ds.map .d, rp, l, dt_vrs hd, o'⟩
        · rw [if_neg e] at o'
          exact o'.elim
    | none => exact o.elim
    | bool _ => exact o.elim
    | int _ => exact o.elim
    | str _ => exact o.elim
    | list _ => exact o.elim
    | dict _ => exact o.elim
end
/-! ### what is walked -/
structure JW (G : Glo) (F : Hp) (ρ : List Addr) (J : It) (xs : List Val) : Prop where
  goes : ∀ (i : Nat) (H : Hp), i < xs.length → Exn F H → J.go i H
  stops : ∀ (H : Hp), Exn F H → J.stop xs.length H
  yields : ∀ (i : Nat) (H : Hp) (x : V) (H' : Hp), i < xs.length → Exn F H → J.yld i H x H' → (H' = H ∧ ∃ y, xs[i]? = some y ∧ VR G F ρ x y) ∨
    (∃ (T : Addr) (vs : List V) (ds : List D), H T = none ∧ H' = upd H T (.tup vs) ∧ x = .ref T ∧ xs[i]? = some (.d (.tuple ds)) ∧ DtA F vs ds) ∨
    (∃ (T : Addr) (vs : List V) (ds : List D), H T = some (.tup vs) ∧ H' = H ∧ x = .ref T ∧ xs[i]? = some (.d (.tuple ds)) ∧ DtA F vs ds)
def JR (G : Glo) : Hp → List Addr → It → List Val → Prop := fun F ρ J xs => JW G F ρ J xs
def lI (G : Glo) (E : XK) (s : Y.I) : TI := fun σ H R => ∃ (S F : Hp) (ρ : List Addr) (loc : Loc) (st : Store), Rep G S F ρ H st ∧ LR G F ρ σ loc ∧ out G S F ρ (JR G) R E (s loc st)
section
variable {X : Cx} {G : Glo} {E : XK} {tg : Expr}
/-- a list or a tuple -/
def iSq (K : PySem.W.Frag) (tl : TE) : TI := fun σ H R => tl σ H fun x H1 => ∃ a, x = .ref a ∧ (((∃ xs, SqL K H1 a xs) ∧ R (Itl K a) H1) ∨ ((∃ xs, SqT K H1 a xs) ∧ R (Itt K a) H1))
theorem pi_seq {l : Expr} {tl : TE} (hl : PE X l tl) : PI X tg l (iSq X.K tl) := by
  refine ⟨fun pins s σ H R I h => ?_⟩
  refine thn (hl.run pins s σ H _ I h) fun v s1 ⟨x, H1, I1, r1, q1⟩ => ?_
  obtain ⟨a, e, q1⟩ := q1
  subst e
  rcases q1 with ⟨⟨xs, hq⟩, q⟩ | ⟨⟨xs, hq⟩, q⟩
  · cases r1
    obtain ⟨its, rv, p, hz⟩ := I1.list hq
    refine wpAny_pyIter_list p.isList ?_
    refine ⟨s1.heap.objs.size, [s1.heap.objs.size], _, _, H1, rfl, I1.kept (t' := s1.toks) fun b o e => Heap.get?_push_of_some _ e, turn_list a _, ⟨_, Heap.get?_push_size _ rfl, rfl, rfl⟩, fun b hb => ?_, q⟩
    have e : b = s1.heap.objs.size := by simpa using hb
    subst e
    exact I1.fpOk (Nat.le_refl _) (I1.hok.fresh (Nat.le_refl _))
  · cases r1
    obtain ⟨its, rv, p, hz⟩ := I1.tuple hq
    refine wpAny_pyIter_tuple (show s1.heap.IsTuple a its.toArray from p) ?_
    refine ⟨s1.heap.objs.size, [s1.heap.objs.size], _, _, H1, rfl, I1.kept (t' := s1.toks) fun b o e => Heap.get?_push_of_some _ e, turn_tuple a _, ⟨_, Heap.get?_push_size _ rfl, rfl, rfl⟩, fun b hb => ?_, q⟩
    have e : b = s1.heap.objs.size := by simpa using hb
    subst e
    exact I1.fpOk (Nat.le_refl _) (I1.hok.fresh (Nat.le_refl _))
theorem jw_at {F : Hp} {ρ : List Addr} {J : It} {us : List V} {ds : List D} {Gd : Hp → Prop} (w : Walk J us.length Gd (YAt us)) (hG : ∀ H, Exn F H → Gd H) (h : DtA F us ds) : JW G F ρ J (ds.map .d) := by
  have hl := h.length
  refine ⟨fun i H hi e => w.goes i H (by rw [List.length_map] at hi; omega) (hG H e), fun H e => ?_, fun i H x H' hi e y => ?_⟩
  · have := w.stops H (hG H e)
    rw [List.length_map, ← hl]
    exact this
  · obtain ⟨e1, e2⟩ := w.yields i H x H' (by rw [List.length_map] at hi; omega) (hG H e) y
    obtain ⟨d, h1, h2⟩ := h.get' e2
    exact .inl ⟨e1, .d d, by rw [List.getElem?_map, h1]; rfl, h2⟩
theorem qi_seq {l : Expr} {f : Y.E} (hl : PE X l (lE G E f)) (hK : X.K = G.K := by rfl) : PI X tg l (lI G E (iSeq f)) := by
  refine PI.imp (pi_seq hl) fun σ H Q ⟨S, F, ρ, loc, st, rp, l, o⟩ => ⟨S, F, ρ, loc, st, rp, l, out.imp (fun x H1 h1 => ?_) (out.bd (Rl := VR G) o)⟩
  obtain ⟨F1, ρ1, a, st1, g1, r1, v1, o1⟩ := h1
  cases a with
  | o _ => exact o1.elim
  | s _ => exact o1.elim
  | d x =>
    cases x with
    | tuple ds =>
      cases (show Dt F1 _ (.tuple ds) from v1) with
      | @tup a xs ds ha hd =>
        refine ⟨a, rfl, .inr ⟨⟨xs, SqT.of (r1.ex _ _ ha)⟩, out.at (v := ds.map Val.d) o1 r1 (jw_at walk_tup (fun H e => SqT.of (e _ _ ha)) hd)⟩⟩
    | list ds =>
      cases (show Dt F1 _ (.list ds) from v1) with
      | @lst a xs ds ha hd =>
        refine ⟨a, rfl, .inl ⟨⟨xs, SqL.of (r1.ex _ _ ha)⟩, out.at (v := ds.map Val.d) o1 r1 (jw_at walk_list (fun H e => SqL.of (e _ _ ha)) hd)⟩⟩
    | none => exact o1.elim
    | bool _ => exact o1.elim
    | int _ => exact o1.elim
    | str _ => exact o1.elim
    | dict _ => exact o1.elim
theorem jw_range {F : Hp} {ρ : List Addr} (lo : Int) (n : Nat) : JW G F ρ (Itr lo n) (rng lo n) := by
  have hl : (rng lo n).length = n := by unfold rng; rw [List.length_map, List.length_range]
  refine ⟨fun i H hi _ => ?_, fun H _ => ?_, fun i H x H' hi _ y => .inl ⟨y.1, vI (lo + (i : Int)), ?_, ?_⟩⟩
  · show i < n
    omega
  · show n ≤ (rng lo n).length
    omega
  · have hi' : i < n := by omega
    unfold rng
    rw [List.getElem?_map, List.getElem?_range hi']
    rfl
  · rw [y.2]
    exact .int _
theorem vr_int {F : Hp} {ρ : List Addr} {u : V} {i : Int} (h : VR G F ρ u (.d (.int i))) : u = .int i := by
  cases (show Dt F u (.int i) from h) with
  | int _ => rfl
theorem qi_rng1 {a : Expr} {f : Y.A} {p pos : Pos} (hg : Gl X "range") (hm : X.mg "range" = none) (ha : PA X [a] (lA G E f)) (hs : starEach [a] X.env = [(false, eval a X.env)] := by rfl) : PI X tg (.Call (.Name "range" p) [a] [] pos) (lI G E (iCall kRg1 f)) := by
  refine PI.imp (pi_range1 hg hm ha hs) fun σ H Q ⟨S, F, ρ, loc, st, rp, l, o⟩ => ⟨S, F, ρ, loc, st, rp, l, out.imp (fun x H1 h1 => ?_) (out.bd (Rl := VRs G) o)⟩
  obtain ⟨F1, ρ1, as, st1, g1, r1, v1, o1⟩ := h1
  unfold kRg1 at o1
  split at o1
  · rename_i n
    cases v1 with
    | cons h hr =>
      cases hr
      by_cases hb : -1000000 ≤ n ∧ n ≤ 1000000
      · rw [if_pos hb] at o1
        exact ⟨n, by rw [vr_int h], by omega, by omega, out.at (v := rng 0 n.toNat) o1 r1 (jw_range 0 n.toNat)⟩
      · rw [if_neg hb] at o1
        exact o1.elim
  · exact o1.elim
theorem qi_rng2 {a b : Expr} {f : Y.A} {p pos : Pos} (hg : Gl X "range") (hm : X.mg "range" = none) (ha : PA X [a, b] (lA G E f)) (hs : starEach [a, b] X.env = [(false, eval a X.env), (false, eval b X.env)] := by rfl) (hs2 : starEach [b] X.env = [(false, eval b X.env)] := by rfl) : PI X tg (.Call (.Name "range" p) [a, b] [] pos) (lI G E (iCall kRg2 f)) := by
  refine PI.imp (pi_range2 hg hm ha hs hs2) fun σ H Q ⟨S, F, ρ, loc, st, rp, l, o⟩ => ⟨S, F, ρ, loc, st, rp, l, out.imp (fun x H1 h1 => ?_) (out.bd (Rl := VRs G) o)⟩
  obtain ⟨F1, ρ1, as, st1, g1, r1, v1, o1⟩ := h1
  unfold kRg2 at o1
  split at o1
  · rename_i m n
    cases v1 with
    | cons h hr =>
      cases hr with
      | cons h' hr' =>
        cases hr'
        by_cases hb : -1000000 ≤ m ∧ m ≤ 1000000 ∧ -1000000 ≤ n ∧ n ≤ 1000000
        · rw [if_pos hb] at o1
          exact ⟨m, n, by rw [vr_int h, vr_int h'], ⟨by omega, by omega, by omega, by omega⟩, out.at (v := rng m (n - m).toNat) o1 r1 (jw_range m (n - m).toNat)⟩
        · rw [if_neg hb] at o1
          exact o1.elim
  · exact o1.elim
/-- tuples that stand there become data -/
theorem Rep.adopt {S F : Hp} {ρ : List Addr} {H : Hp} {st : Store} (r : Rep G S F ρ H st) {bs : List Addr} (hb : ∀ b ∈ bs, ∃ xs, H b = some (.tup xs)) : ∃ F', Rep G S F' ρ H st ∧ Gr F ρ F' ρ ∧ ∀ b ∈ bs, F' b = H b := by
  have f1 : ∀ a, a ∈ bs → (if a ∈ bs then H a else F a) = H a := fun a ha => if_pos ha
  have f2 : ∀ a, a ∉ bs → (if a ∈ bs then H a else F a) = F a := fun a ha => if_neg ha
  have g : Gr F ρ (fun a => if a ∈ bs then H a else F a) ρ := by
    refine ⟨fun a o h => ?_, [], by simp⟩
    show (if a ∈ bs then H a else F a) = some o
    by_cases ha : a ∈ bs
    · rw [f1 a ha]; exact r.ex a o h
    · rw [f2 a ha]; exact h
  refine ⟨fun a => if a ∈ bs then H a else F a, ⟨fun a o h => ?_, fun a o h => ?_, fun a ps h => ?_, r.len, r.nd, fun k ob e => ?_, r.tab⟩, g, fun b hbb => f1 b hbb⟩
  · obtain ⟨h1, h2, h3, xs, h4⟩ := r.sd a o h
    refine ⟨h1, ?_, h3, xs, h4⟩
    show (if a ∈ bs then H a else F a) = none
    by_cases ha : a ∈ bs
    · obtain ⟨ys, hy⟩ := hb a ha
      rw [h1, h4] at hy
      cases hy
    · rw [f2 a ha]; exact h2
  · have h : (if a ∈ bs then H a else F a) = some o := h
    by_cases ha : a ∈ bs
    · rw [f1 a ha] at h; exact h
    · rw [f2 a ha] at h; exact r.ex a o h
  · have h : (if a ∈ bs then H a else F a) = some (.tbl ps) := h
    by_cases ha : a ∈ bs
    · rw [f1 a ha] at h
      obtain ⟨ys, hy⟩ := hb a ha
      rw [hy] at h
      cases h
    · rw [f2 a ha] at h; exact r.nt a ps h
  · obtain ⟨a, h, e1, e2, e3, e4⟩ := r.own k ob e
    refine ⟨a, h, e1, ?_, e3, e4.mono g⟩
    by_cases ha : a ∈ bs
    · left
      obtain ⟨ys, hy⟩ := hb a ha
      rw [e3] at hy
      cases hy
      cases ob with
      | lst _ => obtain ⟨_, z, _⟩ := e4; cases z
      | ins _ _ => obtain ⟨_, _, z, _⟩ := e4; cases z
      | gone => trivial
      | tup _ => trivial
      | dct _ => obtain ⟨_, z, _⟩ := e4; cases z
      | dcf _ => trivial
    · rcases e2 with e2 | e2
      · exact .inl e2
      · right
        show (if a ∈ bs then H a else F a) = none
        rw [f2 a ha]; exact e2
/-- the heap at a turn -/
theorem turn_rep {S F F2 : Hp} {ρ ρ2 : List Addr} {J : It} {xs : List Val} {H H' : Hp} {st : Store} {i : Nat} {x : V} {y : Val} (w : JW G F ρ J xs) (g : Gr F ρ F2 ρ2) (r : Rep G S F2 ρ2 H st) (hi : xs[i]? = some y) (yl : J.yld i H x H') :
    ∃ F3, Gr F2 ρ2 F3 ρ2 ∧ Rep G S F3 ρ2 H' st ∧ VR G F3 ρ2 x y := by
  have hlt : i < xs.length := (List.getElem?_eq_some_iff.mp hi).1
  have ex : Exn F H := fun a o h => r.ex a o (g.f a o h)
  rcases w.yields i H x H' hlt ex yl with ⟨e, y', h1, h2⟩ | ⟨T, vs, ds, h1, h2, h3, h4, h5⟩ | ⟨T, vs, ds, h1, h2, h3, h4, h5⟩
  · rw [hi] at h1
    cases h1
    rw [e]
    exact ⟨F2, Gr.refl, r, h2.mono g⟩
  · rw [hi] at h4
    cases h4
    obtain ⟨r', g'⟩ := r.new h1 (tup_nt (xs := vs))
    rw [h2, h3]
    exact ⟨_, g', r', Dt.tup upd_same (h5.mono (g.trans g').f)⟩
  · rw [hi] at h4
    cases h4
    obtain ⟨F', r', g', hT⟩ := r.adopt (bs := [T]) (fun b hb => ⟨vs, by rw [List.mem_singleton.mp hb]; exact h1⟩)
    rw [h2, h3]
    exact ⟨F', g', r', Dt.tup ((hT T (by simp)).trans h1) (h5.mono (g.trans g').f)⟩
end
/-! ### comprehensions -/
abbrev EF : XK := fun _ _ _ => False
section
variable {X : Cx} {G : Glo} {E : XK} {tg : Expr}
theorem noex_ok {α : Type} {m : M α} {st : Store} {a : α} {s : Store} (h : m st = .ok a s) : noex m st = .ok a s := by
  unfold noex
  rw [h]
theorem noex_bad {α : Type} {m : M α} {st : Store} (h : ∀ a s, m st ≠ .ok a s) : noex m st = .bad := by
  unfold noex
  cases e : m st with
  | ok a s => exact absurd e (h a s)
  | ex _ _ => rfl
  | bad => rfl
/-- the loop's word: acc is made, xs are left -/
def CP (G : Glo) (fin : List Val → M Val) (S : Hp) (F : Hp) (ρ : List Addr) (Q : VK) (E : XK) (Dl : Addr) (body : Val → M (Option Val)) (xs : List Val) (n : Nat) (H : Hp) : Prop :=
  ∃ (F2 : Hp) (ρ2 : List Addr) (st2 : Store) (av : List V) (acc : List Val), Gr F ρ F2 ρ2 ∧ Rep G (upd S Dl (.lst av)) F2 ρ2 H st2 ∧ VRs G F2 ρ2 av acc ∧ acc.length + xs.length ≤ n ∧ out G S F2 ρ2 (VR G) Q E (bd (noex (compL body xs)) (fun ys => fin (acc ++ ys)) st2)
theorem out_noex {S F : Hp} {ρ : List Addr} {α β γ δ : Type} {Rl : Hp → List Addr → β → α → Prop} {Rk : Hp → List Addr → δ → γ → Prop} {Qk : δ → Hp → Prop} {m : M α} {f : α → M γ} {st : Store} (h : out G S F ρ Rk Qk E (bd (noex m) f st)) : ∃ a s, m st = .ok a s ∧ out G S F ρ Rk Qk E (f a s) := by
  cases e : m st with
  | ok a s =>
    refine ⟨a, s, rfl, ?_⟩
    unfold bd at h
    rw [noex_ok e] at h
    exact h
  | ex c s =>
    unfold bd at h
    rw [noex_bad (fun a s' z => by rw [e] at z; cases z)] at h
    exact h.elim
  | bad =>
    unfold bd at h
    rw [noex_bad (fun a s' z => by rw [e] at z; cases z)] at h
    exact h.elim
theorem bd_ok {α β : Type} {m : M α} {f : α → M β} {st s : Store} {b : β} (h : bd m f st = .ok b s) : ∃ a s1, m st = .ok a s1 ∧ f a s1 = .ok b s := by
  unfold bd at h
  cases e : m st with
  | ok a s1 =>
    rw [e] at h
    exact ⟨a, s1, rfl, h⟩
  | ex _ _ => rw [e] at h; cases h
  | bad => rw [e] at h; cases h
theorem out_ok {S F : Hp} {ρ : List Addr} {α β : Type} {Rl : Hp → List Addr → β → α → Prop} {Q : β → Hp → Prop} {r : R α} {a : α} {s : Store} (e : r = .ok a s) (h : ∀ F' ρ' H' u, Gr F ρ F' ρ' → Rep G S F' ρ' H' s → Rl F' ρ' u a → Q u H') : out G S F ρ Rl Q E r := by
  rw [e]
  exact h
theorem wipe_wipe {σ : L2.St} {vs : List Nat} : L2.wipe (L2.wipe σ vs) vs = L2.wipe σ vs := by
  refine List.ext_getElem? fun j => ?_
  by_cases hj : j ∈ vs
  · rw [wipe_get hj, wipe_get hj, L2.wipe_length]
  · rw [wipe_out hj]
theorem comp_next {fin : List Val → M Val} {body : Val → M (Option Val)} {rest : List Val} {acc ys : List Val} {s1 s : Store} (h : compL body rest s1 = .ok ys s) : bd (noex (compL body rest)) (fun ys => fin (acc ++ ys)) s1 = fin (acc ++ ys) s := by
  unfold bd
  rw [noex_ok h]
/-- what the list becomes -/
def FinOk (G : Glo) (fin : List Val → M Val) : Prop := ∀ (S F : Hp) (ρ : List Addr) (H : Hp) (st : Store) (av : List V) (acc : List Val) (Dl : Addr) (Q : VK) (E : XK), Rep G (upd S Dl (.lst av)) F ρ H st → VRs G F ρ av acc → S Dl = none → out G S F ρ (VR G) Q E (fin acc st) → Q (.ref Dl) H
def eLcF (fin : List Val → M Val) (it : Y.I) (g : Y.G) (t : Tst) (e : Y.E) (vs : List Nat) : Y.E := fun loc => bd (it loc) fun xs => if xs.length ≤ lim then bd (noex (compL (cBody g t e (wip loc vs)) xs)) fin else die
theorem lE_lcF {fin : List Val → M Val} (hf : FinOk G fin) {it : Y.I} {g : Y.G} {t : Tst} {e : Y.E} {vs : List Nat} : ∀ σ H Q, lE G E (eLcF fin it g t e vs) σ H Q → tLc (lI G E it) (lG G EF vs g) (lT G EF t) (lE G EF e) vs σ H Q := by
  rintro σ H Q ⟨S, F, ρ, loc, st, rp, l, o⟩
  refine ⟨S, F, ρ, loc, st, rp, l, out.imp (fun J H1 h1 => ?_) (out.bd (Rl := JR G) o)⟩
  obtain ⟨F1, ρ1, xs, st1, g1, r1, jw, o1⟩ := h1
  intro Dl hD
  have hl : xs.length ≤ lim := by
    by_cases hl : xs.length ≤ lim
    · exact hl
    · have o1' : out G S F1 ρ1 (VR G) Q E ((if xs.length ≤ lim then bd (noex (compL (cBody g t e (wip loc vs)) xs)) fin else die) st1) := o1
      rw [if_neg hl] at o1'
      exact o1'.elim
  have o1 : out G S F1 ρ1 (VR G) Q E ((if xs.length ≤ lim then bd (noex (compL (cBody g t e (wip loc vs)) xs)) fin else die) st1) := o1
  rw [if_pos hl] at o1
  have hS : S Dl = none := by
    cases q : S Dl with
    | none => rfl
    | some u => rw [(r1.sd Dl u q).1] at hD; cases hD
  refine ⟨fun i m H => m = xs.length - i ∧ i ≤ xs.length ∧ CP G fin S F1 ρ1 Q E Dl (cBody g t e (wip loc vs)) (xs.drop i) xs.length H, ⟨xs.length, by simp, Nat.zero_le _, F1, ρ1, st1, [], [], Gr.refl, r1.side hD, .nil, by simp, o1⟩, ?_⟩
  rintro i m H2 ⟨rfl, hi, F2, ρ2, st2, av, acc, g2, r2, va, hn, o2⟩
  have ex2 : Exn F1 H2 := fun a o h => r2.ex a o (g2.f a o h)
  by_cases hlt : i < xs.length
  · refine .inr ⟨jw.goes i H2 hlt ex2, CP G fin S F1 ρ1 Q E Dl (cBody g t e (wip loc vs)) (xs.drop (i + 1)) xs.length, fun H' p => ⟨xs.length - (i + 1), by omega, rfl, hlt, p⟩, fun x H' yl => ?_⟩
    have hx : xs[i]? = some xs[i] := List.getElem?_eq_getElem hlt
    have hd : xs.drop i = xs[i] :: xs.drop (i + 1) := List.drop_eq_getElem_cons hlt
    obtain ⟨F3, g3, r3, v3⟩ := turn_rep jw g2 r2 hx yl
    rw [hd] at o2 hn
    obtain ⟨ys, s, hc, o'⟩ := out_noex (Rl := fun _ _ (_ : Unit) _ => True) o2
    obtain ⟨ob, s1, hb, hc⟩ := bd_ok hc
    obtain ⟨ys', s', hc2, hfin⟩ := bd_ok hc
    obtain ⟨l2, s2, hg, hb⟩ := bd_ok hb
    obtain ⟨b, s3, ht, hb⟩ := bd_ok hb
    have hfin : R.ok (consO ob ys') s' = R.ok ys s := hfin
    injection hfin with hys hss
    subst hss
    have lr3 : LR G F3 ρ2 (L2.wipe σ vs) (wip loc vs) := (l.mono ((g1.trans g2).trans g3)).wip vs
    refine ⟨upd S Dl (.lst av), F3, ρ2, wip loc vs, st2, xs[i], r3, lr3, v3, out_ok hg fun F4 ρ4 H4 σ2 g4 r4 lw => ?_⟩
    obtain ⟨lr4, w4⟩ := lw
    refine ⟨w4.trans wipe_wipe, upd S Dl (.lst av), F4, ρ4, l2, s2, r4, lr4, out_ok ht fun F5 ρ5 H5 b' g5 r5 hb' => ?_⟩
    cases hb'
    have gg : Gr F1 ρ1 F5 ρ5 := ((g2.trans g3).trans g4).trans g5
    have g25 : Gr F2 ρ2 F5 ρ5 := (g3.trans g4).trans g5
    rw [List.length_cons] at hn
    cases b with
    | false =>
      have hb2 : ob = none ∧ s3 = s1 := by
        have z : R.ok (none : Option Val) s3 = R.ok ob s1 := hb
        injection z with z1 z2
        exact ⟨z1.symm, z2⟩
      obtain ⟨rfl, rfl⟩ := hb2
      subst hys
      refine ⟨F5, ρ5, s3, av, acc, gg, r5, VRs.mono g25 va, by omega, ?_⟩
      rw [comp_next hc2]
      exact out.mono g25 o'
    | true =>
      obtain ⟨yv, s4, he, hb⟩ := bd_ok (show bd (e l2) (fun y => ret (some y)) s3 = R.ok ob s1 from hb)
      have hb2 : ob = some yv ∧ s4 = s1 := by
        have z : R.ok (some yv : Option Val) s4 = R.ok ob s1 := hb
        injection z with z1 z2
        exact ⟨z1.symm, z2⟩
      obtain ⟨rfl, rfl⟩ := hb2
      subst hys
      refine ⟨upd S Dl (.lst av), F5, ρ5, l2, s3, r5, lr4.mono g5, out_ok he fun F6 ρ6 H6 u g6 r6 vu => ?_⟩
      have hav : av.length = acc.length := va.length
      refine ⟨av, (r6.sd Dl _ upd_same).1, sz' (by omega), F6, ρ6, s4, av ++ [u], acc ++ [yv], gg.trans g6, r6.side2, Paired.snoc (VRs.mono (g25.trans g6) va) vu, by rw [List.length_append]; show acc.length + 1 + _ ≤ _; omega, ?_⟩
      rw [comp_next hc2]
      have ea : acc ++ [yv] ++ ys' = acc ++ (yv :: ys') := by simp
      rw [ea]
      exact out.mono (g25.trans g6) o'
  · have e : i = xs.length := by omega
    subst e
    refine .inl ⟨jw.stops H2 ex2, ?_⟩
    rw [List.drop_length] at o2
    have o3 : out G S F2 ρ2 (VR G) Q E (fin (acc ++ []) st2) := o2
    rw [List.append_nil] at o3
    exact hf S F2 ρ2 H2 st2 av acc Dl Q E r2 va hS o3
theorem fin_lst : FinOk G bLst := by
  intro S F2 ρ2 H2 st2 av acc Dl Q E r2 va hS o3
  unfold bLst at o3
  cases hd : toDs acc with
  | none =>
    rw [hd] at o3
    exact o3.elim
  | some ds =>
    rw [hd] at o3
    dsimp only at o3
    by_cases hz : ds.length ≤ lim
    · rw [if_pos hz] at o3
      obtain ⟨r3, g3⟩ := r2.data hS
      exact out.go (v := Val.d (.list ds)) o3 g3 r3 (Dt.lst upd_same ((toDs_rel va hd).mono g3.f))
    · rw [if_neg hz] at o3
      exact o3.elim
theorem fin_new : FinOk G bNew := by
  intro S F2 ρ2 H2 st2 av acc Dl Q E r2 va hS o3
  unfold bNew at o3
  by_cases hz : acc.length ≤ lim
  · rw [if_pos hz] at o3
    obtain ⟨r3, g3⟩ := r2.owned hS (ob := .lst acc) ⟨av, rfl, va⟩
    refine out.go (v := Val.o st2.length) o3 g3 r3 ⟨Dl, ?_, rfl⟩
    rw [List.getElem?_append_right (by rw [r2.len]; exact Nat.le_refl _), r2.len]
    simp
  · rw [if_neg hz] at o3
    exact o3.elim
theorem lE_lc {it : Y.I} {g : Y.G} {t : Tst} {e : Y.E} {vs : List Nat} : ∀ σ H Q, lE G E (eLc it g t e vs) σ H Q → tLc (lI G E it) (lG G EF vs g) (lT G EF t) (lE G EF e) vs σ H Q := lE_lcF fin_lst
theorem lE_lcN {it : Y.I} {g : Y.G} {t : Tst} {e : Y.E} {vs : List Nat} : ∀ σ H Q, lE G E (eLcN it g t e vs) σ H Q → tLc (lI G E it) (lG G EF vs g) (lT G EF t) (lE G EF e) vs σ H Q := lE_lcF fin_new
theorem qe_lc {elt tgt iter : Expr} {ifs : List Expr} {scope : Scope} {own : List (Str × Nat)} {pos : Pos} {it : Y.I} {g : Y.G} {t : Tst} {e : Y.E} (hc : X.calm = true) (hN : X.N.Nodup) (hi : PI X tgt iter (lI G E it)) (ok : BlkOk X.N X.env.scope scope own)
    (hg : ∀ (s : Shared) (H : Hp) (C : Addr) (cl : List (Str × Addr)) (fp : List Addr), PG (X.blk s H scope (compEnvC scope cl C X.env) fp) tgt (lG G EF (own.map (·.2)) g)) (ht : ∀ (s : Shared) (H : Hp) (C : Addr) (cl : List (Str × Addr)) (fp : List Addr), PTs (X.blk s H scope (compEnvC scope cl C X.env) fp) ifs (lT G EF t))
    (he : ∀ (s : Shared) (H : Hp) (C : Addr) (cl : List (Str × Addr)) (fp : List Addr), PE (X.blk s H scope (compEnvC scope cl C X.env) fp) elt (lE G EF e)) (hs : ∀ x, foldedSetIterable iter X.env x = pure x := by intro _; rfl) :
    PE X (.ListComp elt [⟨tgt, iter, ifs, 0⟩] scope pos) (lE G E (eLc it g t e (own.map (·.2)))) := PE.imp (pe_lc hc hN hi ok hg ht he hs) lE_lc
theorem qe_lcN {elt tgt iter : Expr} {ifs : List Expr} {scope : Scope} {own : List (Str × Nat)} {pos : Pos} {it : Y.I} {g : Y.G} {t : Tst} {e : Y.E} (hc : X.calm = true) (hN : X.N.Nodup) (hi : PI X tgt iter (lI G E it)) (ok : BlkOk X.N X.env.scope scope own)
    (hg : ∀ (s : Shared) (H : Hp) (C : Addr) (cl : List (Str × Addr)) (fp : List Addr), PG (X.blk s H scope (compEnvC scope cl C X.env) fp) tgt (lG G EF (own.map (·.2)) g)) (ht : ∀ (s : Shared) (H : Hp) (C : Addr) (cl : List (Str × Addr)) (fp : List Addr), PTs (X.blk s H scope (compEnvC scope cl C X.env) fp) ifs (lT G EF t))
    (he : ∀ (s : Shared) (H : Hp) (C : Addr) (cl : List (Str × Addr)) (fp : List Addr), PE (X.blk s H scope (compEnvC scope cl C X.env) fp) elt (lE G EF e)) (hs : ∀ x, foldedSetIterable iter X.env x = pure x := by intro _; rfl) :
    PE X (.ListComp elt [⟨tgt, iter, ifs, 0⟩] scope pos) (lE G E (eLcN it g t e (own.map (·.2)))) := PE.imp (pe_lc hc hN hi ok hg ht he hs) lE_lcN
theorem qts_nil : PTs X [] (lT G E tTr) := PTs.imp pts_nil fun σ H Q ⟨S, F, ρ, loc, st, rp, l, o⟩ => out.at (v := true) o rp rfl
theorem qts_one {c : Expr} {t : Tst} (h : PT X c (lT G E t)) : PTs X [c] (lT G E t) := pts_one h
end
/-! ### statements -/
/-- how a statement ends, by values -/
inductive FV where
  | nx (σ : L2.St) | bk (σ : L2.St) | ct (σ : L2.St) | rt (u : V)
def FR (G : Glo) (F : Hp) (ρ : List Addr) : FV → Fl × Loc → Prop
  | .nx σ, (.nx, loc) => LR G F ρ σ loc
  | .bk σ, (.bk, loc) => LR G F ρ σ loc
  | .ct σ, (.ct, loc) => LR G F ρ σ loc
  | .rt u, (.rt v, _) => VR G F ρ u v
  | _, _ => False
def endQ (D : Ends) : FV → Hp → Prop
  | .nx σ, H => D.nx σ H
  | .bk σ, H => D.bk σ H
  | .ct σ, H => D.ct σ H
  | .rt u, H => D.rt u H
def lS (G : Glo) (E : XK) (f : Y.S) : TS := fun D σ H => ∃ (S F : Hp) (ρ : List Addr) (loc : Loc) (st : Store), Rep G S F ρ H st ∧ LR G F ρ σ loc ∧ out G S F ρ (FR G) (endQ D) E (f loc st)
section
variable {X : Cx} {G : Glo} {E : XK}
theorem qss_nil : PSs X [] (lS G E sNil) := PSs.imp pss_nil fun D σ H ⟨S, F, ρ, loc, st, rp, l, o⟩ => out.at (v := (Fl.nx, loc)) (u := FV.nx σ) o rp l
theorem lS_seq {a b : Y.S} : ∀ D σ H, lS G E (sSeq a b) D σ H → tSeq (lS G E a) (lS G E b) D σ H := by
  rintro D σ H ⟨S, F, ρ, loc, st, rp, l, o⟩
  refine ⟨S, F, ρ, loc, st, rp, l, out.imp (fun u H1 h1 => ?_) (out.bd (Rl := FR G) o)⟩
  obtain ⟨F1, ρ1, ⟨fl, loc1⟩, st1, g1, r1, fr, o1⟩ := h1
  cases u with
  | nx σ1 =>
    cases fl with
    | nx => exact ⟨S, F1, ρ1, loc1, st1, r1, fr, o1⟩
    | bk => exact fr.elim
    | ct => exact fr.elim
    | rt v => exact fr.elim
  | bk σ1 =>
    cases fl with
    | bk => exact out.at (v := (Fl.bk, loc1)) (u := FV.bk σ1) o1 r1 fr
    | nx => exact fr.elim
    | ct => exact fr.elim
    | rt v => exact fr.elim
  | ct σ1 =>
    cases fl with
    | ct => exact out.at (v := (Fl.ct, loc1)) (u := FV.ct σ1) o1 r1 fr
    | nx => exact fr.elim
    | bk => exact fr.elim
    | rt v => exact fr.elim
  | rt w =>
    cases fl with
    | rt v => exact out.at (v := (Fl.rt v, loc1)) (u := FV.rt w) o1 r1 fr
    | nx => exact fr.elim
    | bk => exact fr.elim
    | ct => exact fr.elim
theorem qss_cons {st : Stmt} {rest : List Stmt} {a b : Y.S} (h1 : PS X st (lS G E a)) (h2 : PSs X rest (lS G E b)) : PSs X (st :: rest) (lS G E (sSeq a b)) := PSs.imp (pss_cons h1 h2) lS_seq
theorem qss_one {st : Stmt} {a : Y.S} (h1 : PS X st (lS G E a)) : PSs X [st] (lS G E a) := pss_one h1
theorem qs_ret {e : Expr} {f : Y.E} {pos : Pos} (h : PE X e (lE G E f)) : PS X (.Return (some e) pos) (lS G E (sRet f)) := by
  refine PS.imp (ps_ret h) fun D σ H ⟨S, F, ρ, loc, st, rp, l, o⟩ => ⟨S, F, ρ, loc, st, rp, l, out.imp (fun u H1 h1 => ?_) (out.bd (Rl := VR G) o)⟩
  obtain ⟨F1, ρ1, v, st1, g1, r1, vr, o1⟩ := h1
  exact out.at (v := (Fl.rt v, loc)) (u := FV.rt u) o1 r1 vr
theorem qs_expr {e : Expr} {f : Y.E} {pos : Pos} (h : PE X e (lE G E f)) (hs : swapsWith e none pos.line X.env = pure false := by rfl) : PS X (.Expr e pos) (lS G E (sExp f)) := by
  refine PS.imp (ps_expr h hs) fun D σ H ⟨S, F, ρ, loc, st, rp, l, o⟩ => ⟨S, F, ρ, loc, st, rp, l, out.imp (fun u H1 h1 => ?_) (out.bd (Rl := VR G) o)⟩
  obtain ⟨F1, ρ1, v, st1, g1, r1, vr, o1⟩ := h1
  exact out.at (v := (Fl.nx, loc)) (u := FV.nx σ) o1 r1 (l.mono g1)
theorem lS_asg {f : Y.E} {g : Y.G} {vs : List Nat} : ∀ D σ H, lS G E (sAsg f g) D σ H → tAsg (lE G E f) (lG G E vs g) D σ H := by
  rintro D σ H ⟨S, F, ρ, loc, st, rp, l, o⟩
  refine ⟨S, F, ρ, loc, st, rp, l, out.imp (fun u H1 h1 => ?_) (out.bd (Rl := VR G) o)⟩
  obtain ⟨F1, ρ1, v, st1, g1, r1, vr, o1⟩ := h1
  refine ⟨S, F1, ρ1, loc, st1, v, r1, l.mono g1, vr, out.imp (fun σ2 H2 h2 => ?_) (out.bd (Rl := TR G vs σ) o1)⟩
  obtain ⟨F2, ρ2, loc2, st2, g2, r2, ⟨lr, _⟩, o2⟩ := h2
  exact out.at (v := (Fl.nx, loc2)) (u := FV.nx σ2) o2 r2 lr
theorem qs_asg {tg e : Expr} {f : Y.E} {g : Y.G} {vs : List Nat} {pos : Pos} (he : PE X e (lE G E f)) (hg : PG X tg (lG G E vs g)) (hs : swapsWithSole [tg] e pos.line X.env = pure false := by rfl) (hw : swappedStores [tg] e X.env = pure none := by rfl) (ha : List.map (fun x => x.snd) (assignEach [tg] X.env) = [assign tg X.env] := by rfl) :
    PS X (.Assign [tg] e pos) (lS G E (sAsg f g)) := PS.imp (ps_asg he hg hs hw ha) lS_asg
theorem lS_asgN {f : Y.E} {i : Nat} : ∀ D σ H, lS G E (sAsg f (gN i)) D σ H → tAsg (lE G E f) (gName i) D σ H := by
  rintro D σ H ⟨S, F, ρ, loc, st, rp, l, o⟩
  refine ⟨S, F, ρ, loc, st, rp, l, out.imp (fun u H1 h1 => ?_) (out.bd (Rl := VR G) o)⟩
  obtain ⟨F1, ρ1, v, st1, g1, r1, vr, o1⟩ := h1
  exact out.at (v := (Fl.nx, loc.set i (some v))) (u := FV.nx (σ.set i (some u))) o1 r1 ((l.mono g1).set vr i)
theorem qs_set (i : Nat) {x : Str} {e : Expr} {f : Y.E} {pos pos' : Pos} (hN : X.N.Nodup) (hi : X.N[i]? = some x) (hx : L2.Loc X.env.scope x) (he : PE X e (lE G E f)) (hs : swapsWith e (some (.Name x pos')) pos.line X.env = pure false := by rfl) (hf : X.fn x = true ∨ X.env.scope.names.lookup x = some .local := by first | exact .inl rfl | exact .inr rfl | assumption) :
    PS X (.Assign [.Name x pos'] e pos) (lS G E (sAsg f (gN i))) := PS.imp (ps_set hN hi hx he hs hf) lS_asgN
theorem qs_setLc (i : Nat) {y : Str} {py : Pos} {elt tgt iter : Expr} {ifs : List Expr} {scope : Scope} {own : List (Str × Nat)} {pos spos : Pos} {it : Y.I} {g : Y.G} {t : Tst} {e : Y.E} (hc : X.calm = true) (hN : X.N.Nodup) (hy : X.N[i]? = some y) (hyl : X.env.scope.names.lookup y = some .local)
    (hsw : swapsWith (.ListComp elt [⟨tgt, iter, ifs, 0⟩] scope pos) (some (.Name y py)) spos.line X.env = pure true) (hi : PI X tgt iter (lI G E it)) (ok : BlkOk X.N X.env.scope scope own)
    (hg : ∀ (s : Shared) (H : Hp) (C : Addr) (cl : List (Str × Addr)) (fp : List Addr), PG (X.blk s H scope (compEnvC scope cl C X.env) fp) tgt (lG G EF (own.map (·.2)) g)) (ht : ∀ (s : Shared) (H : Hp) (C : Addr) (cl : List (Str × Addr)) (fp : List Addr), PTs (X.blk s H scope (compEnvC scope cl C X.env) fp) ifs (lT G EF t))
    (he : ∀ (s : Shared) (H : Hp) (C : Addr) (cl : List (Str × Addr)) (fp : List Addr), PE (X.blk s H scope (compEnvC scope cl C X.env) fp) elt (lE G EF e)) (hs : ∀ x, foldedSetIterable iter X.env x = pure x := by intro _; rfl) :
    PS X (.Assign [.Name y py] (.ListComp elt [⟨tgt, iter, ifs, 0⟩] scope pos) spos) (lS G E (sAsg (eLc it g t e (own.map (·.2))) (gN i))) := by
  refine PS.imp (ps_setLc hc hN hy hyl hsw hi ok hg ht he hs) fun D σ H h => ?_
  exact lE_lc σ H _ (lS_asgN D σ H h)
theorem qs_par (i j : Nat) {x y : Str} {a b : Expr} {fa fb : Y.E} {px py pt pt2 pos : Pos} {kt k2 : Nat} (hc : X.calm = true) (hN : X.N.Nodup) (hi : X.N[i]? = some x) (hj : X.N[j]? = some y) (hij : i ≠ j) (hx : X.env.scope.names.lookup x = some .local) (hy : X.env.scope.names.lookup y = some .local) (ha : PA X [a, b] (lA G E (aC fa (aC fb aN))))
    (hsw : swappedStores [.Tuple [.Name x px, .Name y py] kt pt] (.Tuple [a, b] k2 pt2) X.env = pure (some [x, y])) (hso : swapsWithSole [.Tuple [.Name x px, .Name y py] kt pt] (.Tuple [a, b] k2 pt2) pos.line X.env = pure false := by rfl) :
    PS X (.Assign [.Tuple [.Name x px, .Name y py] kt pt] (.Tuple [a, b] k2 pt2) pos) (lS G E (sPar i j fa fb)) := by
  refine PS.imp (ps_par hc hN hi hj hij hx hy ha hsw hso) fun D σ H ⟨S, F, ρ, loc, st, rp, l, o⟩ => ⟨S, F, ρ, loc, st, rp, l, ?_⟩
  have o' : out G S F ρ (FR G) (endQ D) E (bd (aC fa (aC fb aN) loc) (fun vs => match vs with | [v, w] => ret (Fl.nx, (loc.set i (some v)).set j (some w)) | _ => die) st) := by
    have e : bd (aC fa (aC fb aN) loc) (fun vs => match vs with | [v, w] => ret (Fl.nx, (loc.set i (some v)).set j (some w)) | _ => die) st = sPar i j fa fb loc st := by
      unfold aC aN sPar bd ret
      cases fa loc st with
      | bad => rfl
      | ex _ _ => rfl
      | ok v s =>
        dsimp only
        cases fb loc s with
        | bad => rfl
        | ex _ _ => rfl
        | ok w s' => rfl
    rw [e]
    exact o
  refine out.imp (fun us H1 h1 => ?_) (out.bd (Rl := VRs G) o')
  obtain ⟨F1, ρ1, vs, st1, g1, r1, vr, o1⟩ := h1
  cases vr with
  | nil => exact o1.elim
  | cons h hr =>
    cases hr with
    | nil => exact o1.elim
    | @cons w w' _ _ h' hr' =>
      cases hr' with
      | cons _ _ => exact o1.elim
      | nil =>
        rename_i u v
        exact ⟨u, w, rfl, out.at (v := (Fl.nx, (loc.set i (some v)).set j (some w'))) (u := FV.nx ((σ.set i (some u)).set j (some w))) o1 r1 (((l.mono g1).set h i).set h' j)⟩
theorem qs_if {c : Expr} {a b : List Stmt} {t : Tst} {f g : Y.S} {pos : Pos} (hc : PT X c (lT G E t)) (ha : PSs X a (lS G E f)) (hb : PSs X b (lS G E g)) : PS X (.If c a b pos) (lS G E (sIf t f g)) := by
  refine PS.imp (ps_if hc ha hb) fun D σ H ⟨S, F, ρ, loc, st, rp, l, o⟩ => ⟨S, F, ρ, loc, st, rp, l, out.imp (fun u H1 h1 => ?_) (out.bd (Rl := BR) o)⟩
  obtain ⟨F1, ρ1, v, st1, g1, r1, vr, o1⟩ := h1
  cases vr
  cases u with
  | true => exact ⟨S, F1, ρ1, loc, st1, r1, l.mono g1, o1⟩
  | false => exact ⟨S, F1, ρ1, loc, st1, r1, l.mono g1, o1⟩
theorem qs_brk {pos : Pos} : PS X (.Break pos) (lS G E sBrk) := PS.imp ps_break fun D σ H ⟨S, F, ρ, loc, st, rp, l, o⟩ => out.at (v := (Fl.bk, loc)) (u := FV.bk σ) o rp l
theorem qs_cnt {pos : Pos} : PS X (.Continue pos) (lS G E sCnt) := PS.imp ps_continue fun D σ H ⟨S, F, ρ, loc, st, rp, l, o⟩ => out.at (v := (Fl.ct, loc)) (u := FV.ct σ) o rp l
theorem qs_pass {pos : Pos} : PS X (.Pass pos) (lS G E sNil) := PS.imp ps_pass fun D σ H ⟨S, F, ρ, loc, st, rp, l, o⟩ => out.at (v := (Fl.nx, loc)) (u := FV.nx σ) o rp l
/-- raise of the c-th class -/
theorem qs_raise {W : WX} {e : Expr} {pos : Pos} {c : Nat} (hc : X.calm = true) (tk : L2N.Takes X W) (he : L2N.PMk X e (fun _ H Q => Q (.ref (G.cl c)) none H)) (hW : ∀ cls d σ H, E cls d H → W cls d σ H) : PS X (.Raise (some e) none pos) (lS G E (sRaise c)) := by
  refine PS.imp (L2N.ps_raise hc tk he) fun D σ H ⟨S, F, ρ, loc, st, rp, l, o⟩ => ?_
  have o' : out G S F ρ (FR G) (endQ D) E (.ex c st) := o
  exact hW _ _ _ _ (o' F ρ H Gr.refl rp)
/-! ### loops -/
theorem lS_for {it : Y.I} {g : Y.G} {b : Y.S} {vs : List Nat} : ∀ D σ H, lS G E (sFor it g b) D σ H → tFor (lI G E it) (lG G E vs g) (lS G E b) D σ H := by
  rintro D σ H ⟨S, F, ρ, loc, st, rp, l, o⟩
  refine ⟨S, F, ρ, loc, st, rp, l, out.imp (fun J H1 h1 => ?_) (out.bd (Rl := JR G) o)⟩
  obtain ⟨F1, ρ1, xs, st1, g1, r1, jw, o1⟩ := h1
  refine ⟨fun i m σ2 H2 => m = xs.length - i ∧ i ≤ xs.length ∧ ∃ F2 ρ2 loc2 st2, Gr F1 ρ1 F2 ρ2 ∧ Rep G S F2 ρ2 H2 st2 ∧ LR G F2 ρ2 σ2 loc2 ∧ out G S F2 ρ2 (FR G) (endQ D) E (forL (fBody g b) (xs.drop i) loc2 st2), ⟨xs.length, by simp, Nat.zero_le _, F1, ρ1, loc, st1, Gr.refl, r1, l.mono g1, o1⟩, ?_⟩
  rintro i m σ2 H2 ⟨rfl, hi, F2, ρ2, loc2, st2, g2, r2, l2, o2⟩
  have ex2 : Exn F1 H2 := fun a o h => r2.ex a o (g2.f a o h)
  by_cases hlt : i < xs.length
  · refine .inr ⟨jw.goes i H2 hlt ex2, fun σ3 H3 => ∃ F3 ρ3 loc3 st3, Gr F1 ρ1 F3 ρ3 ∧ Rep G S F3 ρ3 H3 st3 ∧ LR G F3 ρ3 σ3 loc3 ∧ out G S F3 ρ3 (FR G) (endQ D) E (forL (fBody g b) (xs.drop (i + 1)) loc3 st3), fun σ' H' p => ⟨xs.length - (i + 1), by omega, rfl, hlt, p⟩, fun x H' yl => ?_⟩
    have hx : xs[i]? = some xs[i] := List.getElem?_eq_getElem hlt
    have hd : xs.drop i = xs[i] :: xs.drop (i + 1) := List.drop_eq_getElem_cons hlt
    obtain ⟨F3, g3, r3, v3⟩ := turn_rep jw g2 r2 hx yl
    rw [hd] at o2
    have o3 : out G S F2 ρ2 (FR G) (endQ D) E (bd (g xs[i] loc2) (fun l3 => bd (b l3) fun r => match r.1 with
      | .nx => forL (fBody g b) (xs.drop (i + 1)) r.2
      | .ct => forL (fBody g b) (xs.drop (i + 1)) r.2
      | .bk => ret (.nx, r.2)
      | .rt v => ret (.rt v, r.2)) st2) := by
      have e : bd (g xs[i] loc2) (fun l3 => bd (b l3) fun r => match r.1 with
        | .nx => forL (fBody g b) (xs.drop (i + 1)) r.2
        | .ct => forL (fBody g b) (xs.drop (i + 1)) r.2
        | .bk => ret (.nx, r.2)
        | .rt v => ret (.rt v, r.2)) st2 = forL (fBody g b) (xs[i] :: xs.drop (i + 1)) loc2 st2 := by
        show _ = bd (bd (g xs[i] loc2) b) _ st2
        unfold bd
        cases g xs[i] loc2 st2 with
        | bad => rfl
        | ex _ _ => rfl
        | ok v s => rfl
      rw [e]
      exact o2
    refine ⟨S, F3, ρ2, loc2, st2, xs[i], r3, l2.mono g3, v3, out.imp (fun σ4 H4 h4 => ?_) (out.bd (Rl := TR G vs σ2) (out.mono g3 o3))⟩
    obtain ⟨F4, ρ4, loc4, st4, g4, r4, ⟨l4, _⟩, o4⟩ := h4
    refine ⟨S, F4, ρ4, loc4, st4, r4, l4, out.imp (fun u H5 h5 => ?_) (out.bd (Rl := FR G) o4)⟩
    obtain ⟨F5, ρ5, ⟨fl, loc5⟩, st5, g5, r5, fr, o5⟩ := h5
    have gg : Gr F1 ρ1 F5 ρ5 := ((g2.trans g3).trans g4).trans g5
    cases u with
    | nx σ5 =>
      cases fl with
      | nx => exact ⟨F5, ρ5, loc5, st5, gg, r5, fr, o5⟩
      | bk => exact fr.elim
      | ct => exact fr.elim
      | rt v => exact fr.elim
    | ct σ5 =>
      cases fl with
      | ct => exact ⟨F5, ρ5, loc5, st5, gg, r5, fr, o5⟩
      | bk => exact fr.elim
      | nx => exact fr.elim
      | rt v => exact fr.elim
    | bk σ5 =>
      cases fl with
      | bk => exact out.at (v := (Fl.nx, loc5)) (u := FV.nx σ5) o5 r5 fr
      | ct => exact fr.elim
      | nx => exact fr.elim
      | rt v => exact fr.elim
    | rt w =>
      cases fl with
      | rt v => exact out.at (v := (Fl.rt v, loc5)) (u := FV.rt w) o5 r5 fr
      | ct => exact fr.elim
      | nx => exact fr.elim
      | bk => exact fr.elim
  · have e : i = xs.length := by omega
    subst e
    refine .inl ⟨jw.stops H2 ex2, ?_⟩
    rw [List.drop_length] at o2
    exact out.at (v := (Fl.nx, loc2)) (u := FV.nx σ2) o2 r2 l2
theorem forO_chk {k : Nat} {xs0 xs : List Val} {body : Val → Y.S} {loc : Loc} {st : Store} {S F : Hp} {ρ : List Addr} {D : Ends} (o : out G S F ρ (FR G) (endQ D) E (forO k xs0 body xs loc st)) : st[k]? = some (.lst xs0) := by
  cases xs with
  | nil =>
    unfold forO at o
    by_cases h : st[k]? = some (.lst xs0)
    · exact h
    · rw [if_neg h] at o
      exact o.elim
  | cons x xs =>
    unfold forO at o
    by_cases h : st[k]? = some (.lst xs0)
    · exact h
    · rw [if_neg h] at o
      exact o.elim
theorem lS_forO {e : Y.E} {g : Y.G} {b : Y.S} {vs : List Nat} : ∀ D σ H, lS G E (sForO e g b) D σ H → tFor (iList G.K (lE G E e)) (lG G E vs g) (lS G E b) D σ H := by
  rintro D σ H ⟨S, F, ρ, loc, st, rp, l, o⟩
  refine ⟨S, F, ρ, loc, st, rp, l, out.imp (fun u H1 h1 => ?_) (out.bd (Rl := VR G) o)⟩
  obtain ⟨F1, ρ1, v, st1, g1, r1, vr, o1⟩ := h1
  cases v with
  | d _ => exact o1.elim
  | s _ => exact o1.elim
  | o k =>
    have o1 : out G S F1 ρ1 (FR G) (endQ D) E (bd (getL (.o k)) (fun p => forO p.1 p.2 (fBody g b) p.2 loc) st1) := o1
    unfold bd getL at o1
    cases q : st1[k]? with
    | none => simp only [q] at o1; exact o1.elim
    | some ob =>
      simp only [q] at o1
      cases ob with
      | ins _ _ => exact o1.elim
      | gone => exact o1.elim
      | tup _ => exact o1.elim
      | dct _ => exact o1.elim
      | dcf _ => exact o1.elim
      | lst xs =>
        dsimp only at o1
        obtain ⟨a, ha, rfl⟩ := vr
        have sq : ∀ {F2 : Hp} {ρ2 : List Addr} {H2 : Hp} {st2 : Store}, Gr F1 ρ1 F2 ρ2 → Rep G S F2 ρ2 H2 st2 → st2[k]? = some (.lst xs) → ∃ us, H2 a = some (.lst us) ∧ VRs G F2 ρ2 us xs := fun {F2 ρ2 H2 st2} g2 r2 e => by
          obtain ⟨a', h', q1, q3, q4, us, q5, q6⟩ := r2.own k _ e
          rw [g2.get ha] at q1
          cases q1
          subst q5
          exact ⟨us, q4, q6⟩
        obtain ⟨us, hus, _⟩ := sq Gr.refl r1 q
        refine ⟨a, rfl, ⟨us, SqL.of hus⟩, ?_⟩
        refine ⟨fun i m σ2 H2 => m = xs.length - i ∧ i ≤ xs.length ∧ ∃ F2 ρ2 loc2 st2, Gr F1 ρ1 F2 ρ2 ∧ Rep G S F2 ρ2 H2 st2 ∧ LR G F2 ρ2 σ2 loc2 ∧ out G S F2 ρ2 (FR G) (endQ D) E (forO k xs (fBody g b) (xs.drop i) loc2 st2), ⟨xs.length, by simp, Nat.zero_le _, F1, ρ1, loc, st1, Gr.refl, r1, l.mono g1, o1⟩, ?_⟩
        rintro i m σ2 H2 ⟨rfl, hi, F2, ρ2, loc2, st2, g2, r2, l2, o2⟩
        have hst := forO_chk o2
        obtain ⟨ws, hws, hv⟩ := sq g2 r2 hst
        have hwl := hv.length
        by_cases hlt : i < xs.length
        · refine .inr ⟨⟨ws, ws[i]'(by omega), SqL.of hws, by simp⟩, fun σ3 H3 => ∃ F3 ρ3 loc3 st3, Gr F1 ρ1 F3 ρ3 ∧ Rep G S F3 ρ3 H3 st3 ∧ LR G F3 ρ3 σ3 loc3 ∧ out G S F3 ρ3 (FR G) (endQ D) E (forO k xs (fBody g b) (xs.drop (i + 1)) loc3 st3), fun σ' H' p => ⟨xs.length - (i + 1), by omega, rfl, hlt, p⟩, fun x H' yl => ?_⟩
          have hx : xs[i]? = some xs[i] := List.getElem?_eq_getElem hlt
          have hd : xs.drop i = xs[i] :: xs.drop (i + 1) := List.drop_eq_getElem_cons hlt
          obtain ⟨rfl, hyl⟩ := yl
          have hxw := hyl ws (SqL.of hws)
          have get : ∀ {vs : List V} {as : List Val} {i : Nat} {v : Val}, VRs G F2 ρ2 vs as → as[i]? = some v → ∃ u, vs[i]? = some u ∧ VR G F2 ρ2 u v := by
            intro vs as i v h
            induction h generalizing i with
            | nil => intro e; simp at e
            | cons r _ ih =>
              intro e
              cases i with
              | zero => simp at e; subst e; exact ⟨_, rfl, r⟩
              | succ i => simpa using ih (by simpa using e)
          obtain ⟨u', hu', v3⟩ := get hv hx
          rw [hxw] at hu'
          cases hu'
          rw [hd] at o2
          unfold forO at o2
          rw [if_pos hst] at o2
          have o3 : out G S F2 ρ2 (FR G) (endQ D) E (bd (g xs[i] loc2) (fun l3 => bd (b l3) fun r => match r.1 with
            | .nx => forO k xs (fBody g b) (xs.drop (i + 1)) r.2
            | .ct => forO k xs (fBody g b) (xs.drop (i + 1)) r.2
            | .bk => ret (.nx, r.2)
            | .rt v => ret (.rt v, r.2)) st2) := by
            have e : bd (g xs[i] loc2) (fun l3 => bd (b l3) fun r => match r.1 with
              | .nx => forO k xs (fBody g b) (xs.drop (i + 1)) r.2
              | .ct => forO k xs (fBody g b) (xs.drop (i + 1)) r.2
              | .bk => ret (.nx, r.2)
              | .rt v => ret (.rt v, r.2)) st2 = bd (fBody g b xs[i] loc2) (fun r => match r.1 with
              | .nx => forO k xs (fBody g b) (xs.drop (i + 1)) r.2
              | .ct => forO k xs (fBody g b) (xs.drop (i + 1)) r.2
              | .bk => ret (.nx, r.2)
              | .rt v => ret (.rt v, r.2)) st2 := by
              unfold fBody bd
              cases g xs[i] loc2 st2 with
              | bad => rfl
              | ex _ _ => rfl
              | ok v s => rfl
            rw [e]
            exact o2
          refine ⟨S, F2, ρ2, loc2, st2, xs[i], r2, l2, v3, out.imp (fun σ4 H4 h4 => ?_) (out.bd (Rl := TR G vs σ2) o3)⟩
          obtain ⟨F4, ρ4, loc4, st4, g4, r4, ⟨l4, _⟩, o4⟩ := h4
          refine ⟨S, F4, ρ4, loc4, st4, r4, l4, out.imp (fun u H5 h5 => ?_) (out.bd (Rl := FR G) o4)⟩
          obtain ⟨F5, ρ5, ⟨fl, loc5⟩, st5, g5, r5, fr, o5⟩ := h5
          have gg : Gr F1 ρ1 F5 ρ5 := (g2.trans g4).trans g5
          cases u with
          | nx σ5 =>
            cases fl with
            | nx => exact ⟨F5, ρ5, loc5, st5, gg, r5, fr, o5⟩
            | bk => exact fr.elim
            | ct => exact fr.elim
            | rt v => exact fr.elim
          | ct σ5 =>
            cases fl with
            | ct => exact ⟨F5, ρ5, loc5, st5, gg, r5, fr, o5⟩
            | bk => exact fr.elim
            | nx => exact fr.elim
            | rt v => exact fr.elim
          | bk σ5 =>
            cases fl with
            | bk => exact out.at (v := (Fl.nx, loc5)) (u := FV.nx σ5) o5 r5 fr
            | ct => exact fr.elim
            | nx => exact fr.elim
            | rt v => exact fr.elim
          | rt w =>
            cases fl with
            | rt v => exact out.at (v := (Fl.rt v, loc5)) (u := FV.rt w) o5 r5 fr
            | ct => exact fr.elim
            | nx => exact fr.elim
            | bk => exact fr.elim
        · have e : i = xs.length := by omega
          subst e
          refine .inl ⟨⟨ws, SqL.of hws, by omega⟩, ?_⟩
          rw [List.drop_length] at o2
          unfold forO at o2
          rw [if_pos hst] at o2
          exact out.at (v := (Fl.nx, loc2)) (u := FV.nx σ2) o2 r2 l2
theorem qs_forO {tg iter : Expr} {body : List Stmt} {e : Y.E} {g : Y.G} {b : Y.S} {vs : List Nat} {pos : Pos} (hp : PassesOwn (model X.prog X.w) X.A X.env X.xe) (hc : X.calm = true) (hi : PE X iter (lE G E e)) (hg : PG X tg (lG G E vs g)) (hb : PSs X body (lS G E b)) (hs : ∀ x, foldedSetIterable iter X.env x = pure x := by intro _; rfl) (hK : X.K = G.K := by rfl) :
    PS X (.For tg iter body [] pos) (lS G E (sForO e g b)) := by
  refine PS.imp (ps_for hp hc (pi_list hi) hg hb hs) fun D σ H h => ?_
  rw [hK]
  exact lS_forO D σ H h
theorem qs_for {tg iter : Expr} {body : List Stmt} {it : Y.I} {g : Y.G} {b : Y.S} {vs : List Nat} {pos : Pos} (hp : PassesOwn (model X.prog X.w) X.A X.env X.xe) (hc : X.calm = true) (hi : PI X tg iter (lI G E it)) (hg : PG X tg (lG G E vs g)) (hb : PSs X body (lS G E b)) (hs : ∀ x, foldedSetIterable iter X.env x = pure x := by intro _; rfl) :
    PS X (.For tg iter body [] pos) (lS G E (sFor it g b)) := PS.imp (ps_for hp hc hi hg hb hs) lS_for
theorem lS_while {t : Tst} {b : Y.S} : ∀ D σ H, lS G E (sWhile t b) D σ H → tWhile (lT G E t) (lS G E b) D σ H := by
  rintro D σ H ⟨S, F, ρ, loc, st, rp, l, o⟩
  have o' : ∃ n, out G S F ρ (FR G) (endQ D) E (whl t b n loc st) := by
    unfold sWhile at o
    split at o
    · rename_i h
      exact ⟨h.choose, o⟩
    · exact o.elim
  obtain ⟨n, o1⟩ := o'
  refine ⟨fun m σ2 H2 => ∃ F2 ρ2 loc2 st2, Gr F ρ F2 ρ2 ∧ Rep G S F2 ρ2 H2 st2 ∧ LR G F2 ρ2 σ2 loc2 ∧ out G S F2 ρ2 (FR G) (endQ D) E (whl t b m loc2 st2), ⟨n, F, ρ, loc, st, Gr.refl, rp, l, o1⟩, ?_⟩
  rintro m σ2 H2 ⟨F2, ρ2, loc2, st2, g2, r2, l2, o2⟩
  cases m with
  | zero => exact o2.elim
  | succ m =>
    refine ⟨S, F2, ρ2, loc2, st2, r2, l2, out.imp (fun c H3 h3 => ?_) (out.bd (Rl := BR) o2)⟩
    obtain ⟨F3, ρ3, v, st3, g3, r3, vr, o3⟩ := h3
    cases vr
    cases c with
    | false => exact out.at (v := (Fl.nx, loc2)) (u := FV.nx σ2) o3 r3 (l2.mono g3)
    | true =>
      refine ⟨fun σ4 H4 => ∃ F4 ρ4 loc4 st4, Gr F ρ F4 ρ4 ∧ Rep G S F4 ρ4 H4 st4 ∧ LR G F4 ρ4 σ4 loc4 ∧ out G S F4 ρ4 (FR G) (endQ D) E (whl t b m loc4 st4), fun σ' H' p => ⟨m, Nat.lt_succ_self m, p⟩, S, F3, ρ3, loc2, st3, r3, l2.mono g3, out.imp (fun u H5 h5 => ?_) (out.bd (Rl := FR G) o3)⟩
      obtain ⟨F5, ρ5, ⟨fl, loc5⟩, st5, g5, r5, fr, o5⟩ := h5
      have gg : Gr F ρ F5 ρ5 := (g2.trans g3).trans g5
      cases u with
      | nx σ5 =>
        cases fl with
        | nx => exact ⟨F5, ρ5, loc5, st5, gg, r5, fr, o5⟩
        | bk => exact fr.elim
        | ct => exact fr.elim
        | rt v => exact fr.elim
      | ct σ5 =>
        cases fl with
        | ct => exact ⟨F5, ρ5, loc5, st5, gg, r5, fr, o5⟩
        | bk => exact fr.elim
        | nx => exact fr.elim
        | rt v => exact fr.elim
      | bk σ5 =>
        cases fl with
        | bk => exact out.at (v := (Fl.nx, loc5)) (u := FV.nx σ5) o5 r5 fr
        | ct => exact fr.elim
        | nx => exact fr.elim
        | rt v => exact fr.elim
      | rt w =>
        cases fl with
        | rt v => exact out.at (v := (Fl.rt v, loc5)) (u := FV.rt w) o5 r5 fr
        | ct => exact fr.elim
        | nx => exact fr.elim
        | bk => exact fr.elim
theorem qs_while {c : Expr} {body : List Stmt} {t : Tst} {b : Y.S} {pos : Pos} (hp : PassesOwn (model X.prog X.w) X.A X.env X.xe) (hc : PT X c (lT G E t)) (hb : PSs X body (lS G E b)) : PS X (.While c body [] pos) (lS G E (sWhile t b)) := PS.imp (ps_while hp hc hb) lS_while
end
/-! ### a def by its body -/
section
variable {P : Program} {w : World} {K : PySem.W.Frag} {mg : Str → Option Value} {base : Heap} {G : Glo}
theorem lr_start {F : Hp} {ρ : List Addr} {vs : List V} {as : List Val} {N : List Str} (h : VRs G F ρ vs as) (hl : as.length ≤ N.length) : LR G F ρ (L2.start N vs) (as.map some ++ List.replicate (N.length - as.length) none) := by
  have hv := h.length
  unfold L2.start
  refine ⟨by rw [List.length_append, List.length_append, List.length_map, List.length_map, List.length_replicate, List.length_replicate, hv], fun i v e => ?_⟩
  by_cases hi : i < as.length
  · rw [List.getElem?_append_left (by rw [List.length_map]; exact hi), List.getElem?_map] at e
    rw [List.getElem?_append_left (by rw [List.length_map]; omega), List.getElem?_map]
    have get : ∀ {vs : List V} {as : List Val} {i : Nat} {v : Val}, VRs G F ρ vs as → as[i]? = some v → ∃ u, vs[i]? = some u ∧ VR G F ρ u v := by
      intro vs as i v h
      induction h generalizing i with
      | nil => intro e; simp at e
      | cons r _ ih =>
        intro e
        cases i with
        | zero => simp at e; subst e; exact ⟨_, rfl, r⟩
        | succ i => simpa using ih (by simpa using e)
    cases q : as[i]? with
    | none => rw [q] at e; cases e
    | some a =>
      rw [q] at e
      cases e
      obtain ⟨u, h1, h2⟩ := get h q
      exact ⟨u, by rw [h1]; rfl, h2⟩
  · rw [List.getElem?_append_right (by rw [List.length_map]; omega), List.getElem?_replicate] at e
    split at e <;> cases e
/-- the promise of a def whose body reads as b -/
theorem fn_body {N : List Str} {b : Y.S} {n : Nat} {vs : List V} {H : Hp} {Q : VK} {E : XK} (hn : n ≤ N.length) (h : spF G n (runF N.length b) vs H Q E) : lS G E b { nx := fun _ H' => Q .non H', rt := Q } (L2.start N vs) H := by
  obtain ⟨S, F, ρ, st, as, rp, vr, hl, o⟩ := h
  refine ⟨S, F, ρ, _, st, rp, lr_start vr (by omega), out.imp (fun u H1 h1 => ?_) (out.bd (Rl := FR G) o)⟩
  obtain ⟨F1, ρ1, ⟨fl, loc1⟩, st1, g1, r1, fr, o1⟩ := h1
  cases u with
  | nx σ1 =>
    cases fl with
    | nx => exact out.at (v := Val.d .none) (u := V.non) o1 r1 .non
    | bk => exact fr.elim
    | ct => exact fr.elim
    | rt v => exact fr.elim
  | bk σ1 =>
    cases fl with
    | bk => exact o1.elim
    | nx => exact fr.elim
    | ct => exact fr.elim
    | rt v => exact fr.elim
  | ct σ1 =>
    cases fl with
    | ct => exact o1.elim
    | nx => exact fr.elim
    | bk => exact fr.elim
    | rt v => exact fr.elim
  | rt w =>
    cases fl with
    | rt v => exact out.at (v := v) (u := w) o1 r1 fr
    | nx => exact fr.elim
    | bk => exact fr.elim
    | ct => exact fr.elim
theorem fn_ok {x qual : Str} {st : Stmt} {f : Addr} {fd : FuncData} {N ps : List Str} {k n : Nat} {b : Y.S} (Fn : Fun K x qual st f fd) (Sc : FnScope N ps (defScope st)) (hn : n = ps.length) (hN : n ≤ N.length)
    (hb : ∀ (cdv : Value) (A : Around) (outer : List Env) (s : Shared) (H : Hp) (E : XK), Room k (A.deeper (envOfC qual (defScope st) s.heap.objs.size f cdv)) → PSs (cxOf (L2N.CX P w) P w K mg base N qual (defScope st) f cdv A outer s H E) (defBody st) (lS G E b)) :
    FnOk P w K mg base (L2N.CX P w) (k + 1) f fd ps (spF G n (runF N.length b)) := by
  obtain ⟨oc, od, kV, doc, pm, an, cdv, ct, osl, rfl, lk, hcd⟩ := Fn.ex
  refine fn_of lk hcd Sc (fun vs H Q E h => ?_) fun A outer s H vs Q E hr h => ⟨lS G E b, hb cdv A outer s H E hr, fn_body hN h⟩
  obtain ⟨S, F, ρ, st, as, rp, vr, hl, o⟩ := h
  rw [vr.length, hl, hn]
end
/-- what a def of the program lets out -/
theorem pasE {X : Cx} {E : XK} (tk : L2N.Takes X (fun cls d _ H => E cls d H)) : ∀ σ, PassesAt (L2N.CX X.prog X.w) X σ E := fun σ => L2N.passAt tk σ
theorem pasF {X : Cx} : ∀ σ, PassesAt (L2N.CX X.prog X.w) X σ EF := fun _ _ _ _ _ _ _ h => by
  obtain ⟨_, _, _, _, _, _, _, _, _, _, _, _, z⟩ := h
  exact z.elim
end Y
end
section
set_option Elab.async false
set_option Elab.async false
set_option linter.all false
set_option maxRecDepth 100000
set_option maxHeartbeats 1000000
/-! Ops: the operators and built-ins of Sem are sound. -/
namespace L2
open PySem PySem.Spec PyProof.Rows
/-! ### t * 1 is t -/
theorem tuple_mul1 (l : Addr) (items : Array Value) (n : Nat) (dd : Option Addr) (sl : Array (Option Value)) (u : Tok) :
    Meets (Builtin.«tuple.__mul__» ⟨[.ref l, .int 1 u], []⟩) (fun _ R s => s.heap.get? l = some { cls := .type "tuple", dict := dd, data := .seq items n, slots := sl } ∧
      R (.ok (.ret (Value.ref l))) s) :=
  .of_wp fun prog w A R s h => by
    obtain ⟨hp, g, d, tk, os⟩ := s
    obtain ⟨hl, h⟩ := h
    have f1 := AutoSeq1.idx_int
    have c1 : (items.isEmpty || (1 : Int) == 1) = true := by simp
    wp_walk using wpAny_loadPart' hl
    repeat (first
      | (refine wpAny_ite_false (decide_eq_false (by decide)) ?_; wp_walk using wpAny_loadPart' hl)
      | (refine wpAny_ite_true (decide_eq_true (by rw [c1])) ?_; wp_walk using wpAny_loadPart' hl))
    exact ⟨_, rfl, h⟩
def rRepT1 (K : PySem.W.Frag) : R2 := fun x y H Q => ∃ l xs, x = .ref l ∧ y = .int 1 ∧ SqT K H l xs ∧ Q (.ref l) H
section
variable {X : Cx}
theorem op_repT1 : OpR X (binaryOp .Mult) (rRepT1 X.K) := by
  intro pins s σ H x y v u Q I rx ry h
  obtain ⟨l, xs, rfl, rfl, hT, q⟩ := h
  cases rx
  obtain ⟨t, rfl⟩ := ry
  obtain ⟨its, r, ⟨⟨cls, dd, data, sl⟩, ho, hc, n, hd⟩, hs⟩ := I.tuple hT
  simp only at hc hd
  subst hc hd
  refine wpAny_binaryOp_repeat_ref (T := "tuple") (U := "int") (by decide) ⟨_, ho, rfl⟩ (fun s' => typeIs_int s' 1 t) noFill_tuple_mul F.fills_int_mul F.slot_int_rmul repeat_tuple F.slot_int_index.lookup
    (call_meets F.slot_int_rmul (typeIs_int s 1 t) F.entry_int_rmul (F.args_int_rmul_2 _ _) (int_rmul_tuple 1 t l its.toArray n dd sl)
      ⟨ho, rfl, ⟨_, ho, rfl⟩, call_meets F.slot_tuple_mul ⟨_, ho, rfl⟩ F.entry_tuple_mul (F.args_tuple_mul_2 _ _) (tuple_mul1 l its.toArray n dd sl t) ⟨ho, ?_⟩⟩)
  exact ⟨.ref l, H, I, rfl, q⟩
/-- * of ints as Sem has it -/
theorem op_mulA : OpR X (binaryOp .Mult) (rI (fun i j => Y.mulOk i j = true) fun i j => .int (i * j)) := opI fun i j _ _ _ _ _ hc q => by
  refine mul_int q ?_
  unfold Y.mulOk at hc
  rw [Bool.or_eq_true, Bool.or_eq_true] at hc
  rcases hc with (hc | hc) | hc
  · have := of_decide_eq_true hc
    exact .of_left (intBits_le_64 (by omega) (by omega))
  · have := of_decide_eq_true hc
    exact .of_right (intBits_le_64 (by omega) (by omega))
  · have h : i.natAbs.log2 + j.natAbs.log2 < 1000000 := of_decide_eq_true hc
    exact CMulW.ok h
end
end L2
namespace Y
open PySem PySem.Spec PyProof.Rows L2
section
variable {X : Cx} {G : Glo}
theorem dt_int {F : Hp} {u : V} {i : Int} (h : Dt F u (.int i)) : u = .int i := by
  cases h with
  | int _ => rfl
theorem dt_str {F : Hp} {u : V} {i : Str} (h : Dt F u (.str i)) : u = .str i := by
  cases h with
  | str _ => rfl
theorem dt_list {F : Hp} {u : V} {ds : List D} (h : Dt F u (.list ds)) : ∃ a xs, u = .ref a ∧ F a = some (.lst xs) ∧ DtA F xs ds := by
  cases h with
  | lst a b => exact ⟨_, _, rfl, a, b⟩
theorem dt_tup {F : Hp} {u : V} {ds : List D} (h : Dt F u (.tuple ds)) : ∃ a xs, u = .ref a ∧ F a = some (.tup xs) ∧ DtA F xs ds := by
  cases h with
  | tup a b => exact ⟨_, _, rfl, a, b⟩
/-! ### + -/
def rAddA (K : PySem.W.Frag) : R2 := fun x y H Q => rI0 (fun i j => .int (i + j)) x y H Q ∨ rCat x y H Q ∨ rCatA K x y H Q ∨ (∃ i j, x = .str i ∧ y = .str j ∧ i.length + j.length ≤ sizeLine ∧ Q (.str (i ++ j)) H)
theorem op_addA : OpR X (binaryOp .Add) (rAddA X.K) := op_add.or (op_cat.or (op_catA.or op_add_str))
theorem bAdd_snd : OSnd G (rAddA G.K) bAdd := by
  intro S F ρ H st x y a b Q E rp hx hy o
  unfold bAdd at o
  split at o
  · rename_i i j
    rw [dt_int hx, dt_int hy]
    exact .inl ⟨i, j, rfl, rfl, out.at (v := vI (i + j)) o rp (.int _)⟩
  · rename_i xs ys
    obtain ⟨a, us, rfl, ha, hu⟩ := dt_list hx
    obtain ⟨b, ws, rfl, hb, hw⟩ := dt_list hy
    by_cases hl : xs.length + ys.length ≤ lim
    · rw [if_pos hl] at o
      exact .inr (.inl ⟨a, b, us, ws, rfl, rfl, rp.ex _ _ ha, rp.ex _ _ hb, sz (by rw [hu.length, hw.length]; exact hl), fun p hp => out_lst rp (hu.append hw) o p hp⟩)
    · rw [if_neg hl] at o
      exact o.elim
  · rename_i xs ys
    obtain ⟨a, us, rfl, ha, hu⟩ := dt_tup hx
    obtain ⟨b, ws, rfl, hb, hw⟩ := dt_tup hy
    by_cases hl : xs.length + ys.length ≤ lim
    · rw [if_pos hl] at o
      refine .inr (.inr (.inl ⟨a, b, us, ws, rfl, rfl, SqT.of (rp.ex _ _ ha), SqT.of (rp.ex _ _ hb), sz (by rw [hu.length, hw.length]; exact hl), fun e => ?_, fun _ e => ?_, fun _ _ p hp => out_tup rp (hu.append hw) o p hp⟩))
      · subst e
        cases hu
        exact out.at (v := Val.d (.tuple ys)) o rp (Dt.tup hb hw)
      · subst e
        cases hw
        rw [List.append_nil] at o
        exact out.at (v := Val.d (.tuple xs)) o rp (Dt.tup ha hu)
    · rw [if_neg hl] at o
      exact o.elim
  · rename_i i j
    rw [dt_str hx, dt_str hy]
    by_cases hl : i.length + j.length ≤ lim
    · rw [if_pos hl] at o
      exact .inr (.inr (.inr ⟨i, j, rfl, rfl, sz hl, out.at (v := Val.d (.str (i ++ j))) o rp (.str _)⟩))
    · rw [if_neg hl] at o
      exact o.elim
  · exact o.elim
theorem bSub_snd : OSnd G (rI0 fun i j => .int (i - j)) bSub := by
  intro S F ρ H st x y a b Q E rp hx hy o
  unfold bSub at o
  split at o
  · rename_i i j
    rw [dt_int hx, dt_int hy]
    exact ⟨i, j, rfl, rfl, out.at (v := vI (i - j)) o rp (.int _)⟩
  · exact o.elim
/-! ### * -/
def rMulA (K : PySem.W.Frag) : R2 := fun x y H Q => rI (fun i j => Y.mulOk i j = true) (fun i j => .int (i * j)) x y H Q ∨ rRep x y H Q ∨ rRepT K x y H Q ∨ rRepT1 K x y H Q
theorem op_mulAll : OpR X (binaryOp .Mult) (rMulA X.K) := op_mulA.or (op_rep.or (op_repT.or op_repT1))
theorem bMul_snd : OSnd G (rMulA G.K) bMul := by
  intro S F ρ H st x y a b Q E rp hx hy o
  unfold bMul at o
  split at o
  · rename_i i j
    rw [dt_int hx, dt_int hy]
    by_cases hc : mulOk i j = true
    · rw [if_pos hc] at o
      exact .inl ⟨i, j, rfl, rfl, hc, out.at (v := vI (i * j)) o rp (.int _)⟩
    · rw [if_neg hc] at o
      exact o.elim
  · rename_i xs k
    obtain ⟨a, us, rfl, ha, hu⟩ := dt_list hx
    rw [dt_int hy]
    by_cases hl : -1000 ≤ k ∧ k ≤ 1000 ∧ xs.length ≤ 1000
    · rw [if_pos hl] at o
      refine .inr (.inl ⟨a, k, us, rfl, rfl, rp.ex _ _ ha, by omega, by omega, ?_, fun p hp => out_lst rp (hu.rep k.toNat) o p hp⟩)
      rw [hu.length, sizeLine_eq]
      have : xs.length * k.toNat ≤ 1000 * 1000 := Nat.mul_le_mul (by omega) (by omega)
      omega
    · rw [if_neg hl] at o
      exact o.elim
  · rename_i xs k
    obtain ⟨a, us, rfl, ha, hu⟩ := dt_tup hx
    rw [dt_int hy]
    by_cases hl : 1 ≤ k ∧ k ≤ 1000 ∧ 1 ≤ xs.length ∧ xs.length ≤ 1000
    · rw [if_pos hl] at o
      by_cases h1 : k = 1
      · subst h1
        refine .inr (.inr (.inr ⟨a, us, rfl, rfl, SqT.of (rp.ex _ _ ha), out.at (v := Val.d (.tuple (repD 1 xs))) o rp ?_⟩))
        have e : repD 1 xs = xs := by
          unfold repD
          show (List.replicate 1 xs).flatten = xs
          simp
        rw [e]
        exact Dt.tup ha hu
      · refine .inr (.inr (.inl ⟨a, k, us, rfl, rfl, SqT.of (rp.ex _ _ ha), fun e => ?_, by omega, hl.2.1, by rw [hu.length]; exact hl.2.2.2, fun p hp => out_tup rp (hu.rep k.toNat) o p hp⟩))
        have := hu.length
        rw [e] at this
        have h3 := hl.2.2.1
        simp at this
        omega
    · rw [if_neg hl] at o
      exact o.elim
  · exact o.elim
theorem bDiv_snd : OSnd G (rI CDivW fun i j => .int (i / j)) bDiv := by
  intro S F ρ H st x y a b Q E rp hx hy o
  unfold bDiv at o
  split at o
  · rename_i i j
    rw [dt_int hx, dt_int hy]
    by_cases hc : 0 < j ∧ j.natAbs.log2 < 9000
    · rw [if_pos hc] at o
      exact ⟨i, j, rfl, rfl, hc, out.at (v := vI (i / j)) o rp (.int _)⟩
    · rw [if_neg hc] at o
      exact o.elim
  · exact o.elim
theorem bMod_snd : OSnd G (rI (fun _ j => 0 < j) fun i j => .int (i % j)) bMod := by
  intro S F ρ H st x y a b Q E rp hx hy o
  unfold bMod at o
  split at o
  · rename_i i j
    rw [dt_int hx, dt_int hy]
    by_cases hc : 0 < j
    · rw [if_pos hc] at o
      exact ⟨i, j, rfl, rfl, hc, out.at (v := vI (i % j)) o rp (.int _)⟩
    · rw [if_neg hc] at o
      exact o.elim
  · exact o.elim
theorem bPow_snd : OSnd G (rI CPow fun i j => .int (i ^ j.toNat)) bPow := by
  intro S F ρ H st x y a b Q E rp hx hy o
  unfold bPow at o
  split at o
  · rename_i i j
    rw [dt_int hx, dt_int hy]
    by_cases hc : 0 ≤ j ∧ j ≤ 1000000 ∧ i.natAbs < 2 ^ 64
    · rw [if_pos hc] at o
      exact ⟨i, j, rfl, rfl, hc, out.at (v := vI (i ^ j.toNat)) o rp (.int _)⟩
    · rw [if_neg hc] at o
      exact o.elim
  · exact o.elim
theorem bNeg_snd : USnd G (rU fun i => .int (-i)) bNeg := by
  intro S F ρ H st x a Q E rp hx o
  unfold bNeg at o
  split at o
  · rename_i i
    rw [dt_int hx]
    exact ⟨i, rfl, out.at (v := vI (-i)) o rp (.int _)⟩
  · exact o.elim
theorem bCmp_snd {p : Int → Int → Bool} : OSnd G (rI0 fun i j => .bl (p i j)) (bCmp p) := by
  intro S F ρ H st x y a b Q E rp hx hy o
  unfold bCmp at o
  split at o
  · rename_i i j
    rw [dt_int hx, dt_int hy]
    exact ⟨i, j, rfl, rfl, out.at (v := vB (p i j)) o rp (.bl _)⟩
  · exact o.elim
/-! ### == -/
theorem ints_dp {K : PySem.W.Frag} {H : Hp} : ∀ ns : List Int, DpAll K H (ns.map V.int) (intsD ns)
  | [] => .nil
  | n :: ns => .cons (.int n) (ints_dp ns)
mutual
theorem Dp.mono {K : PySem.W.Frag} {F H : Hp} (e : Exn F H) : ∀ {v : V} {d : D}, Dp K F v d → Dp K H v d
  | _, _, .non => .non
  | _, _, .bl b => .bl b
  | _, _, .int i => .int i
  | _, _, .str x => .str x
  | _, _, .lst h k => .lst (Evl.ex_l e h) (DpAll.mono e k)
  | _, _, .tup h k => .tup (Evl.ex_t e h) (DpAll.mono e k)
theorem DpAll.mono {K : PySem.W.Frag} {F H : Hp} (e : Exn F H) : ∀ {v : List V} {d : List D}, DpAll K F v d → DpAll K H v d
  | _, _, .nil => .nil
  | _, _, .cons h k => .cons (Dp.mono e h) (DpAll.mono e k)
end
theorem snap_dp {S F : Hp} {ρ : List Addr} {H : Hp} {st : Store} {x : V} {a : Val} {d : D} {s : Store} (rp : Rep G S F ρ H st) (h : VR G F ρ x a) (e : snap a st = .ok d s) : s = st ∧ Dp G.K H x d := by
  cases a with
  | d y =>
    have e' : R.ok y st = R.ok d s := e
    injection e' with e1 e2
    subst e1 e2
    exact ⟨rfl, Dp.mono rp.ex (Dt.dp h)⟩
  | s ns =>
    have e' : R.ok (PyData.list (intsD ns)) st = R.ok d s := e
    injection e' with e1 e2
    subst e1 e2
    obtain ⟨a, rfl, hs⟩ := h
    exact ⟨rfl, .lst (Evl.ex_l rp.ex hs) (ints_dp ns)⟩
  | o k =>
    unfold snap at e
    obtain ⟨a, ha, rfl⟩ := h
    cases q : st[k]? with
    | none => simp only [q] at e; cases e
    | some ob =>
      simp only [q] at e
      cases ob with
      | ins _ _ => cases e
      | gone => cases e
      | tup _ => cases e
      | dct _ => cases e
      | dcf _ => cases e
      | lst xs =>
        dsimp only at e
        cases q2 : toDs xs with
        | none => rw [q2] at e; cases e
        | some ds =>
          rw [q2] at e
          have e' : R.ok (PyData.list ds) st = R.ok d s := e
          injection e' with e1 e2
          subst e1 e2
          obtain ⟨a', h', q1, q3, q4, vs, q5, q6⟩ := rp.own k _ q
          rw [ha] at q1
          cases q1
          subst q5
          exact ⟨rfl, .lst (SqL.of q4) (DpAll.mono rp.ex (DtA.dp (toDs_rel q6 q2)))⟩
theorem bEq_snd : OSnd G (rEqD G.K) bEq := by
  intro S F ρ H st x y a b Q E rp hx hy o
  unfold bEq bd at o
  cases e1 : snap a st with
  | bad => rw [e1] at o; exact o.elim
  | ex c s =>
    exfalso
    cases a with
    | d _ => cases e1
    | s _ => cases e1
    | o k =>
      unfold snap at e1
      revert e1
      dsimp only
      split
      · split <;> (intro z; cases z)
      · intro z; cases z
  | ok d s =>
    rw [e1] at o
    obtain ⟨rfl, hd⟩ := snap_dp rp hx e1
    dsimp only at o
    cases e2 : snap b s with
    | bad => rw [e2] at o; exact o.elim
    | ex c s' =>
      exfalso
      cases b with
      | d _ => cases e2
      | s _ => cases e2
      | o k =>
        unfold snap at e2
        revert e2
        dsimp only
        split
        · split <;> (intro z; cases z)
        · intro z; cases z
    | ok d' s' =>
      rw [e2] at o
      obtain ⟨rfl, hd'⟩ := snap_dp rp hy e2
      dsimp only at o
      unfold eqD at o
      by_cases hs : SeqAt.shaped d = true ∧ SeqAt.shaped d' = true
      · rw [if_pos hs] at o
        exact ⟨d, d', hd, hd', hs.1, hs.2, out.at (v := vB (PyData.eqv d d')) o rp (.bl _)⟩
      · rw [if_neg hs] at o
        exact o.elim
theorem bNe_snd : OSnd G (rNeD G.K) bNe := by
  intro S F ρ H st x y a b Q E rp hx hy o
  unfold bNe bd at o
  cases e1 : snap a st with
  | bad => rw [e1] at o; exact o.elim
  | ex c s =>
    exfalso
    cases a with
    | d _ => cases e1
    | s _ => cases e1
    | o k =>
      unfold snap at e1
      revert e1
      dsimp only
      split
      · split <;> (intro z; cases z)
      · intro z; cases z
  | ok d s =>
    rw [e1] at o
    obtain ⟨rfl, hd⟩ := snap_dp rp hx e1
    dsimp only at o
    cases e2 : snap b s with
    | bad => rw [e2] at o; exact o.elim
    | ex c s' =>
      exfalso
      cases b with
      | d _ => cases e2
      | s _ => cases e2
      | o k =>
        unfold snap at e2
        revert e2
        dsimp only
        split
        · split <;> (intro z; cases z)
        · intro z; cases z
    | ok d' s' =>
      rw [e2] at o
      obtain ⟨rfl, hd'⟩ := snap_dp rp hy e2
      dsimp only at o
      unfold eqD at o
      by_cases hs : SeqAt.shaped d = true ∧ SeqAt.shaped d' = true
      · rw [if_pos hs] at o
        exact ⟨d, d', hd, hd', hs.1, hs.2, out.at (v := vB (!PyData.eqv d d')) o rp (.bl _)⟩
      · rw [if_neg hs] at o
        exact o.elim
/-! ### is None -/
theorem isN_iff {F : Hp} {ρ : List Addr} {x : V} {a : Val} (h : VR G F ρ x a) : decide (x = .non) = isN a := by
  cases a with
  | o k =>
    obtain ⟨a, _, rfl⟩ := h
    rfl
  | s ns =>
    obtain ⟨a, rfl, _⟩ := h
    rfl
  | d y =>
    have h : Dt F x y := h
    cases h <;> rfl
theorem qe_isN {E : XK} {a : Expr} {f : Y.E} {j : Nat} {pos pos' : Pos} (h : PE X a (lE G E f)) : PE X (.Compare a [.Is] [.Constant .none j pos'] pos) (lE G E (eU bIsN f)) := by
  refine PE.imp (pe_cmp (pc_isN h)) fun σ H Q ⟨S, F, ρ, loc, st, rp, l, o⟩ => ⟨S, F, ρ, loc, st, rp, l, out.imp (fun x H1 h1 => ?_) (out.bd (Rl := VR G) o)⟩
  obtain ⟨F1, ρ1, a, st1, g1, r1, v1, o1⟩ := h1
  rw [isN_iff v1]
  exact out.at (v := vB (isN a)) o1 r1 (.bl _)
theorem qe_notN {E : XK} {a : Expr} {f : Y.E} {j : Nat} {pos pos' : Pos} (h : PE X a (lE G E f)) : PE X (.Compare a [.IsNot] [.Constant .none j pos'] pos) (lE G E (eU bNotN f)) := by
  refine PE.imp (pe_cmp (pc_notN h)) fun σ H Q ⟨S, F, ρ, loc, st, rp, l, o⟩ => ⟨S, F, ρ, loc, st, rp, l, out.imp (fun x H1 h1 => ?_) (out.bd (Rl := VR G) o)⟩
  obtain ⟨F1, ρ1, a, st1, g1, r1, v1, o1⟩ := h1
  rw [isN_iff v1]
  exact out.at (v := vB (!isN a)) o1 r1 (.bl _)
theorem qt_isN {E : XK} {a : Expr} {f : Y.E} {j : Nat} {pos pos' : Pos} (h : PE X a (lE G E f)) : PT X (.Compare a [.Is] [.Constant .none j pos'] pos) (lT G E (tV (eU bIsN f))) := by
  refine PT.imp (pt_cmp (pc_isN h)) fun σ H Q ⟨S, F, ρ, loc, st, rp, l, o⟩ => ⟨S, F, ρ, loc, st, rp, l, ?_⟩
  have e : tV (eU bIsN f) loc st = bd (f loc) (fun a => ret (isN a)) st := by
    unfold tV eU bd
    cases f loc st <;> rfl
  rw [e] at o
  refine out.imp (fun x H1 h1 => ?_) (out.bd (Rl := VR G) o)
  obtain ⟨F1, ρ1, a, st1, g1, r1, v1, o1⟩ := h1
  exact ⟨isN a, by rw [isN_iff v1], out.at (v := isN a) o1 r1 rfl⟩
theorem qt_notN {E : XK} {a : Expr} {f : Y.E} {j : Nat} {pos pos' : Pos} (h : PE X a (lE G E f)) : PT X (.Compare a [.IsNot] [.Constant .none j pos'] pos) (lT G E (tV (eU bNotN f))) := by
  refine PT.imp (pt_cmp (pc_notN h)) fun σ H Q ⟨S, F, ρ, loc, st, rp, l, o⟩ => ⟨S, F, ρ, loc, st, rp, l, ?_⟩
  have e : tV (eU bNotN f) loc st = bd (f loc) (fun a => ret (!isN a)) st := by
    unfold tV eU bd
    cases f loc st <;> rfl
  rw [e] at o
  refine out.imp (fun x H1 h1 => ?_) (out.bd (Rl := VR G) o)
  obtain ⟨F1, ρ1, a, st1, g1, r1, v1, o1⟩ := h1
  exact ⟨!isN a, by rw [isN_iff v1], out.at (v := !isN a) o1 r1 rfl⟩
/-! ### items -/
theorem ixN_eq (n : Nat) (i : Int) : Y.ixN n i = L2.ixN n i := rfl
theorem atI_dt {F : Hp} {us : List V} {ds : List D} {i : Int} {d : D} (h : DtA F us ds) (e : Y.atI ds i = some d) : ∃ u, L2.atI us i = some u ∧ Dt F u d := by
  unfold Y.atI at e
  unfold L2.atI
  rw [h.length, ← ixN_eq]
  cases q : Y.ixN ds.length i with
  | none => rw [q] at e; cases e
  | some j =>
    rw [q] at e
    exact h.get e
theorem vrs_get {F : Hp} {ρ : List Addr} {vs : List V} {as : List Val} {i : Nat} {v : Val} (h : VRs G F ρ vs as) : as[i]? = some v → ∃ u, vs[i]? = some u ∧ VR G F ρ u v := by
  induction h generalizing i with
  | nil => intro e; simp at e
  | cons r _ ih =>
    intro e
    cases i with
    | zero => simp at e; subst e; exact ⟨_, rfl, r⟩
    | succ i => simpa using ih (by simpa using e)
theorem atI_vr {F : Hp} {ρ : List Addr} {us : List V} {ds : List Val} {i : Int} {d : Val} (h : VRs G F ρ us ds) (e : Y.atI ds i = some d) : ∃ u, L2.atI us i = some u ∧ VR G F ρ u d := by
  unfold Y.atI at e
  unfold L2.atI
  rw [h.length, ← ixN_eq]
  cases q : Y.ixN ds.length i with
  | none => rw [q] at e; cases e
  | some j =>
    rw [q] at e
    exact vrs_get h e
theorem own_lst {S F : Hp} {ρ : List Addr} {H : Hp} {st : Store} {x : V} {k : Nat} {xs : List Val} (rp : Rep G S F ρ H st) (h : VR G F ρ x (.o k)) (q : st[k]? = some (.lst xs)) : ∃ a vs, x = .ref a ∧ ρ[k]? = some a ∧ H a = some (.lst vs) ∧ VRs G F ρ vs xs := by
  obtain ⟨a, ha, rfl⟩ := h
  obtain ⟨a', h', q1, q3, q4, vs, q5, q6⟩ := rp.own k _ q
  rw [ha] at q1
  cases q1
  subst q5
  exact ⟨a, vs, rfl, ha, q4, q6⟩
theorem bIx_snd : OSnd G (rIx G.K) bIx := by
  intro S F ρ H st x y a b Q E rp hx hy o
  unfold bIx at o
  split at o
  · rename_i xs i
    obtain ⟨a, us, rfl, ha, hu⟩ := dt_list hx
    rw [dt_int hy]
    cases q : Y.atI xs i with
    | none => rw [q] at o; exact o.elim
    | some d =>
      rw [q] at o
      obtain ⟨u, h1, h2⟩ := atI_dt hu q
      exact .inl ⟨a, us, i, u, rfl, rfl, SqL.of (rp.ex _ _ ha), h1, out.at (v := Val.d d) o rp h2⟩
  · rename_i xs i
    obtain ⟨a, us, rfl, ha, hu⟩ := dt_tup hx
    rw [dt_int hy]
    cases q : Y.atI xs i with
    | none => rw [q] at o; exact o.elim
    | some d =>
      rw [q] at o
      obtain ⟨u, h1, h2⟩ := atI_dt hu q
      exact .inr (.inl ⟨a, us, i, u, rfl, rfl, SqT.of (rp.ex _ _ ha), h1, out.at (v := Val.d d) o rp h2⟩)
  · rename_i ns i
    obtain ⟨a, rfl, hs⟩ := hx
    rw [dt_int hy]
    cases q : Y.atI ns i with
    | none => rw [q] at o; exact o.elim
    | some d =>
      rw [q] at o
      refine .inl ⟨a, ns.map V.int, i, .int d, rfl, rfl, Evl.ex_l rp.ex hs, ?_, out.at (v := vI d) o rp (.int d)⟩
      unfold Y.atI at q
      unfold L2.atI
      rw [List.length_map, ← ixN_eq]
      cases q2 : Y.ixN ns.length i with
      | none => rw [q2] at q; cases q
      | some j =>
        rw [q2] at q
        show (ns.map V.int)[j]? = _
        have q : ns[j]? = some d := q
        rw [List.getElem?_map, q] <;> rfl
  · rename_i k i
    rw [dt_int hy]
    cases q : st[k]? with
    | none => simp only [q] at o; exact o.elim
    | some ob =>
      simp only [q] at o
      cases ob with
      | ins _ _ => exact o.elim
      | gone => exact o.elim
      | tup _ => exact o.elim
      | dct _ => exact o.elim
      | dcf _ => exact o.elim
      | lst xs =>
        dsimp only at o
        obtain ⟨a, vs, rfl, ha, hh, hv⟩ := own_lst rp hx q
        cases q2 : Y.atI xs i with
        | none => rw [q2] at o; exact o.elim
        | some d =>
          rw [q2] at o
          obtain ⟨u, h1, h2⟩ := atI_vr hv q2
          exact .inl ⟨a, vs, i, u, rfl, rfl, SqL.of hh, h1, out.at (v := d) o rp h2⟩
  · exact o.elim
/-! ### built-ins -/
theorem bLen_snd : BSnd G (fun xs H Q => ∃ p ys, xs = [.ref p] ∧ (SqL G.K H p ys ∨ SqT G.K H p ys) ∧ Q (.int ys.length) H) bLen := by
  intro S F ρ H st xs as Q E rp hx o
  unfold bLen at o
  split at o
  · rename_i ds
    cases hx with
    | cons h hr =>
      cases hr
      obtain ⟨a, us, rfl, ha, hu⟩ := dt_list h
      refine ⟨a, us, rfl, .inl (SqL.of (rp.ex _ _ ha)), ?_⟩
      rw [hu.length]
      exact out.at (v := vI ds.length) o rp (.int _)
  · rename_i ds
    cases hx with
    | cons h hr =>
      cases hr
      obtain ⟨a, us, rfl, ha, hu⟩ := dt_tup h
      refine ⟨a, us, rfl, .inr (SqT.of (rp.ex _ _ ha)), ?_⟩
      rw [hu.length]
      exact out.at (v := vI ds.length) o rp (.int _)
  · rename_i ns
    cases hx with
    | cons h hr =>
      cases hr
      obtain ⟨a, rfl, hs⟩ := h
      refine ⟨a, ns.map V.int, rfl, .inl (Evl.ex_l rp.ex hs), ?_⟩
      rw [List.length_map]
      exact out.at (v := vI ns.length) o rp (.int _)
  · rename_i k
    cases hx with
    | cons h hr =>
      cases hr
      cases q : st[k]? with
      | none => simp only [q] at o; exact o.elim
      | some ob =>
        simp only [q] at o
        cases ob with
        | ins _ _ => exact o.elim
        | gone => exact o.elim
        | tup _ => exact o.elim
        | dct _ => exact o.elim
        | dcf _ => exact o.elim
        | lst ys =>
          dsimp only at o
          obtain ⟨a, vs, rfl, ha, hh, hv⟩ := own_lst rp h q
          refine ⟨a, vs, rfl, .inl (SqL.of hh), ?_⟩
          rw [hv.length]
          exact out.at (v := vI ys.length) o rp (.int _)
  · exact o.elim
theorem toBs_rel {F : Hp} : ∀ {us : List V} {ds : List D} {bs : List Bool}, DtA F us ds → toBs ds = some bs → us = bs.map V.bl
  | _, [], bs, .nil, e => by
    cases e
    rfl
  | _, d :: r, bs, .cons h k, e => by
    cases d with
    | bool b =>
      unfold toBs at e
      cases q : toBs r with
      | none => rw [q] at e; cases e
      | some es =>
        rw [q] at e
        cases e
        cases h
        rw [toBs_rel k q]
        rfl
    | none => cases e
    | int _ => cases e
    | str _ => cases e
    | list _ => cases e
    | tuple _ => cases e
    | dict _ => cases e
theorem toIs_rel {F : Hp} : ∀ {us : List V} {ds : List D} {bs : List Int}, DtA F us ds → toIs ds = some bs → us = bs.map V.int
  | _, [], bs, .nil, e => by
    cases e
    rfl
  | _, d :: r, bs, .cons h k, e => by
    cases d with
    | int b =>
      unfold toIs at e
      cases q : toIs r with
      | none => rw [q] at e; cases e
      | some es =>
        rw [q] at e
        cases e
        cases h
        rw [toIs_rel k q]
        rfl
    | none => cases e
    | bool _ => cases e
    | str _ => cases e
    | list _ => cases e
    | tuple _ => cases e
    | dict _ => cases e
theorem bAll_snd : BSnd G (rAll G.K) bAll := by
  intro S F ρ H st xs as Q E rp hx o
  unfold bAll at o
  split at o
  · rename_i ds
    cases hx with
    | cons h hr =>
      cases hr
      obtain ⟨a, us, rfl, ha, hu⟩ := dt_list h
      cases q : toBs ds with
      | none => rw [q] at o; exact o.elim
      | some bs =>
        rw [q] at o
        have e := toBs_rel hu q
        subst e
        exact ⟨a, bs, rfl, SqL.of (rp.ex _ _ ha), out.at (v := vB (bs.all id)) o rp (.bl _)⟩
  · exact o.elim
theorem bAny_snd : BSnd G (rAny G.K) bAny := by
  intro S F ρ H st xs as Q E rp hx o
  unfold bAny at o
  split at o
  · rename_i ds
    cases hx with
    | cons h hr =>
      cases hr
      obtain ⟨a, us, rfl, ha, hu⟩ := dt_list h
      cases q : toBs ds with
      | none => rw [q] at o; exact o.elim
      | some bs =>
        rw [q] at o
        have e := toBs_rel hu q
        subst e
        exact ⟨a, bs, rfl, SqL.of (rp.ex _ _ ha), out.at (v := vB (bs.any id)) o rp (.bl _)⟩
  · exact o.elim
theorem bSum_snd : BSnd G (rSum G.K) bSum := by
  intro S F ρ H st xs as Q E rp hx o
  unfold bSum at o
  split at o
  · rename_i ds
    cases hx with
    | cons h hr =>
      cases hr
      obtain ⟨a, us, rfl, ha, hu⟩ := dt_list h
      cases q : toIs ds with
      | none => rw [q] at o; exact o.elim
      | some bs =>
        rw [q] at o
        have e := toIs_rel hu q
        subst e
        exact ⟨a, bs, rfl, SqL.of (rp.ex _ _ ha), out.at (v := vI bs.sum) o rp (.int _)⟩
  · exact o.elim
theorem bTuple_snd : BSnd G (fun xs H Q => ∃ p ys, xs = [.ref p] ∧ ((SqL G.K H p ys ∧ ∀ l, H l = none → Q (.ref l) (upd H l (.tup ys))) ∨ (SqT G.K H p ys ∧ Q (.ref p) H))) bTuple := by
  intro S F ρ H st xs as Q E rp hx o
  unfold bTuple at o
  split at o
  · rename_i ds
    cases hx with
    | cons h hr =>
      cases hr
      obtain ⟨a, us, rfl, ha, hu⟩ := dt_list h
      exact ⟨a, us, rfl, .inl ⟨SqL.of (rp.ex _ _ ha), fun p hp => out_tup rp hu o p hp⟩⟩
  · rename_i ds
    cases hx with
    | cons h hr =>
      cases hr
      have h0 := h
      obtain ⟨a, us, rfl, ha, hu⟩ := dt_tup h
      exact ⟨a, us, rfl, .inr ⟨SqT.of (rp.ex _ _ ha), out.at (v := Val.d (.tuple ds)) o rp h0⟩⟩
  · rename_i k
    cases hx with
    | cons h hr =>
      cases hr
      cases q : st[k]? with
      | none => simp only [q] at o; exact o.elim
      | some ob =>
        simp only [q] at o
        cases ob with
        | ins _ _ => exact o.elim
        | gone => exact o.elim
        | tup _ => exact o.elim
        | dct _ => exact o.elim
        | dcf _ => exact o.elim
        | lst ys =>
          dsimp only at o
          obtain ⟨a, vs, rfl, ha, hh, hv⟩ := own_lst rp h q
          cases q2 : toDs ys with
          | none => rw [q2] at o; exact o.elim
          | some ds =>
            rw [q2] at o
            exact ⟨a, vs, rfl, .inl ⟨SqL.of hh, fun p hp => out_tup rp (toDs_rel hv q2) o p hp⟩⟩
  · exact o.elim
theorem bMax2_snd : BSnd G (fun xs H Q => ∃ i j, xs = [.int i, .int j] ∧ Q (.int (if j > i then j else i)) H) bMax2 := by
  intro S F ρ H st xs as Q E rp hx o
  unfold bMax2 at o
  split at o
  · rename_i i j
    cases hx with
    | cons h hr =>
      cases hr with
      | cons h' hr' =>
        cases hr'
        rw [dt_int h, dt_int h']
        exact ⟨i, j, rfl, out.at (v := vI (if j > i then j else i)) o rp (.int _)⟩
  · exact o.elim
theorem bMin2_snd : BSnd G (fun xs H Q => ∃ i j, xs = [.int i, .int j] ∧ Q (.int (if j < i then j else i)) H) bMin2 := by
  intro S F ρ H st xs as Q E rp hx o
  unfold bMin2 at o
  split at o
  · rename_i i j
    cases hx with
    | cons h hr =>
      cases hr with
      | cons h' hr' =>
        cases hr'
        rw [dt_int h, dt_int h']
        exact ⟨i, j, rfl, out.at (v := vI (if j < i then j else i)) o rp (.int _)⟩
  · exact o.elim
/-! ### isinstance(e, T) -/
theorem kit_tys : ∀ T ∈ ["int", "bool", "tuple", "list", "str"], L2.kitB "NoneType" T = some false ∧ L2.kitB "bool" T = some (T == "int" || T == "bool") ∧ L2.kitB "int" T = some (T == "int") ∧ L2.kitB "str" T = some (T == "str") ∧ L2.kitB "list" T = some (T == "list") ∧ L2.kitB "tuple" T = some (T == "tuple") := by
  decide +kernel
theorem qe_isi {E : XK} {a : Expr} {f : Y.E} {T : String} {x : Str} {p q pos : Pos} (hT : T ∈ ["int", "bool", "tuple", "list", "str"]) (hg : Gl X "isinstance") (hm : X.mg "isinstance" = none) (hgT : Gl X x) (hmT : X.mg x = none) (hvT : bootBuiltins x = some (.type T)) (h : PE X a (lE G E f)) (hn : x ≠ "__name__" := by decide) (hd : (x == ("__debug__" : Str)) = false := by decide)
    (hs : starEach [a, .Name x q] X.env = (false, eval a X.env) :: starEach [.Name x q] X.env := by rfl) (hs2 : starEach [.Name x q] X.env = (false, eval (.Name x q) X.env) :: starEach [] X.env := by rfl) (hpl : (backTo pos (starEach [.Name x q] X.env)).any (·.1) = false := by rfl) (hK : X.K = G.K := by rfl) :
    PE X (.Call (.Name "isinstance" p) [a, .Name x q] [] pos) (lE G E (eU (bIsi T) f)) := by
  have hty : PE X (.Name x q) (tC (.ty T)) := pe_bltn hgT hmT hvT rfl hn hd
  refine PE.imp (pe_callB call_isi hg hm (by decide +kernel) (pa_cons h (pa_cons hty pa_nil hs2) hs) (by decide) (by decide) hs hpl) fun σ H Q ⟨S, F, ρ, loc, st, rp, l, o⟩ => ⟨S, F, ρ, loc, st, rp, l, out.imp (fun x H1 h1 => ?_) (out.bd (Rl := VR G) o)⟩
  obtain ⟨F1, ρ1, a, st1, g1, r1, v1, o1⟩ := h1
  obtain ⟨k1, k2, k3, k4, k5, k6⟩ := kit_tys T hT
  cases a with
  | o _ => exact o1.elim
  | s _ => exact o1.elim
  | d y =>
    have v1 : Dt F1 x y := v1
    cases v1 with
    | non => exact ⟨_, _, _, _, _, rfl, .ty T, .base .non, kit_ty k1, out.at (v := vB false) o1 r1 (.bl _)⟩
    | bl b => exact ⟨_, _, _, _, _, rfl, .ty T, .base (.bl b), kit_ty k2, out.at (v := vB (T == "int" || T == "bool")) o1 r1 (.bl _)⟩
    | int i => exact ⟨_, _, _, _, _, rfl, .ty T, .base (.int i), kit_ty k3, out.at (v := vB (T == "int")) o1 r1 (.bl _)⟩
    | str i => exact ⟨_, _, _, _, _, rfl, .ty T, .base (.str i), kit_ty k4, out.at (v := vB (T == "str")) o1 r1 (.bl _)⟩
    | lst ha hd => exact ⟨_, _, _, _, _, rfl, .ty T, .base (.lst (r1.ex _ _ ha)), kit_ty k5, out.at (v := vB (T == "list")) o1 r1 (.bl _)⟩
    | tup ha hd => exact ⟨_, _, _, _, _, rfl, .ty T, .base (.tup (r1.ex _ _ ha)), kit_ty k6, out.at (v := vB (T == "tuple")) o1 r1 (.bl _)⟩
/-! ### slices -/
theorem cut_dt {F : Hp} {us : List V} {ds : List D} (h : DtA F us ds) (lo hi : Option Int) : DtA F (cutV us lo hi) (cutD ds lo hi) := by
  unfold cutV cutD
  rw [h.length]
  exact (h.drop _).take _
def rSlAll (K : PySem.W.Frag) : V → Option Int → Option Int → Hp → VK → Prop := fun x lo hi H Q => rSlA K x lo hi H Q ∨ rSlL K x lo hi H Q
theorem sl_all : SlR X (rSlAll X.K) := sl_tupA.or sl_list
theorem bSl_snd : LSnd G (rSlAll G.K) bSl := by
  intro S F ρ H st x a lo hi Q E rp hx o
  unfold bSl at o
  split at o
  · rename_i xs
    have h0 := hx
    obtain ⟨a, us, rfl, ha, hu⟩ := dt_tup hx
    refine .inl ⟨a, us, rfl, SqT.of (rp.ex _ _ ha), fun hw => ?_, fun _ p hp => out_tup rp (cut_dt hu lo hi) o p hp⟩
    have e : cutD xs lo hi = xs := by
      unfold cutD
      have h1 : sIx xs.length 0 lo = 0 := by rw [← hu.length]; exact hw.1
      have h2 : sIx xs.length xs.length hi = xs.length := by rw [← hu.length]; exact hw.2
      rw [h1, h2]
      simp
    rw [e] at o
    exact out.at (v := Val.d (.tuple xs)) o rp h0
  · rename_i xs
    obtain ⟨a, us, rfl, ha, hu⟩ := dt_list hx
    exact .inr ⟨a, us, rfl, SqL.of (rp.ex _ _ ha), fun p hp => out_lst rp (cut_dt hu lo hi) o p hp⟩
  · exact o.elim
/-! ### o[i] = v, o.append(v) on objects of the store -/
theorem VRs.set {F : Hp} {ρ : List Addr} {u : V} {v : Val} (r : VR G F ρ u v) : ∀ {us : List V} {vs : List Val} (i : Nat), VRs G F ρ us vs → VRs G F ρ (us.set i u) (vs.set i v)
  | _, _, _, .nil => .nil
  | _, _, 0, .cons _ t => .cons r t
  | _, _, i + 1, .cons q t => .cons q (VRs.set r i t)
theorem qg_sub {E : XK} {vs : List Nat} {o i : Expr} {fo fi : Y.E} {pos : Pos} (ho : PE X o (lE G E fo)) (hi : PE X i (lE G E fi)) (ha : ∀ v, assign (.Subscript o i pos) X.env v = (do
      let ov ← holding [v] (eval o X.env)
      let iv ← holding [v, ov] (eval i X.env)
      standAt pos
      holding [v, ov, iv] (setItem ov iv v)
      release [v, ov, iv] []) := by intro _; rfl) : PG X (.Subscript o i pos) (lG G E vs (gSub fo fi)) := by
  refine PG.imp (pg_sub ho hi set_list ha) fun v σ H Q ⟨S, F, ρ, loc, st, x, rp, l, r, ou⟩ => ⟨S, F, ρ, loc, st, rp, l, out.imp (fun ov H1 h1 => ?_) (out.bd (Rl := VR G) ou)⟩
  obtain ⟨F1, ρ1, a, st1, g1, r1, v1, o1⟩ := h1
  refine ⟨S, F1, ρ1, loc, st1, r1, l.mono g1, out.imp (fun iv H2 h2 => ?_) (out.bd (Rl := VR G) o1)⟩
  obtain ⟨F2, ρ2, b, st2, g2, r2, v2, o2⟩ := h2
  have v1' := v1.mono g2
  have g12 := g1.trans g2
  dsimp only at o2
  split at o2
  · rename_i k j
    rw [dt_int v2]
    cases q : st2[k]? with
    | none => simp only [q] at o2; exact o2.elim
    | some ob =>
      simp only [q] at o2
      cases ob with
      | ins _ _ => exact o2.elim
      | gone => exact o2.elim
      | tup _ => exact o2.elim
      | dct _ => exact o2.elim
      | dcf _ => exact o2.elim
      | lst ys =>
        dsimp only at o2
        obtain ⟨a, us, rfl, hk, hh, hv⟩ := own_lst r2 v1' q
        cases q2 : Y.ixN ys.length j with
        | none => rw [q2] at o2; exact o2.elim
        | some m =>
          rw [q2] at o2
          refine ⟨a, us, j, m, rfl, rfl, hh, by rw [← ixN_eq, hv.length]; exact q2, ?_⟩
          exact out.go (v := loc) o2 Gr.refl (r2.put' q hk hh trivial ⟨us.set m v, rfl, VRs.set (r.mono g12) m hv⟩) ⟨l.mono g12, rfl⟩
  · exact o2.elim
theorem qe_app {E : XK} {o e : Expr} {fo fe : Y.E} {apos cpos : Pos} (ho : PE X o (lE G E fo)) (he : PE X e (lE G E fe)) (hs0 : starEach [e] X.env = (false, eval e X.env) :: starEach [] X.env := by rfl) (hbase : attributeBase o "append" X.env (eval o X.env) = eval o X.env := by rfl)
    (hfew : ((backTo cpos (starEach [e] X.env)).all (fun x => !x.1) && (backToKw cpos (keywordEach [] X.env)).all (fun x => x.1.isSome) && decide (([e] : List Expr).length + ([] : List Keyword).length + (if ([] : List Keyword).isEmpty then 0 else 1) < 30)) = true := by rfl)
    (hline : (apos.endLine == cpos.line) = true := by rfl) : PE X (.Call (.Attribute o "append" apos) [e] [] cpos) (lE G E (eApp fo fe)) := by
  refine PE.imp (pe_bm PySem.F.plainAttrs_list PySem.F.slot_list_append PySem.F.type_list_append mt_append ho (pa_cons he pa_nil hs0) hbase hfew hline hs0 rfl) fun σ H Q ⟨S, F, ρ, loc, st, rp, l, ou⟩ => ⟨S, F, ρ, loc, st, rp, l, out.imp (fun ov H1 h1 => ?_) (out.bd (Rl := VR G) ou)⟩
  obtain ⟨F1, ρ1, a, st1, g1, r1, v1, o1⟩ := h1
  cases a with
  | d _ => exact o1.elim
  | s _ => exact o1.elim
  | o k =>
    have o1 : out G S F1 ρ1 (VR G) Q E (bd (chkL (.o k)) (fun k => bd (fe loc) fun v => appS k v) st1) := o1
    unfold chkL at o1
    unfold bd at o1
    cases q : st1[k]? with
    | none => simp only [q] at o1; exact o1.elim
    | some ob =>
      simp only [q] at o1
      cases ob with
      | ins _ _ => exact o1.elim
      | gone => exact o1.elim
      | tup _ => exact o1.elim
      | dct _ => exact o1.elim
      | dcf _ => exact o1.elim
      | lst ys =>
        dsimp only at o1
        obtain ⟨a, us, rfl, hk, hh, hv⟩ := own_lst r1 v1 q
        refine ⟨.inl ⟨rfl, us, SqL.of hh⟩, S, F1, ρ1, loc, st1, r1, l.mono g1, out.imp (fun w H2 h2 => ?_) (out.bd (Rl := VR G) o1)⟩
        obtain ⟨F2, ρ2, b, st2, g2, r2, v2, o2⟩ := h2
        have v1' := v1.mono g2
        unfold appS at o2
        cases q2 : st2[k]? with
        | none => simp only [q2] at o2; exact o2.elim
        | some ob2 =>
          simp only [q2] at o2
          cases ob2 with
          | ins _ _ => exact o2.elim
          | gone => exact o2.elim
          | tup _ => exact o2.elim
          | dct _ => exact o2.elim
          | dcf _ => exact o2.elim
          | lst zs =>
            dsimp only at o2
            obtain ⟨a', ws, e1, hk', hh', hv'⟩ := own_lst r2 v1' q2
            cases e1
            by_cases hl : zs.length < lim
            · rw [if_pos hl] at o2
              refine ⟨a, ws, w, rfl, rfl, hh', by rw [hv'.length]; exact sz' hl, ?_⟩
              exact out.go (v := Val.d .none) o2 Gr.refl (r2.put' q2 hk' hh' trivial ⟨ws ++ [w], rfl, Paired.snoc hv' v2⟩) .non
            · rw [if_neg hl] at o2
              exact o2.elim
end
end Y
end
section
set_option Elab.async false
set_option Elab.async false
set_option linter.all false
set_option maxRecDepth 100000
set_option maxHeartbeats 2000000
/-! Zp: zip of two, of three sequences, each a list or a tuple; enumerate of either. -/
namespace ZP
open PySem
def SIk (kd : Bool) (h : Heap) (it l : Addr) (i : Nat) : Prop := match kd with
  | true => h.IsTupleIter it l i
  | false => h.IsListIter it l i
def SAk (kd : Bool) (h : Heap) (l : Addr) (xs : Array Value) : Prop := match kd with
  | true => h.IsTuple l xs
  | false => h.IsList l xs
theorem SIk.obj {kd : Bool} {h : Heap} {it l : Addr} {i : Nat} (x : SIk kd h it l i) : ∃ o vs, h.get? it = some o ∧ o.data = .fields vs := by
  cases kd with
  | true => obtain ⟨o, e, _, d⟩ := x; exact ⟨o, _, e, d⟩
  | false => obtain ⟨o, e, _, d⟩ := x; exact ⟨o, _, e, d⟩
theorem SIk.at {kd : Bool} {h h' : Heap} {it l : Addr} {i : Nat} (x : SIk kd h it l i) (k : ∀ o, h.get? it = some o → h'.get? it = some o) : SIk kd h' it l i := by
  cases kd with
  | true => obtain ⟨o, e, c, d⟩ := x; exact ⟨o, k _ e, c, d⟩
  | false => obtain ⟨o, e, c, d⟩ := x; exact ⟨o, k _ e, c, d⟩
theorem SAk.at {kd : Bool} {h h' : Heap} {l : Addr} {xs : Array Value} (x : SAk kd h l xs) (k : ∀ o, h.get? l = some o → h'.get? l = some o) : SAk kd h' l xs := by
  cases kd with
  | true => obtain ⟨o, e, c, n, d⟩ := x; exact ⟨o, k _ e, c, n, d⟩
  | false => obtain ⟨o, e, c, n, d⟩ := x; exact ⟨o, k _ e, c, n, d⟩
theorem SAk.lt {kd : Bool} {h : Heap} {l : Addr} {xs : Array Value} (x : SAk kd h l xs) : l < h.objs.size := by
  cases kd with
  | true => obtain ⟨o, e, c, n, d⟩ := x; exact Heap.lt_size e
  | false => obtain ⟨o, e, c, n, d⟩ := x; exact Heap.lt_size e
def itObj (kd : Bool) (l : Addr) : Obj := match kd with
  | true => { cls := .type "tuple_iterator", data := .fields #[.ref l, .int 0 0] }
  | false => { cls := .type "list_iterator", data := .fields #[.ref l, .int 0 0] }
theorem itObj_freed (kd : Bool) (l : Addr) : (itObj kd l).isFreed = false := by cases kd <;> rfl
theorem SIk.start {kd : Bool} {h : Heap} {it l : Addr} (e : h.get? it = some (itObj kd l)) : SIk kd h it l 0 := by
  cases kd with
  | true => exact ⟨_, e, rfl, rfl⟩
  | false => exact ⟨_, e, rfl, rfl⟩
section
variable {prog : Program} {w : World} {A : Around} {E : Value → Shared → Prop} {s : Shared}
theorem nextOf_item {kd : Bool} {it l : Addr} {i : Nat} {items : Array Value} {x : Value} {Q : Value → Shared → Prop} (hit : SIk kd s.heap it l i) (hl : SAk kd s.heap l items) (hx : items[i]? = some x)
    (hQ : ∀ h', SIk kd h' it l (i + 1) → Heap.SameBut it s.heap h' → Q x { s with heap := h' }) : wpAny (model prog w) A (Builtin.SmallTypes.nextOf (.ref it)) Q E s := by
  cases kd with
  | true => exact RZ.nextOf_tuple_item hit hl hx hQ
  | false => exact wpAny_nextOf_list_item hit hl hx hQ
theorem nextOf_end {kd : Bool} {it l : Addr} {i : Nat} {items : Array Value} {Q : Value → Shared → Prop} (hh : A.handled = none) (hit : SIk kd s.heap it l i) (hl : SAk kd s.heap l items) (hx : items[i]? = none)
    (hE : ∀ h' e, Heap.ExtBut it s.heap h' → (∃ o, h'.get? e = some o ∧ o.cls = .type "StopIteration") → E (.ref e) { s with heap := h' }) : wpAny (model prog w) A (Builtin.SmallTypes.nextOf (.ref it)) Q E s := by
  cases kd with
  | true => exact RZ.nextOf_tuple_end hh hit hl hx hE
  | false => exact wpAny_nextOf_list_end hh hit hl hx hE
theorem pyIter_k {kd : Bool} {l : Addr} {items : Array Value} {Q : Value → Shared → Prop} (hl : SAk kd s.heap l items) (hQ : Q (.ref s.heap.objs.size) { s with heap := s.heap.push (itObj kd l) }) : wpAny (model prog w) A (pyIter (.ref l)) Q E s := by
  cases kd with
  | true => exact wpAny_pyIter_tuple hl hQ
  | false => exact wpAny_pyIter_list hl hQ
theorem updateSeq_t {T : Addr} {vs : Array Value} {x : Value} {k : Nat} {Q : Unit → Shared → Prop} (hT : s.heap.get? T = some { cls := .type "tuple", data := .seq vs })
    (h : ∀ h', h'.get? T = some { cls := .type "tuple", data := .seq (vs.setIfInBounds k x) } → Heap.SameBut T s.heap h' → Q () { s with heap := h' }) (h5 : vs.size ≤ 10 := by simp) :
    wpAny (model prog w) A (updateSeq T (·.setIfInBounds k x)) Q E s := by
  have z1 : vs.size ≤ sizeLine := by rw [sizeLine_eq]; omega
  have z2 : (vs.setIfInBounds k x).size ≤ sizeLine + 1 := by rw [Array.size_setIfInBounds]; omega
  refine wpAny_updateSeq hT rfl (h _ ?_ (Heap.SameBut.update ..)) z1 z2
  rw [Heap.get?_update_self _ hT rfl]
  simp [Obj.mapSeq]
end
abbrev IsT (h : Heap) (T : Addr) (vs : Array Value) : Prop := h.get? T = some { cls := .type "tuple", data := .seq vs }

structure Ap2 (z TI TO i1 i2 l1 l2 : Addr) : Prop where
  TIz : TI ≠ z
  TOz : TO ≠ z
  TOTI : TO ≠ TI
  i1z : i1 ≠ z
  i1TI : i1 ≠ TI
  i1TO : i1 ≠ TO
  i2z : i2 ≠ z
  i2TI : i2 ≠ TI
  i2TO : i2 ≠ TO
  i2i1 : i2 ≠ i1
  l1z : l1 ≠ z
  l1TO : l1 ≠ TO
  l1i1 : l1 ≠ i1
  l1i2 : l1 ≠ i2
  l2z : l2 ≠ z
  l2TO : l2 ≠ TO
  l2i1 : l2 ≠ i1
  l2i2 : l2 ≠ i2
section
variable {prog : Program} {w : World} {A : Around} {E : Value → Shared → Prop} {s : Shared}
theorem zip2_item {z TI TO i1 i2 l1 l2 : Addr} {d1 d2 : Bool} {k0 : Nat} {xs1 xs2 : Array Value} {a1 a2 : Value} {y1 y2 : Value} {Q : Value → Shared → Prop} (D : Ap2 z TI TO i1 i2 l1 l2)
    (hz : IsZip s.heap z TI TO .none) (hTI : IsT s.heap TI #[.ref i1, .ref i2]) (hTO : IsT s.heap TO #[a1, a2])
    (s1 : SIk d1 s.heap i1 l1 k0) (s2 : SIk d2 s.heap i2 l2 k0) (q1 : SAk d1 s.heap l1 xs1) (q2 : SAk d2 s.heap l2 xs2) (e1 : xs1[k0]? = some y1) (e2 : xs2[k0]? = some y2)
    (hQ : ∀ h', IsZip h' z TI TO (rawInt s.heap.objs.size) → IsT h' TO #[y1, y2] → SIk d1 h' i1 l1 (k0 + 1) → SIk d2 h' i2 l2 (k0 + 1) → IsT h' s.heap.objs.size #[y1, y2] → h'.objs.size = s.heap.objs.size + 1 →
      (∀ c o, c ≠ z → c ≠ TO → c ≠ i1 → c ≠ i2 → s.heap.get? c = some o → h'.get? c = some o) → Q (.ref s.heap.objs.size) { s with heap := h' }) :
    wpAny (model prog w) A (Builtin.«zip.__next__» ⟨[.ref z], []⟩) (fun fin s' => ∃ v, fin = .done (.ret v) ∧ Q v s') E s := by
  show wpAny _ _ (field (.ref z) 2 >>= _) _ _ _
  refine wpAny_bind (wpAny_field hz rfl (x := .bool false) rfl ?_)
  show wpAny _ _ (field (.ref z) 3 >>= _) _ _ _
  refine wpAny_bind (wpAny_field hz rfl (x := .ref TI) rfl ?_)
  refine wpAny_bind (wpAny_seqItems hTI rfl ?_)
  show wpAny _ _ (Builtin.SmallTypes.ownedTupleIsFree (.ref z) >>= _) _ _ _
  refine wpAny_bind ?_
  unfold Builtin.SmallTypes.ownedTupleIsFree
  refine wpAny_bind (wpAny_field hz rfl (x := .none) rfl (wpAny_pure ?_))
  simp only [if_true]
  refine wpAny_bind (wpAny_rule ?_)
  refine wpAny_bind (wpAny_field hz rfl (x := .ref TO) rfl ?_)
  refine wpAny_bind (wpAny_setField_rec hz (by simp) fun h0 hz0 hs0 => ?_)
  replace hz0 : IsZip h0 z TI TO .ellipsis := hz0
  have kp0 : ∀ c o, c ≠ z → s.heap.get? c = some o → h0.get? c = some o := fun c o c1 e => hs0.extBut _ _ c1 e
  refine wpAny_bind ?_
  simp only [List.zipIdx_cons, List.zipIdx_nil, List.forIn_cons, List.forIn_nil]
  have s1_0 := s1.at fun o e => kp0 _ o D.i1z e
  have q1_0 := q1.at fun o e => kp0 _ o D.l1z e
  have s2_0 := s2.at fun o e => kp0 _ o D.i2z e
  have q2_0 := q2.at fun o e => kp0 _ o D.l2z e
  have hTO0 := kp0 _ _ D.TOz hTO
  refine wpAny_bind (wpAny_bind (wpAny_onRaise ?_))
  show wpAny _ _ (Builtin.SmallTypes.nextOf (.ref i1) >>= _) _ _ _
  refine wpAny_bind (nextOf_item s1_0 q1_0 e1 fun hA1 sA1 bA1 => wpAny_pure ?_)
  have hTOA1 := bA1.extBut _ _ D.i1TO.symm hTO0
  refine wpAny_bind (wpAny_seqItems hTOA1 rfl ?_)
  refine wpAny_bind (updateSeq_t hTOA1 fun h1 hTO1 bB1 => ?_)
  replace hTO1 : IsT h1 TO #[y1, a2] := hTO1
  refine wpAny_bind (wpAny_letGo (wpAny_pure ?_))
  have kp1 : ∀ c o, c ≠ i1 → c ≠ TO → h0.get? c = some o → h1.get? c = some o := fun c o c1 c2 e => bB1.extBut _ _ c2 (bA1.extBut _ _ c1 e)
  have hz1 : IsZip h1 z TI TO .ellipsis := kp1 _ _ D.i1z.symm D.TOz.symm hz0
  have s1_1 := sA1.at fun o e => bB1.extBut _ _ D.i1TO e
  have q1_1 := q1_0.at fun o e => kp1 _ o D.l1i1 D.l1TO e
  have s2_1 := s2_0.at fun o e => kp1 _ o D.i2i1 D.i2TO e
  have q2_1 := q2_0.at fun o e => kp1 _ o D.l2i1 D.l2TO e
  refine wpAny_bind (wpAny_bind (wpAny_onRaise ?_))
  show wpAny _ _ (Builtin.SmallTypes.nextOf (.ref i2) >>= _) _ _ _
  refine wpAny_bind (nextOf_item s2_1 q2_1 e2 fun hA2 sA2 bA2 => wpAny_pure ?_)
  have hTOA2 := bA2.extBut _ _ D.i2TO.symm hTO1
  refine wpAny_bind (wpAny_seqItems hTOA2 rfl ?_)
  refine wpAny_bind (updateSeq_t hTOA2 fun h2 hTO2 bB2 => ?_)
  replace hTO2 : IsT h2 TO #[y1, y2] := hTO2
  refine wpAny_bind (wpAny_letGo (wpAny_pure (wpAny_pure ?_)))
  have kp2 : ∀ c o, c ≠ i2 → c ≠ TO → h1.get? c = some o → h2.get? c = some o := fun c o c1 c2 e => bB2.extBut _ _ c2 (bA2.extBut _ _ c1 e)
  have hz2 : IsZip h2 z TI TO .ellipsis := kp2 _ _ D.i2z.symm D.TOz.symm hz1
  have s1_2 := s1_1.at fun o e => kp2 _ o D.i2i1.symm D.i1TO e
  have q1_2 := q1_1.at fun o e => kp2 _ o D.l1i2 D.l1TO e
  have s2_2 := sA2.at fun o e => bB2.extBut _ _ D.i2TO e
  have q2_2 := q2_1.at fun o e => kp2 _ o D.l2i2 D.l2TO e
  refine wpAny_bind (wpAny_seqItems hTO2 rfl ?_)
  refine wpAny_bind (wpAny_newTuple ?_)
  have hsz : h2.objs.size = s.heap.objs.size := by rw [bB2.1, bA2.1, bB1.1, bA1.1, hs0.1]
  have hk : (∀ c o, c ≠ z → c ≠ TO → c ≠ i1 → c ≠ i2 → s.heap.get? c = some o → h2.get? c = some o) := fun c o c1 c2 d1 d2 e => kp2 c o d2 c2 (kp1 c o d1 c2 (kp0 c o c1 e))
  have hzlt : z < h2.objs.size := Heap.lt_size hz2
  show wpAny _ _ (Builtin.SmallTypes.ownedTupleHandOut (.ref z) (.ref h2.objs.size) >>= _) _ _ _
  refine wpAny_bind ?_
  unfold Builtin.SmallTypes.ownedTupleHandOut
  have hz6 : IsZip (h2.push { cls := .type "tuple", data := .seq #[y1, y2] }) z TI TO .ellipsis := Heap.get?_push_of_some _ hz2
  refine wpAny_bind (wpAny_setField_rec hz6 (by simp) fun h7 hz7 hs7 => ?_)
  replace hz7 : IsZip h7 z TI TO (rawInt h2.objs.size) := hz7
  refine wpAny_setField_rec hz7 (by simp) fun h8 hz8 hs8 => ?_
  replace hz8 : IsZip h8 z TI TO (rawInt h2.objs.size) := hz8
  have up : ∀ c o, c ≠ z → h2.get? c = some o → h8.get? c = some o := fun c o c1 e => hs8.extBut _ _ c1 (hs7.extBut _ _ c1 (Heap.get?_push_of_some _ e))
  have hT8 : IsT h8 h2.objs.size #[y1, y2] := hs8.extBut _ _ (Nat.ne_of_gt hzlt) (hs7.extBut _ _ (Nat.ne_of_gt hzlt) (Heap.get?_push_size _ rfl))
  have hz8s : h8.objs.size = h2.objs.size + 1 := by rw [hs8.1, hs7.1, Heap.size_push]
  rw [hsz] at hz8 hT8 hz8s
  refine wpAny_pure ⟨_, rfl, ?_⟩
  show Q (.ref h2.objs.size) _
  rw [hsz]
  exact hQ h8 hz8 (up _ _ D.TOz hTO2) (s1_2.at fun o e => up _ o D.i1z e) (s2_2.at fun o e => up _ o D.i2z e) hT8 hz8s fun c o c1 c2 d1 d2 e => up c o c1 (hk c o c1 c2 d1 d2 e)
theorem zip2_end {z TI TO i1 i2 l1 l2 : Addr} {d1 d2 : Bool} {k0 : Nat} {xs1 xs2 : Array Value} {a1 a2 : Value} {Q : Fin → Shared → Prop} (hh : A.handled = none) (D : Ap2 z TI TO i1 i2 l1 l2)
    (hz : IsZip s.heap z TI TO .none) (hTI : IsT s.heap TI #[.ref i1, .ref i2]) (hTO : IsT s.heap TO #[a1, a2])
    (s1 : SIk d1 s.heap i1 l1 k0) (s2 : SIk d2 s.heap i2 l2 k0) (q1 : SAk d1 s.heap l1 xs1) (q2 : SAk d2 s.heap l2 xs2) (hend : xs1[k0]? = none ∨ xs2[k0]? = none)
    (hE : ∀ h' e, (∀ c o, c ≠ z → c ≠ TO → c ≠ i1 → c ≠ i2 → s.heap.get? c = some o → h'.get? c = some o) → (∃ o, h'.get? e = some o ∧ o.cls = .type "StopIteration") → E (.ref e) { s with heap := h' }) :
    wpAny (model prog w) A (Builtin.«zip.__next__» ⟨[.ref z], []⟩) Q E s := by
  show wpAny _ _ (field (.ref z) 2 >>= _) _ _ _
  refine wpAny_bind (wpAny_field hz rfl (x := .bool false) rfl ?_)
  show wpAny _ _ (field (.ref z) 3 >>= _) _ _ _
  refine wpAny_bind (wpAny_field hz rfl (x := .ref TI) rfl ?_)
  refine wpAny_bind (wpAny_seqItems hTI rfl ?_)
  show wpAny _ _ (Builtin.SmallTypes.ownedTupleIsFree (.ref z) >>= _) _ _ _
  refine wpAny_bind ?_
  unfold Builtin.SmallTypes.ownedTupleIsFree
  refine wpAny_bind (wpAny_field hz rfl (x := .none) rfl (wpAny_pure ?_))
  simp only [if_true]
  refine wpAny_bind (wpAny_rule ?_)
  refine wpAny_bind (wpAny_field hz rfl (x := .ref TO) rfl ?_)
  refine wpAny_bind (wpAny_setField_rec hz (by simp) fun h0 hz0 hs0 => ?_)
  replace hz0 : IsZip h0 z TI TO .ellipsis := hz0
  have kp0 : ∀ c o, c ≠ z → s.heap.get? c = some o → h0.get? c = some o := fun c o c1 e => hs0.extBut _ _ c1 e
  refine wpAny_bind ?_
  simp only [List.zipIdx_cons, List.zipIdx_nil, List.forIn_cons, List.forIn_nil]
  have s1_0 := s1.at fun o e => kp0 _ o D.i1z e
  have q1_0 := q1.at fun o e => kp0 _ o D.l1z e
  have s2_0 := s2.at fun o e => kp0 _ o D.i2z e
  have q2_0 := q2.at fun o e => kp0 _ o D.l2z e
  have hTO0 := kp0 _ _ D.TOz hTO
  refine wpAny_bind (wpAny_bind (wpAny_onRaise ?_))
  show wpAny _ _ (Builtin.SmallTypes.nextOf (.ref i1) >>= _) _ _ _
  cases e1 : xs1[k0]? with
  | none =>
    refine wpAny_bind (nextOf_end hh s1_0 q1_0 e1 fun hX e bX he => ?_)
    obtain ⟨oe, hoe, hce⟩ := he
    have hzX : IsZip hX z TI TO .ellipsis := bX _ _ D.i1z.symm hz0
    have hez : e ≠ z := fun x => by subst x; rw [hzX] at hoe; cases hoe; simp at hce
    exact wpAny_setField_rec hzX (by simp) fun h3 _ hs3 => hE h3 e (fun c o c1 c2 d1 d2 x => hs3.extBut _ _ c1 (bX _ _ d1 (kp0 c o c1 x))) ⟨oe, hs3.extBut _ _ hez hoe, hce⟩
  | some y1 =>
    refine wpAny_bind (nextOf_item s1_0 q1_0 e1 fun hA1 sA1 bA1 => wpAny_pure ?_)
    have hTOA1 := bA1.extBut _ _ D.i1TO.symm hTO0
    refine wpAny_bind (wpAny_seqItems hTOA1 rfl ?_)
    refine wpAny_bind (updateSeq_t hTOA1 fun h1 hTO1 bB1 => ?_)
    refine wpAny_bind (wpAny_letGo (wpAny_pure ?_))
    have kp1 : ∀ c o, c ≠ i1 → c ≠ TO → h0.get? c = some o → h1.get? c = some o := fun c o c1 c2 e => bB1.extBut _ _ c2 (bA1.extBut _ _ c1 e)
    have hz1 : IsZip h1 z TI TO .ellipsis := kp1 _ _ D.i1z.symm D.TOz.symm hz0
    have s2_1 := s2_0.at fun o e => kp1 _ o D.i2i1 D.i2TO e
    have q2_1 := q2_0.at fun o e => kp1 _ o D.l2i1 D.l2TO e
    refine wpAny_bind (wpAny_bind (wpAny_onRaise ?_))
    show wpAny _ _ (Builtin.SmallTypes.nextOf (.ref i2) >>= _) _ _ _
    have e2 : xs2[k0]? = none := by
      rcases hend with h | h
      · rw [e1] at h; cases h
      · exact h
    refine wpAny_bind (nextOf_end hh s2_1 q2_1 e2 fun hX e bX he => ?_)
    obtain ⟨oe, hoe, hce⟩ := he
    have hzX : IsZip hX z TI TO .ellipsis := bX _ _ D.i2z.symm hz1
    have hez : e ≠ z := fun x => by subst x; rw [hzX] at hoe; cases hoe; simp at hce
    exact wpAny_setField_rec hzX (by simp) fun h3 _ hs3 => hE h3 e (fun c o c1 c2 d1 d2 x => hs3.extBut _ _ c1 (bX _ _ d2 (kp1 c o d1 c2 (kp0 c o c1 x)))) ⟨oe, hs3.extBut _ _ hez hoe, hce⟩
theorem pyNext_zip2_item {z TI TO i1 i2 l1 l2 : Addr} {d1 d2 : Bool} {k0 : Nat} {xs1 xs2 : Array Value} {a1 a2 : Value} {y1 y2 : Value} {Q : Option Value → Shared → Prop} (D : Ap2 z TI TO i1 i2 l1 l2)
    (hz : IsZip s.heap z TI TO .none) (hTI : IsT s.heap TI #[.ref i1, .ref i2]) (hTO : IsT s.heap TO #[a1, a2])
    (s1 : SIk d1 s.heap i1 l1 k0) (s2 : SIk d2 s.heap i2 l2 k0) (q1 : SAk d1 s.heap l1 xs1) (q2 : SAk d2 s.heap l2 xs2) (e1 : xs1[k0]? = some y1) (e2 : xs2[k0]? = some y2)
    (hQ : ∀ h', IsZip h' z TI TO (rawInt s.heap.objs.size) → IsT h' TO #[y1, y2] → SIk d1 h' i1 l1 (k0 + 1) → SIk d2 h' i2 l2 (k0 + 1) → IsT h' s.heap.objs.size #[y1, y2] → h'.objs.size = s.heap.objs.size + 1 →
      (∀ c o, c ≠ z → c ≠ TO → c ≠ i1 → c ≠ i2 → s.heap.get? c = some o → h'.get? c = some o) → Q (some (.ref s.heap.objs.size)) { s with heap := h' }) :
    wpAny (model prog w) A (pyNext (.ref z)) Q E s := by
  have hT : s.TypeIs (.ref z) "zip" := ⟨_, hz, rfl⟩
  unfold pyNext
  exact wpAny_bind (wpAny_attempt (wpAny_callSpecial?_slot (name := Str.ofString "__next__") hT F.slot_zip_next
    (wpAny_call_entry F.slot_zip_next hT F.entry_zip_next
      (zip2_item D hz hTI hTO s1 s2 q1 q2 e1 e2 fun h' b1 b2 c1 c2 b3 b4 b5 => wpAny_pure (hQ h' b1 b2 c1 c2 b3 b4 b5)) (F.args_zip_next_1 _))))
theorem pyNext_zip2_end {z TI TO i1 i2 l1 l2 : Addr} {d1 d2 : Bool} {k0 : Nat} {xs1 xs2 : Array Value} {a1 a2 : Value} {Q : Option Value → Shared → Prop} (hh : A.handled = none) (D : Ap2 z TI TO i1 i2 l1 l2)
    (hz : IsZip s.heap z TI TO .none) (hTI : IsT s.heap TI #[.ref i1, .ref i2]) (hTO : IsT s.heap TO #[a1, a2])
    (s1 : SIk d1 s.heap i1 l1 k0) (s2 : SIk d2 s.heap i2 l2 k0) (q1 : SAk d1 s.heap l1 xs1) (q2 : SAk d2 s.heap l2 xs2) (hend : xs1[k0]? = none ∨ xs2[k0]? = none)
    (hQ : ∀ h', (∀ c o, c ≠ z → c ≠ TO → c ≠ i1 → c ≠ i2 → s.heap.get? c = some o → h'.get? c = some o) → Q none { s with heap := h' }) : wpAny (model prog w) A (pyNext (.ref z)) Q E s := by
  have hT : s.TypeIs (.ref z) "zip" := ⟨_, hz, rfl⟩
  unfold pyNext
  refine wpAny_bind (wpAny_attempt (wpAny_callSpecial?_slot (name := Str.ofString "__next__") hT F.slot_zip_next
    (wpAny_call_entry F.slot_zip_next hT F.entry_zip_next (zip2_end hh D hz hTI hTO s1 s2 q1 q2 hend fun h' e hk he => ?_) (F.args_zip_next_1 _))))
  obtain ⟨o, ho, hc⟩ := he
  refine wpAny_bind (wpAny_isInstance (T := "StopIteration") (b := true) ⟨o, ho, hc⟩ isSubtype_stop ?_)
  exact wpAny_pure (hQ _ hk)
end
abbrev z2H0 (h : Heap) : Heap := h
abbrev z2H1 (h : Heap) (d1 : Bool) (d2 : Bool) (l1 : Addr) (l2 : Addr) : Heap := (h).push (itObj d1 l1)
abbrev z2H2 (h : Heap) (d1 : Bool) (d2 : Bool) (l1 : Addr) (l2 : Addr) : Heap := (z2H1 h d1 d2 l1 l2).push (itObj d2 l2)
abbrev z2HT (h : Heap) (d1 : Bool) (d2 : Bool) (l1 : Addr) (l2 : Addr) : Heap := (z2H2 h d1 d2 l1 l2).push { cls := .type "tuple", data := .seq #[.ref h.objs.size, .ref (z2H1 h d1 d2 l1 l2).objs.size] }
abbrev z2HO (h : Heap) (d1 : Bool) (d2 : Bool) (l1 : Addr) (l2 : Addr) : Heap := (z2HT h d1 d2 l1 l2).push { cls := .type "tuple", data := .seq #[.none, .none] }
abbrev z2HZ (h : Heap) (d1 : Bool) (d2 : Bool) (l1 : Addr) (l2 : Addr) : Heap := (z2HO h d1 d2 l1 l2).push { cls := .type "zip", data := .fields #[.none, .bool false, .bool false, .ref (z2H2 h d1 d2 l1 l2).objs.size, .ref (z2HT h d1 d2 l1 l2).objs.size] }
theorem meets_zip2 (d1 : Bool) (d2 : Bool) (l1 : Addr) (l2 : Addr) (xs1 xs2 : Array Value) :
    Meets (Builtin.«zip.__new__» ⟨[.type "zip", .ref l1, .ref l2], []⟩) (fun _ R s => SAk d1 s.heap l1 xs1 ∧ SAk d2 s.heap l2 xs2 ∧
      R (.ok (.ret (.ref (z2HO s.heap d1 d2 l1 l2).objs.size))) { s with heap := z2HZ s.heap d1 d2 l1 l2 }) :=
  .of_wp fun prog w A R s h => by
    obtain ⟨hp, g, d, tk, os⟩ := s; obtain ⟨q1, q2, h⟩ := h
    have hsub := sub_zip
    have L1 : SAk d1 (Shared.heap ⟨hp, g, d, tk, os⟩) l1 xs1 := q1.at fun o e => e
    have L2 : SAk d2 (Shared.heap ⟨(hp).push (itObj d1 l1), g, d, tk, os⟩) l2 xs2 := q2.at fun o e => Heap.get?_push_of_some _ (e)
    wp_walk using pyIter_k L1, pyIter_k L2
    exact ⟨_, rfl, h⟩
structure Ap3 (z TI TO i1 i2 i3 l1 l2 l3 : Addr) : Prop where
  TIz : TI ≠ z
  TOz : TO ≠ z
  TOTI : TO ≠ TI
  i1z : i1 ≠ z
  i1TI : i1 ≠ TI
  i1TO : i1 ≠ TO
  i2z : i2 ≠ z
  i2TI : i2 ≠ TI
  i2TO : i2 ≠ TO
  i2i1 : i2 ≠ i1
  i3z : i3 ≠ z
  i3TI : i3 ≠ TI
  i3TO : i3 ≠ TO
  i3i1 : i3 ≠ i1
  i3i2 : i3 ≠ i2
  l1z : l1 ≠ z
  l1TO : l1 ≠ TO
  l1i1 : l1 ≠ i1
  l1i2 : l1 ≠ i2
  l1i3 : l1 ≠ i3
  l2z : l2 ≠ z
  l2TO : l2 ≠ TO
  l2i1 : l2 ≠ i1
  l2i2 : l2 ≠ i2
  l2i3 : l2 ≠ i3
  l3z : l3 ≠ z
  l3TO : l3 ≠ TO
  l3i1 : l3 ≠ i1
  l3i2 : l3 ≠ i2
  l3i3 : l3 ≠ i3
section
variable {prog : Program} {w : World} {A : Around} {E : Value → Shared → Prop} {s : Shared}
theorem zip3_item {z TI TO i1 i2 i3 l1 l2 l3 : Addr} {d1 d2 d3 : Bool} {k0 : Nat} {xs1 xs2 xs3 : Array Value} {a1 a2 a3 : Value} {y1 y2 y3 : Value} {Q : Value → Shared → Prop} (D : Ap3 z TI TO i1 i2 i3 l1 l2 l3)
    (hz : IsZip s.heap z TI TO .none) (hTI : IsT s.heap TI #[.ref i1, .ref i2, .ref i3]) (hTO : IsT s.heap TO #[a1, a2, a3])
    (s1 : SIk d1 s.heap i1 l1 k0) (s2 : SIk d2 s.heap i2 l2 k0) (s3 : SIk d3 s.heap i3 l3 k0) (q1 : SAk d1 s.heap l1 xs1) (q2 : SAk d2 s.heap l2 xs2) (q3 : SAk d3 s.heap l3 xs3) (e1 : xs1[k0]? = some y1) (e2 : xs2[k0]? = some y2) (e3 : xs3[k0]? = some y3)
    (hQ : ∀ h', IsZip h' z TI TO (rawInt s.heap.objs.size) → IsT h' TO #[y1, y2, y3] → SIk d1 h' i1 l1 (k0 + 1) → SIk d2 h' i2 l2 (k0 + 1) → SIk d3 h' i3 l3 (k0 + 1) → IsT h' s.heap.objs.size #[y1, y2, y3] → h'.objs.size = s.heap.objs.size + 1 →
      (∀ c o, c ≠ z → c ≠ TO → c ≠ i1 → c ≠ i2 → c ≠ i3 → s.heap.get? c = some o → h'.get? c = some o) → Q (.ref s.heap.objs.size) { s with heap := h' }) :
    wpAny (model prog w) A (Builtin.«zip.__next__» ⟨[.ref z], []⟩) (fun fin s' => ∃ v, fin = .done (.ret v) ∧ Q v s') E s := by
  show wpAny _ _ (field (.ref z) 2 >>= _) _ _ _
  refine wpAny_bind (wpAny_field hz rfl (x := .bool false) rfl ?_)
  show wpAny _ _ (field (.ref z) 3 >>= _) _ _ _
  refine wpAny_bind (wpAny_field hz rfl (x := .ref TI) rfl ?_)
  refine wpAny_bind (wpAny_seqItems hTI rfl ?_)
  show wpAny _ _ (Builtin.SmallTypes.ownedTupleIsFree (.ref z) >>= _) _ _ _
  refine wpAny_bind ?_
  unfold Builtin.SmallTypes.ownedTupleIsFree
  refine wpAny_bind (wpAny_field hz rfl (x := .none) rfl (wpAny_pure ?_))
  simp only [if_true]
  refine wpAny_bind (wpAny_rule ?_)
  refine wpAny_bind (wpAny_field hz rfl (x := .ref TO) rfl ?_)
  refine wpAny_bind (wpAny_setField_rec hz (by simp) fun h0 hz0 hs0 => ?_)
  replace hz0 : IsZip h0 z TI TO .ellipsis := hz0
  have kp0 : ∀ c o, c ≠ z → s.heap.get? c = some o → h0.get? c = some o := fun c o c1 e => hs0.extBut _ _ c1 e
  refine wpAny_bind ?_
  simp only [List.zipIdx_cons, List.zipIdx_nil, List.forIn_cons, List.forIn_nil]
  have s1_0 := s1.at fun o e => kp0 _ o D.i1z e
  have q1_0 := q1.at fun o e => kp0 _ o D.l1z e
  have s2_0 := s2.at fun o e => kp0 _ o D.i2z e
  have q2_0 := q2.at fun o e => kp0 _ o D.l2z e
  have s3_0 := s3.at fun o e => kp0 _ o D.i3z e
  have q3_0 := q3.at fun o e => kp0 _ o D.l3z e
  have hTO0 := kp0 _ _ D.TOz hTO
  refine wpAny_bind (wpAny_bind (wpAny_onRaise ?_))
  show wpAny _ _ (Builtin.SmallTypes.nextOf (.ref i1) >>= _) _ _ _
  refine wpAny_bind (nextOf_item s1_0 q1_0 e1 fun hA1 sA1 bA1 => wpAny_pure ?_)
  have hTOA1 := bA1.extBut _ _ D.i1TO.symm hTO0
  refine wpAny_bind (wpAny_seqItems hTOA1 rfl ?_)
  refine wpAny_bind (updateSeq_t hTOA1 fun h1 hTO1 bB1 => ?_)
  replace hTO1 : IsT h1 TO #[y1, a2, a3] := hTO1
  refine wpAny_bind (wpAny_letGo (wpAny_pure ?_))
  have kp1 : ∀ c o, c ≠ i1 → c ≠ TO → h0.get? c = some o → h1.get? c = some o := fun c o c1 c2 e => bB1.extBut _ _ c2 (bA1.extBut _ _ c1 e)
  have hz1 : IsZip h1 z TI TO .ellipsis := kp1 _ _ D.i1z.symm D.TOz.symm hz0
  have s1_1 := sA1.at fun o e => bB1.extBut _ _ D.i1TO e
  have q1_1 := q1_0.at fun o e => kp1 _ o D.l1i1 D.l1TO e
  have s2_1 := s2_0.at fun o e => kp1 _ o D.i2i1 D.i2TO e
  have q2_1 := q2_0.at fun o e => kp1 _ o D.l2i1 D.l2TO e
  have s3_1 := s3_0.at fun o e => kp1 _ o D.i3i1 D.i3TO e
  have q3_1 := q3_0.at fun o e => kp1 _ o D.l3i1 D.l3TO e
  refine wpAny_bind (wpAny_bind (wpAny_onRaise ?_))
  show wpAny _ _ (Builtin.SmallTypes.nextOf (.ref i2) >>= _) _ _ _
  refine wpAny_bind (nextOf_item s2_1 q2_1 e2 fun hA2 sA2 bA2 => wpAny_pure ?_)
  have hTOA2 := bA2.extBut _ _ D.i2TO.symm hTO1
  refine wpAny_bind (wpAny_seqItems hTOA2 rfl ?_)
  refine wpAny_bind (updateSeq_t hTOA2 fun h2 hTO2 bB2 => ?_)
  replace hTO2 : IsT h2 TO #[y1, y2, a3] := hTO2
  refine wpAny_bind (wpAny_letGo (wpAny_pure ?_))
  have kp2 : ∀ c o, c ≠ i2 → c ≠ TO → h1.get? c = some o → h2.get? c = some o := fun c o c1 c2 e => bB2.extBut _ _ c2 (bA2.extBut _ _ c1 e)
  have hz2 : IsZip h2 z TI TO .ellipsis := kp2 _ _ D.i2z.symm D.TOz.symm hz1
  have s1_2 := s1_1.at fun o e => kp2 _ o D.i2i1.symm D.i1TO e
  have q1_2 := q1_1.at fun o e => kp2 _ o D.l1i2 D.l1TO e
  have s2_2 := sA2.at fun o e => bB2.extBut _ _ D.i2TO e
  have q2_2 := q2_1.at fun o e => kp2 _ o D.l2i2 D.l2TO e
  have s3_2 := s3_1.at fun o e => kp2 _ o D.i3i2 D.i3TO e
  have q3_2 := q3_1.at fun o e => kp2 _ o D.l3i2 D.l3TO e
  refine wpAny_bind (wpAny_bind (wpAny_onRaise ?_))
  show wpAny _ _ (Builtin.SmallTypes.nextOf (.ref i3) >>= _) _ _ _
  refine wpAny_bind (nextOf_item s3_2 q3_2 e3 fun hA3 sA3 bA3 => wpAny_pure ?_)
  have hTOA3 := bA3.extBut _ _ D.i3TO.symm hTO2
  refine wpAny_bind (wpAny_seqItems hTOA3 rfl ?_)
  refine wpAny_bind (updateSeq_t hTOA3 fun h3 hTO3 bB3 => ?_)
  replace hTO3 : IsT h3 TO #[y1, y2, y3] := hTO3
  refine wpAny_bind (wpAny_letGo (wpAny_pure (wpAny_pure ?_)))
  have kp3 : ∀ c o, c ≠ i3 → c ≠ TO → h2.get? c = some o → h3.get? c = some o := fun c o c1 c2 e => bB3.extBut _ _ c2 (bA3.extBut _ _ c1 e)
  have hz3 : IsZip h3 z TI TO .ellipsis := kp3 _ _ D.i3z.symm D.TOz.symm hz2
  have s1_3 := s1_2.at fun o e => kp3 _ o D.i3i1.symm D.i1TO e
  have q1_3 := q1_2.at fun o e => kp3 _ o D.l1i3 D.l1TO e
  have s2_3 := s2_2.at fun o e => kp3 _ o D.i3i2.symm D.i2TO e
  have q2_3 := q2_2.at fun o e => kp3 _ o D.l2i3 D.l2TO e
  have s3_3 := sA3.at fun o e => bB3.extBut _ _ D.i3TO e
  have q3_3 := q3_2.at fun o e => kp3 _ o D.l3i3 D.l3TO e
  refine wpAny_bind (wpAny_seqItems hTO3 rfl ?_)
  refine wpAny_bind (wpAny_newTuple ?_)
  have hsz : h3.objs.size = s.heap.objs.size := by rw [bB3.1, bA3.1, bB2.1, bA2.1, bB1.1, bA1.1, hs0.1]
  have hk : (∀ c o, c ≠ z → c ≠ TO → c ≠ i1 → c ≠ i2 → c ≠ i3 → s.heap.get? c = some o → h3.get? c = some o) := fun c o c1 c2 d1 d2 d3 e => kp3 c o d3 c2 (kp2 c o d2 c2 (kp1 c o d1 c2 (kp0 c o c1 e)))
  have hzlt : z < h3.objs.size := Heap.lt_size hz3
  show wpAny _ _ (Builtin.SmallTypes.ownedTupleHandOut (.ref z) (.ref h3.objs.size) >>= _) _ _ _
  refine wpAny_bind ?_
  unfold Builtin.SmallTypes.ownedTupleHandOut
  have hz6 : IsZip (h3.push { cls := .type "tuple", data := .seq #[y1, y2, y3] }) z TI TO .ellipsis := Heap.get?_push_of_some _ hz3
  refine wpAny_bind (wpAny_setField_rec hz6 (by simp) fun h7 hz7 hs7 => ?_)
  replace hz7 : IsZip h7 z TI TO (rawInt h3.objs.size) := hz7
  refine wpAny_setField_rec hz7 (by simp) fun h8 hz8 hs8 => ?_
  replace hz8 : IsZip h8 z TI TO (rawInt h3.objs.size) := hz8
  have up : ∀ c o, c ≠ z → h3.get? c = some o → h8.get? c = some o := fun c o c1 e => hs8.extBut _ _ c1 (hs7.extBut _ _ c1 (Heap.get?_push_of_some _ e))
  have hT8 : IsT h8 h3.objs.size #[y1, y2, y3] := hs8.extBut _ _ (Nat.ne_of_gt hzlt) (hs7.extBut _ _ (Nat.ne_of_gt hzlt) (Heap.get?_push_size _ rfl))
  have hz8s : h8.objs.size = h3.objs.size + 1 := by rw [hs8.1, hs7.1, Heap.size_push]
  rw [hsz] at hz8 hT8 hz8s
  refine wpAny_pure ⟨_, rfl, ?_⟩
  show Q (.ref h3.objs.size) _
  rw [hsz]
  exact hQ h8 hz8 (up _ _ D.TOz hTO3) (s1_3.at fun o e => up _ o D.i1z e) (s2_3.at fun o e => up _ o D.i2z e) (s3_3.at fun o e => up _ o D.i3z e) hT8 hz8s fun c o c1 c2 d1 d2 d3 e => up c o c1 (hk c o c1 c2 d1 d2 d3 e)
theorem zip3_end {z TI TO i1 i2 i3 l1 l2 l3 : Addr} {d1 d2 d3 : Bool} {k0 : Nat} {xs1 xs2 xs3 : Array Value} {a1 a2 a3 : Value} {Q : Fin → Shared → Prop} (hh : A.handled = none) (D : Ap3 z TI TO i1 i2 i3 l1 l2 l3)
    (hz : IsZip s.heap z TI TO .none) (hTI : IsT s.heap TI #[.ref i1, .ref i2, .ref i3]) (hTO : IsT s.heap TO #[a1, a2, a3])
    (s1 : SIk d1 s.heap i1 l1 k0) (s2 : SIk d2 s.heap i2 l2 k0) (s3 : SIk d3 s.heap i3 l3 k0) (q1 : SAk d1 s.heap l1 xs1) (q2 : SAk d2 s.heap l2 xs2) (q3 : SAk d3 s.heap l3 xs3) (hend : xs1[k0]? = none ∨ xs2[k0]? = none ∨ xs3[k0]? = none)
    (hE : ∀ h' e, (∀ c o, c ≠ z → c ≠ TO → c ≠ i1 → c ≠ i2 → c ≠ i3 → s.heap.get? c = some o → h'.get? c = some o) → (∃ o, h'.get? e = some o ∧ o.cls = .type "StopIteration") → E (.ref e) { s with heap := h' }) :
    wpAny (model prog w) A (Builtin.«zip.__next__» ⟨[.ref z], []⟩) Q E s := by
  show wpAny _ _ (field (.ref z) 2 >>= _) _ _ _
  refine wpAny_bind (wpAny_field hz rfl (x := .bool false) rfl ?_)
  show wpAny _ _ (field (.ref z) 3 >>= _) _ _ _
  refine wpAny_bind (wpAny_field hz rfl (x := .ref TI) rfl ?_)
  refine wpAny_bind (wpAny_seqItems hTI rfl ?_)
  show wpAny _ _ (Builtin.SmallTypes.ownedTupleIsFree (.ref z) >>= _) _ _ _
  refine wpAny_bind ?_
  unfold Builtin.SmallTypes.ownedTupleIsFree
  refine wpAny_bind (wpAny_field hz rfl (x := .none) rfl (wpAny_pure ?_))
  simp only [if_true]
  refine wpAny_bind (wpAny_rule ?_)
  refine wpAny_bind (wpAny_field hz rfl (x := .ref TO) rfl ?_)
  refine wpAny_bind (wpAny_setField_rec hz (by simp) fun h0 hz0 hs0 => ?_)
  replace hz0 : IsZip h0 z TI TO .ellipsis := hz0
  have kp0 : ∀ c o, c ≠ z → s.heap.get? c = some o → h0.get? c = some o := fun c o c1 e => hs0.extBut _ _ c1 e
  refine wpAny_bind ?_
  simp only [List.zipIdx_cons, List.zipIdx_nil, List.forIn_cons, List.forIn_nil]
  have s1_0 := s1.at fun o e => kp0 _ o D.i1z e
  have q1_0 := q1.at fun o e => kp0 _ o D.l1z e
  have s2_0 := s2.at fun o e => kp0 _ o D.i2z e
  have q2_0 := q2.at fun o e => kp0 _ o D.l2z e
  have s3_0 := s3.at fun o e => kp0 _ o D.i3z e
  have q3_0 := q3.at fun o e => kp0 _ o D.l3z e
  have hTO0 := kp0 _ _ D.TOz hTO
  refine wpAny_bind (wpAny_bind (wpAny_onRaise ?_))
  show wpAny _ _ (Builtin.SmallTypes.nextOf (.ref i1) >>= _) _ _ _
  cases e1 : xs1[k0]? with
  | none =>
    refine wpAny_bind (nextOf_end hh s1_0 q1_0 e1 fun hX e bX he => ?_)
    obtain ⟨oe, hoe, hce⟩ := he
    have hzX : IsZip hX z TI TO .ellipsis := bX _ _ D.i1z.symm hz0
    have hez : e ≠ z := fun x => by subst x; rw [hzX] at hoe; cases hoe; simp at hce
    exact wpAny_setField_rec hzX (by simp) fun h3 _ hs3 => hE h3 e (fun c o c1 c2 d1 d2 d3 x => hs3.extBut _ _ c1 (bX _ _ d1 (kp0 c o c1 x))) ⟨oe, hs3.extBut _ _ hez hoe, hce⟩
  | some y1 =>
    refine wpAny_bind (nextOf_item s1_0 q1_0 e1 fun hA1 sA1 bA1 => wpAny_pure ?_)
    have hTOA1 := bA1.extBut _ _ D.i1TO.symm hTO0
    refine wpAny_bind (wpAny_seqItems hTOA1 rfl ?_)
    refine wpAny_bind (updateSeq_t hTOA1 fun h1 hTO1 bB1 => ?_)
    refine wpAny_bind (wpAny_letGo (wpAny_pure ?_))
    have kp1 : ∀ c o, c ≠ i1 → c ≠ TO → h0.get? c = some o → h1.get? c = some o := fun c o c1 c2 e => bB1.extBut _ _ c2 (bA1.extBut _ _ c1 e)
    have hz1 : IsZip h1 z TI TO .ellipsis := kp1 _ _ D.i1z.symm D.TOz.symm hz0
    have s2_1 := s2_0.at fun o e => kp1 _ o D.i2i1 D.i2TO e
    have q2_1 := q2_0.at fun o e => kp1 _ o D.l2i1 D.l2TO e
    have s3_1 := s3_0.at fun o e => kp1 _ o D.i3i1 D.i3TO e
    have q3_1 := q3_0.at fun o e => kp1 _ o D.l3i1 D.l3TO e
    refine wpAny_bind (wpAny_bind (wpAny_onRaise ?_))
    show wpAny _ _ (Builtin.SmallTypes.nextOf (.ref i2) >>= _) _ _ _
    cases e2 : xs2[k0]? with
    | none =>
      refine wpAny_bind (nextOf_end hh s2_1 q2_1 e2 fun hX e bX he => ?_)
      obtain ⟨oe, hoe, hce⟩ := he
      have hzX : IsZip hX z TI TO .ellipsis := bX _ _ D.i2z.symm hz1
      have hez : e ≠ z := fun x => by subst x; rw [hzX] at hoe; cases hoe; simp at hce
      exact wpAny_setField_rec hzX (by simp) fun h3 _ hs3 => hE h3 e (fun c o c1 c2 d1 d2 d3 x => hs3.extBut _ _ c1 (bX _ _ d2 (kp1 c o d1 c2 (kp0 c o c1 x)))) ⟨oe, hs3.extBut _ _ hez hoe, hce⟩
    | some y2 =>
      refine wpAny_bind (nextOf_item s2_1 q2_1 e2 fun hA2 sA2 bA2 => wpAny_pure ?_)
      have hTOA2 := bA2.extBut _ _ D.i2TO.symm hTO1
      refine wpAny_bind (wpAny_seqItems hTOA2 rfl ?_)
      refine wpAny_bind (updateSeq_t hTOA2 fun h2 hTO2 bB2 => ?_)
      refine wpAny_bind (wpAny_letGo (wpAny_pure ?_))
      have kp2 : ∀ c o, c ≠ i2 → c ≠ TO → h1.get? c = some o → h2.get? c = some o := fun c o c1 c2 e => bB2.extBut _ _ c2 (bA2.extBut _ _ c1 e)
      have hz2 : IsZip h2 z TI TO .ellipsis := kp2 _ _ D.i2z.symm D.TOz.symm hz1
      have s3_2 := s3_1.at fun o e => kp2 _ o D.i3i2 D.i3TO e
      have q3_2 := q3_1.at fun o e => kp2 _ o D.l3i2 D.l3TO e
      refine wpAny_bind (wpAny_bind (wpAny_onRaise ?_))
      show wpAny _ _ (Builtin.SmallTypes.nextOf (.ref i3) >>= _) _ _ _
      have e3 : xs3[k0]? = none := by
        rcases hend with h | h | h
        · rw [e1] at h; cases h
        · rw [e2] at h; cases h
        · exact h
      refine wpAny_bind (nextOf_end hh s3_2 q3_2 e3 fun hX e bX he => ?_)
      obtain ⟨oe, hoe, hce⟩ := he
      have hzX : IsZip hX z TI TO .ellipsis := bX _ _ D.i3z.symm hz2
      have hez : e ≠ z := fun x => by subst x; rw [hzX] at hoe; cases hoe; simp at hce
      exact wpAny_setField_rec hzX (by simp) fun h3 _ hs3 => hE h3 e (fun c o c1 c2 d1 d2 d3 x => hs3.extBut _ _ c1 (bX _ _ d3 (kp2 c o d2 c2 (kp1 c o d1 c2 (kp0 c o c1 x))))) ⟨oe, hs3.extBut _ _ hez hoe, hce⟩
theorem pyNext_zip3_item {z TI TO i1 i2 i3 l1 l2 l3 : Addr} {d1 d2 d3 : Bool} {k0 : Nat} {xs1 xs2 xs3 : Array Value} {a1 a2 a3 : Value} {y1 y2 y3 : Value} {Q : Option Value → Shared → Prop} (D : Ap3 z TI TO i1 i2 i3 l1 l2 l3)
    (hz : IsZip s.heap z TI TO .none) (hTI : IsT s.heap TI #[.ref i1, .ref i2, .ref i3]) (hTO : IsT s.heap TO #[a1, a2, a3])
    (s1 : SIk d1 s.heap i1 l1 k0) (s2 : SIk d2 s.heap i2 l2 k0) (s3 : SIk d3 s.heap i3 l3 k0) (q1 : SAk d1 s.heap l1 xs1) (q2 : SAk d2 s.heap l2 xs2) (q3 : SAk d3 s.heap l3 xs3) (e1 : xs1[k0]? = some y1) (e2 : xs2[k0]? = some y2) (e3 : xs3[k0]? = some y3)
    (hQ : ∀ h', IsZip h' z TI TO (rawInt s.heap.objs.size) → IsT h' TO #[y1, y2, y3] → SIk d1 h' i1 l1 (k0 + 1) → SIk d2 h' i2 l2 (k0 + 1) → SIk d3 h' i3 l3 (k0 + 1) → IsT h' s.heap.objs.size #[y1, y2, y3] → h'.objs.size = s.heap.objs.size + 1 →
      (∀ c o, c ≠ z → c ≠ TO → c ≠ i1 → c ≠ i2 → c ≠ i3 → s.heap.get? c = some o → h'.get? c = some o) → Q (some (.ref s.heap.objs.size)) { s with heap := h' }) :
    wpAny (model prog w) A (pyNext (.ref z)) Q E s := by
  have hT : s.TypeIs (.ref z) "zip" := ⟨_, hz, rfl⟩
  unfold pyNext
  exact wpAny_bind (wpAny_attempt (wpAny_callSpecial?_slot (name := Str.ofString "__next__") hT F.slot_zip_next
    (wpAny_call_entry F.slot_zip_next hT F.entry_zip_next
      (zip3_item D hz hTI hTO s1 s2 s3 q1 q2 q3 e1 e2 e3 fun h' b1 b2 c1 c2 c3 b3 b4 b5 => wpAny_pure (hQ h' b1 b2 c1 c2 c3 b3 b4 b5)) (F.args_zip_next_1 _))))
theorem pyNext_zip3_end {z TI TO i1 i2 i3 l1 l2 l3 : Addr} {d1 d2 d3 : Bool} {k0 : Nat} {xs1 xs2 xs3 : Array Value} {a1 a2 a3 : Value} {Q : Option Value → Shared → Prop} (hh : A.handled = none) (D : Ap3 z TI TO i1 i2 i3 l1 l2 l3)
    (hz : IsZip s.heap z TI TO .none) (hTI : IsT s.heap TI #[.ref i1, .ref i2, .ref i3]) (hTO : IsT s.heap TO #[a1, a2, a3])
    (s1 : SIk d1 s.heap i1 l1 k0) (s2 : SIk d2 s.heap i2 l2 k0) (s3 : SIk d3 s.heap i3 l3 k0) (q1 : SAk d1 s.heap l1 xs1) (q2 : SAk d2 s.heap l2 xs2) (q3 : SAk d3 s.heap l3 xs3) (hend : xs1[k0]? = none ∨ xs2[k0]? = none ∨ xs3[k0]? = none)
    (hQ : ∀ h', (∀ c o, c ≠ z → c ≠ TO → c ≠ i1 → c ≠ i2 → c ≠ i3 → s.heap.get? c = some o → h'.get? c = some o) → Q none { s with heap := h' }) : wpAny (model prog w) A (pyNext (.ref z)) Q E s := by
  have hT : s.TypeIs (.ref z) "zip" := ⟨_, hz, rfl⟩
  unfold pyNext
  refine wpAny_bind (wpAny_attempt (wpAny_callSpecial?_slot (name := Str.ofString "__next__") hT F.slot_zip_next
    (wpAny_call_entry F.slot_zip_next hT F.entry_zip_next (zip3_end hh D hz hTI hTO s1 s2 s3 q1 q2 q3 hend fun h' e hk he => ?_) (F.args_zip_next_1 _))))
  obtain ⟨o, ho, hc⟩ := he
  refine wpAny_bind (wpAny_isInstance (T := "StopIteration") (b := true) ⟨o, ho, hc⟩ isSubtype_stop ?_)
  exact wpAny_pure (hQ _ hk)
end
abbrev z3H0 (h : Heap) : Heap := h
abbrev z3H1 (h : Heap) (d1 : Bool) (d2 : Bool) (d3 : Bool) (l1 : Addr) (l2 : Addr) (l3 : Addr) : Heap := (h).push (itObj d1 l1)
abbrev z3H2 (h : Heap) (d1 : Bool) (d2 : Bool) (d3 : Bool) (l1 : Addr) (l2 : Addr) (l3 : Addr) : Heap := (z3H1 h d1 d2 d3 l1 l2 l3).push (itObj d2 l2)
abbrev z3H3 (h : Heap) (d1 : Bool) (d2 : Bool) (d3 : Bool) (l1 : Addr) (l2 : Addr) (l3 : Addr) : Heap := (z3H2 h d1 d2 d3 l1 l2 l3).push (itObj d3 l3)
abbrev z3HT (h : Heap) (d1 : Bool) (d2 : Bool) (d3 : Bool) (l1 : Addr) (l2 : Addr) (l3 : Addr) : Heap := (z3H3 h d1 d2 d3 l1 l2 l3).push { cls := .type "tuple", data := .seq #[.ref h.objs.size, .ref (z3H1 h d1 d2 d3 l1 l2 l3).objs.size, .ref (z3H2 h d1 d2 d3 l1 l2 l3).objs.size] }
abbrev z3HO (h : Heap) (d1 : Bool) (d2 : Bool) (d3 : Bool) (l1 : Addr) (l2 : Addr) (l3 : Addr) : Heap := (z3HT h d1 d2 d3 l1 l2 l3).push { cls := .type "tuple", data := .seq #[.none, .none, .none] }
abbrev z3HZ (h : Heap) (d1 : Bool) (d2 : Bool) (d3 : Bool) (l1 : Addr) (l2 : Addr) (l3 : Addr) : Heap := (z3HO h d1 d2 d3 l1 l2 l3).push { cls := .type "zip", data := .fields #[.none, .bool false, .bool false, .ref (z3H3 h d1 d2 d3 l1 l2 l3).objs.size, .ref (z3HT h d1 d2 d3 l1 l2 l3).objs.size] }
theorem meets_zip3 (d1 : Bool) (d2 : Bool) (d3 : Bool) (l1 : Addr) (l2 : Addr) (l3 : Addr) (xs1 xs2 xs3 : Array Value) :
    Meets (Builtin.«zip.__new__» ⟨[.type "zip", .ref l1, .ref l2, .ref l3], []⟩) (fun _ R s => SAk d1 s.heap l1 xs1 ∧ SAk d2 s.heap l2 xs2 ∧ SAk d3 s.heap l3 xs3 ∧
      R (.ok (.ret (.ref (z3HO s.heap d1 d2 d3 l1 l2 l3).objs.size))) { s with heap := z3HZ s.heap d1 d2 d3 l1 l2 l3 }) :=
  .of_wp fun prog w A R s h => by
    obtain ⟨hp, g, d, tk, os⟩ := s; obtain ⟨q1, q2, q3, h⟩ := h
    have hsub := sub_zip
    have L1 : SAk d1 (Shared.heap ⟨hp, g, d, tk, os⟩) l1 xs1 := q1.at fun o e => e
    have L2 : SAk d2 (Shared.heap ⟨(hp).push (itObj d1 l1), g, d, tk, os⟩) l2 xs2 := q2.at fun o e => Heap.get?_push_of_some _ (e)
    have L3 : SAk d3 (Shared.heap ⟨((hp).push (itObj d1 l1)).push (itObj d2 l2), g, d, tk, os⟩) l3 xs3 := q3.at fun o e => Heap.get?_push_of_some _ (Heap.get?_push_of_some _ (e))
    wp_walk using pyIter_k L1, pyIter_k L2, pyIter_k L3
    exact ⟨_, rfl, h⟩
section
variable {prog : Program} {w : World} {A : Around} {E : Value → Shared → Prop} {s : Shared}
theorem call_zip2 {d1 d2 : Bool} {l1 l2 : Addr} {xs1 xs2 : Array Value} {Q : Value → Shared → Prop} (q1 : SAk d1 s.heap l1 xs1) (q2 : SAk d2 s.heap l2 xs2)
    (h : ∀ h', IsZip h' (s.heap.objs.size + 4) (s.heap.objs.size + 2) (s.heap.objs.size + 3) .none → IsT h' (s.heap.objs.size + 2) #[.ref s.heap.objs.size, .ref (s.heap.objs.size + 1)] → IsT h' (s.heap.objs.size + 3) #[.none, .none] → SIk d1 h' s.heap.objs.size l1 0 → SIk d2 h' (s.heap.objs.size + 1) l2 0 → h'.objs.size = s.heap.objs.size + 5 →
      (∀ c o, s.heap.get? c = some o → h'.get? c = some o) → Q (.ref (s.heap.objs.size + 4)) { s with heap := h' }) :
    wpAny (model prog w) A (call (.type "zip") [.ref l1, .ref l2]) Q E s := by
  refine callType_new F.called_zip (by decide) (F.typeCall_zip_2 _ _) (F.newCall_zip_2 _ _) (fun obj => F.args_object_init_3 obj _ _) F.entry_zip_new
    (meets_zip2 d1 d2 l1 l2 xs1 xs2) ⟨q1, q2, ?_⟩
  have w1 : (z2H1 s.heap d1 d2 l1 l2).objs.size = s.heap.objs.size + 1 := Heap.size_push ..
  have w2 : (z2H2 s.heap d1 d2 l1 l2).objs.size = s.heap.objs.size + 2 := by rw [Heap.size_push, w1]
  have w3 : (z2HT s.heap d1 d2 l1 l2).objs.size = s.heap.objs.size + 3 := by rw [Heap.size_push, w2]
  have w4 : (z2HO s.heap d1 d2 l1 l2).objs.size = s.heap.objs.size + 4 := by rw [Heap.size_push, w3]
  have w5 : (z2HZ s.heap d1 d2 l1 l2).objs.size = s.heap.objs.size + 5 := by rw [Heap.size_push, w4]
  have g1 : (z2HZ s.heap d1 d2 l1 l2).get? s.heap.objs.size = some (itObj d1 l1) := Heap.get?_push_of_some _ (Heap.get?_push_of_some _ (Heap.get?_push_of_some _ (Heap.get?_push_of_some _ (Heap.get?_push_size _ (itObj_freed d1 l1)))))
  have g2 : (z2HZ s.heap d1 d2 l1 l2).get? (z2H1 s.heap d1 d2 l1 l2).objs.size = some (itObj d2 l2) := Heap.get?_push_of_some _ (Heap.get?_push_of_some _ (Heap.get?_push_of_some _ (Heap.get?_push_size _ (itObj_freed d2 l2))))
  have gT : (z2HZ s.heap d1 d2 l1 l2).get? (z2H2 s.heap d1 d2 l1 l2).objs.size = some _ := Heap.get?_push_of_some _ (Heap.get?_push_of_some _ (Heap.get?_push_size _ rfl))
  have gO : (z2HZ s.heap d1 d2 l1 l2).get? (z2HT s.heap d1 d2 l1 l2).objs.size = some _ := Heap.get?_push_of_some _ (Heap.get?_push_size _ rfl)
  have gZ : (z2HZ s.heap d1 d2 l1 l2).get? (z2HO s.heap d1 d2 l1 l2).objs.size = some _ := Heap.get?_push_size _ rfl
  show _ ∧ _
  rw [w2, w3, w4] at gZ
  rw [w1, w2] at gT
  rw [w3] at gO
  rw [w1] at g2
  rw [w4]
  exact ⟨⟨_, gZ, rfl⟩, h _ gZ gT gO (SIk.start g1) (SIk.start g2) w5 fun c o x => Heap.get?_push_of_some _ (Heap.get?_push_of_some _ (Heap.get?_push_of_some _ (Heap.get?_push_of_some _ (Heap.get?_push_of_some _ (x)))))⟩
end
theorem typeCall_zip_3 (a b c : Value) : checkTypeCall "zip" ⟨[a, b, c], []⟩ = pure () := by kernel_rfl
theorem newCall_zip_3 (a b c : Value) : checkBuiltinCall "zip.__new__" ⟨[.type "zip", a, b, c], []⟩ = pure () := by kernel_rfl
theorem args_object_init_4 (a b c d : Value) : argsOk "object.__init__" ⟨[a, b, c, d], []⟩ := by
  unfold argsOk; rw [signature?_of (id := "object.__init__") (n := ['_', '_', 't', 'i', 'n', 'i', '_', '_']) (o := ['t', 'c', 'e', 'j', 'b', 'o']) (by kernel_rfl) F.owner_object]; kernel_rfl
section
variable {prog : Program} {w : World} {A : Around} {E : Value → Shared → Prop} {s : Shared}
theorem call_zip3 {d1 d2 d3 : Bool} {l1 l2 l3 : Addr} {xs1 xs2 xs3 : Array Value} {Q : Value → Shared → Prop} (q1 : SAk d1 s.heap l1 xs1) (q2 : SAk d2 s.heap l2 xs2) (q3 : SAk d3 s.heap l3 xs3)
    (h : ∀ h', IsZip h' (s.heap.objs.size + 5) (s.heap.objs.size + 3) (s.heap.objs.size + 4) .none → IsT h' (s.heap.objs.size + 3) #[.ref s.heap.objs.size, .ref (s.heap.objs.size + 1), .ref (s.heap.objs.size + 2)] → IsT h' (s.heap.objs.size + 4) #[.none, .none, .none] → SIk d1 h' s.heap.objs.size l1 0 → SIk d2 h' (s.heap.objs.size + 1) l2 0 → SIk d3 h' (s.heap.objs.size + 2) l3 0 → h'.objs.size = s.heap.objs.size + 6 →
      (∀ c o, s.heap.get? c = some o → h'.get? c = some o) → Q (.ref (s.heap.objs.size + 5)) { s with heap := h' }) :
    wpAny (model prog w) A (call (.type "zip") [.ref l1, .ref l2, .ref l3]) Q E s := by
  refine callType_new F.called_zip (by decide) (typeCall_zip_3 _ _ _) (newCall_zip_3 _ _ _) (fun obj => args_object_init_4 obj _ _ _) F.entry_zip_new
    (meets_zip3 d1 d2 d3 l1 l2 l3 xs1 xs2 xs3) ⟨q1, q2, q3, ?_⟩
  have w1 : (z3H1 s.heap d1 d2 d3 l1 l2 l3).objs.size = s.heap.objs.size + 1 := Heap.size_push ..
  have w2 : (z3H2 s.heap d1 d2 d3 l1 l2 l3).objs.size = s.heap.objs.size + 2 := by rw [Heap.size_push, w1]
  have w3 : (z3H3 s.heap d1 d2 d3 l1 l2 l3).objs.size = s.heap.objs.size + 3 := by rw [Heap.size_push, w2]
  have w4 : (z3HT s.heap d1 d2 d3 l1 l2 l3).objs.size = s.heap.objs.size + 4 := by rw [Heap.size_push, w3]
  have w5 : (z3HO s.heap d1 d2 d3 l1 l2 l3).objs.size = s.heap.objs.size + 5 := by rw [Heap.size_push, w4]
  have w6 : (z3HZ s.heap d1 d2 d3 l1 l2 l3).objs.size = s.heap.objs.size + 6 := by rw [Heap.size_push, w5]
  have g1 : (z3HZ s.heap d1 d2 d3 l1 l2 l3).get? s.heap.objs.size = some (itObj d1 l1) := Heap.get?_push_of_some _ (Heap.get?_push_of_some _ (Heap.get?_push_of_some _ (Heap.get?_push_of_some _ (Heap.get?_push_of_some _ (Heap.get?_push_size _ (itObj_freed d1 l1))))))
  have g2 : (z3HZ s.heap d1 d2 d3 l1 l2 l3).get? (z3H1 s.heap d1 d2 d3 l1 l2 l3).objs.size = some (itObj d2 l2) := Heap.get?_push_of_some _ (Heap.get?_push_of_some _ (Heap.get?_push_of_some _ (Heap.get?_push_of_some _ (Heap.get?_push_size _ (itObj_freed d2 l2)))))
  have g3 : (z3HZ s.heap d1 d2 d3 l1 l2 l3).get? (z3H2 s.heap d1 d2 d3 l1 l2 l3).objs.size = some (itObj d3 l3) := Heap.get?_push_of_some _ (Heap.get?_push_of_some _ (Heap.get?_push_of_some _ (Heap.get?_push_size _ (itObj_freed d3 l3))))
  have gT : (z3HZ s.heap d1 d2 d3 l1 l2 l3).get? (z3H3 s.heap d1 d2 d3 l1 l2 l3).objs.size = some _ := Heap.get?_push_of_some _ (Heap.get?_push_of_some _ (Heap.get?_push_size _ rfl))
  have gO : (z3HZ s.heap d1 d2 d3 l1 l2 l3).get? (z3HT s.heap d1 d2 d3 l1 l2 l3).objs.size = some _ := Heap.get?_push_of_some _ (Heap.get?_push_size _ rfl)
  have gZ : (z3HZ s.heap d1 d2 d3 l1 l2 l3).get? (z3HO s.heap d1 d2 d3 l1 l2 l3).objs.size = some _ := Heap.get?_push_size _ rfl
  show _ ∧ _
  rw [w3, w4, w5] at gZ
  rw [w1, w2, w3] at gT
  rw [w4] at gO
  rw [w1] at g2
  rw [w2] at g3
  rw [w5]
  exact ⟨⟨_, gZ, rfl⟩, h _ gZ gT gO (SIk.start g1) (SIk.start g2) (SIk.start g3) w6 fun c o x => Heap.get?_push_of_some _ (Heap.get?_push_of_some _ (Heap.get?_push_of_some _ (Heap.get?_push_of_some _ (Heap.get?_push_of_some _ (Heap.get?_push_of_some _ (x))))))⟩
end

end ZP
namespace L2
open PySem PySem.Spec PyProof.Rows ZP
/-- a list or a tuple that is read -/
def SqK (K : PySem.W.Frag) (kd : Bool) (H : Hp) (a : Addr) (xs : List V) : Prop := match kd with
  | true => SqT K H a xs
  | false => SqL K H a xs
theorem Inv.seqk {X : Cx} {pins : List (Addr × Obj)} {σ : L2.St} {H : Hp} {s : Shared} {kd : Bool} {a : Addr} {xs : List V} (I : Inv X pins σ H s) (h : SqK X.K kd H a xs) : ∃ its : List Value, Vals xs its ∧ SAk kd s.heap a its.toArray ∧ xs.length ≤ sizeLine := by
  cases kd with
  | true =>
    obtain ⟨its, r, p, z⟩ := I.tuple h
    exact ⟨its, r, p, z⟩
  | false =>
    obtain ⟨its, r, p, z⟩ := I.list h
    exact ⟨its, r, p.isList, z⟩
theorem Inv.seqk_inj {X : Cx} {pins : List (Addr × Obj)} {σ : L2.St} {H : Hp} {s : Shared} {kd : Bool} {a : Addr} {xs ys : List V} (I : Inv X pins σ H s) (h : SqK X.K kd H a xs) (h' : SqK X.K kd H a ys) : xs = ys := by
  cases kd with
  | true => exact I.tuple_inj h h'
  | false => exact I.list_inj h h'

def Iz2 (K : PySem.W.Frag) (d1 d2 : Bool) (l1 l2 : Addr) : It :=
  ⟨fun i H => ∃ (x1 x2 : List V) (v1 v2 : V), SqK K d1 H l1 x1 ∧ SqK K d2 H l2 x2 ∧ x1[i]? = some v1 ∧ x2[i]? = some v2,
    fun i H v H' => ∃ (T : Addr) (v1 v2 : V), v = .ref T ∧ H T = none ∧ H' = upd H T (.tup [v1, v2]) ∧ (∀ xs, SqK K d1 H l1 xs → xs[i]? = some v1) ∧ (∀ xs, SqK K d2 H l2 xs → xs[i]? = some v2),
    fun i H => ∃ (x1 x2 : List V), SqK K d1 H l1 x1 ∧ SqK K d2 H l2 x2 ∧ (x1.length ≤ i ∨ x2.length ≤ i)⟩
theorem turn_z2 {P : Program} {w : World} {K : PySem.W.Frag} {elts : List Expr} {kk : Nat} {tpos : Pos} {d1 d2 : Bool} {l1 l2 z TI TO i1 i2 : Addr} (D : Ap2 z TI TO i1 i2 l1 l2) :
    Turn P w K (.Tuple elts kk tpos) (Iz2 K d1 d2 l1 l2) [z, TI, TO, i1, i2] z (fun i h => IsZip h z TI TO .none ∧ IsT h TI #[.ref i1, .ref i2] ∧ (∃ a1 a2, IsT h TO #[a1, a2]) ∧ SIk d1 h i1 l1 i ∧ SIk d2 h i2 l2 i) where
  mem := by simp
  obj := fun i h st c hc => by
    obtain ⟨hz, hTI, ⟨a1, a2, hTO⟩, s1, s2⟩ := st
    have e' : c = z ∨ c = TI ∨ c = TO ∨ c = i1 ∨ c = i2 := by simpa using hc
    rcases e' with q | q | q | q | q
    · rw [q]; exact ⟨_, hz, fun v q => nomatch q⟩
    · rw [q]; exact ⟨_, hTI, fun v q => nomatch q⟩
    · rw [q]; exact ⟨_, hTO, fun v q => nomatch q⟩
    · rw [q]; obtain ⟨o, vs, e, d⟩ := s1.obj; exact ⟨o, e, fun v q => by rw [d] at q; cases q⟩
    · rw [q]; obtain ⟨o, vs, e, d⟩ := s2.obj; exact ⟨o, e, fun v q => by rw [d] at q; cases q⟩
  keep := fun i h h' st k => by
    obtain ⟨hz, hTI, ⟨a1, a2, hTO⟩, s1, s2⟩ := st
    exact ⟨k z (by simp) _ hz, k TI (by simp) _ hTI, ⟨a1, a2, k TO (by simp) _ hTO⟩, s1.at fun o q => k i1 (by simp) o q, s2.at fun o q => k i2 (by simp) o q⟩
  item := by
    intro X hP hw hK hc i pins s σ H E I hf st hg
    subst hP hw hK
    obtain ⟨hz, hTI, ⟨a1, a2, hTO⟩, s1, s2⟩ := st
    obtain ⟨x1, x2, v1, v2, hq1, hq2, hv1, hv2⟩ := hg
    obtain ⟨its1, rv1, p1, _⟩ := I.seqk hq1
    obtain ⟨u1, hu1, ru1⟩ := rv1.get hv1
    obtain ⟨its2, rv2, p2, _⟩ := I.seqk hq2
    obtain ⟨u2, hu2, ru2⟩ := rv2.get hv2
    have hzl : z < s.heap.objs.size := Heap.lt_size hz
    refine pyNext_zip2_item D hz hTI hTO s1 s2 p1 p2 (y1 := u1) (y2 := u2) (by simpa using hu1) (by simpa using hu2) fun h' z' TO' t1 t2 hT hsz hk => ?_
    refine ⟨_, rfl, wpAny_letOwnedTupleGo_zip (s := { s with heap := h' }) z' fun h'' z'' sb => ?_⟩
    have hT2 : h''.get? s.heap.objs.size = some { cls := .type "tuple", data := .seq #[u1, u2] } := (sb.2 _ (Nat.ne_of_gt hzl)).trans hT
    have new : ObjOk X.prog X.w (upd H s.heap.objs.size (.tup [v1, v2])) h'' s.heap.objs.size (.tup [v1, v2]) :=
      ⟨by show 2 ≤ sizeLine; decide, [u1, u2], .cons ru1 (.cons ru2 (.nil)), ⟨_, hT2, rfl, _, rfl⟩⟩
    have I1 : Inv X pins σ (upd H s.heap.objs.size (.tup [v1, v2])) { s with heap := h'' } :=
      I.turnedNew (t' := s.toks) (ch := [z, TI, TO, i1, i2]) (fun c o hb q => (sb.2 c (fun q' => hb (by simp [q']))).trans (hk c o (fun q' => hb (by simp [q'])) (fun q' => hb (by simp [q'])) (fun q' => hb (by simp [q'])) (fun q' => hb (by simp [q'])) q)) hf (Nat.le_refl _) new
    refine ⟨.ref s.heap.objs.size, _, I1, rfl, ⟨_, v1, v2, rfl, I.hok.fresh (Nat.le_refl _), rfl, fun l hl => by rw [I.seqk_inj hl hq1]; exact hv1, fun l hl => by rw [I.seqk_inj hl hq2]; exact hv2⟩, ⟨z'', ?_, ⟨u1, u2, ?_⟩, ?_, ?_⟩, fun c hcm => ?_⟩
    · exact (sb.2 _ D.TIz).trans (hk _ _ D.TIz D.TOTI.symm D.i1TI.symm D.i2TI.symm hTI)
    · exact (sb.2 _ D.TOz).trans TO'
    · exact t1.at fun o q => (sb.2 _ D.i1z).trans q
    · exact t2.at fun o q => (sb.2 _ D.i2z).trans q
    · have hlt : c < s.heap.objs.size := by
        have e' : c = z ∨ c = TI ∨ c = TO ∨ c = i1 ∨ c = i2 := by simpa using hcm
        rcases e' with q | q | q | q | q
        · rw [q]; exact hzl
        · rw [q]; exact Heap.lt_size hTI
        · rw [q]; exact Heap.lt_size hTO
        · rw [q]; obtain ⟨_, _, e1, _⟩ := s1.obj; exact Heap.lt_size e1
        · rw [q]; obtain ⟨_, _, e1, _⟩ := s2.obj; exact Heap.lt_size e1
      rw [upd_ne (Nat.ne_of_lt hlt)]
      exact (hf c hcm).1
  done := by
    intro X hP hw hK hc i pins s σ H E I hf st hg
    subst hP hw hK
    obtain ⟨hz, hTI, ⟨a1, a2, hTO⟩, s1, s2⟩ := st
    obtain ⟨x1, x2, hq1, hq2, hend⟩ := hg
    obtain ⟨its1, rv1, p1, _⟩ := I.seqk hq1
    have w1 := rv1.length
    obtain ⟨its2, rv2, p2, _⟩ := I.seqk hq2
    have w2 := rv2.length
    have he : its1.toArray[i]? = none ∨ its2.toArray[i]? = none := by
      rcases hend with q | q
      · exact .inl (by simp; omega)
      · exact .inr (by simp; omega)
    exact pyNext_zip2_end (I.ok.hd hc) D hz hTI hTO s1 s2 p1 p2 he fun h' hk => ⟨rfl, I.turnedL (t' := s.toks) (ch := [z, TI, TO, i1, i2]) (fun c o hb q =>
      hk c o (fun q' => hb (by simp [q'])) (fun q' => hb (by simp [q'])) (fun q' => hb (by simp [q'])) (fun q' => hb (by simp [q'])) q) hf⟩
  self := fun A i s Q E st h => wpAny_pyIter_zip st.1 h
def iZk2 (K : PySem.W.Frag) (ta : TA) : TI := fun σ H R => ta σ H fun vs H1 => ∃ (d1 d2 : Bool) (l1 l2 : Addr) (x1 x2 : List V), vs = [.ref l1, .ref l2] ∧ SqK K d1 H1 l1 x1 ∧ SqK K d2 H1 l2 x2 ∧ R (Iz2 K d1 d2 l1 l2) H1
theorem pi_z2 {X : Cx} {e1 e2 : Expr} {ta : TA} {p pos tpos : Pos} {elts : List Expr} {kk : Nat} (hg : Gl X "zip") (hm : X.mg "zip" = none) (ha : PA X [e1, e2] ta)
    (hs : starEach [e1, e2] X.env = (false, eval e1 X.env) :: starEach [e2] X.env := by rfl) (hpl : (backTo pos (starEach [e2] X.env)).any (·.1) = false := by rfl) :
    PI X (.Tuple elts kk tpos) (.Call (.Name "zip" p) [e1, e2] [] pos) (iZk2 X.K ta) := by
  refine ⟨fun pins s σ H R I h => ?_⟩
  refine Call_ (ld_blt I hg hm PyProof.Rows.boot_zip (PyProof.Rows.callWith_type1 (thn (ha.run pos pins s σ H _ I h) fun us s1 ⟨vs, H1, I1, r1, q1⟩ => ?_) hs hpl))
  obtain ⟨d1, d2, l1, l2, x1, x2, ex, hq1, hq2, q⟩ := q1
  subst ex
  cases r1 with
  | cons r r1 =>
    cases r
    cases r1 with
    | cons r r1 =>
      cases r
      cases r1
      have fresh5 : ∀ c, c ∈ [s1.heap.objs.size + 4, s1.heap.objs.size + 2, s1.heap.objs.size + 3, s1.heap.objs.size, s1.heap.objs.size + 1] → FpOk X pins H1 c := fun c hcm => by
        have hle : s1.heap.objs.size ≤ c := by
          simp only [List.mem_cons, List.not_mem_nil, or_false] at hcm
          omega
        exact I1.fpOk hle (I1.hok.fresh hle)
      obtain ⟨its1, rv1, p1, _⟩ := I1.seqk hq1
      obtain ⟨its2, rv2, p2, _⟩ := I1.seqk hq2
      refine call_zip2 p1 p2 fun h' hz hTI hTO t1 t2 hsz hk => wpAny_pyIter_zip hz ?_
      have I2 : Inv X pins σ H1 { s1 with heap := h' } := I1.kept (t' := s1.toks) hk
      have b1 : @LT.lt Nat _ l1 s1.heap.objs.size := p1.lt
      have b2 : @LT.lt Nat _ l2 s1.heap.objs.size := p2.lt
      have D : Ap2 (s1.heap.objs.size + 4) (s1.heap.objs.size + 2) (s1.heap.objs.size + 3) (s1.heap.objs.size) (s1.heap.objs.size + 1) l1 l2 := ⟨(show @Ne Nat (s1.heap.objs.size + 2) (s1.heap.objs.size + 4) by omega), (show @Ne Nat (s1.heap.objs.size + 3) (s1.heap.objs.size + 4) by omega), (show @Ne Nat (s1.heap.objs.size + 3) (s1.heap.objs.size + 2) by omega), (show @Ne Nat (s1.heap.objs.size) (s1.heap.objs.size + 4) by omega), (show @Ne Nat (s1.heap.objs.size) (s1.heap.objs.size + 2) by omega), (show @Ne Nat (s1.heap.objs.size) (s1.heap.objs.size + 3) by omega), (show @Ne Nat (s1.heap.objs.size + 1) (s1.heap.objs.size + 4) by omega), (show @Ne Nat (s1.heap.objs.size + 1) (s1.heap.objs.size + 2) by omega), (show @Ne Nat (s1.heap.objs.size + 1) (s1.heap.objs.size + 3) by omega), (show @Ne Nat (s1.heap.objs.size + 1) (s1.heap.objs.size) by omega), (show @Ne Nat (l1) (s1.heap.objs.size + 4) by omega), (show @Ne Nat (l1) (s1.heap.objs.size + 3) by omega), (show @Ne Nat (l1) (s1.heap.objs.size) by omega), (show @Ne Nat (l1) (s1.heap.objs.size + 1) by omega), (show @Ne Nat (l2) (s1.heap.objs.size + 4) by omega), (show @Ne Nat (l2) (s1.heap.objs.size + 3) by omega), (show @Ne Nat (l2) (s1.heap.objs.size) by omega), (show @Ne Nat (l2) (s1.heap.objs.size + 1) by omega)⟩
      exact ⟨s1.heap.objs.size + 4, [s1.heap.objs.size + 4, s1.heap.objs.size + 2, s1.heap.objs.size + 3, s1.heap.objs.size, s1.heap.objs.size + 1], _, _, H1, rfl, I2, turn_z2 (K := X.K) D, ⟨hz, hTI, ⟨_, _, hTO⟩, t1, t2⟩, fresh5, q⟩
def Iz3 (K : PySem.W.Frag) (d1 d2 d3 : Bool) (l1 l2 l3 : Addr) : It :=
  ⟨fun i H => ∃ (x1 x2 x3 : List V) (v1 v2 v3 : V), SqK K d1 H l1 x1 ∧ SqK K d2 H l2 x2 ∧ SqK K d3 H l3 x3 ∧ x1[i]? = some v1 ∧ x2[i]? = some v2 ∧ x3[i]? = some v3,
    fun i H v H' => ∃ (T : Addr) (v1 v2 v3 : V), v = .ref T ∧ H T = none ∧ H' = upd H T (.tup [v1, v2, v3]) ∧ (∀ xs, SqK K d1 H l1 xs → xs[i]? = some v1) ∧ (∀ xs, SqK K d2 H l2 xs → xs[i]? = some v2) ∧ (∀ xs, SqK K d3 H l3 xs → xs[i]? = some v3),
    fun i H => ∃ (x1 x2 x3 : List V), SqK K d1 H l1 x1 ∧ SqK K d2 H l2 x2 ∧ SqK K d3 H l3 x3 ∧ (x1.length ≤ i ∨ x2.length ≤ i ∨ x3.length ≤ i)⟩
theorem turn_z3 {P : Program} {w : World} {K : PySem.W.Frag} {elts : List Expr} {kk : Nat} {tpos : Pos} {d1 d2 d3 : Bool} {l1 l2 l3 z TI TO i1 i2 i3 : Addr} (D : Ap3 z TI TO i1 i2 i3 l1 l2 l3) :
    Turn P w K (.Tuple elts kk tpos) (Iz3 K d1 d2 d3 l1 l2 l3) [z, TI, TO, i1, i2, i3] z (fun i h => IsZip h z TI TO .none ∧ IsT h TI #[.ref i1, .ref i2, .ref i3] ∧ (∃ a1 a2 a3, IsT h TO #[a1, a2, a3]) ∧ SIk d1 h i1 l1 i ∧ SIk d2 h i2 l2 i ∧ SIk d3 h i3 l3 i) where
  mem := by simp
  obj := fun i h st c hc => by
    obtain ⟨hz, hTI, ⟨a1, a2, a3, hTO⟩, s1, s2, s3⟩ := st
    have e' : c = z ∨ c = TI ∨ c = TO ∨ c = i1 ∨ c = i2 ∨ c = i3 := by simpa using hc
    rcases e' with q | q | q | q | q | q
    · rw [q]; exact ⟨_, hz, fun v q => nomatch q⟩
    · rw [q]; exact ⟨_, hTI, fun v q => nomatch q⟩
    · rw [q]; exact ⟨_, hTO, fun v q => nomatch q⟩
    · rw [q]; obtain ⟨o, vs, e, d⟩ := s1.obj; exact ⟨o, e, fun v q => by rw [d] at q; cases q⟩
    · rw [q]; obtain ⟨o, vs, e, d⟩ := s2.obj; exact ⟨o, e, fun v q => by rw [d] at q; cases q⟩
    · rw [q]; obtain ⟨o, vs, e, d⟩ := s3.obj; exact ⟨o, e, fun v q => by rw [d] at q; cases q⟩
  keep := fun i h h' st k => by
    obtain ⟨hz, hTI, ⟨a1, a2, a3, hTO⟩, s1, s2, s3⟩ := st
    exact ⟨k z (by simp) _ hz, k TI (by simp) _ hTI, ⟨a1, a2, a3, k TO (by simp) _ hTO⟩, s1.at fun o q => k i1 (by simp) o q, s2.at fun o q => k i2 (by simp) o q, s3.at fun o q => k i3 (by simp) o q⟩
  item := by
    intro X hP hw hK hc i pins s σ H E I hf st hg
    subst hP hw hK
    obtain ⟨hz, hTI, ⟨a1, a2, a3, hTO⟩, s1, s2, s3⟩ := st
    obtain ⟨x1, x2, x3, v1, v2, v3, hq1, hq2, hq3, hv1, hv2, hv3⟩ := hg
    obtain ⟨its1, rv1, p1, _⟩ := I.seqk hq1
    obtain ⟨u1, hu1, ru1⟩ := rv1.get hv1
    obtain ⟨its2, rv2, p2, _⟩ := I.seqk hq2
    obtain ⟨u2, hu2, ru2⟩ := rv2.get hv2
    obtain ⟨its3, rv3, p3, _⟩ := I.seqk hq3
    obtain ⟨u3, hu3, ru3⟩ := rv3.get hv3
    have hzl : z < s.heap.objs.size := Heap.lt_size hz
    refine pyNext_zip3_item D hz hTI hTO s1 s2 s3 p1 p2 p3 (y1 := u1) (y2 := u2) (y3 := u3) (by simpa using hu1) (by simpa using hu2) (by simpa using hu3) fun h' z' TO' t1 t2 t3 hT hsz hk => ?_
    refine ⟨_, rfl, wpAny_letOwnedTupleGo_zip (s := { s with heap := h' }) z' fun h'' z'' sb => ?_⟩
    have hT2 : h''.get? s.heap.objs.size = some { cls := .type "tuple", data := .seq #[u1, u2, u3] } := (sb.2 _ (Nat.ne_of_gt hzl)).trans hT
    have new : ObjOk X.prog X.w (upd H s.heap.objs.size (.tup [v1, v2, v3])) h'' s.heap.objs.size (.tup [v1, v2, v3]) :=
      ⟨by show 3 ≤ sizeLine; decide, [u1, u2, u3], .cons ru1 (.cons ru2 (.cons ru3 (.nil))), ⟨_, hT2, rfl, _, rfl⟩⟩
    have I1 : Inv X pins σ (upd H s.heap.objs.size (.tup [v1, v2, v3])) { s with heap := h'' } :=
      I.turnedNew (t' := s.toks) (ch := [z, TI, TO, i1, i2, i3]) (fun c o hb q => (sb.2 c (fun q' => hb (by simp [q']))).trans (hk c o (fun q' => hb (by simp [q'])) (fun q' => hb (by simp [q'])) (fun q' => hb (by simp [q'])) (fun q' => hb (by simp [q'])) (fun q' => hb (by simp [q'])) q)) hf (Nat.le_refl _) new
    refine ⟨.ref s.heap.objs.size, _, I1, rfl, ⟨_, v1, v2, v3, rfl, I.hok.fresh (Nat.le_refl _), rfl, fun l hl => by rw [I.seqk_inj hl hq1]; exact hv1, fun l hl => by rw [I.seqk_inj hl hq2]; exact hv2, fun l hl => by rw [I.seqk_inj hl hq3]; exact hv3⟩, ⟨z'', ?_, ⟨u1, u2, u3, ?_⟩, ?_, ?_, ?_⟩, fun c hcm => ?_⟩
    · exact (sb.2 _ D.TIz).trans (hk _ _ D.TIz D.TOTI.symm D.i1TI.symm D.i2TI.symm D.i3TI.symm hTI)
    · exact (sb.2 _ D.TOz).trans TO'
    · exact t1.at fun o q => (sb.2 _ D.i1z).trans q
    · exact t2.at fun o q => (sb.2 _ D.i2z).trans q
    · exact t3.at fun o q => (sb.2 _ D.i3z).trans q
    · have hlt : c < s.heap.objs.size := by
        have e' : c = z ∨ c = TI ∨ c = TO ∨ c = i1 ∨ c = i2 ∨ c = i3 := by simpa using hcm
        rcases e' with q | q | q | q | q | q
        · rw [q]; exact hzl
        · rw [q]; exact Heap.lt_size hTI
        · rw [q]; exact Heap.lt_size hTO
        · rw [q]; obtain ⟨_, _, e1, _⟩ := s1.obj; exact Heap.lt_size e1
        · rw [q]; obtain ⟨_, _, e1, _⟩ := s2.obj; exact Heap.lt_size e1
        · rw [q]; obtain ⟨_, _, e1, _⟩ := s3.obj; exact Heap.lt_size e1
      rw [upd_ne (Nat.ne_of_lt hlt)]
      exact (hf c hcm).1
  done := by
    intro X hP hw hK hc i pins s σ H E I hf st hg
    subst hP hw hK
    obtain ⟨hz, hTI, ⟨a1, a2, a3, hTO⟩, s1, s2, s3⟩ := st
    obtain ⟨x1, x2, x3, hq1, hq2, hq3, hend⟩ := hg
    obtain ⟨its1, rv1, p1, _⟩ := I.seqk hq1
    have w1 := rv1.length
    obtain ⟨its2, rv2, p2, _⟩ := I.seqk hq2
    have w2 := rv2.length
    obtain ⟨its3, rv3, p3, _⟩ := I.seqk hq3
    have w3 := rv3.length
    have he : its1.toArray[i]? = none ∨ its2.toArray[i]? = none ∨ its3.toArray[i]? = none := by
      rcases hend with q | q | q
      · exact .inl (by simp; omega)
      · exact .inr (.inl (by simp; omega))
      · exact .inr (.inr (by simp; omega))
    exact pyNext_zip3_end (I.ok.hd hc) D hz hTI hTO s1 s2 s3 p1 p2 p3 he fun h' hk => ⟨rfl, I.turnedL (t' := s.toks) (ch := [z, TI, TO, i1, i2, i3]) (fun c o hb q =>
      hk c o (fun q' => hb (by simp [q'])) (fun q' => hb (by simp [q'])) (fun q' => hb (by simp [q'])) (fun q' => hb (by simp [q'])) (fun q' => hb (by simp [q'])) q) hf⟩
  self := fun A i s Q E st h => wpAny_pyIter_zip st.1 h
def iZk3 (K : PySem.W.Frag) (ta : TA) : TI := fun σ H R => ta σ H fun vs H1 => ∃ (d1 d2 d3 : Bool) (l1 l2 l3 : Addr) (x1 x2 x3 : List V), vs = [.ref l1, .ref l2, .ref l3] ∧ SqK K d1 H1 l1 x1 ∧ SqK K d2 H1 l2 x2 ∧ SqK K d3 H1 l3 x3 ∧ R (Iz3 K d1 d2 d3 l1 l2 l3) H1
theorem pi_z3 {X : Cx} {e1 e2 e3 : Expr} {ta : TA} {p pos tpos : Pos} {elts : List Expr} {kk : Nat} (hg : Gl X "zip") (hm : X.mg "zip" = none) (ha : PA X [e1, e2, e3] ta)
    (hs : starEach [e1, e2, e3] X.env = (false, eval e1 X.env) :: starEach [e2, e3] X.env := by rfl) (hpl : (backTo pos (starEach [e2, e3] X.env)).any (·.1) = false := by rfl) :
    PI X (.Tuple elts kk tpos) (.Call (.Name "zip" p) [e1, e2, e3] [] pos) (iZk3 X.K ta) := by
  refine ⟨fun pins s σ H R I h => ?_⟩
  refine Call_ (ld_blt I hg hm PyProof.Rows.boot_zip (PyProof.Rows.callWith_type1 (thn (ha.run pos pins s σ H _ I h) fun us s1 ⟨vs, H1, I1, r1, q1⟩ => ?_) hs hpl))
  obtain ⟨d1, d2, d3, l1, l2, l3, x1, x2, x3, ex, hq1, hq2, hq3, q⟩ := q1
  subst ex
  cases r1 with
  | cons r r1 =>
    cases r
    cases r1 with
    | cons r r1 =>
      cases r
      cases r1 with
      | cons r r1 =>
        cases r
        cases r1
        have fresh5 : ∀ c, c ∈ [s1.heap.objs.size + 5, s1.heap.objs.size + 3, s1.heap.objs.size + 4, s1.heap.objs.size, s1.heap.objs.size + 1, s1.heap.objs.size + 2] → FpOk X pins H1 c := fun c hcm => by
          have hle : s1.heap.objs.size ≤ c := by
            simp only [List.mem_cons, List.not_mem_nil, or_false] at hcm
            omega
          exact I1.fpOk hle (I1.hok.fresh hle)
        obtain ⟨its1, rv1, p1, _⟩ := I1.seqk hq1
        obtain ⟨its2, rv2, p2, _⟩ := I1.seqk hq2
        obtain ⟨its3, rv3, p3, _⟩ := I1.seqk hq3
        refine call_zip3 p1 p2 p3 fun h' hz hTI hTO t1 t2 t3 hsz hk => wpAny_pyIter_zip hz ?_
        have I2 : Inv X pins σ H1 { s1 with heap := h' } := I1.kept (t' := s1.toks) hk
        have b1 : @LT.lt Nat _ l1 s1.heap.objs.size := p1.lt
        have b2 : @LT.lt Nat _ l2 s1.heap.objs.size := p2.lt
        have b3 : @LT.lt Nat _ l3 s1.heap.objs.size := p3.lt
        have D : Ap3 (s1.heap.objs.size + 5) (s1.heap.objs.size + 3) (s1.heap.objs.size + 4) (s1.heap.objs.size) (s1.heap.objs.size + 1) (s1.heap.objs.size + 2) l1 l2 l3 := ⟨(show @Ne Nat (s1.heap.objs.size + 3) (s1.heap.objs.size + 5) by omega), (show @Ne Nat (s1.heap.objs.size + 4) (s1.heap.objs.size + 5) by omega), (show @Ne Nat (s1.heap.objs.size + 4) (s1.heap.objs.size + 3) by omega), (show @Ne Nat (s1.heap.objs.size) (s1.heap.objs.size + 5) by omega), (show @Ne Nat (s1.heap.objs.size) (s1.heap.objs.size + 3) by omega), (show @Ne Nat (s1.heap.objs.size) (s1.heap.objs.size + 4) by omega), (show @Ne Nat (s1.heap.objs.size + 1) (s1.heap.objs.size + 5) by omega), (show @Ne Nat (s1.heap.objs.size + 1) (s1.heap.objs.size + 3) by omega), (show @Ne Nat (s1.heap.objs.size + 1) (s1.heap.objs.size + 4) by omega), (show @Ne Nat (s1.heap.objs.size + 1) (s1.heap.objs.size) by omega), (show @Ne Nat (s1.heap.objs.size + 2) (s1.heap.objs.size + 5) by omega), (show @Ne Nat (s1.heap.objs.size + 2) (s1.heap.objs.size + 3) by omega), (show @Ne Nat (s1.heap.objs.size + 2) (s1.heap.objs.size + 4) by omega), (show @Ne Nat (s1.heap.objs.size + 2) (s1.heap.objs.size) by omega), (show @Ne Nat (s1.heap.objs.size + 2) (s1.heap.objs.size + 1) by omega), (show @Ne Nat (l1) (s1.heap.objs.size + 5) by omega), (show @Ne Nat (l1) (s1.heap.objs.size + 4) by omega), (show @Ne Nat (l1) (s1.heap.objs.size) by omega), (show @Ne Nat (l1) (s1.heap.objs.size + 1) by omega), (show @Ne Nat (l1) (s1.heap.objs.size + 2) by omega), (show @Ne Nat (l2) (s1.heap.objs.size + 5) by omega), (show @Ne Nat (l2) (s1.heap.objs.size + 4) by omega), (show @Ne Nat (l2) (s1.heap.objs.size) by omega), (show @Ne Nat (l2) (s1.heap.objs.size + 1) by omega), (show @Ne Nat (l2) (s1.heap.objs.size + 2) by omega), (show @Ne Nat (l3) (s1.heap.objs.size + 5) by omega), (show @Ne Nat (l3) (s1.heap.objs.size + 4) by omega), (show @Ne Nat (l3) (s1.heap.objs.size) by omega), (show @Ne Nat (l3) (s1.heap.objs.size + 1) by omega), (show @Ne Nat (l3) (s1.heap.objs.size + 2) by omega)⟩
        exact ⟨s1.heap.objs.size + 5, [s1.heap.objs.size + 5, s1.heap.objs.size + 3, s1.heap.objs.size + 4, s1.heap.objs.size, s1.heap.objs.size + 1, s1.heap.objs.size + 2], _, _, H1, rfl, I2, turn_z3 (K := X.K) D, ⟨hz, hTI, ⟨_, _, _, hTO⟩, t1, t2, t3⟩, fresh5, q⟩
end L2
end
section
set_option Elab.async false
set_option Elab.async false
set_option linter.all false
set_option maxRecDepth 100000
set_option maxHeartbeats 1000000
/-! Zq: zip and enumerate lifted. -/
namespace Y
open PySem PySem.Spec PyProof.Rows L2
section
variable {X : Cx} {G : Glo} {E : XK}
theorem seqOf_rel {S F : Hp} {ρ : List Addr} {H : Hp} {st s : Store} {u : V} {v : Val} {ds : List D} (rp : Rep G S F ρ H st) (h : VR G F ρ u v) (e : seqOf v st = .ok ds s) : s = st ∧ ∃ (kd : Bool) (a : Addr) (xs : List V), u = .ref a ∧ (∀ H', Exn F H' → SqK G.K kd H' a xs) ∧ DtA F xs ds := by
  cases v with
  | o _ => cases e
  | s _ => cases e
  | d x =>
    cases x with
    | list es =>
      have e' : R.ok es st = R.ok ds s := e
      injection e' with e1 e2
      subst e1 e2
      obtain ⟨a, xs, rfl, ha, hd⟩ := dt_list h
      exact ⟨rfl, false, a, xs, rfl, fun H' ex => SqL.of (ex _ _ ha), hd⟩
    | tuple es =>
      have e' : R.ok es st = R.ok ds s := e
      injection e' with e1 e2
      subst e1 e2
      obtain ⟨a, xs, rfl, ha, hd⟩ := dt_tup h
      exact ⟨rfl, true, a, xs, rfl, fun H' ex => SqT.of (ex _ _ ha), hd⟩
    | none => cases e
    | bool _ => cases e
    | int _ => cases e
    | str _ => cases e
    | dict _ => cases e
theorem seqOf_ex {v : Val} {st s : Store} {c : Nat} (e : seqOf v st = .ex c s) : False := by
  cases v with
  | o _ => cases e
  | s _ => cases e
  | d x => cases x <;> cases e
theorem out_seq {S F : Hp} {ρ : List Addr} {st : Store} {γ δ : Type} {Rk : Hp → List Addr → δ → γ → Prop} {Qk : δ → Hp → Prop} {v : Val} {f : List D → M γ} (o : out G S F ρ Rk Qk E (bd (seqOf v) f st)) : ∃ ds, seqOf v st = .ok ds st ∧ out G S F ρ Rk Qk E (f ds st) := by
  unfold bd at o
  cases e : seqOf v st with
  | bad => rw [e] at o; exact o.elim
  | ex c s => exact (seqOf_ex e).elim
  | ok ds s =>
    rw [e] at o
    have : s = st := by
      cases v with
      | o _ => cases e
      | s _ => cases e
      | d x =>
        cases x with
        | list es => injection e with _ e2; exact e2.symm
        | tuple es => injection e with _ e2; exact e2.symm
        | none => cases e
        | bool _ => cases e
        | int _ => cases e
        | str _ => cases e
        | dict _ => cases e
    subst this
    exact ⟨ds, rfl, o⟩
theorem zip2_len : ∀ (a b : List D), (zip2 a b).length = min a.length b.length
  | [], b => by simp [zip2]
  | _ :: _, [] => by simp [zip2]
  | x :: xs, y :: ys => by
    simp only [zip2, List.length_cons, zip2_len xs ys]
    omega
theorem zip2_get : ∀ {a b : List D} {i : Nat} {x y : D}, a[i]? = some x → b[i]? = some y → (zip2 a b)[i]? = some (.d (.tuple [x, y]))
  | [], _, _, _, _, h, _ => by simp at h
  | _ :: _, [], _, _, _, _, h => by simp at h
  | x :: xs, y :: ys, 0, _, _, h, h' => by simp at h h'; subst h h'; rfl
  | x :: xs, y :: ys, i + 1, _, _, h, h' => by
    simp only [zip2, List.getElem?_cons_succ]
    exact zip2_get (by simpa using h) (by simpa using h')
theorem zip3_len : ∀ (a b c : List D), (zip3 a b c).length = min a.length (min b.length c.length)
  | [], b, c => by simp [zip3]
  | _ :: _, [], c => by simp [zip3]
  | _ :: _, _ :: _, [] => by simp [zip3]
  | x :: xs, y :: ys, z :: zs => by
    simp only [zip3, List.length_cons, zip3_len xs ys zs]
    omega
theorem zip3_get : ∀ {a b c : List D} {i : Nat} {x y z : D}, a[i]? = some x → b[i]? = some y → c[i]? = some z → (zip3 a b c)[i]? = some (.d (.tuple [x, y, z]))
  | [], _, _, _, _, _, _, h, _, _ => by simp at h
  | _ :: _, [], _, _, _, _, _, _, h, _ => by simp at h
  | _ :: _, _ :: _, [], _, _, _, _, _, _, h => by simp at h
  | x :: xs, y :: ys, z :: zs, 0, _, _, _, h, h', h'' => by simp at h h' h''; subst h h' h''; rfl
  | x :: xs, y :: ys, z :: zs, i + 1, _, _, _, h, h', h'' => by
    simp only [zip3, List.getElem?_cons_succ]
    exact zip3_get (by simpa using h) (by simpa using h') (by simpa using h'')
theorem jw_zip2 {F : Hp} {ρ : List Addr} {d1 d2 : Bool} {l1 l2 : Addr} {x1 x2 : List V} {e1 e2 : List D} (q1 : ∀ H', Exn F H' → SqK G.K d1 H' l1 x1) (q2 : ∀ H', Exn F H' → SqK G.K d2 H' l2 x2) (h1 : DtA F x1 e1) (h2 : DtA F x2 e2) : JW G F ρ (Iz2 G.K d1 d2 l1 l2) (zip2 e1 e2) := by
  have w1 := h1.length
  have w2 := h2.length
  refine ⟨fun i H hi ex => ?_, fun H ex => ?_, fun i H x H' hi ex y => ?_⟩
  · rw [zip2_len] at hi
    have a1 : i < x1.length := by omega
    have a2 : i < x2.length := by omega
    exact ⟨x1, x2, x1[i], x2[i], q1 H ex, q2 H ex, by simp [a1], by simp [a2]⟩
  · exact ⟨x1, x2, q1 H ex, q2 H ex, by rw [zip2_len]; omega⟩
  · obtain ⟨T, v1, v2, rfl, hT, rfl, f1, f2⟩ := y
    obtain ⟨y1, z1, t1⟩ := h1.get' (f1 x1 (q1 H ex))
    obtain ⟨y2, z2, t2⟩ := h2.get' (f2 x2 (q2 H ex))
    exact .inr (.inl ⟨T, [v1, v2], [y1, y2], hT, rfl, rfl, zip2_get z1 z2, .cons t1 (.cons t2 .nil)⟩)
theorem jw_zip3 {F : Hp} {ρ : List Addr} {d1 d2 d3 : Bool} {l1 l2 l3 : Addr} {x1 x2 x3 : List V} {e1 e2 e3 : List D} (q1 : ∀ H', Exn F H' → SqK G.K d1 H' l1 x1) (q2 : ∀ H', Exn F H' → SqK G.K d2 H' l2 x2) (q3 : ∀ H', Exn F H' → SqK G.K d3 H' l3 x3) (h1 : DtA F x1 e1) (h2 : DtA F x2 e2) (h3 : DtA F x3 e3) : JW G F ρ (Iz3 G.K d1 d2 d3 l1 l2 l3) (zip3 e1 e2 e3) := by
  have w1 := h1.length
  have w2 := h2.length
  have w3 := h3.length
  refine ⟨fun i H hi ex => ?_, fun H ex => ?_, fun i H x H' hi ex y => ?_⟩
  · rw [zip3_len] at hi
    have a1 : i < x1.length := by omega
    have a2 : i < x2.length := by omega
    have a3 : i < x3.length := by omega
    exact ⟨x1, x2, x3, x1[i], x2[i], x3[i], q1 H ex, q2 H ex, q3 H ex, by simp [a1], by simp [a2], by simp [a3]⟩
  · exact ⟨x1, x2, x3, q1 H ex, q2 H ex, q3 H ex, by rw [zip3_len]; omega⟩
  · obtain ⟨T, v1, v2, v3, rfl, hT, rfl, f1, f2, f3⟩ := y
    obtain ⟨y1, z1, t1⟩ := h1.get' (f1 x1 (q1 H ex))
    obtain ⟨y2, z2, t2⟩ := h2.get' (f2 x2 (q2 H ex))
    obtain ⟨y3, z3, t3⟩ := h3.get' (f3 x3 (q3 H ex))
    exact .inr (.inl ⟨T, [v1, v2, v3], [y1, y2, y3], hT, rfl, rfl, zip3_get z1 z2 z3, .cons t1 (.cons t2 (.cons t3 .nil))⟩)
theorem qi_zip2 {e1 e2 : Expr} {f : Y.A} {p pos tpos : Pos} {elts : List Expr} {kk : Nat} (hg : Gl X "zip") (hm : X.mg "zip" = none) (ha : PA X [e1, e2] (lA G E f)) (hs : starEach [e1, e2] X.env = (false, eval e1 X.env) :: starEach [e2] X.env := by rfl) (hpl : (backTo pos (starEach [e2] X.env)).any (·.1) = false := by rfl) (hK : X.K = G.K := by rfl) :
    PI X (.Tuple elts kk tpos) (.Call (.Name "zip" p) [e1, e2] [] pos) (lI G E (iCall kZip2 f)) := by
  refine PI.imp (pi_z2 hg hm ha hs hpl) fun σ H Q ⟨S, F, ρ, loc, st, rp, l, o⟩ => ⟨S, F, ρ, loc, st, rp, l, out.imp (fun x H1 h1 => ?_) (out.bd (Rl := VRs G) o)⟩
  obtain ⟨F1, ρ1, as, st1, g1, r1, v1, o1⟩ := h1
  unfold kZip2 at o1
  split at o1
  · cases v1 with
    | cons h1 hr =>
      cases hr with
      | cons h2 hr =>
        cases hr
        obtain ⟨ds1, e1, o2⟩ := out_seq o1
        obtain ⟨ds2, e2, o3⟩ := out_seq o2
        obtain ⟨_, k1, a1, xs1, rfl, q1, t1⟩ := seqOf_rel r1 h1 e1
        obtain ⟨_, k2, a2, xs2, rfl, q2, t2⟩ := seqOf_rel r1 h2 e2
        rw [hK]
        exact ⟨k1, k2, a1, a2, xs1, xs2, rfl, q1 H1 r1.ex, q2 H1 r1.ex, out.at (v := zip2 ds1 ds2) o3 r1 (jw_zip2 q1 q2 t1 t2)⟩
  · exact o1.elim
theorem qi_zip3 {e1 e2 e3 : Expr} {f : Y.A} {p pos tpos : Pos} {elts : List Expr} {kk : Nat} (hg : Gl X "zip") (hm : X.mg "zip" = none) (ha : PA X [e1, e2, e3] (lA G E f)) (hs : starEach [e1, e2, e3] X.env = (false, eval e1 X.env) :: starEach [e2, e3] X.env := by rfl) (hpl : (backTo pos (starEach [e2, e3] X.env)).any (·.1) = false := by rfl) (hK : X.K = G.K := by rfl) :
    PI X (.Tuple elts kk tpos) (.Call (.Name "zip" p) [e1, e2, e3] [] pos) (lI G E (iCall kZip3 f)) := by
  refine PI.imp (pi_z3 hg hm ha hs hpl) fun σ H Q ⟨S, F, ρ, loc, st, rp, l, o⟩ => ⟨S, F, ρ, loc, st, rp, l, out.imp (fun x H1 h1 => ?_) (out.bd (Rl := VRs G) o)⟩
  obtain ⟨F1, ρ1, as, st1, g1, r1, v1, o1⟩ := h1
  unfold kZip3 at o1
  split at o1
  · cases v1 with
    | cons h1 hr =>
      cases hr with
      | cons h2 hr =>
        cases hr with
        | cons h3 hr =>
          cases hr
          obtain ⟨ds1, e1, o2⟩ := out_seq o1
          obtain ⟨ds2, e2, o3⟩ := out_seq o2
          obtain ⟨ds3, e3, o4⟩ := out_seq o3
          obtain ⟨_, k1, a1, xs1, rfl, q1, t1⟩ := seqOf_rel r1 h1 e1
          obtain ⟨_, k2, a2, xs2, rfl, q2, t2⟩ := seqOf_rel r1 h2 e2
          obtain ⟨_, k3, a3, xs3, rfl, q3, t3⟩ := seqOf_rel r1 h3 e3
          rw [hK]
          exact ⟨k1, k2, k3, a1, a2, a3, xs1, xs2, xs3, rfl, q1 H1 r1.ex, q2 H1 r1.ex, q3 H1 r1.ex, out.at (v := zip3 ds1 ds2 ds3) o4 r1 (jw_zip3 q1 q2 q3 t1 t2 t3)⟩
  · exact o1.elim
/-! ### enumerate of a list -/
theorem enum_len : ∀ (n : Nat) (a : List D), (enumF n a).length = a.length
  | _, [] => rfl
  | n, _ :: xs => by simp [enumF, enum_len (n + 1) xs]
theorem enum_get : ∀ {n : Nat} {a : List D} {i : Nat} {x : D}, a[i]? = some x → (enumF n a)[i]? = some (.d (.tuple [.int ((n + i : Nat) : Int), x]))
  | _, [], _, _, h => by simp at h
  | n, _ :: _, 0, _, h => by simp at h; subst h; rfl
  | n, y :: ys, i + 1, x, h => by
    simp only [enumF, List.getElem?_cons_succ]
    rw [enum_get (n := n + 1) (by simpa using h)]
    have : n + 1 + i = n + (i + 1) := by omega
    rw [this]
theorem jw_enumL {F : Hp} {ρ : List Addr} {a : Addr} {x1 : List V} {e1 : List D} (ha : F a = some (.lst x1)) (h1 : DtA F x1 e1) : JW G F ρ (Ite G.K a) (enumF 0 e1) := by
  have w1 := h1.length
  refine ⟨fun i H hi ex => ?_, fun H ex => ?_, fun i H x H' hi ex y => ?_⟩
  · rw [enum_len] at hi
    have a1 : i < x1.length := by omega
    exact ⟨x1, x1[i], SqL.of (ex _ _ ha), by simp [a1]⟩
  · exact ⟨x1, SqL.of (ex _ _ ha), by rw [enum_len]; omega⟩
  · obtain ⟨T, v1, rfl, hT, rfl, f1⟩ := y
    obtain ⟨y1, z1, t1⟩ := h1.get' (f1 x1 (SqL.of (ex _ _ ha)))
    refine .inr (.inl ⟨T, [.int (i : Nat), v1], [.int (i : Int), y1], hT, rfl, rfl, ?_, .cons (.int _) (.cons t1 .nil)⟩)
    have := enum_get (n := 0) z1
    rw [Nat.zero_add] at this
    exact this
theorem qi_enumL {e1 : Expr} {f : Y.A} {p pos tpos : Pos} {elts : List Expr} {kk : Nat} (hg : Gl X "enumerate") (hm : X.mg "enumerate" = none) (ha : PA X [e1] (lA G E f)) (hs : starEach [e1] X.env = [(false, eval e1 X.env)] := by rfl) (hK : X.K = G.K := by rfl) :
    PI X (.Tuple elts kk tpos) (.Call (.Name "enumerate" p) [e1] [] pos) (lI G E (iCall kEnumL f)) := by
  refine PI.imp (pi_enum hg hm ha hs) fun σ H Q ⟨S, F, ρ, loc, st, rp, l, o⟩ => ⟨S, F, ρ, loc, st, rp, l, out.imp (fun x H1 h1 => ?_) (out.bd (Rl := VRs G) o)⟩
  obtain ⟨F1, ρ1, as, st1, g1, r1, v1, o1⟩ := h1
  unfold kEnumL at o1
  split at o1
  · rename_i ds
    cases v1 with
    | cons h1 hr =>
      cases hr
      obtain ⟨a, xs, rfl, ha, hd⟩ := dt_list h1
      rw [hK]
      exact ⟨a, xs, rfl, SqL.of (r1.ex _ _ ha), out.at (v := enumF 0 ds) o1 r1 (jw_enumL ha hd)⟩
  · exact o1.elim
end
end Y
end
section
set_option Elab.async false
set_option Elab.async false
set_option linter.all false
set_option maxRecDepth 100000
set_option maxHeartbeats 1000000
/-! Cal: defs that call each other, constants, refusals. -/
namespace Y
open PySem PySem.Spec PyProof.Rows L2
/-- a def of the program that keeps its plain reading -/
structure DefOk (P : Program) (w : World) (mg : Str → Option Value) (base : Heap) (G : Glo) (k : Nat) (x : Str) (n : Nat) (sem : List Val → M Val) : Prop where
  ex : ∃ (f : Addr) (fd : FuncData) (ps : List Str), FnOk P w G.K mg base (L2N.CX P w) k f fd ps (spF G n sem) ∧ mg x = some (.ref f) ∧ PySem.W.keepIn G.K (.ref f) = true ∧ Binds G.K fd ps []
/-- where a def stands -/
structure DefAt (mg : Str → Option Value) (K : PySem.W.Frag) (x : Str) (st : Stmt) (ps : List Str) : Prop where
  ex : ∃ (f : Addr) (fd : FuncData), Fun K x x st f fd ∧ mg x = some (.ref f) ∧ Binds K fd ps []
section
variable {P : Program} {w : World} {mg : Str → Option Value} {base : Heap} {G : Glo}
theorem def_ok {x : Str} {st : Stmt} {N ps : List Str} {k n : Nat} {b : Y.S} (At : DefAt mg G.K x st ps) (Sc : FnScope N ps (defScope st)) (hn : n = ps.length) (hN : n ≤ N.length)
    (hb : ∀ (f : Addr) (cdv : Value) (A : Around) (outer : List Env) (s : Shared) (H : Hp) (E : XK), Room k (A.deeper (envOfC x (defScope st) s.heap.objs.size f cdv)) → PSs (cxOf (L2N.CX P w) P w G.K mg base N x (defScope st) f cdv A outer s H E) (defBody st) (lS G E b)) :
    DefOk P w mg base G (k + 1) x n (runF N.length b) := by
  obtain ⟨f, fd, Fn, hm, hbd⟩ := At.ex
  exact ⟨f, fd, ps, fn_ok Fn Sc hn hN fun cdv A outer s H E hr => hb f cdv A outer s H E hr, hm, Fn.kp, hbd⟩
theorem law_ok {x : Str} {st : Stmt} {N ps : List Str} {k n : Nat} {b : Y.S} {f : Addr} {fd : FuncData} (Fn : Fun G.K x x st f fd) (Sc : FnScope N ps (defScope st)) (hn : n = ps.length) (hN : n ≤ N.length)
    (hb : ∀ (f : Addr) (cdv : Value) (A : Around) (outer : List Env) (s : Shared) (H : Hp) (E : XK), Room k (A.deeper (envOfC x (defScope st) s.heap.objs.size f cdv)) → PSs (cxOf (L2N.CX P w) P w G.K mg base N x (defScope st) f cdv A outer s H E) (defBody st) (lS G E b)) :
    FnOk P w G.K mg base (L2N.CX P w) (k + 1) f fd ps (spF G n (runF N.length b)) := fn_ok Fn Sc hn hN fun cdv A outer s H E hr => hb f cdv A outer s H E hr
theorem law_okT {x : Str} {st : Stmt} {N ps : List Str} {k n : Nat} {b : Y.S} {f : Addr} {cdv oc kV doc pm ct : Value} {od an : Option Addr} {osl : Array (Option Value)} (lk : G.K.lookup f = some ⟨oc, od, .func (PySem.W.fnOf x x (defArgs st) (defBody st) (defScope st) .none kV doc pm an cdv ct), osl⟩) (hcd : PySem.W.codeIn G.K cdv x = true) (Sc : FnScope N ps (defScope st)) (hn : n = ps.length) (hN : n ≤ N.length)
    (hb : ∀ (A : Around) (outer : List Env) (s : Shared) (H : Hp) (E : XK), Room k (A.deeper (envOfC x (defScope st) s.heap.objs.size f cdv)) → PSs (cxOf (L2N.CX P w) P w G.K mg base N x (defScope st) f cdv A outer s H E) (defBody st) (lS G E b)) :
    FnOk P w G.K mg base (L2N.CX P w) (k + 1) f (PySem.W.fnOf x x (defArgs st) (defBody st) (defScope st) .none kV doc pm an cdv ct) ps (spF G n (runF N.length b)) := by
  refine fn_of lk hcd Sc (fun vs H Q E h => ?_) fun A outer s H vs Q E hr h => ⟨lS G E b, hb A outer s H E hr, fn_body hN h⟩
  obtain ⟨S, F, ρ, st, as, rp, vr, hl, o⟩ := h
  rw [vr.length, hl, hn]
theorem DefOk.eq {k : Nat} {x : Str} {n : Nat} {sem sem' : List Val → M Val} (h : DefOk P w mg base G k x n sem) (e : sem = sem') : DefOk P w mg base G k x n sem' := e ▸ h
end
section
variable {X : Cx} {G : Glo} {E : XK}
theorem qe_callD {k j n : Nat} {sem : List Val → M Val} {x : Str} {p pos : Pos} {e : Expr} {es : List Expr} {fa : Y.A} (D : DefOk X.prog X.w X.mg X.base G k x n sem) (hr : Room j X.A) (hj : k ≤ j) (hg : Gl X x) (hx : ∀ σ, PassesAt (L2N.CX X.prog X.w) X σ E) (ha : PA X (e :: es) (lA G E fa)) (hK : X.K = G.K := by rfl)
    (hdb : (x == ("__debug__" : Str)) = false := by decide) (he : starEach (e :: es) X.env = (false, eval e X.env) :: starEach es X.env := by rfl) (hpl : (backTo pos (starEach es X.env)).any (·.1) = false := by rfl) :
    PE X (.Call (.Name x p) (e :: es) [] pos) (lE G E (eB (fixN n sem) fa)) := by
  obtain ⟨f, fd, ps, Fo, hm, hk, hb⟩ := D.ex
  rw [← hK] at Fo hk hb
  exact qe_call Fo (hr.mono hj) hg hm hk hb hx ha hdb he hpl
theorem qe_gI {x : Str} {i : Int} {pos : Pos} (hm : ∃ t, X.mg x = some (.int i t)) (hg : Gl X x) (hd : (x == ("__debug__" : Str)) = false := by decide) : PE X (.Name x pos) (lE G E (eC (.int i))) := by
  obtain ⟨t, hm⟩ := hm
  exact qe_gint hg hm ⟨t, rfl⟩ hd
theorem qe_gS {x : Str} {i : Str} {pos : Pos} (hm : ∃ t, X.mg x = some (.str i t)) (hg : Gl X x) (hd : (x == ("__debug__" : Str)) = false := by decide) : PE X (.Name x pos) (lE G E (eC (.str i))) := by
  obtain ⟨t, hm⟩ := hm
  exact qe_gstr hg hm ⟨t, rfl⟩ hd
/-- a < b < c as a test -/
theorem qt_chain {op op' : CmpOp} {r r' : R2} {f f' : Val → Val → M Val} {a b c : Expr} {fa fb fc : Y.E} {pos : Pos} (ho : OpR X (compareOp op) r) (hs : OSnd G r f) (ho' : OpR X (compareOp op') r') (hs' : OSnd G r' f') (ha : PE X a (lE G E fa)) (hb : PE X b (lE G E fb)) (hc : PE X c (lE G E fc))
    (hm : lastMarks [op, op'] [b, c] = false := by rfl) : PT X (.Compare a [op, op'] [b, c] pos) (lT G E (tV (eCh f f' fa fb fc))) := by
  refine PT.imp (pt_chain ho ho' ha hb hc hm) fun σ H Q ⟨S, F, ρ, loc, st, rp, l, o⟩ => ?_
  have o2 := out.bd (Rl := VR G) o
  refine ⟨S, F, ρ, loc, st, rp, l, out.imp (fun x H1 h1 => ?_) (out.bd (Rl := VR G) o2)⟩
  obtain ⟨F1, ρ1, a, st1, g1, r1, v1, o1⟩ := h1
  refine ⟨S, F1, ρ1, loc, st1, r1, l.mono g1, out.imp (fun y H2 h2 => ?_) (out.bd (Rl := VR G) o1)⟩
  obtain ⟨F2, ρ2, b, st2, g2, r2, v2, o2⟩ := h2
  refine hs S F2 ρ2 H2 st2 x y a b _ E r2 (v1.mono g2) v2 (out.imp (fun z H3 h3 => ?_) (out.bd (Rl := VR G) o2))
  obtain ⟨F3, ρ3, c, st3, g3, r3, v3, o3⟩ := h3
  obtain ⟨k, hx, F4, ρ4, b', st4, g4, r4, v4, o4⟩ := asB_of r3 v3 (out.bd (Rl := BR) o3)
  refine ⟨k, hx, ?_⟩
  cases v4
  cases k with
  | false =>
    obtain ⟨F5, ρ5, a5, st5, g5, r5, v5, o5⟩ := out.at (v := vB false) (u := V.bl false) o4 r4 (.bl false)
    obtain ⟨c, hc, q⟩ := asB_of r5 v5 o5
    cases hc
    exact ⟨false, rfl, q⟩
  | true =>
    refine ⟨S, F4, ρ4, loc, st4, r4, l.mono (((g1.trans g2).trans g3).trans g4), out.imp (fun w H5 h5 => ?_) (out.bd (Rl := VR G) o4)⟩
    obtain ⟨F5, ρ5, e5, st5, g5, r5, v5, o5⟩ := h5
    refine hs' S F5 ρ5 H5 st5 y w b e5 _ E r5 (v2.mono ((g3.trans g4).trans g5)) v5 (out.imp (fun z6 H6 h6 => ?_) o5)
    obtain ⟨F6, ρ6, a6, st6, g6, r6, v6, o6⟩ := h6
    exact asB_of r6 v6 o6
end
/-! ### refusals -/
/-- an own class of errors, the c-th -/
structure ExcF (mg : Str → Option Value) (K : PySem.W.Frag) (x : Str) (C : Addr) : Prop where
  g : mg x = some (.ref C)
  x : PySem.W.excIn K C [.type "ValueError", .type "Exception", .type "BaseException", .type "object"] "ValueError.__new__" = true
  k : PySem.W.keepIn K (.ref C) = true
  b : PySem.W.subIn K (.ref C) (.type "BaseException") = some true
  t : PySem.W.typeIn K (.ref C) = some (.type "type")
theorem qs_raiseX {X : Cx} {G : Glo} {E : XK} {W : WX} {x m : Str} {c j : Nat} {p p2 pos pos2 : Pos} (F : ExcF X.mg X.K x (G.cl c)) (hc : X.calm = true) (tk : L2N.Takes X W) (hW : ∀ cls d σ H, E cls d H → W cls d σ H) (hg : Gl X x) (hdb : (x == ("__debug__" : Str)) = false := by decide) :
    PS X (.Raise (some (.Call (.Name x p) [.Constant (.str m) j p2] [] pos)) none pos2) (lS G E (sRaise c)) :=
  qs_raise hc tk (L2N.pmk_own PySem.F.excBase_ValueError F.x F.g F.k (raises_own F.b F.t) hg hdb) hW
/-! ### the end -/
theorem exc_mk {K : PySem.W.Frag} {h : Heap} {mg : Str → Option Value} {x : Str} {C : Addr} (X : K.In h) (G : h.Ns mainGlobals mg) (a : PySem.W.nsIn K mainGlobals x = some (some (.ref C))) (x1 : PySem.W.excIn K C [.type "ValueError", .type "Exception", .type "BaseException", .type "object"] "ValueError.__new__" = true)
    (k : PySem.W.keepIn K (.ref C) = true) (b : PySem.W.subIn K (.ref C) (.type "BaseException") = some true) (t : PySem.W.typeIn K (.ref C) = some (.type "type")) : ExcF mg K x C := ⟨PySem.W.mg_of X G a, x1, k, b, t⟩
theorem at_mk {K : PySem.W.Frag} {h : Heap} {mg : Str → Option Value} {x : Str} {st : Stmt} {f : Addr} {fd : FuncData} {ps : List Str} (X : K.In h) (G : h.Ns mainGlobals mg) (a : PySem.W.nsIn K mainGlobals x = some (some (.ref f))) (F : Fun K x x st f fd) (b : Binds K fd ps []) : DefAt mg K x st ps := ⟨f, fd, F, PySem.W.mg_of X G a, b⟩
/-- what a law's def promises, wherever its classes stand -/
def spL (K : PySem.W.Frag) (T : List (Addr × Str)) (sem : List Val → M Val) : Sp := fun vs H Q E => ∀ cl ic, spF ⟨K, T, cl, ic⟩ 1 sem vs H Q E
theorem spL_true {K : PySem.W.Frag} {sem : List Val → M Val} {H : Hp} {a : Addr} {ns : List Int} (hO : Only H) (hS : SqL K H a (ns.map V.int)) (ht : ∃ st, sem [.s ns] [] = .ok (.d (.bool true)) st) : spL K [] sem [.ref a] H (fun v _ => v = .bl true) fun _ _ _ => False := by
  intro cl ic
  obtain ⟨st, e⟩ := ht
  refine ⟨fun _ => none, H, [], [], [.s ns], ⟨(fun a o h => by cases h), fun _ _ h => h, fun a ps h => ?_, rfl, List.nodup_nil, (fun k ob h => by simp at h), (fun p hp => by cases hp)⟩, .cons ⟨a, rfl, hS⟩ .nil, rfl, ?_⟩
  · rcases hO a with h1 | ⟨o, xs, h1⟩
    · rw [h1] at h; cases h
    · rw [h1] at h; cases h
  · rw [e]
    intro F1 ρ1 u H1 g r v
    cases v
    rfl
theorem cx_false {P : Program} {w : World} {H : Hp} {s : Shared} {e : Value} {s' : Shared} (h : L2N.CX P w [] H s (fun _ _ _ => False) e s') : False := by
  obtain ⟨a, B, H', cls, d, _, _, _, _, _, _, _, z⟩ := h
  exact z
end Y
end
section
set_option Elab.async false
set_option Elab.async false
set_option linter.all false
set_option maxRecDepth 100000
set_option maxHeartbeats 2000000
/-! Hod: lists walked, summed, read into new lists while an exception is handled. -/
namespace Y
open PySem PySem.Spec PyProof.Rows L2
section
variable {prog : Program} {w : World} {A : Around} {E : Value → Shared → Prop} {s : Shared}
theorem hot_ne {x1 it l : Addr} {i : Nat} {h : Heap} (hot : HotX.HotAt A x1 h) (hit : h.IsListIter it l i) : x1 ≠ it := fun e => by
  obtain ⟨_, o, vs, ho, hd, h2⟩ := hot
  obtain ⟨o', ho', _, hd'⟩ := hit
  rw [e, ho'] at ho
  cases ho
  rw [hd'] at hd
  cases hd
  simp at h2
/-- the list is at its end -/
theorem end_hot {it l x1 : Addr} {i : Nat} {items : Array Value} {Q : Option Value → Shared → Prop} (hot : HotX.HotAt A x1 s.heap) (hit : s.heap.IsListIter it l i) (hl : s.heap.IsList l items) (hx : items[i]? = none)
    (k : ∀ h', Heap.ExtBut it s.heap h' → Q none { s with heap := h' }) : wpAny (model prog w) A (pyNext (.ref it)) Q E s := by
  have hne := hot_ne hot hit
  obtain ⟨hh, o1, v1, g1, d1, c1⟩ := hot
  obtain ⟨oi, gi, ci, di⟩ := id hit
  obtain ⟨ol, gl, _, nl, dl⟩ := hl
  unfold pyNext
  refine wpAny_bind (wpAny_attempt (wpAny_callSpecial?_slot (name := Str.ofString "__next__") hit.typeIs slot_listiter_next (wpAny_call_entry slot_listiter_next hit.typeIs entry_listiter_next ?q (args_listiter_next _))))
  show wpAny _ _ (field (.ref it) 0 >>= _) _ _ s
  apply wpAny_bind
  refine wpAny_field gi di (x := .ref l) rfl ?_
  show wpAny _ _ (if (Value.ref l == Value.none) = true then _ else _) _ _ s
  rw [if_neg (fun z : (Value.ref l == Value.none) = true => absurd z Bool.false_ne_true)]
  show wpAny _ _ (field (.ref it) 1 >>= _) _ _ s
  apply wpAny_bind
  refine wpAny_field gi di (x := .int i 0) rfl ?_
  show wpAny _ _ (seqItems? (.ref l) >>= _) _ _ s
  apply wpAny_bind
  refine wpAny_seqItems gl dl ?_
  simp only [Int.toNat_natCast, hx]
  apply wpAny_bind
  apply wpAny_rule
  apply wpAny_bind
  refine wpAny_setField gi di (by simp) ?_
  show wpAny _ _ (newExc (.type "StopIteration") [] >>= _) _ _ _
  apply wpAny_bind
  simp only [newExc, newTuple]
  apply wpAny_bind
  refine wpAny_newObj_type ?_ (by size_fits)
  refine wpAny_bind (m := firstArgMember _ _) (wpAny_of_eq (a := Value.none) (by simp only [firstArgMember] <;> rfl) ?_)
  refine wpAny_newObj_type ?_ (by size_fits)
  have g1' := (Heap.SameBut.update (h := s.heap) (a := it) (f := Obj.mapFields (·.setIfInBounds 0 Value.none))).extBut x1 o1 hne g1
  refine HotX.raiseNew_hot ⟨hh, o1, v1, Heap.get?_push_of_some _ (Heap.get?_push_of_some _ g1'), d1, c1⟩ (Nat.ne_of_lt (Heap.lt_size (Heap.get?_push_of_some _ g1'))) (Heap.get?_push_size _ rfl) rfl (by simp; omega) ?_
  apply wpAny_bind
  refine wpAny_isInstance (T := "StopIteration") (b := true) ⟨_, Heap.get?_update_self _ (Heap.get?_push_size _ rfl) rfl, rfl⟩ isSubtype_stop ?_
  refine wpAny_pure (k _ fun b o hb e => ?_)
  have e' := Heap.get?_push_of_some { cls := Value.type "tuple", data := .seq ([] : List Value).toArray } ((Heap.SameBut.update (h := s.heap) (a := it) (f := Obj.mapFields (·.setIfInBounds 0 Value.none))).extBut b o hb e)
  rw [Heap.get?_update_other _ _ (Nat.ne_of_gt (Heap.lt_size e'))]
  exact Heap.get?_push_of_some _ e'
theorem walks_hot {x1 : Addr} (hh : A.handled = some (.ref x1)) (I ax : Addr) (hne : ax ≠ I) (items : Array Value) :
    Walks prog w A I [I, ax, x1] [I] items.size (fun i v => items[i]? = some v) (fun i h => (h.IsListIter I ax i ∧ h.IsList ax items) ∧ HotX.HotAt A x1 h) where
  sub := fun b hb => by simp at hb; simp [hb]
  frame := fun _ _ _ st hk => ⟨⟨st.1.1.at fun o e => hk I (by simp) o e, st.1.2.at fun o e => hk ax (by simp) o e⟩, by
    obtain ⟨h1, o, vs, h2, h3, h4⟩ := st.2
    exact ⟨h1, o, vs, hk x1 (by simp) o h2, h3, h4⟩⟩
  item := fun i s Q E hi st hQ => by
    have ne1 := hot_ne st.2 st.1.1
    obtain ⟨h1, o, vs, h2, h3, h4⟩ := st.2
    refine wpAny_pyNext_list_item st.1.1 st.1.2 (x := items[i]) (by simp [hi]) fun h' a b => ?_
    exact hQ _ h' s.toks (by simp [hi]) ⟨⟨a, st.1.2.extBut b.extBut hne⟩, h1, o, vs, b.extBut x1 o ne1 h2, h3, h4⟩ fun c o hc e => b.extBut c o (fun z => hc (by simp [z])) e
  done := fun s Q E st hQ => end_hot st.2 st.1.1 st.1.2 (by simp) fun h' e => hQ h' s.toks fun b o hb e' => e b o (fun z => hb (by simp [z])) e'
  self := fun _ _ _ _ st hQ => wpAny_pyIter_listiter st.1.1 hQ
theorem sum_hot {l x1 : Addr} {its : List Value} {ns : List Int} {Q : Value → Shared → Prop} (hot : HotX.HotAt A x1 s.heap) (hl : s.heap.IsList l its.toArray) (hi : IntsAre its ns)
    (h : ∀ h' tk t', (∀ b o, s.heap.get? b = some o → h'.get? b = some o) → Q (.int ns.sum t') { s with heap := h', toks := tk }) : wpAny (model prog w) A (call (.builtin "sum") [.ref l]) Q E s := by
  obtain ⟨xs, e⟩ := hi.allInts.items
  have hn : numsOf (intItems xs).toList = ns := e ▸ hi.numsOf
  rw [nums_intItems] at hn
  rw [e] at hl
  obtain ⟨hh, o, vs, g, d, c⟩ := hot
  refine call_sum_walkG (iter_intList hl fun s₂ es st hfp hlI => ?_)
  subst es
  refine ⟨_, _, _, _, _, _, numAt xs, rfl, walks_hot (A := A.in1) (x1 := x1) hh _ l hlI (intItems xs), ⟨st, hh, o, vs, Heap.get?_push_of_some _ g, d, c⟩, fun b hb => ?_, (fun _ _ => intItems_at), fun h' tk t' hk => ?_⟩
  · rcases List.mem_cons.mp hb with z | hb
    · exact hfp b (by simp [z])
    rcases List.mem_cons.mp hb with z | hb
    · exact hfp b (by simp [z])
    · have z : b = x1 := by simpa using hb
      rw [z]
      exact Heap.lt_size (Heap.get?_push_of_some _ g)
  · have q := h h' tk t' (old_kept hk)
    have en : (intItems xs).size = xs.size := by simp [intItems]
    rw [en, preSum_eq, List.take_of_length_le (by simp), hn]
    exact q
end
/-! ### in a context where an exception is handled -/
section
variable {X : Cx}
theorem cr_sumH (hc : L2H.HotC X) : CallR X (.builtin "sum") (rSum X.K) := by
  intro pins s σ H vs us Q I r h
  obtain ⟨a, ns, rfl, hs, q⟩ := h
  obtain ⟨its, rv, hl, _⟩ := I.list hs
  obtain ⟨x1, hot⟩ := hc.at I
  rw [Vals.ref1 r]
  exact sum_hot hot hl.isList rv.ints fun h' tk t' hk => ⟨V.int ns.sum, H, I.kept hk, ⟨t', rfl⟩, q⟩
theorem vals_bl : ∀ {bs : List Bool} {us : List Value}, Vals (bs.map V.bl) us → us = bs.map Value.bool
  | [], _, .nil => rfl
  | b :: bs, _, .cons r rr => by
    cases r
    rw [vals_bl rr]
    rfl
/-- sum([int(x) for x in y]), y a list of truths -/
def numB (bs : List Bool) : Int := (bs.map fun b => if b = true then (1 : Int) else 0).sum
theorem ints_of_pairs : ∀ {bs : List Bool} {ys : List Value}, Paired (fun (v u : Value) => ∃ (b : Bool) (t : Tok), v = .bool b ∧ u = .int (if b then 1 else 0) t) (bs.map Value.bool) ys → IntsAre ys (bs.map fun b => if b = true then (1 : Int) else 0)
  | [], _, .nil => .nil
  | b :: bs, _, .cons h t => by
    obtain ⟨b', u, e1, e2⟩ := h
    cases e1
    rw [e2]
    exact .cons _ _ (ints_of_pairs t)
theorem pe_sumH {i : Nat} {x y : Str} {px py pi px2 ps pos pos2 cpos : Pos} {scope : Scope} (hc : L2H.HotC X) (hk : scope.kind = .function) (hfr : ∀ z ∈ scope.names, z.2 ≠ .free) (hce : ∀ z ∈ scope.names, z.2 ≠ .cell) (hlo : ∀ z ∈ scope.names, z.2 = .local → scope.names.lookup z.1 = some .local) (hx : scope.names.lookup x = some .local) (hi : scope.names.lookup ("int" : Str) = some .globalImplicit)
    (hg : Gl X "sum") (hms : X.mg "sum" = none) (hm : X.mg "int" = none) (hN : X.N[i]? = some y) (hv : Vis X.env.scope y) (hd : (x == ("__debug__" : Str)) = false) (hd1 : (y == ("__debug__" : Str)) = false) (hd2 : (y == ("__classdict__" : Str)) = false) :
    PE X (.Call (.Name "sum" ps) [.ListComp (.Call (.Name "int" pi) [.Name x px2] [] cpos) [⟨.Name x px, .Name y py, [], 0⟩] scope pos] [] pos2)
      (fun σ H Q => ∃ (a : Addr) (bs : List Bool), σ[i]? = some (some (.ref a)) ∧ SqL X.K H a (bs.map V.bl) ∧ Q (.int (numB bs)) H) := by
  refine ⟨fun pins s σ H Q I h => ?_⟩
  obtain ⟨a, bs, hσ, hs, q⟩ := h
  refine wpAny_Call_Name_kw (ld_blt I hg hms boot_sum ?_)
  refine PyProof.Rows.callWith_builtin1 ?_ (by rfl) (by rfl)
  refine Calls.spliced_cons ?_
  refine wpAny_ListComp_walk (fun _ => true) (fun v u => ∃ (b : Bool) (t : Tok), v = .bool b ∧ u = .int (if b then 1 else 0) t) hfr hce hk hlo hx ?_
  refine thn ((pe_var (pos := py) (i := i) hN hv hd1 hd2).run pins s σ H (fun v H1 => v = .ref a ∧ H1 = H) I ⟨.ref a, hσ, rfl, rfl⟩) fun u s1 ⟨v, H1, I1, r1, ev, eH⟩ => ?_
  subst ev
  rw [eH] at I1
  obtain rfl : u = Value.ref a := r1
  obtain ⟨its, rv, hl, hz⟩ := I1.list hs
  obtain rfl := vals_bl rv
  have hl' := hl.isList
  obtain ⟨x1, hot⟩ := hc.at I1
  obtain ⟨hh, o, vs, g, d, c⟩ := hot
  have lta : a < s1.heap.objs.size := by obtain ⟨_, e, _⟩ := hl'; exact Heap.lt_size e
  refine wpAny_pyIter_list hl' ?_
  refine ⟨s1.heap.objs.size, _, _, _, _, _, rfl, walks_hot (x1 := x1) hh _ a (Nat.ne_of_lt lta) (bs.map Value.bool).toArray, ?_, ⟨⟨⟨_, Heap.get?_push_size _ rfl, rfl, rfl⟩, hl'.push _⟩, hh, o, vs, Heap.get?_push_of_some _ g, d, c⟩, fun b hb => ?_, ⟨fun C i v s3 m3 E' hP hns hmx hkp htk => ?_, fun C i v s3 m3 E' hP _ hns hmx hkp htk => ?_⟩, fun D h' tk ys us hD hlD hpD hlen hP hF hkp => ?_⟩
  · simpa using hz
  · rw [Heap.size_push]
    rcases List.mem_cons.mp hb with z | hb
    · rw [z]; exact Nat.lt_succ_self _
    rcases List.mem_cons.mp hb with z | hb
    · rw [z]; exact Nat.lt_succ_of_lt lta
    · have z : b = x1 := by simpa using hb
      rw [z]
      exact Nat.lt_succ_of_lt (Heap.lt_size g)
  · exact wpAny_pure ⟨rfl, s3.heap, s3.toks, rfl, fun _ _ e => e⟩
  · have ev : ∃ b, v = Value.bool b := by
      have hP : (bs.map Value.bool).toArray[i]? = some v := hP
      rw [List.getElem?_toArray, List.getElem?_map] at hP
      obtain ⟨b, _, e⟩ := Option.map_eq_some_iff.mp hP
      exact ⟨b, e.symm⟩
    obtain ⟨b, rfl⟩ := ev
    have kp : ∀ b o, s1.heap.get? b = some o → s3.heap.get? b = some o := fun b o e => hkp b o (by simpa using Nat.ne_of_lt (Heap.lt_size e)) (Heap.get?_push_of_some _ e)
    obtain ⟨mb, b1, b2⟩ := I1.mod.blt
    refine wpAny_Call_Name_kw (Calls.Name_function_global (env := compEnv scope C X.env) hk hi (Calls.loadGlobal_builtin (mg := X.mg) (mb := mb) (v := .type "int") ?_ hm ?_ ((b2 "int" (by decide)).trans (by decide +kernel)) ?_))
    · show s3.heap.Ns X.env.globals X.mg
      rw [I1.ok.glob]
      exact (I1.mod.glob.keeps I1.bk).keeps kp
    · show s3.heap.Ns X.env.builtins mb
      rw [I1.ok.blt]
      exact (b1.keeps I1.bk).keeps kp
    · refine PyProof.Rows.callWith_type1 ?_ (by rfl) (by rfl)
      refine Calls.spliced_cons (wpAny_Name (wpAny_loadName_local (env := compEnv scope C X.env) hk hx hns hmx ?_) hd)
      refine Calls.spliced_nil (call_int_bool ⟨⟨b, _, rfl, rfl⟩, s3.heap, s3.toks + 1, rfl, fun _ _ e => e⟩)
  · have kp : ∀ b o, s1.heap.get? b = some o → h'.get? b = some o := fun b o e => hkp b o (by simpa using Nat.ne_of_lt (Heap.lt_size e)) (Heap.get?_push_of_some _ e)
    refine Calls.spliced_nil ?_
    have eus : us = bs.map Value.bool := by
      refine List.ext_getElem? fun j => ?_
      cases hj : us[j]? with
      | some v =>
        have := hP j v hj
        rw [List.getElem?_toArray] at this
        exact this.symm
      | none =>
        have h1 : us.length ≤ j := List.getElem?_eq_none_iff.mp hj
        have h2 : us.length = (bs.map Value.bool).toArray.size := hlen
        rw [List.getElem?_eq_none (by simpa using (by rw [h2] at h1; simpa using h1))]
    subst eus
    have hF : Paired _ ((bs.map Value.bool).filter fun _ => true) ys.toList := hF
    rw [List.filter_eq_self.mpr fun _ _ => rfl] at hF
    have I2 : Inv X pins σ H { s1 with heap := h', toks := tk } := I1.kept kp
    obtain ⟨x1, hot⟩ := hc.at I2
    refine sum_hot (its := ys.toList) (ns := bs.map fun b => if b = true then (1 : Int) else 0) hot (by simpa using hlD) (ints_of_pairs hF) fun h2 tk2 t2 k2 => ⟨V.int (numB bs), H, I2.kept k2, ⟨t2, rfl⟩, q⟩
/-! ### isinstance of the handled exception -/
theorem call_isP {a D : Addr} {oe : Obj} (hp : (a, oe) ∈ X.pn) (C : ExcC X.K D) (hz : oe.cls = .ref D ∧ oe.dict = none) (hf : ∃ vs, oe.data = .fields vs) : CallR X (.builtin "isinstance") (rIsE X.K D a) := by
  intro pins s σ H xs us Q I r h
  obtain ⟨c, cv, b, rfl, hcv, e, q⟩ := h
  match us, r with
  | [u1, u2], .cons rx (.cons rt .nil) =>
    cases rx
    obtain rfl := hcv _ rt
    have hget := (I.pin (a, oe) (List.mem_append_left _ hp)).1
    have J : PySem.W.InstAt s.heap a oe D none := by
      obtain ⟨vs, hv⟩ := hf
      obtain ⟨oc, od, oda, osl⟩ := oe
      obtain ⟨h1, h2⟩ := hz
      dsimp only at h1 h2 hv
      subst h1 h2 hv
      exact ⟨hget, rfl, rfl, trivial⟩
    exact PySem.W.kia_one (PySem.W.handS_kitx_exc C.hg C.hk C.hs C.hd C.ha C.hn C.ht C.hm) I.kIn J e (fun z => nomatch z) fun tk => ⟨V.bl b, H, I.kept (t' := tk) fun _ _ z => z, rfl, q⟩
/-- the exception at a, of the class at D -/
structure ExcAt (X : Cx) (a D : Addr) : Prop where
  ex : ∃ oe : Obj, (a, oe) ∈ X.pn ∧ (oe.cls = .ref D ∧ oe.dict = none) ∧ ∃ vs, oe.data = .fields vs
  c : ExcC X.K D
def tIsE (a : Addr) (b : Bool) : TE := fun σ H Q => σ[0]? = some (some (.ref a)) ∧ Q (.bl b) H
theorem pe_isE {a D C : Addr} {b : Bool} {e x : Str} {p p2 p3 pos : Pos} (Ea : ExcAt X a D) (hm : X.mg x = some (.ref C)) (hk : PySem.W.kitOne X.K (.ref D) (.ref C) = some b) (hi : X.mg "isinstance" = none) (hgi : Gl X "isinstance" := by rfl) (hg : Gl X x := by rfl) (hN : X.N[0]? = some e := by rfl)
    (hv : Vis X.env.scope e := by first | exact Or.inl rfl | exact Or.inr (Or.inl rfl) | exact Or.inr (Or.inr rfl)) (hd : (e == ("__debug__" : Str)) = false := by decide) (hcd : (e == ("__classdict__" : Str)) = false := by decide) (hdx : (x == ("__debug__" : Str)) = false := by decide)
    (he : starEach [.Name e p2, .Name x p3] X.env = (false, eval (.Name e p2) X.env) :: starEach [.Name x p3] X.env := by rfl) (hpl : (backTo pos (starEach [.Name x p3] X.env)).any (·.1) = false := by rfl) :
    PE X (.Call (.Name "isinstance" p) [.Name e p2, .Name x p3] [] pos) (tIsE a b) := by
  obtain ⟨oe, h1, h2, h3⟩ := Ea.ex
  refine PE.imp (pe_callB (call_isP h1 Ea.c h2 h3) hgi hi (by decide +kernel) (pa_cons (pe_var (i := 0) hN hv hd hcd) (pa_cons (pe_glob hg hm (v := .ref C) rfl hdx) pa_nil)) (by decide) (by decide) he hpl) fun σ H Q ⟨hσ, q⟩ => ?_
  exact ⟨.ref a, hσ, .ref C, .ref C, b, rfl, fun u r => r, hk, q⟩
theorem pe_isV {a D : Addr} {b : Bool} {e x : Str} {T : String} {p p2 p3 pos : Pos} (Ea : ExcAt X a D) (hm : X.mg x = none) (hT : bootBuiltins x = some (.type T)) (hk : PySem.W.kitOne X.K (.ref D) (.type T) = some b) (hi : X.mg "isinstance" = none) (hgi : Gl X "isinstance" := by rfl) (hg : Gl X x := by rfl) (hN : X.N[0]? = some e := by rfl)
    (hv : Vis X.env.scope e := by first | exact Or.inl rfl | exact Or.inr (Or.inl rfl) | exact Or.inr (Or.inr rfl)) (hd : (e == ("__debug__" : Str)) = false := by decide) (hcd : (e == ("__classdict__" : Str)) = false := by decide) (hn : x ≠ "__name__" := by decide) (hdx : (x == ("__debug__" : Str)) = false := by decide)
    (he : starEach [.Name e p2, .Name x p3] X.env = (false, eval (.Name e p2) X.env) :: starEach [.Name x p3] X.env := by rfl) (hpl : (backTo pos (starEach [.Name x p3] X.env)).any (·.1) = false := by rfl) :
    PE X (.Call (.Name "isinstance" p) [.Name e p2, .Name x p3] [] pos) (tIsE a b) := by
  obtain ⟨oe, h1, h2, h3⟩ := Ea.ex
  refine PE.imp (pe_callB (call_isP h1 Ea.c h2 h3) hgi hi (by decide +kernel) (pa_cons (pe_var (i := 0) hN hv hd hcd) (pa_cons (pe_bltn hg hm hT (v := .ty T) rfl hn hdx) pa_nil)) (by decide) (by decide) he hpl) fun σ H Q ⟨hσ, q⟩ => ?_
  exact ⟨.ref a, hσ, .ty T, .type T, b, rfl, fun u r => r, hk, q⟩
end
/-! ### a def run once, while the exception p is handled -/
theorem run_hot {CX : CXT} {P : Program} {w : World} {K : PySem.W.Frag} {mg : Str → Option Value} {base : Heap} {k : Nat} {x : Str} {st : Stmt} {f : Addr} {fd : FuncData} {N ps : List Str} {A : Around} {outer : List Env} {s : Shared} {H : Hp} {us : List Value} {vs : List V} {Q : VK} {E : XK} {p : Addr × Obj} {t : TS}
    (Fn : Fun K x x st f fd) (S : FnScope N ps (defScope st)) (hr : L2H.RoomH (k + 1) A) (hpin : L2H.PinOk outer H s p) (e0 : Env0 P w K mg base A outer s H) (hb : BindsTo s fd ⟨us, []⟩ (ps.zip us)) (r : Vals vs us) (hl : vs.length = ps.length)
    (ht : ∀ cdv, PSs (L2H.cxH CX P w K mg base N x (defScope st) f cdv A outer s H E p) (defBody st) t) (hq : t { nx := fun _ H' => Q .non H', rt := Q } (L2.start N vs) H) :
    codeAny (model P w) A (.call (.ref f) ⟨us, []⟩) (CR CX outer P w H s Q E) s := by
  obtain ⟨oc, od, kV, doc, pm, an, cdv, ct, osl, rfl, lk, hcd⟩ := Fn.ex
  have KX : K.In s.heap := e0.mod.kin.keeps fun b o e => (e0.bs b o e).1
  have lim := e0.mod.nolimit.keeps fun b o e => (e0.bs b o e).1
  refine codeAny_call_function hr.depth (KX _ _ lk) rfl S.co S.gen rfl (PySem.W.codeRec_of KX hcd) (hb _ _ _ _ (wpAny_newFunctionEnv_cells S.kind (fun y hy => ?_) fun env he s1 xc => ?_))
  · rcases S.par y.1 (List.of_mem_zip (a := y.1) (b := y.2) hy).1 with q | q
    · exact .inl q
    · exact .inr ⟨q, PySem.W.cellsFrom_some _ _ _ (.inl q)⟩
  · subst he
    refine ⟨lim.keeps xc.toInCall.keep, codeAny_func (wpAny_mono ((ht cdv).run [] s1 _ H _ (L2H.inv_startH S hpin e0 hl r xc) hq) (fun fl s' hs => ?_) fun e s' hs => hs)⟩
    cases fl with
    | ret u =>
      obtain ⟨v, σ', H', J, rv, q⟩ := hs
      exact ⟨v, H', J.os, J.bare, J.base, J.hok, rv, q⟩
    | next =>
      obtain ⟨σ', H', J, q⟩ := hs
      exact ⟨V.non, H', J.os, J.bare, J.base, J.hok, rfl, q⟩
    | brk => exact (let ⟨_, _, _, q⟩ := hs; False.elim q)
    | cont => exact (let ⟨_, _, _, q⟩ := hs; False.elim q)
/-- x(e) in the suite, e the exception -/
theorem pe_hot {X : Cx} {CX : CXT} {k : Nat} {x e : Str} {st : Stmt} {f : Addr} {fd : FuncData} {N ps : List Str} {i : Nat} {p : Addr × Obj} {t : TS} {q q2 pos : Pos} (Fn : Fun X.K x x st f fd) (S : FnScope N ps (defScope st)) (hps : ps.length = 1) (hr : L2H.RoomH (k + 1) X.A) (hot : L2H.Hot1 X.A p) (hp : p ∈ X.pn) (hg : Gl X x) (hm : X.mg x = some (.ref f)) (hb : Binds X.K fd ps [])
    (ht : ∀ cdv outer s H E, PSs (L2H.cxH CX X.prog X.w X.K X.mg X.base N x (defScope st) f cdv X.A outer s H E p) (defBody st) t) (hx : ∀ σ, PassesAt CX X σ EF) (hN : X.N[i]? = some e) (hv : Vis X.env.scope e)
    (hd : (e == ("__debug__" : Str)) = false) (hcd : (e == ("__classdict__" : Str)) = false) (hdb : (x == ("__debug__" : Str)) = false) (he : starEach [.Name e q2] X.env = (false, eval (.Name e q2) X.env) :: starEach [] X.env := by rfl) (hpl : (backTo pos (starEach [] X.env)).any (·.1) = false := by rfl) :
    PE X (.Call (.Name x q) [.Name e q2] [] pos) (fun σ H Q => ∃ v, σ[i]? = some (some v) ∧ t { nx := fun _ H' => Q .non H', rt := Q } (L2.start N [v]) H) := by
  refine ⟨fun pins s σ H Q I h => ?_⟩
  refine wpAny_Call_Name_kw (ld_glob I hg hm ?_ hdb)
  refine PySem.W.callWith_K (h₀ := X.base) I.ok.mod.kin Fn.kp ?_ he hpl
  refine thn ((pa_cons (pe_var (i := i) (pos := q2) hN hv hd hcd) pa_nil).run pos pins s σ H (fun vs H1 => ∃ v, vs = [v] ∧ t { nx := fun _ H' => Q .non H', rt := Q } (L2.start N [v]) H1) I (by obtain ⟨v, h1, h2⟩ := h; exact ⟨v, h1, v, rfl, h2⟩)) fun us s1 ⟨vs, H1, I1, r, v, ev, q⟩ => ⟨I1.kIn, ?_⟩
  subst ev
  have hlu : us.length = ps.length := by rw [← r.length, hps]; rfl
  have b := hb s1 us I1.kIn (by rw [List.append_nil]; exact hlu)
  rw [List.append_nil] at b
  have P1 := I1.pin p (List.mem_append_left _ hp)
  have hpin : L2H.PinOk X.stack H1 s1 p := ⟨P1.1, P1.2.1, fun hm => (List.mem_cons.mp (I1.stkSub p.1 hm)).elim P1.2.2.1 P1.2.2.2.1, P1.2.2.2.2⟩
  refine wpAny_call (codeAny_mono (run_hot (E := EF) (t := t) Fn S hr hpin I1.env0 b r (by rw [hps]; rfl) (fun cdv => ht cdv X.stack s1 H1 EF) q) fun r s' hq => ?_)
  cases r with
  | error e => exact hx σ pins H1 s1 e s' I1 hq
  | ok fl =>
    cases fl with
    | ret u => exact I1.after hq
    | next => exact False.elim hq
    | brk => exact False.elim hq
    | cont => exact False.elim hq
/-! ### the law's _law_term -/
/-- what the ten classes are to one another -/
structure TermF (mg : Str → Option Value) (K : PySem.W.Frag) (cl : Nat → Addr) : Prop where
  g1 : mg "BadMoves" = some (.ref (cl 1))
  g2 : mg "BadStanding" = some (.ref (cl 2))
  g3 : mg "BadNumber" = some (.ref (cl 3))
  g4 : mg "BadRow" = some (.ref (cl 4))
  g5 : mg "BadWeights" = some (.ref (cl 5))
  g6 : mg "BadRound" = some (.ref (cl 6))
  g7 : mg "Endless" = some (.ref (cl 7))
  g8 : mg "Nothing" = some (.ref (cl 8))
  g9 : mg "Full" = some (.ref (cl 9))
  g10 : mg "BadText" = some (.ref (cl 10))
  bi : mg "isinstance" = none
  bs : mg "sum" = none
  bn : mg "int" = none
  bv : mg "ValueError" = none
/-- what one class must say so that its errors are told -/
structure TermC (K : PySem.W.Frag) (cl : Nat → Addr) (c : Nat) : Prop where
  lo : 1 ≤ c
  hi : c ≤ 10
  e : ExcC K (cl c)
  k : ∀ j, 1 ≤ j → j ≤ 10 → PySem.W.kitOne K (.ref (cl c)) (.ref (cl j)) = some (decide (j = c))
  v : PySem.W.kitOne K (.ref (cl c)) (.type "ValueError") = some true
theorem term_num {c : Nat} (h1 : 1 ≤ c) (h2 : c ≤ 10) : numB [decide (1 = c), decide (2 = c), decide (3 = c), decide (4 = c), decide (5 = c), decide (6 = c), decide (7 = c), decide (8 = c), decide (9 = c), decide (10 = c)] = 1 := by
  have : c = 1 ∨ c = 2 ∨ c = 3 ∨ c = 4 ∨ c = 5 ∨ c = 6 ∨ c = 7 ∨ c = 8 ∨ c = 9 ∨ c = 10 := by omega
  rcases this with rfl | rfl | rfl | rfl | rfl | rfl | rfl | rfl | rfl | rfl <;> rfl
theorem term_ix {c : Nat} (h1 : 1 ≤ c) (h2 : c ≤ 10) : ([V.bl (decide (1 = c)), V.bl (decide (2 = c)), V.bl (decide (3 = c)), V.bl (decide (4 = c))] ++ [V.bl (decide (5 = c)), V.bl (decide (6 = c))] ++ [V.bl (decide (7 = c)), V.bl (decide (8 = c)), V.bl (decide (9 = c)), V.bl (decide (10 = c))])[c - 1]? = some (V.bl true) ∧ (∀ (m : Nat) (z' : V), m < c - 1 → ([V.bl (decide (1 = c)), V.bl (decide (2 = c)), V.bl (decide (3 = c)), V.bl (decide (4 = c))] ++ [V.bl (decide (5 = c)), V.bl (decide (6 = c))] ++ [V.bl (decide (7 = c)), V.bl (decide (8 = c)), V.bl (decide (9 = c)), V.bl (decide (10 = c))])[m]? = some z' → eqV z' (V.bl true) = false) ∧
    L2.atI ([V.str "BadMoves", V.str "BadStanding", V.str "BadNumber", V.str "BadRow", V.str "BadWeights", V.str "BadRound"] ++ [V.str "Endless", V.str "Nothing", V.str "Full", V.str "BadText"]) ((c - 1 : Nat) : Int) = some (V.str (kindN c)) := by
  have : c = 1 ∨ c = 2 ∨ c = 3 ∨ c = 4 ∨ c = 5 ∨ c = 6 ∨ c = 7 ∨ c = 8 ∨ c = 9 ∨ c = 10 := by omega
  refine ⟨?_, ?_, ?_⟩
  · rcases this with rfl | rfl | rfl | rfl | rfl | rfl | rfl | rfl | rfl | rfl <;> rfl
  · intro m z' hm hz
    have hm' : m = 0 ∨ m = 1 ∨ m = 2 ∨ m = 3 ∨ m = 4 ∨ m = 5 ∨ m = 6 ∨ m = 7 ∨ m = 8 := by omega
    rcases hm' with rfl | rfl | rfl | rfl | rfl | rfl | rfl | rfl | rfl <;> (cases hz; show (decide _ == true) = false; rw [decide_eq_false (by omega)]; rfl)
  · rcases this with rfl | rfl | rfl | rfl | rfl | rfl | rfl | rfl | rfl | rfl <;> rfl
def tTerm (a : Addr) (c : Nat) : TS := fun D σ H => σ = [some (.ref a), none, none] ∧ ∀ p H', (∀ b o, H b = some o → H' b = some o) → H p = none → H' p = some (.tup [.str "refused", .str (kindN c)]) → D.rt (.ref p) H'
end Y
end
section
set_option Elab.async false
set_option Elab.async false
set_option linter.all false
set_option maxRecDepth 100000
set_option maxHeartbeats 2000000
/-! Tld: told(lambda: ..): what the lambda gives, or the kind of its refusal. -/
namespace Y
open PySem PySem.Spec PyProof.Rows L2
/-- the lambda's context: what it raises lies as L2N.CX says -/
abbrev lamX (X : Cx) (A : Around) (outer : List Env) (s : Shared) (H : Hp) (E : XK) (scope : Scope) (f c' : Addr) : Cx :=
  (LamX.lamCx X A outer s H E scope f c').tr [] (fun e s' => wpAny (model X.prog X.w) (A.deeper (LamX.lamEnv X scope s.heap.objs.size f c')) (leaving (LamX.lamEnv X scope s.heap.objs.size f c') e) (fun _ s'' => L2N.CX X.prog X.w outer H s E e s'') (fun e' s'' => L2N.CX X.prog X.w outer H s E e' s'') s')
theorem takesLam {X : Cx} {A : Around} {outer : List Env} {s : Shared} {H : Hp} {E : XK} {scope : Scope} {f c' : Addr} : L2N.Takes (lamX X A outer s H E scope f c') (fun cls d _ H => E cls d H) := L2N.takes_of rfl rfl rfl rfl
/-- all that told needs -/
structure ToldF (mg : Str → Option Value) (K : PySem.W.Frag) (cl : Nat → Addr) (cs : List Nat) (sT sM : Stmt) : Prop where
  t : ∃ (g : Addr) (fd : FuncData), Fun K "_law_told" "_law_told" sT g fd ∧ mg "_law_told" = some (.ref g) ∧ Binds K fd ["deed"] []
  m : ∃ (g : Addr) (fd : FuncData), Fun K "_law_term" "_law_term" sM g fd ∧ mg "_law_term" = some (.ref g) ∧ Binds K fd ["e"] []
  st : FnScope ["deed", "e"] ["deed"] (defScope sT)
  sm : FnScope ["e", "flags", "kinds"] ["e"] (defScope sM)
  le : (defScope sT).names.lookup ("e" : Str) = some .local
  ld : Vis (defScope sT) ("deed" : Str)
  gm : (defScope sT).names.lookup ("MoveError" : Str) = some .globalImplicit
  gt : (defScope sT).names.lookup ("_law_term" : Str) = some .globalImplicit
  bt : ∃ p1 p2 p3 p4 p5 p6 p7 p8 p9 p10 : Pos, defBody sT = [.Try [.Return (some (.Call (.Name "deed" p1) [] [] p2)) p3] [.ExceptHandler (some (.Name "MoveError" p4)) (some "e") [.Return (some (.Call (.Name "_law_term" p5) [.Name "e" p6] [] p7)) p8] p9] [] [] p10]
  bm : ∀ (P : Program) (w : World) (base : Heap) (f : Addr) (cdv : Value) (A : Around) (outer : List Env) (s : Shared) (H0 : Hp) (E : XK) (a : Addr) (oe : Obj) (c : Nat), c ∈ cs → L2H.Hot1 A (a, oe) → (oe.cls = .ref (cl c) ∧ oe.dict = none) → (∃ vs, oe.data = .fields vs) →
    PSs (L2H.cxH (L2N.CX P w) P w K mg base ["e", "flags", "kinds"] "_law_term" (defScope sM) f cdv A outer s H0 E (a, oe)) (defBody sM) (tTerm a c)
  ex : ∃ M : Addr, mg "MoveError" = some (.ref M) ∧ ∀ c ∈ cs, PySem.W.exmOne K (.ref (cl c)) (.ref M) = some true
section
variable {X : Cx}
/-- x(), x the lambda, in the def that got it -/
theorem pe_deed {pins : List (Addr × Obj)} {σ : L2.St} {H : Hp} {s : Shared} {CXg : CXT} {Eg : XK} {Ng : List Str} {qg : Str} {sg : Scope} {g f c' : Addr} {cdg pm ctv : Value} {params : Arguments} {body : Expr} {scope : Scope} {k i : Nat} {a : Str} {pn : List (Addr × Obj)} {xe : Value → Shared → Prop} {W : WX} {t : XK → TE} {p1 p2 : Pos}
    (I : Inv X pins σ H s) (L : LamX.LamS X.env.scope scope) (hf : s.heap.get? f = some (PySem.W.kla_obj "<lambda>" (X.env.qual ++ "<lambda>") params body scope (cloFrom X.env.cells scope.names []) pm c' ctv)) (hfn : H f = none) (hfr : f ∉ frs X.stack)
    (hbind : bindArgs (PySem.W.kla_fn "<lambda>" (X.env.qual ++ "<lambda>") params body scope (cloFrom X.env.cells scope.names []) pm (.ref c') ctv) ⟨[], []⟩ = pure [])
    (tk : L2N.Takes ((cxOf CXg X.prog X.w X.K X.mg X.base Ng qg sg g cdg X.A X.stack s H Eg).tr pn xe) W) (hr : Room (k + 1) (X.A.deeper (envOfC qg sg s.heap.objs.size g cdg)))
    (hbody : ∀ (A : Around) (outer : List Env) (s : Shared) (H : Hp) (E : XK), Room k (A.deeper (LamX.lamEnv X scope s.heap.objs.size f c')) → PE (lamX X A outer s H E scope f c') body (t E))
    (hN : Ng[i]? = some a) (hv : Vis sg a) (hd : (a == ("__debug__" : Str)) = false) (hcd : (a == ("__classdict__" : Str)) = false) :
    PE ((cxOf CXg X.prog X.w X.K X.mg X.base Ng qg sg g cdg X.A X.stack s H Eg).tr pn xe) (.Call (.Name a p1) [] [] p2)
      (fun σZ HZ Q => σZ[i]? = some (some (.ref f)) ∧ HZ c' = some (LamX.CodeO c' (X.env.qual ++ "<lambda>")) ∧ t (WE W σZ) σ HZ Q) := by
  refine ⟨fun pinsZ sZ σZ HZ Q IZ ⟨hs, hc, ht⟩ => ?_⟩
  refine wpAny_Call_Name_kw (thn ((pe_var (pos := p1) (i := i) hN hv hd hcd).run pinsZ sZ σZ HZ (fun v H1 => v = .ref f ∧ H1 = HZ) IZ ⟨.ref f, hs, rfl, rfl⟩) fun u s1 ⟨v, H1, I1, r1, ev, eH⟩ => ?_)
  subst ev
  rw [eH] at I1
  obtain rfl : u = Value.ref f := r1
  have un : Un (frs X.stack) [] H HZ s.heap s1.heap := I1.base
  have of1 := un.keep f _ hf hfn hfr (fun z => nomatch (show f ∈ ([] : List Addr) from z))
  obtain ⟨⟨oc, vs, tq, hoc, hdc, hvc⟩, _, _⟩ := I1.hok c' _ hc
  refine PySem.W.callWith_F0 ⟨_, _, _, _, of1⟩ (wpAny_call (codeAny_mono (R := CR (L2N.CX X.prog X.w) (envOfC qg sg s.heap.objs.size g cdg :: X.stack) X.prog X.w HZ s1 Q (WE W σZ)) ?_ fun r s' hq => ?_))
  · refine PySem.W.kla_callFunE hr.depth of1 rfl L.co L.gen rfl ⟨c', oc, vs, tq, rfl, hoc, hdc, hvc⟩ ?_
    rw [show ({ pos := [] ++ [] } : Args) = ⟨[], []⟩ from rfl, hbind]
    refine wpAny_pure (wpAny_newFunctionEnv (fun y hy => (L.own y hy).2) (fun y hy => absurd hy (by simp)) (fun h₁ hns hsb => ⟨I1.nolimit.fresh _ hsb, ?_⟩) L.kind)
    have kp : ∀ b o, s1.heap.get? b = some o → h₁.get? b = some o := fun b o e => hsb.extBut b o (Nat.ne_of_lt (Heap.lt_size e)) (Heap.get?_push_of_some _ e)
    have J := LamX.lam_start2 (E := WE W σZ) (f := f) (c' := c') (tk := s1.toks + ([] : List (Str × Value)).length) I L I1.env0 hr.hd un hns kp
    refine PySem.W.kla_codeExpr (wpAny_mono ((hbody _ _ s1 HZ (WE W σZ) (hr.deeper _)).run [] _ _ HZ Q (J.toTry _) ht) (fun v s' hq => ?_) fun e s' hq => hq)
    obtain ⟨w', H', J', rv, q⟩ := hq
    exact ⟨w', H', J'.os, J'.bare, J'.base, J'.hok, rv, q⟩
  · cases r with
    | error e => exact L2N.passAt tk σZ pinsZ HZ s1 e s' I1 hq
    | ok fl =>
      cases fl with
      | ret u => exact I1.after hq
      | next => exact False.elim hq
      | brk => exact False.elim hq
      | cont => exact False.elim hq
variable {G : Glo} {E : XK}
theorem Rep.extN {S F : Hp} {ρ : List Addr} {H H1 : Hp} {st : Store} (r : Rep G S F ρ H st) (e : LamX.ExtN H H1) (t : LamX.Tabs G.T H1) : Rep G S F ρ H1 st where
  sd := fun a o h => by
    obtain ⟨h1, h2, h3, h4⟩ := r.sd a o h
    refine ⟨e a o h1 (fun ps z => ?_), h2, h3, h4⟩
    obtain ⟨xs, h4⟩ := h4
    rw [h4] at z
    cases z
  ex := fun a o h => e a o (r.ex a o h) fun ps z => r.nt a ps (z ▸ h)
  nt := r.nt
  len := r.len
  nd := r.nd
  own := fun k ob h => by
    obtain ⟨a, ho, h1, h2, h3, h4⟩ := r.own k ob h
    refine ⟨a, ho, h1, h2, e a ho h3 fun ps z => ?_, h4⟩
    cases ob with
    | lst xs => obtain ⟨vs, e1, _⟩ := h4; rw [e1] at z; cases z
    | ins C fs => obtain ⟨dx, fv, e1, _⟩ := h4; rw [e1] at z; cases z
    | gone => obtain ⟨vs, e1⟩ := h4; rw [e1] at z; cases z
    | tup xs => obtain ⟨vs, e1, _⟩ := h4; rw [e1] at z; cases z
    | dct xs => obtain ⟨vs, e1, _⟩ := h4; rw [e1] at z; cases z
    | dcf xs => obtain ⟨od, vs, e1, _⟩ := h4; rw [e1] at z; cases z
  tab := t
/-- one more tuple of texts -/
theorem Rep.term {S F : Hp} {ρ : List Addr} {H H' : Hp} {st : Store} {p : Addr} {x y : Str} (r : Rep G S F ρ H st) (e : ∀ b o, H b = some o → H' b = some o) (hn : H p = none) (hp : H' p = some (.tup [.str x, .str y])) :
    ∃ F', Gr F ρ F' ρ ∧ Rep G S F' ρ H' st ∧ VR G F' ρ (.ref p) (.d (.tuple [.str x, .str y])) := by
  obtain ⟨r1, g1⟩ := r.new (o := .tup [.str x, .str y]) hn (fun ps z => by cases z)
  have en : ∀ b o, upd H p (.tup [.str x, .str y]) b = some o → H' b = some o := fun b o h => by
    by_cases hb : b = p
    · subst hb
      rw [upd_same] at h
      cases h
      exact hp
    · rw [upd_ne hb] at h
      exact e b o h
  exact ⟨_, g1, r1.extN (LamX.ExtN.of en) (r1.tab.ext en), .tup upd_same (.cons (.str x) (.cons (.str y) .nil))⟩
theorem takesN {X : Cx} : L2N.Takes X (fun _ _ _ _ => False) := fun _ _ x => by
  obtain ⟨_, _, _, _, _, _, _, _, _, _, _, _, _, _, _, _, z⟩ := x
  exact z.elim
/-- told(lambda: body) -/
theorem qe_told {cs : List Nat} {sT sM : Stmt} {c P : Addr} {k : Nat} {params : Arguments} {body : Expr} {scope : Scope} {fb : Y.E} {p lpos pos : Pos} (TF : ToldF X.mg X.K G.cl cs sT sM) (hg : Gl X "_law_told")
    (TB : LamX.TabB X.base X.mg c P) (hcode : X.env.code = .ref c) (hmT : (P, X.env.qual ++ "<lambda>") ∈ G.T) (hu : ∀ p ∈ G.T, p.1 = P → p.2 = X.env.qual ++ "<lambda>") (hr : Room (k + 3) X.A) (L : LamX.LamS X.env.scope scope) (hdef : defaultsOf params X.env = ([], []))
    (hbind : ∀ (q : Str) (cl : List (Str × Addr)) (pm cv ctv : Value), bindArgs (PySem.W.kla_fn "<lambda>" q params body scope cl pm cv ctv) ⟨[], []⟩ = pure [])
    (hbody : ∀ (A : Around) (outer : List Env) (s : Shared) (H : Hp) (E : XK) (f c' : Addr), Room k (A.deeper (LamX.lamEnv X scope s.heap.objs.size f c')) → PE (lamX X A outer s H E scope f c') body (lE G E fb)) :
    PE X (.Call (.Name "_law_told" p) [.Lambda params body scope lpos] [] pos) (lE G E (eTold cs fb)) := by
  refine ⟨fun pins s σ H Q I h => ?_⟩
  obtain ⟨S, F, ρ, loc, st, rp, l, o⟩ := h
  obtain ⟨g, fdT, FT, mT, bT⟩ := TF.t
  obtain ⟨f2, fdM, FM, mM, bM⟩ := TF.m
  obtain ⟨M, gM, exM⟩ := TF.ex
  obtain ⟨p1, p2, p3, p4, p5, p6, p7, p8, p9, p10, hbd⟩ := TF.bt
  refine wpAny_Call_Name_kw (ld_glob I hg mT ?_ (by decide))
  refine PySem.W.callWith_K (h₀ := X.base) I.ok.mod.kin FT.kp ?_ (by rfl) (by rfl)
  refine Calls.spliced_cons (LamX.lam_make2 I TB hcode hmT hu rp.tab hdef (L.has I.ok) fun f c' pm' ctv H1 s' I1 eN T1 hf hfn hfr hco => ?_)
  refine Calls.spliced_nil ⟨I1.kIn, ?_⟩
  have rp1 := rp.extN eN T1
  obtain ⟨oc, od, kV, doc, pm, an, cdv, ct, osl, rfl, lk, hcd⟩ := FT.ex
  have rc : codeAny (model X.prog X.w) X.A (.call (.ref g) ⟨[.ref f], []⟩) (CR (L2N.CX X.prog X.w) X.stack X.prog X.w H1 s' Q EF) s' := by
    refine LamX.run_ofS (k := k + 2) (N := ["deed", "e"]) (ps := ["deed"]) (us := [.ref f]) (vs := [.ref f]) lk hcd TF.st hr I1.env0 (bT s' [.ref f] I1.kIn rfl) (.cons rfl .nil) rfl fun hr' => ?_
    rw [hbd]
    refine ⟨_, pss_one (L2N.ps_try_as (X := cxOf (L2N.CX X.prog X.w) X.prog X.w X.K X.mg X.base ["deed", "e"] "_law_told" (defScope sT) g cdv X.A X.stack s' H1 EF) (i := 1) (c := .ref M)
      (tb := fun W D σZ HZ => σZ[0]? = some (some (.ref f)) ∧ HZ c' = some (LamX.CodeO c' (X.env.qual ++ "<lambda>")) ∧ lE G (WE W σZ) fb σ HZ D.rt)
      (ts := fun a cls d D σZ HZ => ∃ c ∈ cs, cls = .ref (G.cl c) ∧ d = none ∧ σZ[1]? = some (some (.ref a)) ∧ ∀ p H', (∀ b o, HZ b = some o → H' b = some o) → HZ p = none → H' p = some (.tup [.str "refused", .str (kindN c)]) → D.rt (.ref p) H')
      (Wout := fun _ _ _ _ => False) rfl rfl TF.st.nd rfl TF.le ⟨TF.gm, by decide, .inl gM⟩ takesN (fun W pn xe tk _ => ?_) (fun a oe cls d pn hz hf => ?_)), ?_⟩
    · exact pss_one (ps_ret (pe_deed (i := 0) (k := k) (t := fun E => lE G E fb) I1 L hf hfn hfr (hbind _ _ _ _ _) tk (hr'.mono (by omega)) (fun A outer s H E hr2 => hbody A outer s H E f c' hr2) rfl TF.ld (by decide) (by decide)))
    · refine ⟨fun pinsZ sZ σZ HZ DZ IZ hZ => ?_⟩
      obtain ⟨c, hc, rfl, rfl, h1, hq⟩ := hZ
      have hot : L2H.Hot1 ((cxOf (L2N.CX X.prog X.w) X.prog X.w X.K X.mg X.base ["deed", "e"] "_law_told" (defScope sT) g cdv X.A X.stack s' H1 EF).suite a ((a, oe) :: pn)).A (a, oe) := by
        obtain ⟨vs, hv⟩ := hf
        exact ⟨rfl, vs, hv, hz.2.2 vs hv⟩
      have pt := pss_one (ps_ret (pos := p8) (pe_hot (X := (cxOf (L2N.CX X.prog X.w) X.prog X.w X.K X.mg X.base ["deed", "e"] "_law_told" (defScope sT) g cdv X.A X.stack s' H1 EF).suite a ((a, oe) :: pn)) (CX := L2N.CX X.prog X.w) (k := 0) (t := tTerm a c) (i := 1) (q := p5) (q2 := p6) (pos := p7) FM TF.sm rfl ⟨(hr'.mono (show 1 ≤ k + 2 by omega)).dp, (hr'.mono (show 1 ≤ k + 2 by omega)).un⟩ hot List.mem_cons_self TF.gt mM bM
        (fun cdv outer s H E => TF.bm X.prog X.w X.base f2 cdv _ outer s H E a oe c hc hot ⟨hz.1, hz.2.1⟩ hf) pasF rfl (.inl TF.le) (by decide) (by decide) (by decide)))
      exact pt.run pinsZ sZ σZ HZ DZ IZ ⟨.ref a, h1, rfl, hq⟩
    · refine ⟨rfl, hco, S, F, ρ, loc, st, rp1, l, ?_⟩
      unfold eTold at o
      cases e : fb loc st with
      | ok v st' => rw [e] at o; exact o
      | bad => rw [e] at o; exact o
      | ex c st' =>
        rw [e] at o
        dsimp only at o
        split at o
        · rename_i hc
          intro F' ρ' H' gr rr
          refine ⟨true, exM c hc, fun _ a na => ⟨c, hc, rfl, rfl, rfl, fun p H'' ext hn hp => ?_⟩, fun z => nomatch z⟩
          obtain ⟨F'', g'', r'', v''⟩ := rr.term ext hn hp
          exact o F'' ρ' H'' (.ref p) (gr.trans g'') r'' v''
        · exact o.elim
  refine wpAny_call (codeAny_mono rc fun r s2 hq => ?_)
  cases r with
  | error e => exact (pasF (X := X) σ pins H1 s' e s2 I1 hq)
  | ok fl =>
    cases fl with
    | ret u => exact I1.after hq
    | next => exact False.elim hq
    | brk => exact False.elim hq
    | cont => exact False.elim hq
end
theorem spL_trueT {K : PySem.W.Frag} {sem : List Val → M Val} {H : Hp} {a P : Addr} {q : Str} {ns : List Int} (hT : H P = some (.tbl #[])) (hS : SqL K H a (ns.map V.int)) (ht : ∃ st, sem [.s ns] [] = .ok (.d (.bool true)) st) : spL K [(P, q)] sem [.ref a] H (fun v _ => v = .bl true) fun _ _ _ => False := by
  intro cl ic
  obtain ⟨st, e⟩ := ht
  let F : Hp := fun b => match H b with
    | some (.tbl _) => none
    | o => o
  have fH : ∀ b o, F b = some o → H b = some o := fun b o h => by
    have h : (match H b with | some (.tbl _) => none | o => o) = some o := h
    split at h
    · cases h
    · exact h
  have nF : ∀ b ps, F b ≠ some (.tbl ps) := fun b ps h => by
    have h : (match H b with | some (.tbl _) => none | o => o) = some (.tbl ps) := h
    split at h
    · cases h
    · rename_i hn; exact hn ps h
  have gF : ∀ b o, H b = some o → (∀ ps, o ≠ .tbl ps) → F b = some o := fun b o h hn => by
    show (match H b with | some (.tbl _) => none | o => o) = some o
    rw [h]
    split
    · rename_i ps hz; cases hz; exact absurd rfl (hn ps)
    · rfl
  have hS' : SqL K F a (ns.map V.int) := by
    rcases hS with (h | ⟨o, h⟩) | h
    · exact .inl (.inl (gF _ _ h fun ps z => by cases z))
    · exact .inl (.inr ⟨o, gF _ _ h fun ps z => by cases z⟩)
    · exact .inr h
  refine ⟨fun _ => none, F, [], [], [.s ns], ⟨(fun a o h => by cases h), fH, nF, rfl, List.nodup_nil, (fun k ob h => by simp at h), fun p hp => ?_⟩, .cons ⟨a, rfl, hS'⟩ .nil, rfl, ?_⟩
  · have hp : p = (P, q) := by simpa using hp
    rw [hp]
    exact LamX.TabS.nil hT
  · rw [e]
    intro F1 ρ1 u H1 g r v
    cases v
    rfl
end Y
end
section
set_option Elab.async false
set_option linter.all false
/-! Sx: more words of the plain reading. -/
namespace Y
open PySem (PyData Str)
/-- x is True, x is False -/
def bIsB (b : Bool) : Val → M Val
  | .d (.bool c) => ret (vB (c == b))
  | _ => die
def bNotB (b : Bool) : Val → M Val
  | .d (.bool c) => ret (vB (!(c == b)))
  | _ => die
def bInt1 : List Val → M Val
  | [.d (.bool b)] => ret (vI (if b then 1 else 0))
  | [.d (.int i)] => ret (vI i)
  | _ => die
/-- a list or a tuple of whole numbers -/
def seqI : Val → M (List Int)
  | .d (.list ds) => oget (toIs ds)
  | .d (.tuple ds) => oget (toIs ds)
  | _ => die
def bSumS : List Val → M Val
  | [v] => bd (seqI v) fun ns => ret (vI ns.sum)
  | _ => die
def minI : List Int → Option Int
  | [] => none
  | x :: r => some (r.foldl min x)
def bMinS : List Val → M Val
  | [v] => bd (seqI v) fun ns => bd (oget (minI ns)) fun m => ret (vI m)
  | _ => die
/-- an own list + a list -/
def bAddO : Val → Val → M Val
  | .o k, .d (.list ys) => fun st => match st[k]? with
    | some (.lst xs) => (match toDs xs with
      | some ds => if ds.length + ys.length ≤ lim then .ok (.d (.list (ds ++ ys))) st else .bad
      | none => .bad)
    | _ => .bad
  | a, b => bAdd a b
/-- enumerate of a list or a tuple -/
def kEnumS : List Val → M (List Val)
  | [.d (.list ds)] => ret (enumF 0 ds)
  | [.d (.tuple ds)] => ret (enumF 0 ds)
  | _ => die
/-- an own list becomes data: nobody changes it from now on -/
def bFrz : Val → M Val
  | .o k => fun st => match st[k]? with
    | some (.lst xs) => (match toDs xs with
      | some ds => if ds.length ≤ lim then .ok (.d (.list ds)) (st.set k .gone) else .bad
      | none => .bad)
    | _ => .bad
  | .d x => ret (.d x)
  | _ => die
theorem minI_spec : ∀ (r : List Int) (x : Int), r.foldl min x ∈ x :: r ∧ ∀ y ∈ x :: r, r.foldl min x ≤ y
  | [], x => by simp
  | y :: r, x => by
    obtain ⟨h1, h2⟩ := minI_spec r (min x y)
    refine ⟨?_, fun z hz => ?_⟩
    · show r.foldl min (min x y) ∈ _
      rcases List.mem_cons.mp h1 with e | e
      · rw [e]
        rcases Int.le_total x y with h | h
        · rw [Int.min_eq_left h]; simp
        · rw [Int.min_eq_right h]; simp
      · simp [e]
    · show r.foldl min (min x y) ≤ z
      have h0 := h2 (min x y) (by simp)
      rcases List.mem_cons.mp hz with e | hz
      · omega
      rcases List.mem_cons.mp hz with e | hz
      · omega
      · exact h2 z (by simp [hz])
end Y
end
section
set_option Elab.async false
set_option Elab.async false
set_option linter.all false
set_option maxRecDepth 100000
set_option maxHeartbeats 2000000
/-! Opx: rules for these words. -/
namespace Y
open PySem PySem.Spec PyProof.Rows L2
section
variable {X : Cx} {G : Glo}
theorem dt_bool {F : Hp} {u : V} {i : Bool} (h : Dt F u (.bool i)) : u = .bl i := by
  cases h with
  | bl _ => rfl
def rIsBl (k : Bool) : R2 := fun x y H Q => ∃ a b, x = .bl a ∧ y = .bl b ∧ Q (.bl (if k = true then !decide (a = b) else decide (a = b))) H
theorem qe_isB {E : XK} {a : Expr} {f : Y.E} {b : Bool} {j : Nat} {pos pos' : Pos} (h : PE X a (lE G E f)) (hm : behindInMarks .Is (.Constant (.bool b) j pos') = false := by rfl) : PE X (.Compare a [.Is] [.Constant (.bool b) j pos'] pos) (lE G E (eU (bIsB b) f)) := by
  refine PE.imp (pe_cmpR op_is_bl h pe_bl hm) fun σ H Q ⟨S, F, ρ, loc, st, rp, l, o⟩ => ⟨S, F, ρ, loc, st, rp, l, out.imp (fun x H1 h1 => ?_) (out.bd (Rl := VR G) o)⟩
  obtain ⟨F1, ρ1, a, st1, g1, r1, v1, o1⟩ := h1
  unfold bIsB at o1
  split at o1
  · rename_i c
    refine ⟨c, b, dt_bool v1, rfl, ?_⟩
    have e : decide (c = b) = (c == b) := by cases c <;> cases b <;> rfl
    rw [e]
    exact out.at (v := vB (c == b)) o1 r1 (.bl _)
  · exact o1.elim
theorem qe_notB {E : XK} {a : Expr} {f : Y.E} {b : Bool} {j : Nat} {pos pos' : Pos} (h : PE X a (lE G E f)) (hm : behindInMarks .IsNot (.Constant (.bool b) j pos') = false := by rfl) : PE X (.Compare a [.IsNot] [.Constant (.bool b) j pos'] pos) (lE G E (eU (bNotB b) f)) := by
  refine PE.imp (pe_cmpR op_isnot_bl h pe_bl hm) fun σ H Q ⟨S, F, ρ, loc, st, rp, l, o⟩ => ⟨S, F, ρ, loc, st, rp, l, out.imp (fun x H1 h1 => ?_) (out.bd (Rl := VR G) o)⟩
  obtain ⟨F1, ρ1, a, st1, g1, r1, v1, o1⟩ := h1
  unfold bNotB at o1
  split at o1
  · rename_i c
    refine ⟨c, b, dt_bool v1, rfl, ?_⟩
    have e : decide (c = b) = (c == b) := by cases c <;> cases b <;> rfl
    rw [e]
    exact out.at (v := vB (!(c == b))) o1 r1 (.bl _)
  · exact o1.elim
theorem qt_isB {E : XK} {a : Expr} {f : Y.E} {b : Bool} {j : Nat} {pos pos' : Pos} (h : PE X a (lE G E f)) (hm : behindInMarks .Is (.Constant (.bool b) j pos') = false := by rfl) : PT X (.Compare a [.Is] [.Constant (.bool b) j pos'] pos) (lT G E (tV (eU (bIsB b) f))) := by
  refine PT.imp (pt_cmpR op_is_bl h pe_bl hm) fun σ H Q ⟨S, F, ρ, loc, st, rp, l, o⟩ => ⟨S, F, ρ, loc, st, rp, l, ?_⟩
  have e : tV (eU (bIsB b) f) loc st = bd (f loc) (fun a => bd (bIsB b a) asB) st := by
    unfold tV eU bd
    cases f loc st <;> rfl
  rw [e] at o
  refine out.imp (fun x H1 h1 => ?_) (out.bd (Rl := VR G) o)
  obtain ⟨F1, ρ1, a, st1, g1, r1, v1, o1⟩ := h1
  cases a with
  | o k => exact o1.elim
  | s ns => exact o1.elim
  | d y =>
    cases y with
    | bool c =>
      refine ⟨c, b, dt_bool v1, rfl, _, rfl, ?_⟩
      have e : decide (c = b) = (c == b) := by cases c <;> cases b <;> rfl
      rw [e]
      exact out.at (v := (c == b)) o1 r1 rfl
    | _ => exact o1.elim
theorem qt_notB {E : XK} {a : Expr} {f : Y.E} {b : Bool} {j : Nat} {pos pos' : Pos} (h : PE X a (lE G E f)) (hm : behindInMarks .IsNot (.Constant (.bool b) j pos') = false := by rfl) : PT X (.Compare a [.IsNot] [.Constant (.bool b) j pos'] pos) (lT G E (tV (eU (bNotB b) f))) := by
  refine PT.imp (pt_cmpR op_isnot_bl h pe_bl hm) fun σ H Q ⟨S, F, ρ, loc, st, rp, l, o⟩ => ⟨S, F, ρ, loc, st, rp, l, ?_⟩
  have e : tV (eU (bNotB b) f) loc st = bd (f loc) (fun a => bd (bNotB b a) asB) st := by
    unfold tV eU bd
    cases f loc st <;> rfl
  rw [e] at o
  refine out.imp (fun x H1 h1 => ?_) (out.bd (Rl := VR G) o)
  obtain ⟨F1, ρ1, a, st1, g1, r1, v1, o1⟩ := h1
  cases a with
  | o k => exact o1.elim
  | s ns => exact o1.elim
  | d y =>
    cases y with
    | bool c =>
      refine ⟨c, b, dt_bool v1, rfl, _, rfl, ?_⟩
      have e : decide (c = b) = (c == b) := by cases c <;> cases b <;> rfl
      rw [e]
      exact out.at (v := (!(c == b))) o1 r1 rfl
    | _ => exact o1.elim
theorem bInt1_snd : BSnd G (fun xs H Q => (∃ i, xs = [.int i] ∧ Q (.int i) H) ∨ ∃ k, xs = [.bl k] ∧ Q (.int (if k then 1 else 0)) H) bInt1 := by
  intro S F ρ H st xs as Q E rp hx o
  unfold bInt1 at o
  split at o
  · rename_i b
    cases hx with
    | cons h hr =>
      cases hr
      rw [dt_bool h]
      exact .inr ⟨b, rfl, out.at (v := vI (if b then 1 else 0)) o rp (.int _)⟩
  · rename_i i
    cases hx with
    | cons h hr =>
      cases hr
      rw [dt_int h]
      exact .inl ⟨i, rfl, out.at (v := vI i) o rp (.int _)⟩
  · exact o.elim
theorem isTup_of {h : Heap} {a : Addr} {its : Array Value} (x : IsTup h a its) : h.IsTuple a its := by
  obtain ⟨o, h1, h2, n, h3⟩ := x
  exact ⟨o, h1, h2, n, h3⟩
/-! ### sums, least ones, of lists and tuples -/
def rSumS (K : PySem.W.Frag) : List V → Hp → VK → Prop := fun vs H Q => ∃ (a : Addr) (ns : List Int), vs = [V.ref a] ∧ (SqL K H a (ns.map V.int) ∨ SqT K H a (ns.map V.int)) ∧ Q (.int ns.sum) H
theorem cr_sumS (hc : X.calm = true) : CallR X (.builtin "sum") (rSumS X.K) := by
  intro pins s σ H vs us Q I r h
  obtain ⟨a, ns, rfl, hs | hs, q⟩ := h
  · exact cr_sum hc pins s σ H _ us Q I r ⟨a, ns, rfl, hs, q⟩
  · obtain ⟨its, rv, hl, _⟩ := I.tuple hs
    rw [Vals.ref1 r]
    obtain ⟨xs, e⟩ := rv.ints.allInts.items
    have hn : numsOf (intItems xs).toList = ns := e ▸ rv.ints.numsOf
    rw [nums_intItems] at hn
    rw [e] at hl
    refine PySem.W.ktm_sumG (I.ok.hd hc) (isTup_of hl) fun h' tk t' hk => ⟨.int ns.sum, H, I.kept hk, ⟨t', ?_⟩, q⟩
    rw [preSum_eq, List.take_of_length_le (by simp), hn]
def rMinS (K : PySem.W.Frag) : List V → Hp → VK → Prop := fun vs H Q => ∃ (a : Addr) (ns : List Int), vs = [V.ref a] ∧ (SqL K H a (ns.map V.int) ∨ SqT K H a (ns.map V.int)) ∧ 0 < ns.length ∧ ∀ m, m ∈ ns → (∀ y, y ∈ ns → m ≤ y) → Q (.int m) H
theorem min_tup {prog : Program} {w : World} {A : Around} {E : Value → Shared → Prop} {s : Shared} {t : Addr} {xs : Array (Int × Tok)} {Q : Value → Shared → Prop} (hh : A.handled = none) (ht : s.heap.IsTuple t (intItems xs)) (hne : 0 < xs.size)
    (h : ∀ v h' tk, (intItems xs)[argBest (fun i j => decide (numAt xs i < numAt xs j)) (xs.size - 1)]? = some v → (∀ b o, s.heap.get? b = some o → h'.get? b = some o) → Q v { s with heap := h', toks := tk }) :
    wpAny (model prog w) A (call (.builtin "min") [.ref t]) Q E s := by
  obtain ⟨o, ho, hc, n, hd⟩ := id ht
  have hnt : t ≠ s.heap.objs.size := Nat.ne_of_lt (Heap.lt_size ho)
  refine call_min_walk (wpAny_pyIter_tuple ht ?_)
  refine ⟨s.heap.objs.size, _, _, _, _, _, _, rfl, Walks.tuple (A := A.in1) hh _ t hnt (intItems xs), ⟨⟨_, Heap.get?_push_size _ rfl, rfl, rfl⟩, ht.at fun o e => Heap.get?_push_of_some _ e⟩, fun b hb => ?_, by simpa [intItems] using hne, CmpOf.ints_lt (numAt xs) (fun _ _ => intItems_at), fun v h' tk hP hk => ?_⟩
  · rcases List.mem_cons.mp hb with z | hb
    · rw [z]; exact Heap.lt_size (Heap.get?_push_size _ rfl)
    · have z : b = t := by simpa using hb
      rw [z]; exact Heap.lt_size (Heap.get?_push_of_some _ ho)
  · refine h v h' tk (by simpa [intItems] using hP) fun b o e => hk b o (fun hm => ?_) (Heap.get?_push_of_some _ e)
    have z : b = s.heap.objs.size := by simpa using hm
    exact absurd (z ▸ Heap.lt_size e) (Nat.lt_irrefl _)
theorem cr_minS (hc : X.calm = true) : CallR X (.builtin "min") (rMinS X.K) := by
  intro pins s σ H vs us Q I r h
  obtain ⟨a, ns, rfl, hs | hs, hne, q⟩ := h
  · exact cr_min hc pins s σ H _ us Q I r ⟨a, ns, rfl, hs, hne, q⟩
  · obtain ⟨its, rv, hl, _⟩ := I.tuple hs
    rw [Vals.ref1 r]
    obtain ⟨xs, e⟩ := rv.ints.allInts.items
    have hn : numsOf (intItems xs).toList = ns := e ▸ rv.ints.numsOf
    rw [nums_intItems] at hn
    rw [e] at hl
    subst hn
    have hsz : 0 < xs.size := by simpa using hne
    refine min_tup (I.ok.hd hc) (isTup_of hl) hsz fun v h' tk hv hk => ?_
    obtain ⟨t, rfl⟩ := intItems_at hv
    obtain ⟨h1, h2⟩ := argBest_lt (numAt xs) (xs.size - 1)
    refine ⟨V.int _, H, I.kept hk, ⟨t, rfl⟩, q _ ?_ fun y hy => ?_⟩
    · rw [numAt_eq]; exact PySem.getD_mem (by rw [List.length_map, Array.length_toList]; omega)
    · obtain ⟨j, hj, rfl⟩ := mem_getD hy
      rw [List.length_map, Array.length_toList] at hj
      rw [← numAt_eq]; exact h2 j (by omega)
theorem seqI_rel {S F : Hp} {ρ : List Addr} {H : Hp} {st s' : Store} {x : V} {a : Val} {ns : List Int} (rp : Rep G S F ρ H st) (h : VR G F ρ x a) (e : seqI a st = .ok ns s') : s' = st ∧ ∃ p, x = .ref p ∧ (SqL G.K H p (ns.map V.int) ∨ SqT G.K H p (ns.map V.int)) := by
  unfold seqI at e
  split at e
  · rename_i ds
    obtain ⟨p, us, rfl, ha, hu⟩ := dt_list h
    cases q : toIs ds with
    | none => rw [q] at e; cases e
    | some bs =>
      rw [q] at e
      have e' : R.ok bs st = R.ok ns s' := e
      cases e'
      have z := toIs_rel hu q
      subst z
      exact ⟨rfl, p, rfl, .inl (SqL.of (rp.ex _ _ ha))⟩
  · rename_i ds
    obtain ⟨p, us, rfl, ha, hu⟩ := dt_tup h
    cases q : toIs ds with
    | none => rw [q] at e; cases e
    | some bs =>
      rw [q] at e
      have e' : R.ok bs st = R.ok ns s' := e
      cases e'
      have z := toIs_rel hu q
      subst z
      exact ⟨rfl, p, rfl, .inr (SqT.of (rp.ex _ _ ha))⟩
  · cases e
theorem bSumS_snd : BSnd G (rSumS G.K) bSumS := by
  intro S F ρ H st xs as Q E rp hx o
  unfold bSumS at o
  split at o
  · rename_i v
    cases hx with
    | cons h hr =>
      cases hr
      cases e : seqI v st with
      | bad => unfold bd at o; rw [e] at o; exact o.elim
      | ex c s => exact absurd e (by unfold seqI; intro z; split at z <;> first | (cases q : toIs _ <;> (rw [q] at z; cases z)) | cases z)
      | ok ns s' =>
        unfold bd at o
        rw [e] at o
        obtain ⟨rfl, p, rfl, hs⟩ := seqI_rel rp h e
        exact ⟨p, ns, rfl, hs, out.at (v := vI ns.sum) o rp (.int _)⟩
  · exact o.elim
theorem bMinS_snd : BSnd G (rMinS G.K) bMinS := by
  intro S F ρ H st xs as Q E rp hx o
  unfold bMinS at o
  split at o
  · rename_i v
    cases hx with
    | cons h hr =>
      cases hr
      cases e : seqI v st with
      | bad => unfold bd at o; rw [e] at o; exact o.elim
      | ex c s => exact absurd e (by unfold seqI; intro z; split at z <;> first | (cases q : toIs _ <;> (rw [q] at z; cases z)) | cases z)
      | ok ns s' =>
        unfold bd at o
        rw [e] at o
        obtain ⟨rfl, p, rfl, hs⟩ := seqI_rel rp h e
        cases ns with
        | nil => exact o.elim
        | cons y r =>
          obtain ⟨m1, m2⟩ := minI_spec r y
          refine ⟨p, y :: r, rfl, hs, by simp, fun m hm hl => ?_⟩
          have em : m = r.foldl min y := Int.le_antisymm (hl _ m1) (m2 m hm)
          rw [em]
          exact out.at (v := vI (r.foldl min y)) o rp (.int _)
  · exact o.elim
/-! ### an own list + a list -/
theorem bAddO_snd : OSnd G (rAddA G.K) bAddO := by
  intro S F ρ H st x y a b Q E rp hx hy o
  unfold bAddO at o
  split at o
  · rename_i k ys
    obtain ⟨p, hp, rfl⟩ := hx
    obtain ⟨b, ws, rfl, hb, hw⟩ := dt_list hy
    cases q : st[k]? with
    | none => rw [q] at o; exact o.elim
    | some ob =>
      rw [q] at o
      cases ob with
      | ins _ _ => exact o.elim
      | gone => exact o.elim
      | tup _ => exact o.elim
      | dct _ => exact o.elim
      | dcf _ => exact o.elim
      | lst xs =>
        dsimp only at o
        cases q2 : toDs xs with
        | none => rw [q2] at o; exact o.elim
        | some ds =>
          rw [q2] at o
          dsimp only at o
          obtain ⟨p', h', e1, e2, e3, us, e4, hu⟩ := rp.own k _ q
          rw [hp] at e1
          cases e1
          subst e4
          have hu' := toDs_rel hu q2
          by_cases hl : ds.length + ys.length ≤ lim
          · rw [if_pos hl] at o
            exact .inr (.inl ⟨p, b, us, ws, rfl, rfl, e3, rp.ex _ _ hb, sz (by rw [hu'.length, hw.length]; exact hl), fun r hr => out_lst rp (hu'.append hw) o r hr⟩)
          · rw [if_neg hl] at o
            exact o.elim
  · exact bAdd_snd S F ρ H st x y _ _ Q E rp hx hy o
end
end Y
end
section
set_option Elab.async false
set_option Elab.async false
set_option linter.all false
set_option maxRecDepth 100000
set_option maxHeartbeats 2000000
/-! Enu: enumerate of a list or a tuple. -/
namespace Y
open PySem PySem.Spec PyProof.Rows L2
theorem meets_enum1 {v : Value} {o : Obj} {H : Heap → Prop} (B : Begins v o H) :
    Meets (Builtin.«enumerate.__new__» ⟨[.type "enumerate", v], []⟩) (fun _ R s => H s.heap ∧ R (.ok (.ret (.ref (s.heap.push o).objs.size))) { s with heap := (s.heap.push o).push { cls := .type "enumerate", data := .fields #[.none, .bool false, .ref s.heap.objs.size, rawInt 0, .none, .none] } }) :=
  .of_wp fun prog w A R s hh => by
    obtain ⟨hp, g, d, tk, os⟩ := s
    obtain ⟨h1, h⟩ := hh
    have hsub := sub_enumerate
    have q1 : ∀ {A' : Around} {E : Value → Shared → Prop} {Q : Value → Shared → Prop}, Q (.ref hp.objs.size) ⟨hp.push o, g, d, tk, os⟩ → wpAny (model prog w) A' (pyIter v) Q E ⟨hp, g, d, tk, os⟩ := fun q => B.iter prog w _ _ ⟨hp, g, d, tk, os⟩ _ h1 q
    wp_walk using q1
    refine wpAny_stack_any fun st => wpAny_pure ?_
    split
    · rename_i c _ _ _ _ _
      cases (c == Value.type "enumerate") <;> (wp_walk using q1; exact ⟨_, rfl, h⟩)
    · wp_walk using q1
      exact ⟨_, rfl, h⟩
section
variable {prog : Program} {w : World} {A : Around} {E : Value → Shared → Prop} {s : Shared}
theorem call_enumT {t : Addr} {items : Array Value} {Q : Value → Shared → Prop} (ht : s.heap.IsTuple t items)
    (k : ∀ h', IsEnum h' (s.heap.objs.size + 1) s.heap.objs.size 0 .none → h'.IsTupleIter s.heap.objs.size t 0 → (∀ b o, s.heap.get? b = some o → h'.get? b = some o) → Q (.ref (s.heap.objs.size + 1)) { s with heap := h' }) :
    wpAny (model prog w) A (call (.type "enumerate") [.ref t]) Q E s := by
  refine callType_new F.called_enumerate (by decide) (F.typeCall_enumerate_1 _) (F.newCall_enumerate_1 _) (fun obj => F.args_object_init_2 obj _) F.entry_enumerate_new (meets_enum1 (begins_tuple t items)) ⟨ht, ?_⟩
  have hz : ∀ o : Obj, (s.heap.push o).objs.size = s.heap.objs.size + 1 := fun o => Heap.size_push ..
  show _ ∧ _
  rw [hz]
  have he : ∀ o : Obj, IsEnum ((s.heap.push o).push { cls := .type "enumerate", data := .fields #[.none, .bool false, .ref s.heap.objs.size, rawInt 0, .none, .none] }) (s.heap.objs.size + 1) s.heap.objs.size 0 .none := fun o => by
    have := Heap.get?_push_size (s.heap.push o) (o := { cls := .type "enumerate", data := .fields #[.none, .bool false, .ref s.heap.objs.size, rawInt 0, .none, .none] }) rfl
    rw [hz] at this
    exact this
  exact ⟨⟨_, he _, rfl⟩, k _ (he _) ⟨_, Heap.get?_push_of_some _ (Heap.get?_push_size _ rfl), rfl, rfl⟩ fun b o x => Heap.get?_push_of_some _ (Heap.get?_push_of_some _ x)⟩
end
/-- the tuple at a, the items in new pairs -/
def IteT (K : PySem.W.Frag) (a : Addr) : It :=
  ⟨fun i H => ∃ (xs : List V) (x : V), SqT K H a xs ∧ xs[i]? = some x,
   fun i H v H' => ∃ T x, v = .ref T ∧ H T = none ∧ H' = upd H T (.tup [.int (i : Nat), x]) ∧ ∀ xs, SqT K H a xs → xs[i]? = some x,
   fun i H => ∃ xs : List V, SqT K H a xs ∧ xs.length ≤ i⟩
theorem turn_enumT {P : Program} {w : World} {K : PySem.W.Frag} {elts : List Expr} {kk : Nat} {tpos : Pos} (a e it : Addr) :
    Turn P w K (.Tuple elts kk tpos) (IteT K a) [e, it] e (fun i h => (∃ old, IsEnum h e it ((i : Nat) : Int) old) ∧ h.IsTupleIter it a i ∧ e ≠ it) where
  mem := by simp
  obj := fun i h st b hb => by
    obtain ⟨⟨old, he⟩, ⟨o, ho, hc, hd⟩, _⟩ := st
    rcases List.mem_cons.mp hb with rfl | hb
    · exact ⟨_, he, fun v q => nomatch q⟩
    · obtain rfl := List.mem_singleton.mp hb
      exact ⟨o, ho, fun v q => by rw [hd] at q; cases q⟩
  keep := fun i h h' st k => by
    obtain ⟨⟨old, he⟩, ⟨o, ho, hc, hd⟩, hne⟩ := st
    exact ⟨⟨old, k e (by simp) _ he⟩, ⟨o, k it (by simp) _ ho, hc, hd⟩, hne⟩
  item := by
    intro X hP hw hK hc i pins s σ H E I hf st hg
    subst hP hw hK
    obtain ⟨⟨old, he⟩, hit, hne⟩ := st
    obtain ⟨xs, x, hq, hx⟩ := hg
    obtain ⟨its, rv, p, hz⟩ := I.tuple hq
    obtain ⟨u, hu, ru⟩ := rv.get hx
    have hel : e < s.heap.objs.size := Heap.lt_size he
    have hil : it < s.heap.objs.size := by obtain ⟨_, q, _⟩ := hit; exact Heap.lt_size q
    have hat : a ≠ it := by
      intro z
      obtain ⟨o1, g1, c1, d1⟩ := hit
      obtain ⟨o2, g2, c2, _⟩ := isTup_of p
      rw [z, g1] at g2
      cases g2
      rw [c1] at c2
      injection c2 with c2
      exact absurd c2 (by decide)
    have hae : e ≠ a := by
      intro z
      obtain ⟨o2, g2, c2, _⟩ := isTup_of p
      rw [← z] at g2
      have he' : s.heap.get? e = _ := he
      rw [he'] at g2
      cases g2
      injection c2 with c2
      exact absurd c2 (by decide)
    have D := Draws.tuple (prog := X.prog) (w := X.w) (A := X.A.in1) (I.ok.hd hc) it a hat its.toArray
    have hlt : i < its.toArray.size := by
      have := (List.getElem?_eq_some_iff.mp hu).1
      simpa using this
    refine wpAny_pyNext_enum_itemD D he ⟨hit, isTup_of p⟩ hlt hne (by simp [hne, hae]) fun y h' tk hy ho st' hT hsz hk => ?_
    have ey : y = u := by
      have hy : its.toArray[i]? = some y := hy
      rw [List.getElem?_toArray, hu] at hy
      exact (Option.some.inj hy).symm
    subst ey
    refine ⟨_, rfl, wpAny_letOwnedTupleGo_enum (s := { s with heap := h', toks := tk + 1 }) ho fun h'' he' sb => ?_⟩
    have hT2 : h''.get? s.heap.objs.size = some { cls := .type "tuple", data := .seq #[.int i tk, y] } := (sb.2 _ (Nat.ne_of_gt hel)).trans hT
    have new : ObjOk X.prog X.w (upd H s.heap.objs.size (.tup [.int (i : Nat), x])) h'' s.heap.objs.size (.tup [.int (i : Nat), x]) := ⟨by show 2 ≤ sizeLine; decide, [.int i tk, y], .cons ⟨_, rfl⟩ (.cons ru .nil), ⟨_, hT2, rfl, _, rfl⟩⟩
    have I1 : Inv X pins σ (upd H s.heap.objs.size (.tup [.int (i : Nat), x])) { s with heap := h'', toks := tk + 1 } :=
      I.turnedNew (ch := [e, it]) (fun b ob hb q => (sb.2 b (fun z => hb (by simp [z]))).trans (hk b ob (fun z => hb (by simp [z])) (fun z => hb (by simp [z])) q)) hf (Nat.le_refl _) new
    refine ⟨.ref s.heap.objs.size, _, I1, rfl, ⟨_, x, rfl, I.hok.fresh (Nat.le_refl _), rfl, fun ys hy => by rw [I.tuple_inj hy hq]; exact hx⟩, ⟨⟨y, ?_⟩, ?_, hne⟩, fun b hb => ?_⟩
    · have e1 : ((i + 1 : Nat) : Int) = (i : Int) + 1 := by omega
      rw [e1]; exact he'
    · obtain ⟨o1, g1, c1, d1⟩ := st'.1
      exact ⟨o1, (sb.2 it (Ne.symm hne)).trans g1, c1, d1⟩
    · have hb' : b < s.heap.objs.size := by
        rcases List.mem_cons.mp hb with rfl | hb
        · exact hel
        · obtain rfl := List.mem_singleton.mp hb
          exact hil
      rw [upd_ne (Nat.ne_of_lt hb')]
      exact (hf b hb).1
  done := by
    intro X hP hw hK hc i pins s σ H E I hf st hg
    subst hP hw hK
    obtain ⟨⟨old, he⟩, hit, hne⟩ := st
    obtain ⟨xs, hq, hx⟩ := hg
    obtain ⟨its, rv, p, hz⟩ := I.tuple hq
    obtain ⟨f0, f1, f2, f3, f4, f5⟩ := hf it (by simp)
    have hl := rv.length
    have D : Draws X.prog X.w X.A.in1 it [it, a] i (fun _ _ => True) (fun j h => (h.IsTupleIter it a j ∧ h.IsTuple a its.toArray) ∧ i ≤ j) :=
      { live := fun _ _ st => let ⟨o, ho, _⟩ := st.1.1; ⟨o, ho⟩
        frame := fun _ _ _ st hk => by
          obtain ⟨⟨⟨o, ho, c1, d1⟩, ⟨o2, ho2, c2, d2⟩⟩, hj⟩ := st
          exact ⟨⟨⟨o, hk it (by simp) _ ho, c1, d1⟩, ⟨o2, hk a (by simp) _ ho2, c2, d2⟩⟩, hj⟩
        item := fun j s Q E hj st hQ => absurd hj (Nat.not_lt.mpr st.2)
        done := fun s Q E st hE => wpAny_nextOf_tuple_end (I.ok.hd hc) st.1.1 st.1.2 (by simp; omega) fun h' e' a b => hE h' e' a b }
    exact wpAny_pyNext_enum_endD D he ⟨⟨hit, isTup_of p⟩, Nat.le_refl _⟩ fun h' eb => ⟨rfl, I.turned (t' := s.toks) (fun b o hb q => eb b o hb q) f0 f1 f3 f4 f5⟩
  self := fun A i s Q E st h => let ⟨⟨_, he⟩, _⟩ := st; wpAny_pyIter_enum he h
def iEnumS (K : PySem.W.Frag) (ta : TA) : TI := fun σ H R => ta σ H fun vs H1 => ∃ a xs, vs = [.ref a] ∧ ((SqL K H1 a xs ∧ R (Ite K a) H1) ∨ (SqT K H1 a xs ∧ R (IteT K a) H1))
theorem pi_enumS {X : Cx} {e : Expr} {ta : TA} {p pos tpos : Pos} {elts : List Expr} {kk : Nat} (hg : Gl X "enumerate") (hm : X.mg "enumerate" = none) (ha : PA X [e] ta) (hs : starEach [e] X.env = [(false, eval e X.env)] := by rfl) :
    PI X (.Tuple elts kk tpos) (.Call (.Name "enumerate" p) [e] [] pos) (iEnumS X.K ta) := by
  refine ⟨fun pins s σ H R I h => ?_⟩
  refine Call_ (ld_blt I hg hm boot_enumerate (PyProof.Rows.callWith_type1 (thn (ha.run pos pins s σ H _ I h) fun us s1 ⟨vs, H1, I1, r1, q1⟩ => ?_) hs rfl))
  obtain ⟨a, xs, ex, q⟩ := q1
  subst ex
  rw [Vals.ref1 r1]
  have fr : ∀ b ∈ [s1.heap.objs.size + 1, s1.heap.objs.size], FpOk X pins H1 b := fun b hb => by
    have hle : s1.heap.objs.size ≤ b := by
      rcases List.mem_cons.mp hb with rfl | hb
      · exact Nat.le_add_right _ _
      · obtain rfl := List.mem_singleton.mp hb
        exact Nat.le_refl _
    exact I1.fpOk hle (I1.hok.fresh hle)
  rcases q with ⟨hq, q⟩ | ⟨hq, q⟩
  · obtain ⟨its, rv, p', hz⟩ := I1.list hq
    refine call_enumerate_list p'.isList fun h' he hit hsz hk => wpAny_pyIter_enum he ?_
    have I2 : Inv X pins σ H1 { s1 with heap := h' } := I1.kept (t' := s1.toks) hk
    exact ⟨s1.heap.objs.size + 1, [s1.heap.objs.size + 1, s1.heap.objs.size], _, _, H1, rfl, I2, turn_enum a (s1.heap.objs.size + 1) s1.heap.objs.size, ⟨⟨.none, he⟩, hit, Nat.succ_ne_self _⟩, fr, q⟩
  · obtain ⟨its, rv, p', hz⟩ := I1.tuple hq
    refine call_enumT (isTup_of p') fun h' he hit hk => wpAny_pyIter_enum he ?_
    have I2 : Inv X pins σ H1 { s1 with heap := h' } := I1.kept (t' := s1.toks) hk
    exact ⟨s1.heap.objs.size + 1, [s1.heap.objs.size + 1, s1.heap.objs.size], _, _, H1, rfl, I2, turn_enumT a (s1.heap.objs.size + 1) s1.heap.objs.size, ⟨⟨.none, he⟩, hit, Nat.succ_ne_self _⟩, fr, q⟩
section
variable {X : Cx} {G : Glo} {E : XK}
theorem jw_enumT {F : Hp} {ρ : List Addr} {a : Addr} {x1 : List V} {e1 : List D} (ha : F a = some (.tup x1)) (h1 : DtA F x1 e1) : JW G F ρ (IteT G.K a) (enumF 0 e1) := by
  have w1 := h1.length
  refine ⟨fun i H hi ex => ?_, fun H ex => ?_, fun i H x H' hi ex y => ?_⟩
  · rw [enum_len] at hi
    have a1 : i < x1.length := by omega
    exact ⟨x1, x1[i], SqT.of (ex _ _ ha), by simp [a1]⟩
  · exact ⟨x1, SqT.of (ex _ _ ha), by rw [enum_len]; omega⟩
  · obtain ⟨T, v1, rfl, hT, rfl, f1⟩ := y
    obtain ⟨y1, z1, t1⟩ := h1.get' (f1 x1 (SqT.of (ex _ _ ha)))
    refine .inr (.inl ⟨T, [.int (i : Nat), v1], [.int (i : Int), y1], hT, rfl, rfl, ?_, .cons (.int _) (.cons t1 .nil)⟩)
    have := enum_get (n := 0) z1
    rw [Nat.zero_add] at this
    exact this
theorem qi_enumS {e1 : Expr} {f : Y.A} {p pos tpos : Pos} {elts : List Expr} {kk : Nat} (hg : Gl X "enumerate") (hm : X.mg "enumerate" = none) (ha : PA X [e1] (lA G E f)) (hs : starEach [e1] X.env = [(false, eval e1 X.env)] := by rfl) (hK : X.K = G.K := by rfl) :
    PI X (.Tuple elts kk tpos) (.Call (.Name "enumerate" p) [e1] [] pos) (lI G E (iCall kEnumS f)) := by
  refine PI.imp (pi_enumS hg hm ha hs) fun σ H Q ⟨S, F, ρ, loc, st, rp, l, o⟩ => ⟨S, F, ρ, loc, st, rp, l, out.imp (fun x H1 h1 => ?_) (out.bd (Rl := VRs G) o)⟩
  obtain ⟨F1, ρ1, as, st1, g1, r1, v1, o1⟩ := h1
  unfold kEnumS at o1
  split at o1
  · rename_i ds
    cases v1 with
    | cons h1 hr =>
      cases hr
      obtain ⟨a, xs, rfl, ha, hd⟩ := dt_list h1
      rw [hK]
      exact ⟨a, xs, rfl, .inl ⟨SqL.of (r1.ex _ _ ha), out.at (v := enumF 0 ds) o1 r1 (jw_enumL ha hd)⟩⟩
  · rename_i ds
    cases v1 with
    | cons h1 hr =>
      cases hr
      obtain ⟨a, xs, rfl, ha, hd⟩ := dt_tup h1
      rw [hK]
      exact ⟨a, xs, rfl, .inr ⟨SqT.of (r1.ex _ _ ha), out.at (v := enumF 0 ds) o1 r1 (jw_enumT ha hd)⟩⟩
  · exact o1.elim
end
end Y
end
section
set_option Elab.async false
set_option Elab.async false
set_option linter.all false
set_option maxRecDepth 100000
set_option maxHeartbeats 2000000
/-! Frz: an own list becomes data. -/
namespace Y
open PySem PySem.Spec PyProof.Rows L2
theorem Rep.freeze {G : Glo} {S F : Hp} {ρ : List Addr} {H : Hp} {st : Store} (r : Rep G S F ρ H st) {k : Nat} {a : Addr} {xs : List Val} {vs : List V} (hk : st[k]? = some (.lst xs)) (ha : ρ[k]? = some a) (hh : H a = some (.lst vs)) : Rep G S (upd F a (.lst vs)) ρ H (st.set k .gone) ∧ Gr F ρ (upd F a (.lst vs)) ρ := by
  obtain ⟨a', h', e1, e2, e3, e4⟩ := r.own k _ hk
  rw [ha] at e1
  cases e1
  have fa : F a = none := e2.resolve_left (by intro z; cases z)
  have g : Gr F ρ (upd F a (.lst vs)) ρ := ⟨fun b u h => by rw [upd_ne (ne_of_none h fa)]; exact h, [], by simp⟩
  have hlt : k < st.length := (List.getElem?_eq_some_iff.mp hk).1
  refine ⟨⟨fun b u h => ?_, fun b u h => ?_, fun b ps h => ?_, by rw [List.length_set]; exact r.len, r.nd, fun j ob e => ?_, r.tab⟩, g⟩
  · obtain ⟨h1, h2, h3, h4⟩ := r.sd b u h
    have hb : b ≠ a := fun z => h3 (by rw [z]; exact List.mem_of_getElem? ha)
    exact ⟨h1, by rw [upd_ne hb]; exact h2, h3, h4⟩
  · by_cases hb : b = a
    · subst hb
      rw [upd_same] at h
      rw [hh]
      exact h
    · rw [upd_ne hb] at h
      exact r.ex b u h
  · by_cases hb : b = a
    · subst hb
      rw [upd_same] at h
      cases h
    · rw [upd_ne hb] at h
      exact r.nt b ps h
  · by_cases hj : k = j
    · subst hj
      rw [List.getElem?_set_self hlt] at e
      cases e
      exact ⟨a, _, ha, .inl trivial, hh, vs, rfl⟩
    · rw [List.getElem?_set_ne hj] at e
      obtain ⟨c, h, q1, q2, q3, q4⟩ := r.own j ob e
      have hc : c ≠ a := fun z => by
        subst z
        obtain ⟨i1, z1⟩ := List.getElem?_eq_some_iff.mp ha
        obtain ⟨i2, z2⟩ := List.getElem?_eq_some_iff.mp q1
        exact hj ((List.getElem_inj r.nd).mp (z1.trans z2.symm))
      exact ⟨c, h, q1, q2.imp id (fun z => by rw [upd_ne hc]; exact z), q3, q4.mono g⟩
theorem qe_frz {X : Cx} {G : Glo} {E : XK} {e : Expr} {f : Y.E} (h : PE X e (lE G E f)) : PE X e (lE G E (eU bFrz f)) := by
  refine PE.imp h fun σ H Q ⟨S, F, ρ, loc, st, rp, l, o⟩ => ⟨S, F, ρ, loc, st, rp, l, out.imp (fun x H1 h1 => ?_) (out.bd (Rl := VR G) o)⟩
  obtain ⟨F1, ρ1, v, st1, g1, r1, v1, o1⟩ := h1
  cases v with
  | d x => exact out.at (v := Val.d x) o1 r1 v1
  | s ns => exact o1.elim
  | o k =>
    obtain ⟨a, ha, rfl⟩ := v1
    have o1 : out G S F1 ρ1 (VR G) Q E (match st1[k]? with | some (.lst xs) => (match toDs xs with | some ds => if ds.length ≤ lim then R.ok (Val.d (.list ds)) (st1.set k .gone) else .bad | none => .bad) | _ => .bad) := o1
    cases q : st1[k]? with
    | none => rw [q] at o1; exact o1.elim
    | some ob =>
      rw [q] at o1
      cases ob with
      | ins _ _ => exact o1.elim
      | gone => exact o1.elim
      | tup _ => exact o1.elim
      | dct _ => exact o1.elim
      | dcf _ => exact o1.elim
      | lst xs =>
        dsimp only at o1
        cases q2 : toDs xs with
        | none => rw [q2] at o1; exact o1.elim
        | some ds =>
          rw [q2] at o1
          dsimp only at o1
          obtain ⟨p', h', e1, e2, e3, us, e4, hu⟩ := r1.own k _ q
          rw [ha] at e1
          cases e1
          subst e4
          have hu' := toDs_rel hu q2
          by_cases hl : ds.length ≤ lim
          · rw [if_pos hl] at o1
            obtain ⟨r2, g2⟩ := r1.freeze q ha e3
            exact o1 _ ρ1 _ (.ref a) g2 r2 (Dt.lst upd_same (hu'.mono g2.f))
          · rw [if_neg hl] at o1
            exact o1.elim
end Y
end
section
set_option Elab.async false
set_option linter.all false
/-! Sy: still more words of the plain reading. -/
namespace Y
open PySem (PyData Str)
/-- list(x): a list that nobody changes -/
def bList : List Val → M Val
  | [.d (.list ds)] => ret (.d (.list ds))
  | [.d (.tuple ds)] => ret (.d (.list ds))
  | _ => die
/-- [x] * n: a new list that may change -/
def bMulN : Val → Val → M Val
  | .d (.list xs), .d (.int k) => fun st => if -1000 ≤ k ∧ k ≤ 1000 ∧ xs.length ≤ 1000 then .ok (.o st.length) (st ++ [.lst ((repD k xs).map .d)]) else .bad
  | _, _ => die
/-- l.count(n): whole numbers -/
def bCnt : Val → Val → M Val
  | .d (.list ds), .d (.int k) => bd (oget (toIs ds)) fun ns => ret (vI (ns.count k : Nat))
  | _, _ => die
def chkD : Val → M (List D)
  | .d (.list ds) => ret ds
  | _ => die
def eCnt (o e : E) : E := fun loc => bd (o loc) fun x => bd (chkD x) fun ds => bd (e loc) fun y => bCnt (.d (.list ds)) y
/-- a, b, c = e, f, g -/
def sPar3 (i j l : Nat) (a b c : E) : S := fun loc => bd (a loc) fun u => bd (b loc) fun v => bd (c loc) fun w => ret (.nx, ((loc.set i (some u)).set j (some v)).set l (some w))
/-- a rest of which nothing is said -/
def sDie : S := fun _ => die
end Y
end
section
set_option Elab.async false
set_option Elab.async false
set_option linter.all false
set_option maxRecDepth 100000
set_option maxHeartbeats 2000000
/-! Cnt: list(x), [x] * n that may change, l.count(n), a rest that is not read. -/
namespace Y
open PySem PySem.Spec PyProof.Rows L2
section
variable {X : Cx} {G : Glo}
theorem bList_snd : BSnd G (fun xs H Q => ∃ p ys, xs = [.ref p] ∧ (SqL G.K H p ys ∨ SqT G.K H p ys) ∧ ∀ l, H l = none → Q (.ref l) (upd H l (.lst ys))) bList := by
  intro S F ρ H st xs as Q E rp hx o
  unfold bList at o
  split at o
  · rename_i ds
    cases hx with
    | cons h hr =>
      cases hr
      obtain ⟨a, us, rfl, ha, hu⟩ := dt_list h
      exact ⟨a, us, rfl, .inl (SqL.of (rp.ex _ _ ha)), fun p hp => out_lst rp hu o p hp⟩
  · rename_i ds
    cases hx with
    | cons h hr =>
      cases hr
      obtain ⟨a, us, rfl, ha, hu⟩ := dt_tup h
      exact ⟨a, us, rfl, .inr (SqT.of (rp.ex _ _ ha)), fun p hp => out_lst rp hu o p hp⟩
  · exact o.elim
theorem vrs_of_dt {F : Hp} {ρ : List Addr} : ∀ {us : List V} {ds : List D}, DtA F us ds → VRs G F ρ us (ds.map .d)
  | _, _, .nil => .nil
  | _, _, .cons h hr => .cons h (vrs_of_dt hr)
theorem bMulN_snd : OSnd G (rMulA G.K) bMulN := by
  intro S F ρ H st x y a b Q E rp hx hy o
  unfold bMulN at o
  split at o
  · rename_i xs k
    obtain ⟨a, us, rfl, ha, hu⟩ := dt_list hx
    rw [dt_int hy]
    by_cases hl : -1000 ≤ k ∧ k ≤ 1000 ∧ xs.length ≤ 1000
    · rw [if_pos hl] at o
      refine .inr (.inl ⟨a, k, us, rfl, rfl, rp.ex _ _ ha, by omega, by omega, ?_, fun p hp => out_own rp (vrs_of_dt (hu.rep k.toNat)) o p hp⟩)
      rw [hu.length, sizeLine_eq]
      have : xs.length * k.toNat ≤ 1000 * 1000 := Nat.mul_le_mul (by omega) (by omega)
      omega
    · rw [if_neg hl] at o
      exact o.elim
  · exact o.elim
theorem vals_ints : ∀ {ns : List Int} {us : List Value}, Vals (ns.map V.int) us → IntsAre us ns
  | [], _, .nil => .nil
  | n :: ns, _, .cons r t => by
    obtain ⟨tk, rfl⟩ := r
    exact .cons n tk (vals_ints t)
def rCnt (K : PySem.W.Frag) : V → List V → Hp → VK → Prop := fun x xs H Q => ∃ (a : Addr) (ns : List Int) (k : Int), x = V.ref a ∧ xs = [V.int k] ∧ SqL K H a (ns.map V.int) ∧ Q (.int (ns.count k : Nat)) H
theorem mt_cnt : MtR X "list.count" (rCnt X.K) := by
  intro pins s σ H x xs v us Q I rx rxs h
  obtain ⟨a, ns, k, rfl, rfl, hs, q⟩ := h
  cases rx
  obtain ⟨u, rfl, t, rfl⟩ := rxs.one
  obtain ⟨its, rv, p, hlen⟩ := I.list hs
  exact count_list_ints p.isList (vals_ints rv) ⟨.int (ns.count k : Nat), H, I.tok _, ⟨_, rfl⟩, q⟩
theorem toIs_vi {F : Hp} : ∀ {us : List V} {ds : List D} {ns : List Int}, DtA F us ds → toIs ds = some ns → us = ns.map V.int
  | _, [], _, .nil, e => by
    cases e
    rfl
  | _, .int i :: r, ns, .cons h hr, e => by
    have e : (toIs r).map (i :: ·) = some ns := e
    cases q : toIs r with
    | none => rw [q] at e; cases e
    | some ms =>
      rw [q] at e
      cases e
      rw [toIs_vi hr q, dt_int h]
      rfl
  | _, .none :: r, ns, .cons h hr, e => by cases e
  | _, .bool _ :: r, ns, .cons h hr, e => by cases e
  | _, .str _ :: r, ns, .cons h hr, e => by cases e
  | _, .list _ :: r, ns, .cons h hr, e => by cases e
  | _, .tuple _ :: r, ns, .cons h hr, e => by cases e
  | _, .dict _ :: r, ns, .cons h hr, e => by cases e
/-- l.count(n) -/
theorem qe_cnt {E : XK} {o e : Expr} {fo fe : Y.E} {apos cpos : Pos} (ho : PE X o (lE G E fo)) (he : PE X e (lE G E fe)) (hs0 : starEach [e] X.env = (false, eval e X.env) :: starEach [] X.env := by rfl) (hbase : attributeBase o "count" X.env (eval o X.env) = eval o X.env := by rfl)
    (hfew : ((backTo cpos (starEach [e] X.env)).all (fun x => !x.1) && (backToKw cpos (keywordEach [] X.env)).all (fun x => x.1.isSome) && decide (([e] : List Expr).length + ([] : List Keyword).length + (if ([] : List Keyword).isEmpty then 0 else 1) < 30)) = true := by rfl)
    (hline : (apos.endLine == cpos.line) = true := by rfl) (hK : X.K = G.K := by rfl) : PE X (.Call (.Attribute o "count" apos) [e] [] cpos) (lE G E (eCnt fo fe)) := by
  refine PE.imp (pe_bm PySem.F.plainAttrs_list PySem.F.slot_list_count PySem.F.type_list_count mt_cnt ho (pa_cons he pa_nil hs0) hbase hfew hline hs0 rfl) fun σ H Q ⟨S, F, ρ, loc, st, rp, l, ou⟩ => ⟨S, F, ρ, loc, st, rp, l, out.imp (fun ov H1 h1 => ?_) (out.bd (Rl := VR G) ou)⟩
  obtain ⟨F1, ρ1, a, st1, g1, r1, v1, o1⟩ := h1
  cases a with
  | o _ => exact o1.elim
  | s _ => exact o1.elim
  | d x => ?_
  cases x with
  | list ds =>
    obtain ⟨p, us, rfl, ha, hu⟩ := dt_list v1
    have o1 : out G S F1 ρ1 (VR G) Q E (bd (fe loc) (fun y => bCnt (.d (.list ds)) y) st1) := o1
    refine ⟨.inl ⟨rfl, us, by rw [hK]; exact SqL.of (r1.ex _ _ ha)⟩, S, F1, ρ1, loc, st1, r1, l.mono g1, out.imp (fun w H2 h2 => ?_) (out.bd (Rl := VR G) o1)⟩
    obtain ⟨F2, ρ2, b, st2, g2, r2, v2, o2⟩ := h2
    cases b with
    | o _ => exact o2.elim
    | s _ => exact o2.elim
    | d y => ?_
    cases y with
    | int k =>
      have o2 : out G S F2 ρ2 (VR G) Q E (bd (oget (toIs ds)) (fun ns => ret (vI (ns.count k : Nat))) st2) := o2
      cases q : toIs ds with
      | none => rw [q] at o2; exact o2.elim
      | some ns =>
        rw [q] at o2
        rw [dt_int v2]
        refine ⟨p, ns, k, rfl, rfl, ?_, out.at (v := vI (ns.count k : Nat)) o2 r2 (.int _)⟩
        rw [hK, ← toIs_vi hu q]
        exact SqL.of (r2.ex _ _ (g2.f _ _ ha))
    | _ => exact o2.elim
  | _ => exact o1.elim
theorem qs_par3 (i j m : Nat) {E : XK} {x y z : Str} {a b c : Expr} {fa fb fc : Y.E} {px py pz pt pt2 pos : Pos} {kt k2 : Nat} (hc : X.calm = true) (hN : X.N.Nodup) (hi : X.N[i]? = some x) (hj : X.N[j]? = some y) (hm : X.N[m]? = some z) (hij : i ≠ j) (him : i ≠ m) (hjm : j ≠ m) (hx : X.env.scope.names.lookup x = some .local) (hy : X.env.scope.names.lookup y = some .local) (hz : X.env.scope.names.lookup z = some .local) (ha : PA X [a, b, c] (lA G E (aC fa (aC fb (aC fc aN)))))
    (hsw : swappedStores [.Tuple [.Name x px, .Name y py, .Name z pz] kt pt] (.Tuple [a, b, c] k2 pt2) X.env = pure (some [x, y, z])) (hso : swapsWithSole [.Tuple [.Name x px, .Name y py, .Name z pz] kt pt] (.Tuple [a, b, c] k2 pt2) pos.line X.env = pure false := by rfl) :
    PS X (.Assign [.Tuple [.Name x px, .Name y py, .Name z pz] kt pt] (.Tuple [a, b, c] k2 pt2) pos) (lS G E (sPar3 i j m fa fb fc)) := by
  refine PS.imp (ps_par3 hc hN hi hj hm hij him hjm hx hy hz ha hsw hso) fun D σ H ⟨S, F, ρ, loc, st, rp, l, o⟩ => ⟨S, F, ρ, loc, st, rp, l, ?_⟩
  have o' : out G S F ρ (FR G) (endQ D) E (bd (aC fa (aC fb (aC fc aN)) loc) (fun vs => match vs with | [u, v, w] => ret (Fl.nx, ((loc.set i (some u)).set j (some v)).set m (some w)) | _ => die) st) := by
    have e : bd (aC fa (aC fb (aC fc aN)) loc) (fun vs => match vs with | [u, v, w] => ret (Fl.nx, ((loc.set i (some u)).set j (some v)).set m (some w)) | _ => die) st = sPar3 i j m fa fb fc loc st := by
      unfold aC aN sPar3 bd ret
      cases fa loc st with
      | bad => rfl
      | ex _ _ => rfl
      | ok v s =>
        dsimp only
        cases fb loc s with
        | bad => rfl
        | ex _ _ => rfl
        | ok w s' =>
          dsimp only
          cases fc loc s' with
          | bad => rfl
          | ex _ _ => rfl
          | ok u s'' => rfl
    rw [e]
    exact o
  refine out.imp (fun us H1 h1 => ?_) (out.bd (Rl := VRs G) o')
  obtain ⟨F1, ρ1, vs, st1, g1, r1, vr, o1⟩ := h1
  cases vr with
  | nil => exact o1.elim
  | @cons v1 v1' _ _ h hr =>
    cases hr with
    | nil => exact o1.elim
    | @cons v2 v2' _ _ h' hr' =>
      cases hr' with
      | nil => exact o1.elim
      | @cons v3 v3' _ _ h'' hr'' =>
        cases hr'' with
        | cons _ _ => exact o1.elim
        | nil => exact ⟨v1, v2, v3, rfl, out.at (v := (Fl.nx, ((loc.set i (some v1')).set j (some v2')).set m (some v3'))) (u := FV.nx (((σ.set i (some v1)).set j (some v2)).set m (some v3))) o1 r1 ((((l.mono g1).set h i).set h' j).set h'' m)⟩
/-- nothing is said of the rest -/
theorem qss_die {E : XK} {sts : List Stmt} : PSs X sts (lS G E sDie) := ⟨fun _ _ _ _ _ _ ⟨_, _, _, _, _, _, _, o⟩ => o.elim⟩
end
section
variable {P : Program} {w : World} {mg : Str → Option Value} {base : Heap} {G : Glo}
/-- a def whose code's table is known -/
theorem def_okT {x : Str} {st : Stmt} {N ps : List Str} {k n : Nat} {b : Y.S} {f : Addr} {cdv oc kV doc pm ct : Value} {od an : Option Addr} {osl : Array (Option Value)} (lk : G.K.lookup f = some ⟨oc, od, .func (PySem.W.fnOf x x (defArgs st) (defBody st) (defScope st) .none kV doc pm an cdv ct), osl⟩) (hcd : PySem.W.codeIn G.K cdv x = true) (hm : mg x = some (.ref f)) (hk : PySem.W.keepIn G.K (.ref f) = true) (hbd : Binds G.K (PySem.W.fnOf x x (defArgs st) (defBody st) (defScope st) .none kV doc pm an cdv ct) ps []) (Sc : FnScope N ps (defScope st)) (hn : n = ps.length) (hN : n ≤ N.length)
    (hb : ∀ (A : Around) (outer : List Env) (s : Shared) (H : Hp) (E : XK), Room k (A.deeper (envOfC x (defScope st) s.heap.objs.size f cdv)) → PSs (cxOf (L2N.CX P w) P w G.K mg base N x (defScope st) f cdv A outer s H E) (defBody st) (lS G E b)) :
    DefOk P w mg base G (k + 1) x n (runF N.length b) := ⟨f, _, ps, law_okT lk hcd Sc hn hN hb, hm, hk, hbd⟩
end
theorem spL_trueTs {K : PySem.W.Frag} {sem : List Val → M Val} {H : Hp} {a : Addr} {T : List (Addr × Str)} {ns : List Int} (hT : ∀ p ∈ T, H p.1 = some (.tbl #[])) (hS : SqL K H a (ns.map V.int)) (ht : ∃ st, sem [.s ns] [] = .ok (.d (.bool true)) st) : spL K T sem [.ref a] H (fun v _ => v = .bl true) fun _ _ _ => False := by
  intro cl ic
  obtain ⟨st, e⟩ := ht
  let F : Hp := fun b => match H b with
    | some (.tbl _) => none
    | o => o
  have fH : ∀ b o, F b = some o → H b = some o := fun b o h => by
    have h : (match H b with | some (.tbl _) => none | o => o) = some o := h
    split at h
    · cases h
    · exact h
  have nF : ∀ b ps, F b ≠ some (.tbl ps) := fun b ps h => by
    have h : (match H b with | some (.tbl _) => none | o => o) = some (.tbl ps) := h
    split at h
    · cases h
    · rename_i hn; exact hn ps h
  have gF : ∀ b o, H b = some o → (∀ ps, o ≠ .tbl ps) → F b = some o := fun b o h hn => by
    show (match H b with | some (.tbl _) => none | o => o) = some o
    rw [h]
    split
    · rename_i ps hz; cases hz; exact absurd rfl (hn ps)
    · rfl
  have hS' : SqL K F a (ns.map V.int) := by
    rcases hS with (h | ⟨o, h⟩) | h
    · exact .inl (.inl (gF _ _ h fun ps z => by cases z))
    · exact .inl (.inr ⟨o, gF _ _ h fun ps z => by cases z⟩)
    · exact .inr h
  refine ⟨fun _ => none, F, [], [], [.s ns], ⟨(fun a o h => by cases h), fH, nF, rfl, List.nodup_nil, (fun k ob h => by simp at h), fun p hp => LamX.TabS.nil (hT p hp)⟩, .cons ⟨a, rfl, hS'⟩ .nil, rfl, ?_⟩
  rw [e]
  intro F1 ρ1 u H1 g r v
  cases v
  rfl
end Y
end
section
set_option Elab.async false
set_option linter.all false
/-! Sz: making an instance. -/
namespace Y
open PySem (PyData Str)
/-- C(..): a new instance, then its __init__, whose reading is f -/
def mkI (C : Nat) (f : List Val → M Val) : List Val → M Val := fun as st => match f (.o st.length :: as) (st ++ [.ins C []]) with
  | .ok (.d .none) st' => .ok (.o st.length) st'
  | .ok _ _ => .bad
  | .ex c st' => .ex c st'
  | .bad => .bad
end Y
end
section
set_option Elab.async false
set_option Elab.async false
set_option linter.all false
set_option maxRecDepth 100000
set_option maxHeartbeats 2000000
/-! Mak: an instance of an own class. -/
namespace Y
open PySem PySem.Spec PyProof.Rows L2
/-- one more entry that nobody speaks of -/
theorem Rep.extra {G : Glo} {S F : Hp} {ρ : List Addr} {H : Hp} {st : Store} (r : Rep G S F ρ H st) {p : Addr} {o : HO} (hp : H p = none) : Rep G S F ρ (upd H p o) st where
  sd := fun a u h => by
    obtain ⟨h1, h2, h3, h4⟩ := r.sd a u h
    exact ⟨by rw [upd_ne (ne_of_none h1 hp)]; exact h1, h2, h3, h4⟩
  ex := fun a u h => by
    have := r.ex a u h
    rw [upd_ne (ne_of_none this hp)]
    exact this
  nt := r.nt
  len := r.len
  nd := r.nd
  own := fun k ob e => by
    obtain ⟨a, h, q1, q2, q3, q4⟩ := r.own k ob e
    exact ⟨a, h, q1, q2, by rw [upd_ne (ne_of_none q3 hp)]; exact q3, q4⟩
  tab := r.tab.ext fun b u h => by rw [upd_ne (ne_of_none h hp)]; exact h
/-- a class of the program whose __init__ keeps its plain reading -/
structure ClsOk (P : Program) (w : World) (mg : Str → Option Value) (base : Heap) (G : Glo) (k : Nat) (x : Str) (c n : Nat) (sem : List Val → M Val) : Prop where
  ex : ∃ (f : Addr) (fd : FuncData) (ps : List Str), FnOk P w G.K mg base (L2N.CX P w) k f fd ps (spF G (n + 1) sem) ∧ mg x = some (.ref (G.ic c)) ∧ Mk G.K (G.ic c) f ∧ Binds G.K fd ps []
section
variable {X : Cx} {G : Glo} {E : XK}
theorem lE_make {C n : Nat} {f : List Val → M Val} {fa : Y.A} : ∀ σ H Q, lE G E (eB (fixN n (mkI C f)) fa) σ H Q → tMake (G.ic C) (spF G (n + 1) f) [] E (lA G E fa) σ H Q := fun σ H Q ⟨S, F, ρ, loc, st, rp, l, o⟩ => by
  refine ⟨S, F, ρ, loc, st, rp, l, out.imp (fun vs H1 h1 => ?_) (out.bd (Rl := VRs G) o)⟩
  obtain ⟨F1, ρ1, as, st1, g1, r1, v1, o1⟩ := h1
  intro x dx hx hdx hne
  unfold fixN at o1
  by_cases hl : as.length = n
  · rw [if_pos hl] at o1
    have r2 := r1.extra (o := .own x) hdx
    have hx2 : upd H1 dx (.own x) x = none := by rw [upd_ne (Ne.symm hne)]; exact hx
    obtain ⟨r3, g3⟩ := r2.push (o := .ins (G.ic C) dx []) (ob := .ins C []) hx2 ⟨dx, [], rfl, .nil⟩
    have hk : (ρ1 ++ [x])[st1.length]? = some x := by
      rw [List.getElem?_append_right (by rw [r1.len]; exact Nat.le_refl _), r1.len]
      simp
    refine ⟨S, F1, ρ1 ++ [x], st1 ++ [.ins C []], .o st1.length :: as, r3, .cons ⟨x, hk, rfl⟩ (by rw [List.append_nil]; exact v1.mono g3), by simp [hl], ?_⟩
    have o2 : out G S F1 ρ1 (VR G) Q E (match f (.o st1.length :: as) (st1 ++ [.ins C []]) with | .ok (.d .none) st' => .ok (.o st1.length) st' | .ok _ _ => .bad | .ex c st' => .ex c st' | .bad => .bad) := o1
    cases e : f (.o st1.length :: as) (st1 ++ [.ins C []]) with
    | bad => rw [e] at o2; exact o2.elim
    | ex c st' =>
      rw [e] at o2
      exact fun F' ρ' H' g r => o2 F' ρ' H' (g3.trans g) r
    | ok v st' =>
      rw [e] at o2
      cases v with
      | o _ => exact o2.elim
      | s _ => exact o2.elim
      | d y =>
        cases y with
        | none =>
          intro F' ρ' H' u g r vr
          cases vr
          exact ⟨rfl, o2 F' ρ' H' (.ref x) (g3.trans g) r ⟨x, g.get hk, rfl⟩⟩
        | _ => exact o2.elim
  · rw [if_neg hl] at o1
    exact o1.elim
theorem qe_makeD {k j c n : Nat} {sem : List Val → M Val} {x : Str} {p pos : Pos} {e : Expr} {es : List Expr} {fa : Y.A} (D : ClsOk X.prog X.w X.mg X.base G k x c n sem) (hr : Room j X.A) (hj : k + 1 ≤ j) (hg : Gl X x) (hx : ∀ σ, PassesAt (L2N.CX X.prog X.w) X σ E) (ha : PA X (e :: es) (lA G E fa)) (hK : X.K = G.K := by rfl)
    (hdb : (x == ("__debug__" : Str)) = false := by decide) (he : starEach (e :: es) X.env = (false, eval e X.env) :: starEach es X.env := by rfl) (hpl : (backTo pos (starEach es X.env)).any (·.1) = false := by rfl) :
    PE X (.Call (.Name x p) (e :: es) [] pos) (lE G E (eB (fixN n (mkI c sem)) fa)) := by
  obtain ⟨f, fd, ps, Fo, hm, M, hb⟩ := D.ex
  rw [← hK] at Fo M hb
  exact PE.imp (pe_make (dvs := []) M Fo (hr.mono hj) hg hm hb .nil (fun pins σ H s e s' I q => hx σ pins H s e s' I q) ha hdb he hpl) lE_make
end
section
variable {P : Program} {w : World} {mg : Str → Option Value} {base : Heap} {G : Glo}
theorem cls_ok {x qual : Str} {st : Stmt} {N ps : List Str} {k n c : Nat} {b : Y.S} {f : Addr} {fd : FuncData} (Fn : Fun G.K "__init__" qual st f fd) (hm : mg x = some (.ref (G.ic c))) (M : Mk G.K (G.ic c) f) (hbd : Binds G.K fd ps []) (Sc : FnScope N ps (defScope st)) (hn : n + 1 = ps.length) (hN : n + 1 ≤ N.length)
    (hb : ∀ (f : Addr) (cdv : Value) (A : Around) (outer : List Env) (s : Shared) (H : Hp) (E : XK), Room k (A.deeper (envOfC qual (defScope st) s.heap.objs.size f cdv)) → PSs (cxOf (L2N.CX P w) P w G.K mg base N qual (defScope st) f cdv A outer s H E) (defBody st) (lS G E b)) :
    ClsOk P w mg base G (k + 1) x c n (runF N.length b) := ⟨f, fd, ps, fn_ok Fn Sc hn hN fun cdv A outer s H E hr => hb f cdv A outer s H E hr, hm, M, hbd⟩
end
end Y
end
section
set_option Elab.async false
set_option linter.all false
/-! Sw: attributes and methods of instances. -/
namespace Y
open PySem (PyData Str)
def putA (f : Str) (v : Val) : List (Str × Val) → List (Str × Val)
  | [] => [(f, v)]
  | (g, x) :: r => if g = f then (g, v) :: r else (g, x) :: putA f v r
def insOf (c : Nat) : Val → M (Nat × List (Str × Val))
  | .o k => fun st => match st[k]? with
    | some (.ins d fs) => if d = c then .ok (k, fs) st else .bad
    | _ => .bad
  | _ => die
/-- o.f, o of the class c -/
def eAtt (c : Nat) (f : Str) (o : E) : E := fun loc => bd (o loc) fun x => bd (insOf c x) fun p => oget (p.2.lookup f)
/-- o.f = v -/
def gAtt (c : Nat) (f : Str) (o : E) : G := fun v loc => bd (o loc) fun x => bd (insOf c x) fun p st => if p.2.length < 900 then .ok loc (st.set p.1 (.ins c (putA f v p.2))) else .bad
/-- o.f, a list that nobody changes from now on -/
def eAtF (c : Nat) (f : Str) (o : E) : E := fun loc => bd (o loc) fun x => bd (insOf c x) fun p => bd (oget (p.2.lookup f)) fun v => match v with
  | .o j => fun st => match st[j]? with
    | some (.lst xs) => (match toDs xs with
      | some ds => if ds.length ≤ lim ∧ j ≠ p.1 then .ok (.d (.list ds)) ((st.set j .gone).set p.1 (.ins c (putA f (.d (.list ds)) p.2))) else .bad
      | none => .bad)
    | _ => .bad
  | v => ret v
/-- o.m(..) -/
def eMet (c : Nat) (m : Str) (f : List Val → M Val) (o : E) (as : A) : E := fun loc => bd (o loc) fun x => bd (insOf c x) fun p => if (p.2.lookup m).isNone = true then bd (as loc) fun vs => f (x :: vs) else die
def bAbs : List Val → M Val
  | [.d (.int i)] => ret (vI (if i < 0 then -i else i))
  | _ => die
end Y
end
section
set_option Elab.async false
set_option Elab.async false
set_option linter.all false
set_option maxRecDepth 100000
set_option maxHeartbeats 2000000
/-! Att: attributes and methods of instances. -/
namespace Y
open PySem PySem.Spec PyProof.Rows L2
/-- what of a class is needed -/
structure ClsA (K : PySem.W.Frag) (C : Addr) (fs : List Str) : Prop where
  c : Cls K C
  n : ∀ f ∈ fs, NoAttr K C f
abbrev FR2 (G : Glo) (F : Hp) (ρ : List Addr) : List (Str × V) → List (Str × Val) → Prop := Paired (fun (p : Str × V) (q : Str × Val) => p.1 = q.1 ∧ VR G F ρ p.2 q.2)
theorem fr_look {G : Glo} {F : Hp} {ρ : List Addr} {f : Str} : ∀ {fv : List (Str × V)} {fs : List (Str × Val)} {x : Val}, FR2 G F ρ fv fs → fs.lookup f = some x → ∃ v, fv.lookup f = some v ∧ VR G F ρ v x
  | [], [], x, .nil, e => by cases e
  | (a, v) :: fv, (b, y) :: fs, x, .cons h t, e => by
    obtain ⟨h1, h2⟩ := h
    have h1 : a = b := h1
    subst h1
    by_cases z : f == a
    · rw [List.lookup_cons, z] at e ⊢
      cases e
      exact ⟨v, rfl, h2⟩
    · have z : (f == a) = false := by simpa using z
      rw [List.lookup_cons, z] at e ⊢
      exact fr_look t e
theorem fr_none {G : Glo} {F : Hp} {ρ : List Addr} {f : Str} : ∀ {fv : List (Str × V)} {fs : List (Str × Val)}, FR2 G F ρ fv fs → fs.lookup f = none → fv.lookup f = none
  | [], [], .nil, _ => rfl
  | (a, v) :: fv, (b, y) :: fs, .cons h t, e => by
    obtain ⟨h1, h2⟩ := h
    have h1 : a = b := h1
    subst h1
    by_cases z : f == a
    · rw [List.lookup_cons, z] at e
      cases e
    · have z : (f == a) = false := by simpa using z
      rw [List.lookup_cons, z] at e ⊢
      exact fr_none t e
theorem fr_put {G : Glo} {F : Hp} {ρ : List Addr} {f : Str} {v : V} {x : Val} (r : VR G F ρ v x) : ∀ {fv : List (Str × V)} {fs : List (Str × Val)}, FR2 G F ρ fv fs → FR2 G F ρ (putF f v fv) (putA f x fs)
  | [], [], .nil => .cons ⟨rfl, r⟩ .nil
  | (a, u) :: fv, (b, y) :: fs, .cons h t => by
    obtain ⟨h1, h2⟩ := h
    have h1 : a = b := h1
    subst h1
    unfold putF putA
    by_cases z : a = f
    · rw [if_pos z, if_pos z]
      exact .cons ⟨rfl, r⟩ t
    · rw [if_neg z, if_neg z]
      exact .cons ⟨rfl, h2⟩ (fr_put r t)
section
variable {X : Cx} {G : Glo} {E : XK}
theorem own_ins {S F : Hp} {ρ : List Addr} {H : Hp} {st : Store} {x : V} {k c : Nat} {fs : List (Str × Val)} (rp : Rep G S F ρ H st) (h : VR G F ρ x (.o k)) (q : st[k]? = some (.ins c fs)) : ∃ a dx fv, x = .ref a ∧ ρ[k]? = some a ∧ H a = some (.ins (G.ic c) dx fv) ∧ FR2 G F ρ fv fs := by
  obtain ⟨a, ha, rfl⟩ := h
  obtain ⟨a', h', q1, q3, q4, dx, fv, q5, q6⟩ := rp.own k _ q
  rw [ha] at q1
  cases q1
  subst q5
  exact ⟨a, dx, fv, rfl, ha, q4, q6⟩
/-- the object behind a value -/
theorem ins_out {α β : Type} {Rl : Hp → List Addr → β → α → Prop} {Q : β → Hp → Prop} {S F : Hp} {ρ : List Addr} {st : Store} {c : Nat} {x : Val} {f : Nat × List (Str × Val) → M α} (o : out G S F ρ Rl Q E (bd (insOf c x) f st)) : ∃ k fs, x = .o k ∧ st[k]? = some (.ins c fs) ∧ out G S F ρ Rl Q E (f (k, fs) st) := by
  cases x with
  | d _ => exact o.elim
  | s _ => exact o.elim
  | o k =>
    unfold bd insOf at o
    cases q : st[k]? with
    | none => simp only [q] at o; exact o.elim
    | some ob =>
      simp only [q] at o
      cases ob with
      | lst _ => exact o.elim
      | gone => exact o.elim
      | tup _ => exact o.elim
      | dct _ => exact o.elim
      | dcf _ => exact o.elim
      | ins d fs =>
        dsimp only at o
        by_cases z : d = c
        · subst z
          rw [if_pos rfl] at o
          exact ⟨k, fs, rfl, q, o⟩
        · rw [if_neg z] at o
          exact o.elim
theorem oget_out {α β : Type} {Rl : Hp → List Addr → β → α → Prop} {Q : β → Hp → Prop} {S F : Hp} {ρ : List Addr} {st : Store} {γ : Type} {w : Option γ} {f : γ → M α} (o : out G S F ρ Rl Q E (bd (oget w) f st)) : ∃ y, w = some y ∧ out G S F ρ Rl Q E (f y st) := by
  cases w with
  | none => exact o.elim
  | some y => exact ⟨y, rfl, o⟩
theorem qe_att {c : Nat} {f : Str} {fl : List Str} {e : Expr} {fo : Y.E} {pos : Pos} (A : ClsA X.K (G.ic c) fl) (hf : f ∈ fl) (ho : PE X e (lE G E fo)) (hb : attributeBase e f X.env (eval e X.env) = eval e X.env := by rfl) : PE X (.Attribute e f pos) (lE G E (eAtt c f fo)) := by
  refine PE.imp (pe_fld ho hb) fun σ H Q ⟨S, F, ρ, loc, st, rp, l, ou⟩ => ⟨S, F, ρ, loc, st, rp, l, out.imp (fun ov H1 h1 => ?_) (out.bd (Rl := VR G) ou)⟩
  obtain ⟨F1, ρ1, a, st1, g1, r1, v1, o1⟩ := h1
  obtain ⟨k, fs, rfl, q, o2⟩ := ins_out o1
  obtain ⟨p, dx, fv, rfl, ha, hh, hv⟩ := own_ins r1 v1 q
  cases w : fs.lookup f with
  | none => dsimp only at o2; rw [w] at o2; exact o2.elim
  | some y =>
    dsimp only at o2
    rw [w] at o2
    obtain ⟨v, e1, e2⟩ := fr_look hv w
    exact ⟨p, G.ic c, dx, fv, v, rfl, hh, A.c, A.n f hf, e1, out.at (v := y) o2 r1 e2⟩
theorem Paired.len {α β : Type} {R : α → β → Prop} : ∀ {xs : List α} {ys : List β}, Paired R xs ys → xs.length = ys.length
  | _, _, .nil => rfl
  | _, _, .cons _ t => by simp [Paired.len t]
/-- o.f as a target -/
theorem pg_fld {X : Cx} {o : Expr} {ta : TE} {f : Str} {pos : Pos} (ho : PE X o ta) : PG X (.Attribute o f pos) (fun v σ H Q => ta σ H fun x H1 => ∃ a C dx fs, x = .ref a ∧ H1 a = some (.ins C dx fs) ∧ Cls X.K C ∧ NoAttr X.K C f ∧ fs.length < 1000 ∧ Q σ (upd H1 a (.ins C dx (putF f v fs)))) := by
  refine ⟨fun pins s σ H v u Q I r h => ?_⟩
  rw [PySem.assign_Attribute]
  refine wpAny_bind (wpAny_holding (thn (ho.run pins s σ H _ I h) fun ov s1 ⟨x, H1, I1, r1, a, C, dx, fs, ex, ea, c, n, l, q1⟩ => ?_))
  subst ex
  obtain rfl : ov = Value.ref a := r1
  refine wpAny_bind (wpAny_standAt (wpAny_bind (wpAny_holding (setattr_ok I1 ea c n l r fun s3 I3 => ?_))))
  exact wpAny_release ⟨σ, _, I3, q1⟩
theorem qg_att {c : Nat} {f : Str} {fl : List Str} {vs : List Nat} {o : Expr} {fo : Y.E} {pos : Pos} (A : ClsA X.K (G.ic c) fl) (hf : f ∈ fl) (ho : PE X o (lE G E fo)) : PG X (.Attribute o f pos) (lG G E vs (gAtt c f fo)) := by
  refine PG.imp (pg_fld ho) fun v σ H Q ⟨S, F, ρ, loc, st, x, rp, l, r, ou⟩ => ⟨S, F, ρ, loc, st, rp, l, out.imp (fun ov H1 h1 => ?_) (out.bd (Rl := VR G) ou)⟩
  obtain ⟨F1, ρ1, a, st1, g1, r1, v1, o1⟩ := h1
  obtain ⟨k, fs, rfl, q, o2⟩ := ins_out o1
  obtain ⟨p, dx, fv, rfl, ha, hh, hv⟩ := own_ins r1 v1 q
  dsimp only at o2
  by_cases hl : fs.length < 900
  · rw [if_pos hl] at o2
    refine ⟨p, G.ic c, dx, fv, rfl, hh, A.c, A.n f hf, by rw [Paired.len hv]; omega, ?_⟩
    have r2 : Rep G S F1 ρ1 (upd H1 p (.ins (G.ic c) dx (putF f v fv))) (st1.set k (.ins c (putA f x fs))) := r1.put' q ha hh trivial ⟨dx, _, rfl, fr_put (r.mono g1) hv⟩
    exact o2 F1 ρ1 _ _ Gr.refl r2 ⟨l.mono g1, rfl⟩
  · rw [if_neg hl] at o2
    exact o2.elim
theorem qe_met {c k j n : Nat} {m : Str} {sem : List Val → M Val} {fl : List Str} {fd : FuncData} {ps : List Str} {ff : Addr} {o e : Expr} {es : List Expr} {fo : Y.E} {fa : Y.A} {apos pos : Pos} {pl : Sem Bool} (A : ClsA X.K (G.ic c) fl) (hm : Meth X.K (G.ic c) m ff) (F : FnOk X.prog X.w X.K X.mg X.base (L2N.CX X.prog X.w) k ff fd ps (spF G (n + 1) sem)) (hr : Room j X.A) (hj : k ≤ j) (hb : Binds X.K fd ps []) (hx : ∀ σ, PassesAt (L2N.CX X.prog X.w) X σ E) (ho : PE X o (lE G E fo)) (ha : PA X (e :: es) (lA G E fa))
    (hst : starEach (e :: es) X.env = (false, eval e X.env) :: starEach es X.env := by rfl) (hpl : (backTo pos (starEach es X.env)).any (·.1) = false := by rfl)
    (ht : eval (.Call (.Attribute o m apos) (e :: es) [] pos) X.env = (do
      let ov ← eval o X.env
      standAt apos.atName
      let (f, first) ← holding [ov] (getMethod ov m pl)
      callWith pos f first (backTo pos (starEach (e :: es) X.env)) (backToKw pos (keywordEach [] X.env))) := by rfl) :
    PE X (.Call (.Attribute o m apos) (e :: es) [] pos) (lE G E (eMet c m (fixN (n + 1) sem) fo fa)) := by
  refine PE.imp (pe_meth (dvs := []) ho A.c hm F (hr.mono hj) hb .nil (fun pins σ H s e s' I q => hx σ pins H s e s' I q) ha hst hpl ht) fun σ H Q ⟨S, F', ρ, loc, st, rp, l, ou⟩ => ⟨S, F', ρ, loc, st, rp, l, out.imp (fun ov H1 h1 => ?_) (out.bd (Rl := VR G) ou)⟩
  obtain ⟨F1, ρ1, a, st1, g1, r1, v1, o1⟩ := h1
  obtain ⟨k, fs, rfl, q, o2⟩ := ins_out o1
  obtain ⟨p, dx, fv, rfl, hp, hh, hv⟩ := own_ins r1 v1 q
  dsimp only at o2
  cases w : fs.lookup m with
  | some _ => rw [w] at o2; exact o2.elim
  | none =>
    rw [w] at o2
    refine ⟨p, dx, fv, rfl, hh, fr_none hv w, S, F1, ρ1, loc, st1, r1, l.mono g1, out.imp (fun us H2 h2 => ?_) (out.bd (Rl := VRs G) o2)⟩
    obtain ⟨F2, ρ2, as, st2, g2, r2, v2, o3⟩ := h2
    unfold fixN at o3
    dsimp only at o3
    by_cases hl : (Val.o k :: as).length = n + 1
    · rw [if_pos hl] at o3
      exact ⟨S, F2, ρ2, st2, .o k :: as, r2, .cons (v1.mono g2) (by rw [List.append_nil]; exact v2), hl, o3⟩
    · rw [if_neg hl] at o3
      exact o3.elim
theorem qe_met0 {c k j : Nat} {m : Str} {sem : List Val → M Val} {fl : List Str} {fd : FuncData} {ps : List Str} {ff : Addr} {o : Expr} {fo : Y.E} {apos pos : Pos} {pl : Sem Bool} (A : ClsA X.K (G.ic c) fl) (hm : Meth X.K (G.ic c) m ff) (F : FnOk X.prog X.w X.K X.mg X.base (L2N.CX X.prog X.w) k ff fd ps (spF G 1 sem)) (hr : Room j X.A) (hj : k ≤ j) (hb : Binds X.K fd ps []) (hx : ∀ σ, PassesAt (L2N.CX X.prog X.w) X σ E) (ho : PE X o (lE G E fo))
    (ht : eval (.Call (.Attribute o m apos) [] [] pos) X.env = (do
      let ov ← eval o X.env
      standAt apos.atName
      let (f, first) ← holding [ov] (getMethod ov m pl)
      callWith pos f first (backTo pos (starEach [] X.env)) (backToKw pos (keywordEach [] X.env))) := by rfl) :
    PE X (.Call (.Attribute o m apos) [] [] pos) (lE G E (eMet c m (fixN 1 sem) fo aN)) := by
  refine PE.imp (pe_meth0 (dvs := []) ho A.c hm F (hr.mono hj) hb .nil (fun pins σ H s e s' I q => hx σ pins H s e s' I q) ht) fun σ H Q ⟨S, F', ρ, loc, st, rp, l, ou⟩ => ⟨S, F', ρ, loc, st, rp, l, out.imp (fun ov H1 h1 => ?_) (out.bd (Rl := VR G) ou)⟩
  obtain ⟨F1, ρ1, a, st1, g1, r1, v1, o1⟩ := h1
  obtain ⟨k, fs, rfl, q, o2⟩ := ins_out o1
  obtain ⟨p, dx, fv, rfl, hp, hh, hv⟩ := own_ins r1 v1 q
  dsimp only at o2
  cases w : fs.lookup m with
  | some _ => rw [w] at o2; exact o2.elim
  | none =>
    rw [w] at o2
    exact ⟨p, dx, fv, rfl, hh, fr_none hv w, S, F1, ρ1, st1, [.o k], r1, .cons v1 .nil, rfl, o2⟩
theorem fr_same {G : Glo} {F : Hp} {ρ : List Addr} {f : Str} {v : V} {x : Val} (r : VR G F ρ v x) : ∀ {fv : List (Str × V)} {fs : List (Str × Val)}, FR2 G F ρ fv fs → fv.lookup f = some v → FR2 G F ρ fv (putA f x fs)
  | [], [], .nil, e => by cases e
  | (a, u) :: fv, (b, y) :: fs, .cons h t, e => by
    obtain ⟨h1, h2⟩ := h
    have h1 : a = b := h1
    subst h1
    unfold putA
    by_cases z : a = f
    · subst z
      rw [List.lookup_cons, beq_self_eq_true] at e
      cases e
      rw [if_pos rfl]
      exact .cons ⟨rfl, r⟩ t
    · have z' : (f == a) = false := by simpa using Ne.symm z
      rw [List.lookup_cons, z'] at e
      rw [if_neg z]
      exact .cons ⟨rfl, h2⟩ (fr_same r t e)
theorem qe_atf {c : Nat} {f : Str} {fl : List Str} {e : Expr} {fo : Y.E} {pos : Pos} (A : ClsA X.K (G.ic c) fl) (hf : f ∈ fl) (ho : PE X e (lE G E fo)) (hb : attributeBase e f X.env (eval e X.env) = eval e X.env := by rfl) : PE X (.Attribute e f pos) (lE G E (eAtF c f fo)) := by
  refine PE.imp (pe_fld ho hb) fun σ H Q ⟨S, F, ρ, loc, st, rp, l, ou⟩ => ⟨S, F, ρ, loc, st, rp, l, out.imp (fun ov H1 h1 => ?_) (out.bd (Rl := VR G) ou)⟩
  obtain ⟨F1, ρ1, a, st1, g1, r1, v1, o1⟩ := h1
  obtain ⟨k, fs, rfl, q, o2⟩ := ins_out o1
  obtain ⟨p, dx, fv, rfl, ha, hh, hv⟩ := own_ins r1 v1 q
  obtain ⟨y, w, o3⟩ := oget_out o2
  dsimp only at w o3
  obtain ⟨v, e1, e2⟩ := fr_look hv w
  refine ⟨p, G.ic c, dx, fv, v, rfl, hh, A.c, A.n f hf, e1, ?_⟩
  cases y with
  | d x => exact out.at (v := Val.d x) o3 r1 e2
  | s ns => exact out.at (v := Val.s ns) o3 r1 e2
  | o j =>
    dsimp only at o3
    cases q2 : st1[j]? with
    | none => simp only [q2] at o3; exact o3.elim
    | some ob =>
      simp only [q2] at o3
      cases ob with
      | ins _ _ => exact o3.elim
      | gone => exact o3.elim
      | tup _ => exact o3.elim
      | dct _ => exact o3.elim
      | dcf _ => exact o3.elim
      | lst xs =>
        dsimp only at o3
        cases q3 : toDs xs with
        | none => rw [q3] at o3; exact o3.elim
        | some ds =>
          rw [q3] at o3
          dsimp only at o3
          by_cases hl : ds.length ≤ lim ∧ j ≠ k
          · rw [if_pos hl] at o3
            obtain ⟨b, us, rfl, hb2, hh2, hu⟩ := own_lst r1 e2 q2
            obtain ⟨r2, g2⟩ := r1.freeze q2 hb2 hh2
            have hu' := toDs_rel hu q3
            have vr : VR G (upd F1 b (.lst us)) ρ1 (.ref b) (.d (.list ds)) := Dt.lst upd_same (hu'.mono g2.f)
            have hv2 : FR2 G (upd F1 b (.lst us)) ρ1 fv (putA f (.d (.list ds)) fs) := fr_same vr (Paired.mapP hv fun _ _ q => ⟨q.1, q.2.mono g2⟩) e1
            have q' : (st1.set j .gone)[k]? = some (.ins c fs) := by rw [List.getElem?_set_ne hl.2]; exact q
            have r3 := r2.put' q' ha hh trivial (ob' := .ins c (putA f (.d (.list ds)) fs)) ⟨dx, fv, rfl, hv2⟩
            have eH : upd H1 p (.ins (G.ic c) dx fv) = H1 := by
              funext z
              by_cases hz : z = p
              · subst hz; rw [upd_same, hh]
              · rw [upd_ne hz]
            rw [eH] at r3
            exact o3 _ ρ1 H1 (.ref b) g2 r3 vr
          · rw [if_neg hl] at o3
            exact o3.elim
theorem bAbs_snd : BSnd G (fun xs H Q => ∃ i, xs = [.int i] ∧ Q (.int (if i < 0 then -i else i)) H) bAbs := by
  intro S F ρ H st xs as Q E rp hx o
  unfold bAbs at o
  split at o
  · rename_i i
    cases hx with
    | cons h hr =>
      cases hr
      rw [dt_int h]
      exact ⟨i, rfl, out.at (v := vI (if i < 0 then -i else i)) o rp (.int _)⟩
  · exact o.elim
end
/-- a method that keeps its plain reading -/
structure MetOk (P : Program) (w : World) (mg : Str → Option Value) (base : Heap) (G : Glo) (k c : Nat) (m : Str) (n : Nat) (sem : List Val → M Val) : Prop where
  ex : ∃ (f : Addr) (fd : FuncData) (ps : List Str), FnOk P w G.K mg base (L2N.CX P w) k f fd ps (spF G (n + 1) sem) ∧ Meth G.K (G.ic c) m f ∧ Binds G.K fd ps []
section
variable {P : Program} {w : World} {mg : Str → Option Value} {base : Heap} {G : Glo}
theorem met_ok {m qual : Str} {st : Stmt} {N ps : List Str} {k n c : Nat} {b : Y.S} {f : Addr} {fd : FuncData} (Fn : Fun G.K m qual st f fd) (M : Meth G.K (G.ic c) m f) (hbd : Binds G.K fd ps []) (Sc : FnScope N ps (defScope st)) (hn : n + 1 = ps.length) (hN : n + 1 ≤ N.length)
    (hb : ∀ (f : Addr) (cdv : Value) (A : Around) (outer : List Env) (s : Shared) (H : Hp) (E : XK), Room k (A.deeper (envOfC qual (defScope st) s.heap.objs.size f cdv)) → PSs (cxOf (L2N.CX P w) P w G.K mg base N qual (defScope st) f cdv A outer s H E) (defBody st) (lS G E b)) :
    MetOk P w mg base G (k + 1) c m n (runF N.length b) := ⟨f, fd, ps, fn_ok Fn Sc hn hN fun cdv A outer s H E hr => hb f cdv A outer s H E hr, M, hbd⟩
end
section
variable {X : Cx} {G : Glo} {E : XK}
theorem qe_metD {c k j n : Nat} {m : Str} {sem : List Val → M Val} {fl : List Str} {o e : Expr} {es : List Expr} {fo : Y.E} {fa : Y.A} {apos pos : Pos} {pl : Sem Bool} (A : ClsA X.K (G.ic c) fl) (D : MetOk X.prog X.w X.mg X.base G k c m n sem) (hr : Room j X.A) (hj : k ≤ j) (hx : ∀ σ, PassesAt (L2N.CX X.prog X.w) X σ E) (ho : PE X o (lE G E fo)) (ha : PA X (e :: es) (lA G E fa)) (hK : X.K = G.K := by rfl)
    (hst : starEach (e :: es) X.env = (false, eval e X.env) :: starEach es X.env := by rfl) (hpl : (backTo pos (starEach es X.env)).any (·.1) = false := by rfl)
    (ht : eval (.Call (.Attribute o m apos) (e :: es) [] pos) X.env = (do
      let ov ← eval o X.env
      standAt apos.atName
      let (f, first) ← holding [ov] (getMethod ov m pl)
      callWith pos f first (backTo pos (starEach (e :: es) X.env)) (backToKw pos (keywordEach [] X.env))) := by rfl) :
    PE X (.Call (.Attribute o m apos) (e :: es) [] pos) (lE G E (eMet c m (fixN (n + 1) sem) fo fa)) := by
  obtain ⟨f, fd, ps, Fo, M, hb⟩ := D.ex
  rw [← hK] at Fo M hb
  exact qe_met A M Fo hr hj hb hx ho ha hst hpl ht
theorem qe_metD0 {c k j : Nat} {m : Str} {sem : List Val → M Val} {fl : List Str} {o : Expr} {fo : Y.E} {apos pos : Pos} {pl : Sem Bool} (A : ClsA X.K (G.ic c) fl) (D : MetOk X.prog X.w X.mg X.base G k c m 0 sem) (hr : Room j X.A) (hj : k ≤ j) (hx : ∀ σ, PassesAt (L2N.CX X.prog X.w) X σ E) (ho : PE X o (lE G E fo)) (hK : X.K = G.K := by rfl)
    (ht : eval (.Call (.Attribute o m apos) [] [] pos) X.env = (do
      let ov ← eval o X.env
      standAt apos.atName
      let (f, first) ← holding [ov] (getMethod ov m pl)
      callWith pos f first (backTo pos (starEach [] X.env)) (backToKw pos (keywordEach [] X.env))) := by rfl) :
    PE X (.Call (.Attribute o m apos) [] [] pos) (lE G E (eMet c m (fixN 1 sem) fo aN)) := by
  obtain ⟨f, fd, ps, Fo, M, hb⟩ := D.ex
  rw [← hK] at Fo M hb
  exact qe_met0 A M Fo hr hj hb hx ho ht
end
end Y
end
section
set_option Elab.async false
set_option linter.all false
/-! Su: copies of own lists; members of lists and tuples. -/
namespace Y
open PySem (PyData Str)
/-- list(x): a list that nobody changes; x may be an own list -/
def bListO : List Val → M Val
  | [.o k] => fun st => match st[k]? with
    | some (.lst xs) => (match toDs xs with
      | some ds => .ok (.d (.list ds)) st
      | none => .bad)
    | _ => .bad
  | vs => bList vs
/-- list(x): a new list that may change -/
def bListN : List Val → M Val
  | [.o k] => fun st => match st[k]? with
    | some (.lst xs) => .ok (.o st.length) (st ++ [.lst xs])
    | _ => .bad
  | _ => die
def flatD : D → Bool
  | .none => true
  | .bool _ => true
  | .int _ => true
  | .str _ => true
  | _ => false
def fEq : D → D → Bool
  | .none, .none => true
  | .bool a, .bool b => a == b
  | .bool a, .int b => (if a then 1 else 0) == b
  | .int a, .bool b => a == (if b then 1 else 0)
  | .int a, .int b => a == b
  | .str a, .str b => a == b
  | _, _ => false
def seqD : Val → Option (List D)
  | .d (.list ds) => some ds
  | .d (.tuple ds) => some ds
  | _ => none
def bInF (neg : Bool) (x y : Val) : M Val := match x, seqD y with
  | .d a, some ds => if flatD a = true ∧ ds.all flatD = true then ret (vB (if neg then !(ds.any fun b => fEq b a) else ds.any fun b => fEq b a)) else die
  | _, _ => die
def bIn : Val → Val → M Val := bInF false
def bNIn : Val → Val → M Val := bInF true
end Y
end
section
set_option Elab.async false
set_option Elab.async false
set_option linter.all false
set_option maxRecDepth 100000
set_option maxHeartbeats 2000000
/-! Hou: copies of own lists; members of lists and tuples. -/
namespace Y
open PySem PySem.Spec PyProof.Rows L2
section
variable {X : Cx} {G : Glo}
theorem bListO_snd : BSnd G (fun xs H Q => ∃ p ys, xs = [.ref p] ∧ (SqL G.K H p ys ∨ SqT G.K H p ys) ∧ ∀ l, H l = none → Q (.ref l) (upd H l (.lst ys))) bListO := by
  intro S F ρ H st xs as Q E rp hx o
  unfold bListO at o
  split at o
  · rename_i k
    cases hx with
    | cons h hr =>
      cases hr
      cases q : st[k]? with
      | none => simp only [q] at o; exact o.elim
      | some ob =>
        simp only [q] at o
        cases ob with
        | ins _ _ => exact o.elim
        | gone => exact o.elim
        | tup _ => exact o.elim
        | dct _ => exact o.elim
        | dcf _ => exact o.elim
        | lst ys =>
          dsimp only at o
          obtain ⟨a, vs, rfl, ha, hh, hv⟩ := own_lst rp h q
          cases q2 : toDs ys with
          | none => rw [q2] at o; exact o.elim
          | some ds =>
            rw [q2] at o
            exact ⟨a, vs, rfl, .inl (SqL.of hh), fun p hp => out_lst rp (toDs_rel hv q2) o p hp⟩
  · exact bList_snd S F ρ H st xs _ Q E rp hx o
theorem bListN_snd : BSnd G (fun xs H Q => ∃ p ys, xs = [.ref p] ∧ (SqL G.K H p ys ∨ SqT G.K H p ys) ∧ ∀ l, H l = none → Q (.ref l) (upd H l (.lst ys))) bListN := by
  intro S F ρ H st xs as Q E rp hx o
  unfold bListN at o
  split at o
  · rename_i k
    cases hx with
    | cons h hr =>
      cases hr
      cases q : st[k]? with
      | none => simp only [q] at o; exact o.elim
      | some ob =>
        simp only [q] at o
        cases ob with
        | ins _ _ => exact o.elim
        | gone => exact o.elim
        | tup _ => exact o.elim
        | dct _ => exact o.elim
        | dcf _ => exact o.elim
        | lst ys =>
          dsimp only at o
          obtain ⟨a, vs, rfl, ha, hh, hv⟩ := own_lst rp h q
          exact ⟨a, vs, rfl, .inl (SqL.of hh), fun p hp => out_own rp hv o p hp⟩
  · exact o.elim
theorem flat_rel {F : Hp} {v : V} {d : D} (h : Dt F v d) (hf : flatD d = true) : flatV v = true := by
  cases h with
  | non => rfl
  | bl _ => rfl
  | int _ => rfl
  | str _ => rfl
  | lst _ _ => cases hf
  | tup _ _ => cases hf
theorem flats_rel {F : Hp} : ∀ {vs : List V} {ds : List D}, DtA F vs ds → ds.all flatD = true → vs.all flatV = true
  | _, _, .nil, _ => rfl
  | _, _, .cons h k, hf => by
    rw [List.all_cons, Bool.and_eq_true] at hf ⊢
    exact ⟨flat_rel h hf.1, flats_rel k hf.2⟩
theorem eq_rel {F : Hp} {v u : V} {d e : D} (h : Dt F v d) (k : Dt F u e) (hf : flatD d = true) (hg : flatD e = true) : eqV v u = fEq d e := by
  cases h with
  | non => cases k <;> first | rfl | cases hg
  | bl a => cases k <;> first | rfl | cases hg
  | int a => cases k <;> first | rfl | cases hg
  | str a => cases k <;> first | rfl | cases hg
  | lst _ _ => cases hf
  | tup _ _ => cases hf
theorem any_rel {F : Hp} {x : V} {d : D} (hx : Dt F x d) (hd : flatD d = true) : ∀ {vs : List V} {ds : List D}, DtA F vs ds → ds.all flatD = true → inV x vs = ds.any fun b => fEq b d
  | _, _, .nil, _ => rfl
  | _, _, .cons h k, hf => by
    rw [List.all_cons, Bool.and_eq_true] at hf
    have := any_rel hx hd k hf.2
    unfold inV at this ⊢
    rw [List.any_cons, List.any_cons, eq_rel h hx hf.1 hd, this]
theorem bInF_snd (neg : Bool) : OSnd G (rIn G.K neg) (bInF neg) := by
  intro S F ρ H st x y a b Q E rp hx hy o
  cases a with
  | o _ => exact o.elim
  | s _ => exact o.elim
  | d d =>
    unfold bInF at o
    cases hs : seqD b with
    | none => rw [hs] at o; exact o.elim
    | some ds =>
      rw [hs] at o
      dsimp only at o
      by_cases hc : flatD d = true ∧ ds.all flatD = true
      · rw [if_pos hc] at o
        have key : ∀ p us, y = .ref p → (SqL G.K H p us ∨ SqT G.K H p us) → DtA F us ds → rIn G.K neg x y H Q := fun p us e hq hu => by
          refine ⟨p, us, e, hq, flat_rel hx hc.1, flats_rel hu hc.2, ?_⟩
          have e2 := any_rel hx hc.1 hu hc.2
          rw [e2]
          exact out.at (v := Val.d (.bool _)) (u := V.bl _) o rp (.bl _)
        cases b with
        | d z =>
          cases z with
          | list es =>
            have e : es = ds := Option.some.inj hs
            subst e
            obtain ⟨a, us, e, ha, hu⟩ := dt_list hy
            exact key a us e (.inl (SqL.of (rp.ex _ _ ha))) hu
          | tuple es =>
            have e : es = ds := Option.some.inj hs
            subst e
            obtain ⟨a, us, e, ha, hu⟩ := dt_tup hy
            exact key a us e (.inr (SqT.of (rp.ex _ _ ha))) hu
          | _ => cases hs
        | o _ => cases hs
        | s _ => cases hs
      · rw [if_neg hc] at o
        exact o.elim
theorem bIn_snd : OSnd G (rIn G.K false) bIn := bInF_snd false
theorem bNIn_snd : OSnd G (rIn G.K true) bNIn := bInF_snd true
end
end Y
end
section
set_option Elab.async false
set_option linter.all false
/-! St: tuples that hold things that may change; l.pop(). -/
namespace Y
open PySem (PyData Str)
/-- a tuple whose items may be objects of the store -/
def bTupN (vs : List Val) : M Val := fun st => if vs.length ≤ lim then .ok (.o st.length) (st ++ [.tup vs]) else .bad
/-- a, b, .. = such a tuple, or one of data -/
def gTO (n : Nat) (gs : Gs) : G := fun v loc => match v with
  | .o k => fun st => match st[k]? with
    | some (.tup xs) => if xs.length = n then gs xs loc st else .bad
    | _ => .bad
  | v => gT n gs v loc
/-- o.pop() -/
def popS (k : Nat) : M Val := fun st => match st[k]? with
  | some (.lst xs) => (match xs[xs.length - 1]? with
    | some v => .ok v (st.set k (.lst xs.dropLast))
    | none => .bad)
  | _ => .bad
def ePop (o : E) : E := fun loc => bd (o loc) fun x => bd (chkL x) popS
/-- an own list + a list: a new own list -/
def bAddN : Val → Val → M Val
  | .o k, .d (.list ys) => fun st => match st[k]? with
    | some (.lst xs) => if xs.length + ys.length ≤ lim then .ok (.o st.length) (st ++ [.lst (xs ++ ys.map .d)]) else .bad
    | _ => .bad
  | _, _ => die
end Y
namespace Y
open PySem (PyData Str)
/-- an own list == [] -/
def bEqE : Val → Val → M Val
  | .o k, .d (.list []) => fun st => match st[k]? with
    | some (.lst xs) => .ok (vB xs.isEmpty) st
    | _ => .bad
  | _, _ => die
end Y
end
section
set_option Elab.async false
set_option Elab.async false
set_option linter.all false
set_option maxRecDepth 100000
set_option maxHeartbeats 2000000
/-! Tpo: tuples that hold things that may change; l.pop(). -/
namespace Y
open PySem PySem.Spec PyProof.Rows L2
section
variable {X : Cx} {G : Glo} {E : XK} {vs : List Nat}
theorem qe_tupN {es : List Expr} {fa : Y.A} {x1 : Nat} {pos : Pos} (h : PA X es (lA G E fa)) : PE X (.Tuple es x1 pos) (lE G E (eB bTupN fa)) := by
  refine PE.imp (pe_tup h) fun σ H Q ⟨S, F, ρ, loc, st, rp, l, o⟩ => ⟨S, F, ρ, loc, st, rp, l, out.imp (fun x H1 h1 => ?_) (out.bd (Rl := VRs G) o)⟩
  obtain ⟨F1, ρ1, a, st1, g1, r1, v1, o1⟩ := h1
  unfold bTupN at o1
  split at o1
  · rename_i hl
    refine ⟨sz (by rw [v1.length]; exact hl), fun p hp => ?_⟩
    obtain ⟨r', g⟩ := r1.push (ob := .tup a) hp ⟨x, rfl, v1⟩
    refine o1 _ _ _ _ g r' ⟨p, ?_, rfl⟩
    rw [List.getElem?_append_right (by rw [r1.len]; exact Nat.le_refl _), r1.len]
    simp
  · exact o1.elim
theorem qg_tupO {es : List Expr} {k n : Nat} {gs : Y.Gs} {pos : Pos} (hc : X.calm = true) (h : PGs X es (lGs G E vs gs)) (hl : (assignEach es X.env).length = n := by rfl) (hf : List.findIdx? (fun x => x.fst) (assignEach es X.env) = none := by rfl) : PG X (.Tuple es k pos) (lG G E vs (gTO n gs)) := by
  have hd := qg_tup (k := k) (pos := pos) hc h hl hf
  refine PG.imp (pg_tup hc h hl hf) fun v σ H Q ⟨S, F, ρ, loc, st, y, rp, l, r, o⟩ => ?_
  cases y with
  | s _ => exact o.elim
  | o j =>
    have o : out G S F ρ (TR G vs σ) Q E ((match st[j]? with | some (.tup xs) => if xs.length = n then gs xs loc st else .bad | _ => .bad)) := o
    cases q : st[j]? with
    | none => rw [q] at o; exact o.elim
    | some ob =>
      rw [q] at o
      cases ob with
      | ins _ _ => exact o.elim
      | gone => exact o.elim
      | lst _ => exact o.elim
      | dct _ => exact o.elim
      | dcf _ => exact o.elim
      | tup xs =>
        dsimp only at o
        by_cases e : xs.length = n
        · rw [if_pos e] at o
          obtain ⟨a, ha, rfl⟩ := r
          obtain ⟨a', h', e1, e2, e3, us, e4, hu⟩ := rp.own j _ q
          rw [ha] at e1
          cases e1
          subst e4
          exact ⟨a, us, rfl, SqT.of e3, by rw [hu.length]; exact e, S, F, ρ, loc, st, xs, rp, l, hu, o⟩
        · rw [if_neg e] at o
          exact o.elim
  | d x =>
    cases x with
    | tuple ds =>
      cases (show Dt F v (.tuple ds) from r) with
      | @tup a xs ds ha hd =>
        have o' : out G S F ρ (TR G vs σ) Q E ((if ds.length = n then gs (ds.map .d) loc else die) st) := o
        by_cases e : ds.length = n
        · rw [if_pos e] at o'
          exact ⟨a, xs, rfl, SqT.of (rp.ex _ _ ha), by rw [hd.length]; exact e, S, F, ρ, loc, st, ds.map .d, rp, l, dt_vrs hd, o'⟩
        · rw [if_neg e] at o'
          exact o'.elim
    | none => exact o.elim
    | bool _ => exact o.elim
    | int _ => exact o.elim
    | str _ => exact o.elim
    | list _ => exact o.elim
    | dict _ => exact o.elim
theorem dropLast_rel {F : Hp} {ρ : List Addr} : ∀ {us : List V} {xs : List Val}, VRs G F ρ us xs → VRs G F ρ us.dropLast xs.dropLast
  | _, _, .nil => .nil
  | _, _, .cons h .nil => .nil
  | _, _, .cons h (.cons h2 k) => .cons h (dropLast_rel (.cons h2 k))
theorem get_rel {F : Hp} {ρ : List Addr} : ∀ {us : List V} {xs : List Val} {i : Nat} {x : Val}, VRs G F ρ us xs → xs[i]? = some x → ∃ u, us[i]? = some u ∧ VR G F ρ u x
  | _, _, _, _, .nil, e => by simp at e
  | _, _, 0, _, .cons h _, e => by simp at e; subst e; exact ⟨_, rfl, h⟩
  | _, _, i + 1, x, .cons _ k, e => by
    obtain ⟨u, h1, h2⟩ := get_rel (i := i) (x := x) k (by simpa using e)
    exact ⟨u, by simpa using h1, h2⟩
theorem qe_pop {o : Expr} {fo : Y.E} {apos cpos : Pos} (ho : PE X o (lE G E fo)) (hbase : attributeBase o "pop" X.env (eval o X.env) = eval o X.env := by rfl) (hline : (apos.endLine == cpos.line) = true := by rfl) : PE X (.Call (.Attribute o "pop" apos) [] [] cpos) (lE G E (ePop fo)) := by
  refine PE.imp (pe_bm0 PySem.F.plainAttrs_list PySem.F.slot_list_pop PySem.F.type_list_pop mt_pop ho hbase hline) fun σ H Q ⟨S, F, ρ, loc, st, rp, l, ou⟩ => ⟨S, F, ρ, loc, st, rp, l, out.imp (fun ov H1 h1 => ?_) (out.bd (Rl := VR G) ou)⟩
  obtain ⟨F1, ρ1, a, st1, g1, r1, v1, o1⟩ := h1
  cases a with
  | d _ => exact o1.elim
  | s _ => exact o1.elim
  | o k =>
    have o1 : out G S F1 ρ1 (VR G) Q E (bd (chkL (.o k)) popS st1) := o1
    unfold chkL at o1
    unfold bd at o1
    cases q : st1[k]? with
    | none => simp only [q] at o1; exact o1.elim
    | some ob =>
      simp only [q] at o1
      cases ob with
      | ins _ _ => exact o1.elim
      | gone => exact o1.elim
      | tup _ => exact o1.elim
      | dct _ => exact o1.elim
      | dcf _ => exact o1.elim
      | lst ys =>
        dsimp only at o1
        obtain ⟨a, us, rfl, hk, hh, hv⟩ := own_lst r1 v1 q
        refine ⟨.inl ⟨rfl, us, SqL.of hh⟩, ?_⟩
        unfold popS at o1
        rw [q] at o1
        dsimp only at o1
        cases q2 : ys[ys.length - 1]? with
        | none => rw [q2] at o1; exact o1.elim
        | some y =>
          rw [q2] at o1
          dsimp only at o1
          obtain ⟨u, hu, ru⟩ := get_rel hv q2
          refine ⟨a, us, u, rfl, rfl, hh, by rw [hv.length]; exact hu, ?_⟩
          exact out.go (v := y) o1 Gr.refl (r1.put' q hk hh trivial ⟨us.dropLast, rfl, dropLast_rel hv⟩) ru
theorem vrs_app {F : Hp} {ρ : List Addr} : ∀ {us ws : List V} {xs ys : List Val}, VRs G F ρ us xs → VRs G F ρ ws ys → VRs G F ρ (us ++ ws) (xs ++ ys)
  | _, _, _, _, .nil, k => k
  | _, _, _, _, .cons h r, k => .cons h (vrs_app r k)
theorem bAddN_snd : OSnd G (rAddA G.K) bAddN := by
  intro S F ρ H st x y a b Q E rp hx hy o
  unfold bAddN at o
  split at o
  · rename_i k ys
    obtain ⟨p, hp, rfl⟩ := hx
    obtain ⟨b, ws, rfl, hb, hw⟩ := dt_list hy
    cases q : st[k]? with
    | none => rw [q] at o; exact o.elim
    | some ob =>
      rw [q] at o
      cases ob with
      | ins _ _ => exact o.elim
      | gone => exact o.elim
      | tup _ => exact o.elim
      | dct _ => exact o.elim
      | dcf _ => exact o.elim
      | lst xs =>
        dsimp only at o
        obtain ⟨p', h', e1, e2, e3, us, e4, hu⟩ := rp.own k _ q
        rw [hp] at e1
        cases e1
        subst e4
        by_cases hl : xs.length + ys.length ≤ lim
        · rw [if_pos hl] at o
          exact .inr (.inl ⟨p, b, us, ws, rfl, rfl, e3, rp.ex _ _ hb, sz (by rw [hu.length, hw.length]; exact hl), fun r hr => out_own rp (vrs_app hu (vrs_of_dt hw)) o r hr⟩)
        · rw [if_neg hl] at o
          exact o.elim
  · exact o.elim
/-- x == [], x a list -/
def rEqE (K : PySem.W.Frag) : R2 := fun x y H Q => ∃ a b us, x = V.ref a ∧ y = V.ref b ∧ SqL K H a us ∧ SqL K H b [] ∧ Q (.bl us.isEmpty) H
theorem op_eqE (hu : X.A.units + 64 < cLine) : OpR X (compareOp .Eq) (rEqE X.K) := by
  intro pins s σ H x y v u Q I rx ry h
  obtain ⟨a, b, us, rfl, rfl, h1, h2, q⟩ := h
  cases rx
  cases ry
  obtain ⟨its, r, pl, hz⟩ := I.list h1
  obtain ⟨its2, r2, pl2, hz2⟩ := I.list h2
  have e2 : its2 = [] := by
    have := r2.length
    cases its2 with
    | nil => rfl
    | cons _ _ => simp at this
  subst e2
  cases us with
  | nil =>
    have e1 : its = [] := by
      have := r.length
      cases its with
      | nil => rfl
      | cons _ _ => simp at this
    subst e1
    exact SeqAt.eq_listAt (e := fun _ => true) pl.isList pl2.isList rfl (by omega) (fun j h1 _ => absurd h1 (by simp)) ⟨.bl true, H, I, rfl, q⟩
  | cons u0 us =>
    have hl := r.length
    exact SeqAt.eq_list_lengthsAt pl.isList pl2.isList (by simp [← hl]) (by omega) ⟨.bl false, H, I, rfl, q⟩
theorem bEqE_snd : OSnd G (rEqE G.K) bEqE := by
  intro S F ρ H st x y a b Q E rp hx hy o
  unfold bEqE at o
  split at o
  · rename_i k
    obtain ⟨b, ws, rfl, hb, hw⟩ := dt_list hy
    cases hw
    cases q : st[k]? with
    | none => rw [q] at o; exact o.elim
    | some ob =>
      rw [q] at o
      cases ob with
      | ins _ _ => exact o.elim
      | gone => exact o.elim
      | tup _ => exact o.elim
      | dct _ => exact o.elim
      | dcf _ => exact o.elim
      | lst xs =>
        dsimp only at o
        obtain ⟨a, us, rfl, hk, hh, hv⟩ := own_lst rp hx q
        refine ⟨a, b, us, rfl, rfl, SqL.of hh, SqL.of (rp.ex _ _ hb), ?_⟩
        have e : us.isEmpty = xs.isEmpty := by
          cases hv <;> rfl
        rw [e]
        exact out.at (v := Val.d (.bool _)) (u := V.bl _) o rp (.bl _)
  · exact o.elim
end
end Y
end
section
set_option Elab.async false
set_option linter.all false
namespace Y
open PySem (PyData Str)
def maxI : List Int → Option Int
  | [] => none
  | x :: r => some (r.foldl max x)
def bMaxS : List Val → M Val
  | [v] => bd (seqI v) fun ns => bd (oget (maxI ns)) fun m => ret (vI m)
  | _ => die
theorem maxI_spec : ∀ (r : List Int) (x : Int), r.foldl max x ∈ x :: r ∧ ∀ y ∈ x :: r, y ≤ r.foldl max x
  | [], x => by simp
  | y :: r, x => by
    obtain ⟨h1, h2⟩ := maxI_spec r (max x y)
    refine ⟨?_, fun z hz => ?_⟩
    · show r.foldl max (max x y) ∈ _
      rcases List.mem_cons.mp h1 with e | e
      · rw [e]
        rcases Int.le_total x y with h | h
        · rw [Int.max_eq_right h]; simp
        · rw [Int.max_eq_left h]; simp
      · simp [e]
    · show z ≤ r.foldl max (max x y)
      have h0 := h2 (max x y) (by simp)
      rcases List.mem_cons.mp hz with rfl | hz
      · exact Int.le_trans (Int.le_max_left _ _) h0
      · rcases List.mem_cons.mp hz with rfl | hz
        · exact Int.le_trans (Int.le_max_right _ _) h0
        · exact h2 z (List.mem_cons_of_mem _ hz)
/-- l.count(x), by == of data -/
def bCntD (ds : List D) : Val → M Val
  | .d y => if PyData.plainAll ds = true ∧ y.plain = true ∧ PyData.depthAll ds ≤ 60 then ret (vI ((ds.countP fun z => PyData.eqv z y : Nat) : Int)) else die
  | _ => die
def eCntD (o e : E) : E := fun loc => bd (o loc) fun x => bd (chkD x) fun ds => bd (e loc) fun y => bCntD ds y
end Y
end
section
set_option Elab.async false
set_option Elab.async false
set_option linter.all false
set_option maxRecDepth 100000
set_option maxHeartbeats 2000000
/-! Tmx: the greatest of a list or a tuple of whole numbers. -/
namespace Y
open PySem PySem.Spec PyProof.Rows L2
section
variable {X : Cx} {G : Glo}
def rMaxS (K : PySem.W.Frag) : List V → Hp → VK → Prop := fun vs H Q => ∃ (a : Addr) (ns : List Int), vs = [V.ref a] ∧ (SqL K H a (ns.map V.int) ∨ SqT K H a (ns.map V.int)) ∧ 0 < ns.length ∧ ∀ m, m ∈ ns → (∀ y, y ∈ ns → y ≤ m) → Q (.int m) H
theorem max_tup {prog : Program} {w : World} {A : Around} {E : Value → Shared → Prop} {s : Shared} {t : Addr} {xs : Array (Int × Tok)} {Q : Value → Shared → Prop} (hh : A.handled = none) (ht : s.heap.IsTuple t (intItems xs)) (hne : 0 < xs.size)
    (h : ∀ v h' tk, (intItems xs)[argBest (fun i j => decide (numAt xs i > numAt xs j)) (xs.size - 1)]? = some v → (∀ b o, s.heap.get? b = some o → h'.get? b = some o) → Q v { s with heap := h', toks := tk }) :
    wpAny (model prog w) A (call (.builtin "max") [.ref t]) Q E s := by
  obtain ⟨o, ho, hc, n, hd⟩ := id ht
  have hnt : t ≠ s.heap.objs.size := Nat.ne_of_lt (Heap.lt_size ho)
  refine call_max_walk (wpAny_pyIter_tuple ht ?_)
  refine ⟨s.heap.objs.size, _, _, _, _, _, _, rfl, Walks.tuple (A := A.in1) hh _ t hnt (intItems xs), ⟨⟨_, Heap.get?_push_size _ rfl, rfl, rfl⟩, ht.at fun o e => Heap.get?_push_of_some _ e⟩, fun b hb => ?_, by simpa [intItems] using hne, CmpOf.ints_gt (numAt xs) (fun _ _ => intItems_at), fun v h' tk hP hk => ?_⟩
  · rcases List.mem_cons.mp hb with z | hb
    · rw [z]; exact Heap.lt_size (Heap.get?_push_size _ rfl)
    · have z : b = t := by simpa using hb
      rw [z]; exact Heap.lt_size (Heap.get?_push_of_some _ ho)
  · refine h v h' tk (by simpa [intItems] using hP) fun b o e => hk b o (fun hm => ?_) (Heap.get?_push_of_some _ e)
    have z : b = s.heap.objs.size := by simpa using hm
    exact absurd (z ▸ Heap.lt_size e) (Nat.lt_irrefl _)
theorem cr_maxS (hc : X.calm = true) : CallR X (.builtin "max") (rMaxS X.K) := by
  intro pins s σ H vs us Q I r h
  obtain ⟨a, ns, rfl, hs | hs, hne, q⟩ := h
  · exact cr_max hc pins s σ H _ us Q I r ⟨a, ns, rfl, hs, hne, q⟩
  · obtain ⟨its, rv, hl, _⟩ := I.tuple hs
    rw [Vals.ref1 r]
    obtain ⟨xs, e⟩ := rv.ints.allInts.items
    have hn : numsOf (intItems xs).toList = ns := e ▸ rv.ints.numsOf
    rw [nums_intItems] at hn
    rw [e] at hl
    subst hn
    have hsz : 0 < xs.size := by simpa using hne
    refine max_tup (I.ok.hd hc) (isTup_of hl) hsz fun v h' tk hv hk => ?_
    obtain ⟨t, rfl⟩ := intItems_at hv
    obtain ⟨h1, h2⟩ := argBest_gt (numAt xs) (xs.size - 1)
    refine ⟨V.int _, H, I.kept hk, ⟨t, rfl⟩, q _ ?_ fun y hy => ?_⟩
    · rw [numAt_eq]; exact PySem.getD_mem (by rw [List.length_map, Array.length_toList]; omega)
    · obtain ⟨j, hj, rfl⟩ := mem_getD hy
      rw [List.length_map, Array.length_toList] at hj
      rw [← numAt_eq]; exact h2 j (by omega)
theorem bMaxS_snd : BSnd G (rMaxS G.K) bMaxS := by
  intro S F ρ H st xs as Q E rp hx o
  unfold bMaxS at o
  split at o
  · rename_i v
    cases hx with
    | cons h hr =>
      cases hr
      cases e : seqI v st with
      | bad => unfold bd at o; rw [e] at o; exact o.elim
      | ex c s => exact absurd e (by unfold seqI; intro z; split at z <;> first | (cases q : toIs _ <;> (rw [q] at z; cases z)) | cases z)
      | ok ns s' =>
        unfold bd at o
        rw [e] at o
        obtain ⟨rfl, p, rfl, hs⟩ := seqI_rel rp h e
        cases ns with
        | nil => exact o.elim
        | cons y r =>
          obtain ⟨m1, m2⟩ := maxI_spec r y
          refine ⟨p, y :: r, rfl, hs, by simp, fun m hm hl => ?_⟩
          have em : m = r.foldl max y := Int.le_antisymm (m2 m hm) (hl _ m1)
          rw [em]
          exact out.at (v := vI (r.foldl max y)) o rp (.int _)
  · exact o.elim
/-! ### l.count(x) by == of data -/
def rCntD (K : PySem.W.Frag) : V → List V → Hp → VK → Prop := fun x xs H Q => ∃ (a : Addr) (vs : List V) (y : V) (ds : List PyData) (d : PyData), x = V.ref a ∧ xs = [y] ∧ SqL K H a vs ∧ DpAll K H vs ds ∧ Dp K H y d ∧ PyData.plainAll ds = true ∧ d.plain = true ∧ PyData.depthAll ds ≤ 60 ∧ Q (.int ((ds.countP fun z => PyData.eqv z d : Nat) : Int)) H
theorem mt_cntD (hu : X.A.units + 64 < cLine) : MtR X "list.count" (rCntD X.K) := by
  intro pins s σ H x xs v us Q I rx rxs h
  obtain ⟨a, vs, y, ds, d, rfl, rfl, hs, hds, hd, p1, p2, p3, q⟩ := h
  cases rx
  cases rxs with
  | cons r t =>
    cases t
    obtain ⟨its, rv, p, hlen⟩ := I.list hs
    obtain ⟨as, ra⟩ := Dp.readsAll I ds vs its hds rv
    obtain ⟨bs, rb⟩ := Dp.reads I d y _ hd r
    exact SeqAt.count_list_data p.isList ra rb p1 p2 (by have := Nat.min_le_left (PyData.depthAll ds) d.depth; omega) ⟨.int _, H, I.tok _, ⟨_, rfl⟩, q⟩
theorem qe_cntD (hu : X.A.units + 64 < cLine) {E : XK} {o e : Expr} {fo fe : Y.E} {apos cpos : Pos} (ho : PE X o (lE G E fo)) (he : PE X e (lE G E fe)) (hs0 : starEach [e] X.env = (false, eval e X.env) :: starEach [] X.env := by rfl) (hbase : attributeBase o "count" X.env (eval o X.env) = eval o X.env := by rfl)
    (hfew : ((backTo cpos (starEach [e] X.env)).all (fun x => !x.1) && (backToKw cpos (keywordEach [] X.env)).all (fun x => x.1.isSome) && decide (([e] : List Expr).length + ([] : List Keyword).length + (if ([] : List Keyword).isEmpty then 0 else 1) < 30)) = true := by rfl)
    (hline : (apos.endLine == cpos.line) = true := by rfl) (hK : X.K = G.K := by rfl) : PE X (.Call (.Attribute o "count" apos) [e] [] cpos) (lE G E (eCntD fo fe)) := by
  refine PE.imp (pe_bm PySem.F.plainAttrs_list PySem.F.slot_list_count PySem.F.type_list_count (mt_cntD hu) ho (pa_cons he pa_nil hs0) hbase hfew hline hs0 rfl) fun σ H Q ⟨S, F, ρ, loc, st, rp, l, ou⟩ => ⟨S, F, ρ, loc, st, rp, l, out.imp (fun ov H1 h1 => ?_) (out.bd (Rl := VR G) ou)⟩
  obtain ⟨F1, ρ1, a, st1, g1, r1, v1, o1⟩ := h1
  cases a with
  | o _ => exact o1.elim
  | s _ => exact o1.elim
  | d x => ?_
  cases x with
  | list ds =>
    obtain ⟨p, us, rfl, ha, hu'⟩ := dt_list v1
    have o1 : out G S F1 ρ1 (VR G) Q E (bd (fe loc) (fun y => bCntD ds y) st1) := o1
    refine ⟨.inl ⟨rfl, us, by rw [hK]; exact SqL.of (r1.ex _ _ ha)⟩, S, F1, ρ1, loc, st1, r1, l.mono g1, out.imp (fun w H2 h2 => ?_) (out.bd (Rl := VR G) o1)⟩
    obtain ⟨F2, ρ2, b, st2, g2, r2, v2, o2⟩ := h2
    cases b with
    | o _ => exact o2.elim
    | s _ => exact o2.elim
    | d y => ?_
    have o2 : out G S F2 ρ2 (VR G) Q E ((if PyData.plainAll ds = true ∧ y.plain = true ∧ PyData.depthAll ds ≤ 60 then ret (vI ((ds.countP fun z => PyData.eqv z y : Nat) : Int)) else die) st2) := o2
    by_cases hc : PyData.plainAll ds = true ∧ y.plain = true ∧ PyData.depthAll ds ≤ 60
    · rw [if_pos hc] at o2
      refine ⟨p, us, w, ds, y, rfl, rfl, ?_, ?_, ?_, hc.1, hc.2.1, hc.2.2, out.at (v := vI ((ds.countP fun z => PyData.eqv z y : Nat) : Int)) o2 r2 (.int _)⟩
      · rw [hK]; exact SqL.of (r2.ex _ _ (g2.f _ _ ha))
      · rw [hK]; exact DpAll.mono r2.ex (DtA.dp (DtA.mono g2.f hu'))
      · rw [hK]; exact Dp.mono r2.ex (Dt.dp v2)
    · rw [if_neg hc] at o2; exact o2.elim
  | _ => exact o1.elim
end
end Y
end
section
set_option Elab.async false
set_option linter.all false
namespace Y
open PySem (PyData Str)
/-- the items of a list, data or own -/
def seqAll : Val → M (List D)
  | .d (.list ds) => ret ds
  | .o k => fun st => match st[k]? with
    | some (.lst xs) => (match toDs xs with
      | some ds => .ok ds st
      | none => .bad)
    | _ => .bad
  | _ => die
noncomputable def sortD (ds : List D) : List D := ds.mergeSort (PySem.W.dataLe false fun d : D => d)
def sortOk (ds : List D) : Prop := PySem.W.AllAlike ds ∧ PySem.W.Sortable ds ∧ PyData.depthAll ds ≤ 60 ∧ ds.length ≤ lim
open Classical in
/-- sorted(l) -/
noncomputable def bSortD : List Val → M Val
  | [v] => bd (seqAll v) fun ds => if sortOk ds then ret (.d (.list (sortD ds))) else die
  | _ => die
open Classical in
/-- a comprehension over a list of the store that its parts leave as it is -/
noncomputable def compO (k : Nat) (xs0 : List Val) (body : Val → M (Option Val)) : List Val → M (List Val)
  | [] => fun st => if st[k]? = some (.lst xs0) then .ok [] st else .bad
  | x :: xs => fun st => if st[k]? = some (.lst xs0) then bd (body x) (fun o => bd (compO k xs0 body xs) fun ys => ret (consO o ys)) st else .bad
noncomputable def eLcO (e : E) (g : G) (t : Tst) (el : E) (vs : List Nat) : E := fun loc => bd (e loc) fun v => bd (getL v) fun p => if p.2.length ≤ lim then bd (noex (compO p.1 p.2 (cBody g t el (wip loc vs)) p.2)) bLst else die
end Y
end
section
set_option Elab.async false
set_option Elab.async false
set_option linter.all false
set_option maxRecDepth 100000
set_option maxHeartbeats 2000000
/-! Tsq: sorted of a list of like data. -/
namespace Y
open PySem PySem.Spec PyProof.Rows L2
section
variable {X : Cx} {G : Glo}
def rSortedD (K : PySem.W.Frag) : List V → Hp → VK → Prop := fun vs H Q => ∃ (a : Addr) (us : List V) (ds : List PyData), vs = [V.ref a] ∧ SqL K H a us ∧ DpAll K H us ds ∧ PySem.W.AllAlike ds ∧ PySem.W.Sortable ds ∧ PyData.depthAll ds ≤ 60 ∧
  ∀ p, H p = none → Q (.ref p) (upd H p (.lst (((us.zip ds).mergeSort (PySem.W.dataLe false Prod.snd)).map Prod.fst)))
theorem dpA_len {K : PySem.W.Frag} {H : Hp} : ∀ {us : List V} {ds : List PyData}, DpAll K H us ds → us.length = ds.length
  | _, _, .nil => rfl
  | _, _, .cons _ k => by rw [List.length_cons, List.length_cons, dpA_len k]
theorem each_vals : ∀ {us : List V} {ds : List PyData} {its : List Value}, us.length = ds.length → Vals us its → PySem.W.EachIs (fun (v : Value) (b : V × PyData) => RelV b.1 v) its (us.zip ds)
  | [], [], _, _, .nil => .nil
  | u :: us, d :: ds, _, hl, .cons r t => .cons r (each_vals (by simpa using hl) t)
theorem vals_each : ∀ {bs : List (V × PyData)} {out : List Value}, PySem.W.EachIs (fun (v : Value) (b : V × PyData) => RelV b.1 v) out bs → Vals (bs.map Prod.fst) out
  | _, _, .nil => .nil
  | _, _, .cons r t => .cons r (vals_each t)
theorem dep_le : ∀ {ds : List PyData} {d : PyData}, d ∈ ds → d.depth ≤ PyData.depthAll ds
  | e :: ds, d, h => by
    simp only [PyData.depthAll]
    rcases List.mem_cons.mp h with rfl | h
    · omega
    · have := dep_le h; omega
theorem cr_sortedD (hu : X.A.units + 64 < cLine) : CallR X (.builtin "sorted") (rSortedD X.K) := by
  intro pins s σ H vs us' Q I r h
  obtain ⟨a, us, ds, rfl, hs, hd, hal, hk, hdep, q⟩ := h
  obtain ⟨its, rv, hl, hz⟩ := I.list hs
  rw [Vals.ref1 r]
  have len := dpA_len hd
  obtain ⟨as, ra⟩ := Dp.readsAll I ds us its hd rv
  have ez : (us.zip ds).map Prod.snd = ds := List.map_snd_zip (by omega)
  have e := each_vals len rv
  have er := PySem.W.readsAll_each (h := s.heap) (Prod.snd : V × PyData → PyData) (vs := its) (bs := us.zip ds) (as := as) (by rw [ez]; exact ra)
  refine PySem.W.sorted_data (enc := (Prod.snd : V × PyData → PyData)) hl.isList e er (by rw [ez]; exact hal) (by rw [ez]; exact hk) ?_ (fun b hb => ?_) fun out ho he => ?_
  · rw [List.length_zip]; omega
  · have hm : b.2 ∈ ds := (List.of_mem_zip hb).2
    have := dep_le hm
    omega
  · obtain ⟨ep, he'⟩ := PyProof.Rows.sortedAll_at s.heap its out.toArray
    have hlen : (((us.zip ds).mergeSort (PySem.W.dataLe false Prod.snd)).map Prod.fst).length ≤ sizeLine := by
      rw [List.length_map, List.length_mergeSort, List.length_zip]; omega
    exact ⟨.ref _, upd H (s.heap.objs.size + 1) (.lst (((us.zip ds).mergeSort (PySem.W.dataLe false Prod.snd)).map Prod.fst)), I.laid (t' := s.toks) (fun _ _ => PyProof.Rows.sortedAll_old) (Nat.le_succ _) ⟨hlen, out, ep, vals_each he, he'⟩, rfl, q _ (I.hok.fresh (Nat.le_succ _))⟩
theorem dtA_zip {F : Hp} : ∀ {us : List V} {ds : List D}, DtA F us ds → ∀ p ∈ us.zip ds, Dt F p.1 p.2
  | _, _, .nil, p, hp => nomatch hp
  | _, _, .cons h k, p, hp => by
    rw [List.zip_cons_cons] at hp
    rcases List.mem_cons.mp hp with rfl | hp
    · exact h
    · exact dtA_zip k p hp
theorem dtA_of {F : Hp} : ∀ {bs : List (V × D)}, (∀ p ∈ bs, Dt F p.1 p.2) → DtA F (bs.map Prod.fst) (bs.map Prod.snd)
  | [], _ => .nil
  | b :: bs, h => .cons (h b List.mem_cons_self) (dtA_of fun p hp => h p (List.mem_cons_of_mem _ hp))
theorem dtA_sort {F : Hp} {us : List V} {ds : List D} (h : DtA F us ds) : DtA F (((us.zip ds).mergeSort (PySem.W.dataLe false Prod.snd)).map Prod.fst) (sortD ds) := by
  have z := dtA_of (F := F) (bs := (us.zip ds).mergeSort (PySem.W.dataLe false Prod.snd)) fun p hp => dtA_zip h p (List.mem_mergeSort.mp hp)
  have e : ((us.zip ds).mergeSort (PySem.W.dataLe false Prod.snd)).map Prod.snd = sortD ds := by
    unfold sortD
    have m := PySem.W.sort_maps (r := PySem.W.dataLe false (Prod.snd : V × D → D)) (s := PySem.W.dataLe false fun d : D => d) (Prod.snd : V × D → D) (l := us.zip ds) (fun _ _ _ _ => rfl)
    rw [m, List.map_snd_zip (by rw [h.length]; exact Nat.le_refl _)]
  rw [e] at z
  exact z
theorem seqAll_rel {S F : Hp} {ρ : List Addr} {H : Hp} {st s : Store} {x : V} {a : Val} {ds : List D} (rp : Rep G S F ρ H st) (h : VR G F ρ x a) (e : seqAll a st = .ok ds s) : s = st ∧ ∃ (p : Addr) (us : List V), x = .ref p ∧ H p = some (.lst us) ∧ DtA F us ds := by
  unfold seqAll at e
  split at e
  · rename_i es
    cases e
    obtain ⟨p, us, rfl, ha, hu⟩ := dt_list h
    exact ⟨rfl, p, us, rfl, rp.ex _ _ ha, hu⟩
  · rename_i k
    obtain ⟨a, ha, rfl⟩ := h
    cases q : st[k]? with
    | none => simp only [q] at e; cases e
    | some ob =>
      simp only [q] at e
      cases ob with
      | ins _ _ => cases e
      | gone => cases e
      | tup _ => cases e
      | dct _ => cases e
      | dcf _ => cases e
      | lst xs =>
        dsimp only at e
        cases q2 : toDs xs with
        | none => rw [q2] at e; cases e
        | some ds' =>
          rw [q2] at e
          have e' : R.ok ds' st = R.ok ds s := e
          injection e' with e1 e2
          subst e1 e2
          obtain ⟨a', h', q1, q3, q4, vs, q5, q6⟩ := rp.own k _ q
          rw [ha] at q1
          cases q1
          subst q5
          exact ⟨rfl, a, vs, rfl, q4, toDs_rel q6 q2⟩
  · cases e
theorem seqAll_ex {v : Val} {st s : Store} {c : Nat} (e : seqAll v st = .ex c s) : False := by
  unfold seqAll at e
  split at e
  · cases e
  · split at e
    · split at e <;> cases e
    · cases e
  · cases e
theorem bSortD_snd : BSnd G (rSortedD G.K) bSortD := by
  intro S F ρ H st xs as Q E rp hx o
  unfold bSortD at o
  split at o
  · rename_i v
    cases hx with
    | cons h hr =>
      cases hr
      cases e : seqAll v st with
      | bad => unfold bd at o; rw [e] at o; exact o.elim
      | ex c s => exact (seqAll_ex e).elim
      | ok ds s' =>
        unfold bd at o
        rw [e] at o
        obtain ⟨rfl, p, us, rfl, ha, hu⟩ := seqAll_rel rp h e
        dsimp only at o
        by_cases hc : sortOk ds
        · rw [if_pos hc] at o
          refine ⟨p, us, ds, rfl, SqL.of ha, DpAll.mono rp.ex (DtA.dp hu), hc.1, hc.2.1, hc.2.2.1, fun l hl => out_lst rp (dtA_sort hu) o l hl⟩
        · rw [if_neg hc] at o
          exact o.elim
  · exact o.elim
end
end Y
end
section
set_option Elab.async false
set_option Elab.async false
set_option linter.all false
set_option maxRecDepth 100000
set_option maxHeartbeats 2000000
/-! Tco: a comprehension over a list of the store. -/
namespace Y
open PySem PySem.Spec PyProof.Rows L2
section
variable {X : Cx} {G : Glo} {E : XK} {tg : Expr}
theorem compO_chk {k : Nat} {xs0 xs ys : List Val} {body : Val → M (Option Val)} {st s : Store} (h : compO k xs0 body xs st = .ok ys s) : st[k]? = some (.lst xs0) := by
  cases xs with
  | nil =>
    unfold compO at h
    by_cases q : st[k]? = some (.lst xs0)
    · exact q
    · rw [if_neg q] at h; cases h
  | cons x xs =>
    unfold compO at h
    by_cases q : st[k]? = some (.lst xs0)
    · exact q
    · rw [if_neg q] at h; cases h
def CPO (G : Glo) (k : Nat) (xs0 : List Val) (S : Hp) (F : Hp) (ρ : List Addr) (Q : VK) (E : XK) (Dl : Addr) (body : Val → M (Option Val)) (xs : List Val) (n : Nat) (H : Hp) : Prop :=
  ∃ (F2 : Hp) (ρ2 : List Addr) (st2 : Store) (av : List V) (acc : List Val), Gr F ρ F2 ρ2 ∧ Rep G (upd S Dl (.lst av)) F2 ρ2 H st2 ∧ VRs G F2 ρ2 av acc ∧ acc.length + xs.length ≤ n ∧ out G S F2 ρ2 (VR G) Q E (bd (noex (compO k xs0 body xs)) (fun ys => bLst (acc ++ ys)) st2)
theorem compO_next {fin : List Val → M Val} {k : Nat} {xs0 : List Val} {body : Val → M (Option Val)} {rest : List Val} {acc ys : List Val} {s1 s : Store} (h : compO k xs0 body rest s1 = .ok ys s) : bd (noex (compO k xs0 body rest)) (fun ys => fin (acc ++ ys)) s1 = fin (acc ++ ys) s := by
  unfold bd
  rw [noex_ok h]
theorem vrs_getO {F2 : Hp} {ρ2 : List Addr} : ∀ {vs : List V} {as : List Val} {i : Nat} {v : Val}, VRs G F2 ρ2 vs as → as[i]? = some v → ∃ u, vs[i]? = some u ∧ VR G F2 ρ2 u v := by
  intro vs as i v h
  induction h generalizing i with
  | nil => intro e; simp at e
  | cons r _ ih =>
    intro e
    cases i with
    | zero => simp at e; subst e; exact ⟨_, rfl, r⟩
    | succ i => simpa using ih (by simpa using e)
theorem lE_lcO {f : Y.E} {g : Y.G} {t : Tst} {e : Y.E} {vs : List Nat} : ∀ σ H Q, lE G E (eLcO f g t e vs) σ H Q → tLc (iList G.K (lE G E f)) (lG G EF vs g) (lT G EF t) (lE G EF e) vs σ H Q := by
  rintro σ H Q ⟨S, F, ρ, loc, st, rp, l, o⟩
  refine ⟨S, F, ρ, loc, st, rp, l, out.imp (fun u H1 h1 => ?_) (out.bd (Rl := VR G) o)⟩
  obtain ⟨F1, ρ1, v, st1, g1, r1, vr, o1⟩ := h1
  cases v with
  | d _ => exact o1.elim
  | s _ => exact o1.elim
  | o k =>
    have o1 : out G S F1 ρ1 (VR G) Q E (bd (getL (.o k)) (fun p => if p.2.length ≤ lim then bd (noex (compO p.1 p.2 (cBody g t e (wip loc vs)) p.2)) bLst else die) st1) := o1
    unfold bd getL at o1
    cases q : st1[k]? with
    | none => simp only [q] at o1; exact o1.elim
    | some ob =>
      simp only [q] at o1
      cases ob with
      | ins _ _ => exact o1.elim
      | gone => exact o1.elim
      | tup _ => exact o1.elim
      | dct _ => exact o1.elim
      | dcf _ => exact o1.elim
      | lst xs =>
        dsimp only at o1
        obtain ⟨a, ha, rfl⟩ := vr
        have sq : ∀ {S2 F2 : Hp} {ρ2 : List Addr} {H2 : Hp} {st2 : Store}, Gr F1 ρ1 F2 ρ2 → Rep G S2 F2 ρ2 H2 st2 → st2[k]? = some (.lst xs) → ∃ us, H2 a = some (.lst us) ∧ VRs G F2 ρ2 us xs := fun {S2 F2 ρ2 H2 st2} g2 r2 e => by
          obtain ⟨a', h', q1, q3, q4, us, q5, q6⟩ := r2.own k _ e
          rw [g2.get ha] at q1
          cases q1
          subst q5
          exact ⟨us, q4, q6⟩
        obtain ⟨us, hus, _⟩ := sq Gr.refl r1 q
        refine ⟨a, rfl, ⟨us, SqL.of hus⟩, ?_⟩
        intro Dl hD
        have hl : xs.length ≤ lim := by
          by_cases hl : xs.length ≤ lim
          · exact hl
          · rw [if_neg hl] at o1
            exact o1.elim
        rw [if_pos hl] at o1
        have o1 : out G S F1 ρ1 (VR G) Q E (bd (noex (compO k xs (cBody g t e (wip loc vs)) xs)) (fun ys => bLst ([] ++ ys)) st1) := o1
        have hS : S Dl = none := by
          cases q : S Dl with
          | none => rfl
          | some u => rw [(r1.sd Dl u q).1] at hD; cases hD
        refine ⟨fun i m H => m = xs.length - i ∧ i ≤ xs.length ∧ CPO G k xs S F1 ρ1 Q E Dl (cBody g t e (wip loc vs)) (xs.drop i) xs.length H, ⟨xs.length, by simp, Nat.zero_le _, F1, ρ1, st1, [], [], Gr.refl, r1.side hD, .nil, by simp, o1⟩, ?_⟩
        rintro i m H2 ⟨rfl, hi, F2, ρ2, st2, av, acc, g2, r2, va, hn, o2⟩
        obtain ⟨ys0, s0, hc0, _⟩ := out_noex (Rl := fun _ _ (_ : Unit) _ => True) o2
        have hst := compO_chk hc0
        obtain ⟨ws, hws, hv⟩ := sq g2 r2 hst
        have hwl := hv.length
        by_cases hlt : i < xs.length
        · refine .inr ⟨⟨ws, ws[i]'(by omega), SqL.of hws, by simp⟩, CPO G k xs S F1 ρ1 Q E Dl (cBody g t e (wip loc vs)) (xs.drop (i + 1)) xs.length, fun H' p => ⟨xs.length - (i + 1), by omega, rfl, hlt, p⟩, fun x H' yl => ?_⟩
          have hx : xs[i]? = some xs[i] := List.getElem?_eq_getElem hlt
          have hd : xs.drop i = xs[i] :: xs.drop (i + 1) := List.drop_eq_getElem_cons hlt
          obtain ⟨rfl, hyl⟩ := yl
          have hxw := hyl ws (SqL.of hws)
          obtain ⟨u', hu', v3⟩ := vrs_getO hv hx
          rw [hxw] at hu'
          cases hu'
          rw [hd] at o2 hn
          obtain ⟨ys, s, hc, o'⟩ := out_noex (Rl := fun _ _ (_ : Unit) _ => True) o2
          unfold compO at hc
          rw [if_pos hst] at hc
          obtain ⟨ob, s1, hb, hc⟩ := bd_ok hc
          obtain ⟨ys', s', hc2, hfin⟩ := bd_ok hc
          obtain ⟨l2, s2, hg, hb⟩ := bd_ok hb
          obtain ⟨b, s3, ht, hb⟩ := bd_ok hb
          have hfin : R.ok (consO ob ys') s' = R.ok ys s := hfin
          injection hfin with hys hss
          subst hss
          have lr3 : LR G F2 ρ2 (L2.wipe σ vs) (wip loc vs) := (l.mono (g1.trans g2)).wip vs
          refine ⟨upd S Dl (.lst av), F2, ρ2, wip loc vs, st2, xs[i], r2, lr3, v3, out_ok hg fun F4 ρ4 H4 σ2 g4 r4 lw => ?_⟩
          obtain ⟨lr4, w4⟩ := lw
          refine ⟨w4.trans wipe_wipe, upd S Dl (.lst av), F4, ρ4, l2, s2, r4, lr4, out_ok ht fun F5 ρ5 H5 b' g5 r5 hb' => ?_⟩
          cases hb'
          have gg : Gr F1 ρ1 F5 ρ5 := (g2.trans g4).trans g5
          have g25 : Gr F2 ρ2 F5 ρ5 := g4.trans g5
          rw [List.length_cons] at hn
          cases b with
          | false =>
            have hb2 : ob = none ∧ s3 = s1 := by
              have z : R.ok (none : Option Val) s3 = R.ok ob s1 := hb
              injection z with z1 z2
              exact ⟨z1.symm, z2⟩
            obtain ⟨rfl, rfl⟩ := hb2
            subst hys
            refine ⟨F5, ρ5, s3, av, acc, gg, r5, VRs.mono g25 va, by omega, ?_⟩
            rw [compO_next hc2]
            exact out.mono g25 o'
          | true =>
            obtain ⟨yv, s4, he, hb⟩ := bd_ok (show bd (e l2) (fun y => ret (some y)) s3 = R.ok ob s1 from hb)
            have hb2 : ob = some yv ∧ s4 = s1 := by
              have z : R.ok (some yv : Option Val) s4 = R.ok ob s1 := hb
              injection z with z1 z2
              exact ⟨z1.symm, z2⟩
            obtain ⟨rfl, rfl⟩ := hb2
            subst hys
            refine ⟨upd S Dl (.lst av), F5, ρ5, l2, s3, r5, lr4.mono g5, out_ok he fun F6 ρ6 H6 u g6 r6 vu => ?_⟩
            have hav : av.length = acc.length := va.length
            refine ⟨av, (r6.sd Dl _ upd_same).1, sz' (by omega), F6, ρ6, s4, av ++ [u], acc ++ [yv], gg.trans g6, r6.side2, Paired.snoc (VRs.mono (g25.trans g6) va) vu, by rw [List.length_append]; show acc.length + 1 + _ ≤ _; omega, ?_⟩
            rw [compO_next hc2]
            have ea : acc ++ [yv] ++ ys' = acc ++ (yv :: ys') := by simp
            rw [ea]
            exact out.mono (g25.trans g6) o'
        · have e : i = xs.length := by omega
          subst e
          refine .inl ⟨⟨ws, SqL.of hws, by omega⟩, ?_⟩
          rw [List.drop_length] at o2
          obtain ⟨ys, s, hc, o'⟩ := out_noex (Rl := fun _ _ (_ : Unit) _ => True) o2
          unfold compO at hc
          rw [if_pos hst] at hc
          have hc : R.ok ([] : List Val) st2 = R.ok ys s := hc
          injection hc with h1 h2
          subst h1 h2
          rw [List.append_nil] at o'
          exact fin_lst S F2 ρ2 H2 st2 av acc Dl Q E r2 va hS o'
theorem qe_lcO {elt tgt iter : Expr} {ifs : List Expr} {scope : Scope} {own : List (Str × Nat)} {pos : Pos} {f : Y.E} {g : Y.G} {t : Tst} {e : Y.E} (hc : X.calm = true) (hN : X.N.Nodup) (hi : PE X iter (lE G E f)) (ok : BlkOk X.N X.env.scope scope own)
    (hg : ∀ (s : Shared) (H : Hp) (C : Addr) (cl : List (Str × Addr)) (fp : List Addr), PG (X.blk s H scope (compEnvC scope cl C X.env) fp) tgt (lG G EF (own.map (·.2)) g)) (ht : ∀ (s : Shared) (H : Hp) (C : Addr) (cl : List (Str × Addr)) (fp : List Addr), PTs (X.blk s H scope (compEnvC scope cl C X.env) fp) ifs (lT G EF t))
    (he : ∀ (s : Shared) (H : Hp) (C : Addr) (cl : List (Str × Addr)) (fp : List Addr), PE (X.blk s H scope (compEnvC scope cl C X.env) fp) elt (lE G EF e)) (hs : ∀ x, foldedSetIterable iter X.env x = pure x := by intro _; rfl) (hK : X.K = G.K := by rfl) :
    PE X (.ListComp elt [⟨tgt, iter, ifs, 0⟩] scope pos) (lE G E (eLcO f g t e (own.map (·.2)))) := by
  have hi' : PI X tgt iter (iList G.K (lE G E f)) := by rw [← hK]; exact pi_list hi
  exact PE.imp (pe_lc hc hN hi' ok hg ht he hs) lE_lcO
theorem qs_setLcN (i : Nat) {y : Str} {py : Pos} {elt tgt iter : Expr} {ifs : List Expr} {scope : Scope} {own : List (Str × Nat)} {pos spos : Pos} {it : Y.I} {g : Y.G} {t : Tst} {e : Y.E} (hc : X.calm = true) (hN : X.N.Nodup) (hy : X.N[i]? = some y) (hyl : X.env.scope.names.lookup y = some .local)
    (hsw : swapsWith (.ListComp elt [⟨tgt, iter, ifs, 0⟩] scope pos) (some (.Name y py)) spos.line X.env = pure true) (hi : PI X tgt iter (lI G E it)) (ok : BlkOk X.N X.env.scope scope own)
    (hg : ∀ (s : Shared) (H : Hp) (C : Addr) (cl : List (Str × Addr)) (fp : List Addr), PG (X.blk s H scope (compEnvC scope cl C X.env) fp) tgt (lG G EF (own.map (·.2)) g)) (ht : ∀ (s : Shared) (H : Hp) (C : Addr) (cl : List (Str × Addr)) (fp : List Addr), PTs (X.blk s H scope (compEnvC scope cl C X.env) fp) ifs (lT G EF t))
    (he : ∀ (s : Shared) (H : Hp) (C : Addr) (cl : List (Str × Addr)) (fp : List Addr), PE (X.blk s H scope (compEnvC scope cl C X.env) fp) elt (lE G EF e)) (hs : ∀ x, foldedSetIterable iter X.env x = pure x := by intro _; rfl) :
    PS X (.Assign [.Name y py] (.ListComp elt [⟨tgt, iter, ifs, 0⟩] scope pos) spos) (lS G E (sAsg (eLcN it g t e (own.map (·.2))) (gN i))) := by
  refine PS.imp (ps_setLc hc hN hy hyl hsw hi ok hg ht he hs) fun D σ H h => ?_
  exact lE_lcN σ H _ (lS_asgN D σ H h)
theorem qs_setLcO (i : Nat) {y : Str} {py : Pos} {elt tgt iter : Expr} {ifs : List Expr} {scope : Scope} {own : List (Str × Nat)} {pos spos : Pos} {f : Y.E} {g : Y.G} {t : Tst} {e : Y.E} (hc : X.calm = true) (hN : X.N.Nodup) (hy : X.N[i]? = some y) (hyl : X.env.scope.names.lookup y = some .local)
    (hsw : swapsWith (.ListComp elt [⟨tgt, iter, ifs, 0⟩] scope pos) (some (.Name y py)) spos.line X.env = pure true) (hi : PE X iter (lE G E f)) (ok : BlkOk X.N X.env.scope scope own)
    (hg : ∀ (s : Shared) (H : Hp) (C : Addr) (cl : List (Str × Addr)) (fp : List Addr), PG (X.blk s H scope (compEnvC scope cl C X.env) fp) tgt (lG G EF (own.map (·.2)) g)) (ht : ∀ (s : Shared) (H : Hp) (C : Addr) (cl : List (Str × Addr)) (fp : List Addr), PTs (X.blk s H scope (compEnvC scope cl C X.env) fp) ifs (lT G EF t))
    (he : ∀ (s : Shared) (H : Hp) (C : Addr) (cl : List (Str × Addr)) (fp : List Addr), PE (X.blk s H scope (compEnvC scope cl C X.env) fp) elt (lE G EF e)) (hs : ∀ x, foldedSetIterable iter X.env x = pure x := by intro _; rfl) (hK : X.K = G.K := by rfl) :
    PS X (.Assign [.Name y py] (.ListComp elt [⟨tgt, iter, ifs, 0⟩] scope pos) spos) (lS G E (sAsg (eLcO f g t e (own.map (·.2))) (gN i))) := by
  have hi' : PI X tgt iter (iList G.K (lE G E f)) := by rw [← hK]; exact pi_list hi
  refine PS.imp (ps_setLc hc hN hy hyl hsw hi' ok hg ht he hs) fun D σ H h => ?_
  exact lE_lcO σ H _ (lS_asgN D σ H h)
end
end Y
end
section
set_option Elab.async false
set_option linter.all false
/-! Sd: dicts whose keys are tuples of whole numbers. -/
namespace Y
open PySem (PyData Str)
def keyOf : Val → Option (List Int)
  | .d (.tuple ds) => toIs ds
  | _ => none
def valK (kvs : List (List Int × D)) (k : List Int) : Option D := (kvs.find? fun kv => decide (kv.1 = k)).map (·.2)
def putD (kvs : List (List Int × D)) (k : List Int) (v : D) : List (List Int × D) := if (kvs.any fun kv => decide (kv.1 = k)) = true then kvs.map (fun kv => if kv.1 = k then (kv.1, v) else kv) else kvs ++ [(k, v)]
def dctOf : Val → M (List (List Int × D))
  | .o k => fun st => match st[k]? with
    | some (.dct kvs) => .ok kvs st
    | _ => .bad
  | _ => die
def dctR : Val → M (List (List Int × D))
  | .o k => fun st => match st[k]? with
    | some (.dct kvs) => .ok kvs st
    | some (.dcf kvs) => .ok kvs st
    | _ => .bad
  | _ => die
/-- the keys, from here on the dict changes no more -/
def iDct (f : E) : I := fun loc => bd (f loc) fun v => match v with
  | .o k => fun st => match st[k]? with
    | some (.dct kvs) => .ok (kvs.map fun p => .d (.tuple (p.1.map .int))) (st.set k (.dcf kvs))
    | some (.dcf kvs) => .ok (kvs.map fun p => .d (.tuple (p.1.map .int))) st
    | _ => .bad
  | _ => die
def eDNew : E := fun _ st => .ok (.o st.length) (st ++ [.dct []])
def bDGet (x y : Val) : M Val := bd (dctR x) fun kvs => bd (oget (keyOf y)) fun k => bd (oget (valK kvs k)) fun v => ret (.d v)
def bDInF (neg : Bool) (y x : Val) : M Val := bd (dctR x) fun kvs => bd (oget (keyOf y)) fun k => ret (vB (if neg then !(valK kvs k).isSome else (valK kvs k).isSome))
def putS (x y v : Val) : M Unit := match x, keyOf y, v with
  | .o k, some key, .d d => fun st => match st[k]? with
    | some (.dct kvs) => if kvs.length < lim then .ok () (st.set k (.dct (putD kvs key d))) else .bad
    | _ => .bad
  | _, _, _ => die
def sDPut (o i e : E) : S := fun loc => bd (e loc) fun v => bd (o loc) fun x => bd (i loc) fun y => bd (putS x y v) fun _ => ret (.nx, loc)
def bLenD : List Val → M Val
  | [v] => bd (dctOf v) fun kvs => ret (vI (kvs.length : Int))
  | _ => die
end Y
end
section
set_option Elab.async false
set_option Elab.async false
set_option linter.all false
set_option maxRecDepth 100000
set_option maxHeartbeats 2000000
/-! Tdc: dicts whose keys are tuples of whole numbers. -/
namespace Y
open PySem PySem.Spec PyProof.Rows L2
section
variable {X : Cx} {G : Glo}
abbrev DcR (F : Hp) : List (List Key × V) → List (List Int × D) → Prop := Paired (fun (p : List Key × V) (q : List Int × D) => p.1 = q.1.map Sum.inl ∧ Dt F p.2 q.2)
theorem inl_inj : ∀ {a b : List Int}, (a.map Sum.inl : List Key) = b.map Sum.inl → a = b
  | [], [], _ => rfl
  | [], _ :: _, e => by cases e
  | _ :: _, [], e => by cases e
  | x :: a, y :: b, e => by
    rw [List.map_cons, List.map_cons] at e
    injection e with e1 e2
    injection e1 with e1
    rw [e1, inl_inj e2]
theorem inl_iff {a b : List Int} : ((a.map Sum.inl : List Key) = b.map Sum.inl) ↔ a = b := ⟨inl_inj, fun e => by rw [e]⟩
theorem dc_val {F : Hp} {k : List Int} : ∀ {us : List (List Key × V)} {kvs : List (List Int × D)}, DcR F us kvs → (valK kvs k = none ∧ valV us (k.map Sum.inl) = none) ∨ ∃ d v, valK kvs k = some d ∧ valV us (k.map Sum.inl) = some v ∧ Dt F v d
  | [], [], .nil => .inl ⟨rfl, rfl⟩
  | (a, u) :: us, (b, d) :: kvs, .cons h t => by
    obtain ⟨h1, h2⟩ := h
    have h1 : a = b.map Sum.inl := h1
    by_cases z : b = k
    · refine .inr ⟨d, u, ?_, ?_, h2⟩
      · simp [valK, List.find?_cons, z]
      · exact valV_pos (by rw [h1, z])
    · have z' : ¬ a = k.map Sum.inl := fun e => z (inl_inj (h1.symm.trans e))
      have e1 : valK ((b, d) :: kvs) k = valK kvs k := by simp [valK, List.find?_cons, z]
      have e2 : valV ((a, u) :: us) (k.map Sum.inl) = valV us (k.map Sum.inl) := valV_neg z'
      rw [e1, e2]
      exact dc_val t
theorem dc_any {F : Hp} {k : List Int} : ∀ {us : List (List Key × V)} {kvs : List (List Int × D)}, DcR F us kvs → (us.any fun kv => decide (kv.1 = k.map Sum.inl)) = (kvs.any fun kv => decide (kv.1 = k))
  | [], [], .nil => rfl
  | (a, u) :: us, (b, d) :: kvs, .cons h t => by
    obtain ⟨h1, h2⟩ := h
    have h1 : a = b.map Sum.inl := h1
    rw [List.any_cons, List.any_cons, dc_any t]
    congr 1
    rw [h1]
    exact decide_eq_decide.mpr inl_iff
theorem dc_map {F : Hp} {k : List Int} {v : V} {d : D} (hv : Dt F v d) : ∀ {us : List (List Key × V)} {kvs : List (List Int × D)}, DcR F us kvs → DcR F (us.map fun kv => if kv.1 = k.map Sum.inl then (kv.1, v) else kv) (kvs.map fun kv => if kv.1 = k then (kv.1, d) else kv)
  | [], [], .nil => .nil
  | (a, u) :: us, (b, e) :: kvs, .cons h t => by
    obtain ⟨h1, h2⟩ := h
    have h1 : a = b.map Sum.inl := h1
    refine .cons ?_ (dc_map hv t)
    dsimp only
    by_cases z : b = k
    · rw [if_pos z, if_pos (by rw [h1, z])]
      exact ⟨h1, hv⟩
    · rw [if_neg z, if_neg (fun e => z (inl_inj (h1.symm.trans e)))]
      exact ⟨h1, h2⟩
theorem dc_put {F : Hp} {k : List Int} {v : V} {d : D} (hv : Dt F v d) {us : List (List Key × V)} {kvs : List (List Int × D)} (h : DcR F us kvs) : DcR F (putK us (k.map Sum.inl) v) (putD kvs k d) := by
  unfold putK putD
  rw [dc_any h]
  by_cases z : (kvs.any fun kv => decide (kv.1 = k)) = true
  · rw [if_pos z, if_pos z]
    exact dc_map hv h
  · rw [if_neg z, if_neg z]
    exact Paired.snoc h ⟨rfl, hv⟩
theorem own_dct {S F : Hp} {ρ : List Addr} {H : Hp} {st : Store} {x : V} {k : Nat} {kvs : List (List Int × D)} (rp : Rep G S F ρ H st) (h : VR G F ρ x (.o k)) (q : st[k]? = some (.dct kvs)) : ∃ a us, x = .ref a ∧ ρ[k]? = some a ∧ H a = some (.dT us) ∧ DcR F us kvs := by
  obtain ⟨a, ha, rfl⟩ := h
  obtain ⟨a', h', q1, q3, q4, us, q5, q6⟩ := rp.own k _ q
  rw [ha] at q1
  cases q1
  subst q5
  exact ⟨a, us, rfl, ha, q4, q6⟩
theorem dctOf_rel {S F : Hp} {ρ : List Addr} {H : Hp} {st s : Store} {x : V} {a : Val} {kvs : List (List Int × D)} (rp : Rep G S F ρ H st) (h : VR G F ρ x a) (e : dctOf a st = .ok kvs s) : s = st ∧ ∃ p us, x = .ref p ∧ H p = some (.dT us) ∧ DcR F us kvs := by
  unfold dctOf at e
  split at e
  · rename_i k
    cases q : st[k]? with
    | none => simp only [q] at e; cases e
    | some ob =>
      simp only [q] at e
      cases ob with
      | ins _ _ => cases e
      | gone => cases e
      | tup _ => cases e
      | lst _ => cases e
      | dct kvs' =>
        have e' : R.ok kvs' st = R.ok kvs s := e
        injection e' with e1 e2
        subst e1 e2
        obtain ⟨a, us, rfl, _, hh, hr⟩ := own_dct rp h q
        exact ⟨rfl, a, us, rfl, hh, hr⟩
      | dcf _ => cases e
  · cases e
theorem dctOf_ex {v : Val} {st s : Store} {c : Nat} (e : dctOf v st = .ex c s) : False := by
  unfold dctOf at e
  split at e
  · split at e <;> cases e
  · cases e
theorem own_dcf {S F : Hp} {ρ : List Addr} {H : Hp} {st : Store} {x : V} {k : Nat} {kvs : List (List Int × D)} (rp : Rep G S F ρ H st) (h : VR G F ρ x (.o k)) (q : st[k]? = some (.dcf kvs)) : ∃ a od us, x = .ref a ∧ ρ[k]? = some a ∧ H a = some (.frz od (.dT us)) ∧ DcR F us kvs := by
  obtain ⟨a, ha, rfl⟩ := h
  obtain ⟨a', h', q1, q3, q4, od, us, q5, q6⟩ := rp.own k _ q
  rw [ha] at q1
  cases q1
  subst q5
  exact ⟨a, od, us, rfl, ha, q4, q6⟩
theorem dctR_rel {S F : Hp} {ρ : List Addr} {H : Hp} {st s : Store} {x : V} {a : Val} {kvs : List (List Int × D)} (rp : Rep G S F ρ H st) (h : VR G F ρ x a) (e : dctR a st = .ok kvs s) : s = st ∧ ∃ p us, x = .ref p ∧ Rd H p (.dT us) ∧ DcR F us kvs := by
  unfold dctR at e
  split at e
  · rename_i k
    cases q : st[k]? with
    | none => simp only [q] at e; cases e
    | some ob =>
      simp only [q] at e
      cases ob with
      | ins _ _ => cases e
      | gone => cases e
      | tup _ => cases e
      | lst _ => cases e
      | dct kvs' =>
        have e' : R.ok kvs' st = R.ok kvs s := e
        injection e' with e1 e2
        subst e1 e2
        obtain ⟨a, us, rfl, _, hh, hr⟩ := own_dct rp h q
        exact ⟨rfl, a, us, rfl, .inl hh, hr⟩
      | dcf kvs' =>
        have e' : R.ok kvs' st = R.ok kvs s := e
        injection e' with e1 e2
        subst e1 e2
        obtain ⟨a, od, us, rfl, _, hh, hr⟩ := own_dcf rp h q
        exact ⟨rfl, a, us, rfl, .inr ⟨od, hh⟩, hr⟩
  · cases e
theorem dctR_ex {v : Val} {st s : Store} {c : Nat} (e : dctR v st = .ex c s) : False := by
  unfold dctR at e
  split at e
  · split at e <;> cases e
  · cases e
theorem key_rel {S F : Hp} {ρ : List Addr} {H : Hp} {st : Store} {y : V} {b : Val} {k : List Int} (rp : Rep G S F ρ H st) (h : VR G F ρ y b) (e : keyOf b = some k) : ∃ p, y = .ref p ∧ H p = some (.tup ((k.map Sum.inl : List Key).map kV)) := by
  unfold keyOf at e
  split at e
  · rename_i ds
    obtain ⟨p, us, rfl, ha, hu⟩ := dt_tup h
    have := toIs_vi hu e
    refine ⟨p, rfl, ?_⟩
    rw [rp.ex _ _ ha, this, List.map_map]
    rfl
  · cases e
def rDGet : V → V → Hp → VK → Prop := fun x y H Q => ∃ a v, x = .ref a ∧ DGet H a y (some v) ∧ Q v H
def rDIn (neg : Bool) : V → V → Hp → VK → Prop := fun y x H Q => ∃ a o, x = .ref a ∧ DGet H a y o ∧ Q (.bl (if neg then !o.isSome else o.isSome)) H
theorem DGet.tR {H : Hp} {a b : Addr} {kvs : List (List Key × V)} {k : List Key} (e : Rd H a (.dT kvs)) (eb : H b = some (.tup (k.map kV))) : DGet H a (.ref b) (valV kvs k) := .inr ⟨kvs, k, b, e, rfl, eb, rfl⟩
theorem bDGet_snd : OSnd G rDGet bDGet := by
  intro S F ρ H st x y a b Q E rp hx hy o
  unfold bDGet bd at o
  cases e1 : dctR a st with
  | bad => rw [e1] at o; exact o.elim
  | ex c s => exact (dctR_ex e1).elim
  | ok kvs s =>
    rw [e1] at o
    obtain ⟨rfl, p, us, rfl, hp, hr⟩ := dctR_rel rp hx e1
    cases e2 : keyOf b with
    | none => simp only [e2] at o; exact o.elim
    | some k =>
      simp only [e2] at o
      obtain ⟨p2, rfl, hp2⟩ := key_rel rp hy e2
      dsimp only [oget, ret] at o
      rcases dc_val (k := k) hr with ⟨z, _⟩ | ⟨d, v, z1, z2, z3⟩
      · rw [z] at o; exact o.elim
      · rw [z1] at o
        refine ⟨p, v, rfl, ?_, out.at (v := Val.d d) o rp z3⟩
        rw [← z2]
        exact DGet.tR hp hp2
theorem bDIn_snd (neg : Bool) : OSnd G (rDIn neg) (bDInF neg) := by
  intro S F ρ H st y x b a Q E rp hy hx o
  unfold bDInF bd at o
  cases e1 : dctR a st with
  | bad => rw [e1] at o; exact o.elim
  | ex c s => exact (dctR_ex e1).elim
  | ok kvs s =>
    rw [e1] at o
    obtain ⟨rfl, p, us, rfl, hp, hr⟩ := dctR_rel rp hx e1
    cases e2 : keyOf b with
    | none => simp only [e2] at o; exact o.elim
    | some k =>
      simp only [e2] at o
      obtain ⟨p2, rfl, hp2⟩ := key_rel rp hy e2
      have hs : (valV us (k.map Sum.inl)).isSome = (valK kvs k).isSome := by
        rcases dc_val (k := k) hr with ⟨z, z'⟩ | ⟨d, v, z1, z2, z3⟩
        · rw [z, z']; rfl
        · rw [z1, z2]; rfl
      refine ⟨p, valV us (k.map Sum.inl), rfl, DGet.tR hp hp2, ?_⟩
      rw [hs]
      exact out.at (v := vB (if neg then !(valK kvs k).isSome else (valK kvs k).isSome)) o rp (.bl _)
theorem op_dIn (hu : X.A.units + 64 < cLine) : OpR X (compareOp .In) (rDIn false) := by
  intro pins s σ H x y v u Q I rx ry h
  obtain ⟨a, o, rfl, hd, q⟩ := h
  cases ry
  exact d_in (by omega) I hd rx fun s' I' => ⟨.bl o.isSome, H, I', rfl, q⟩
theorem op_dNIn (hu : X.A.units + 64 < cLine) : OpR X (compareOp .NotIn) (rDIn true) := by
  intro pins s σ H x y v u Q I rx ry h
  obtain ⟨a, o, rfl, hd, q⟩ := h
  cases ry
  exact d_notIn (by omega) I hd rx fun s' I' => ⟨.bl (!o.isSome), H, I', rfl, q⟩
theorem qe_dget {E : XK} {o i : Expr} {fo fi : Y.E} {pos : Pos} (hu : X.A.units + 64 < cLine) (ho : PE X o (lE G E fo)) (hi : PE X i (lE G E fi)) (hs : NoSl i) : PE X (.Subscript o i pos) (lE G E (eO bDGet fo fi)) := PE.imp (pe_dget (by omega) ho hi hs) (lE_O bDGet_snd)
theorem qe_dnew {E : XK} {pos : Pos} : PE X (.Dict [] [] pos) (lE G E eDNew) := by
  refine PE.imp pe_dnewT fun σ H Q ⟨S, F, ρ, loc, st, rp, l, o⟩ p hp => ?_
  obtain ⟨r', g⟩ := rp.push (ob := .dct []) hp ⟨[], rfl, .nil⟩
  refine out.go (v := Val.o st.length) o g r' ⟨p, ?_, rfl⟩
  rw [List.getElem?_append_right (by rw [rp.len]; exact Nat.le_refl _), rp.len]
  simp
theorem Rep.putT {S F : Hp} {ρ : List Addr} {H : Hp} {st : Store} (r : Rep G S F ρ H st) {k : Nat} {a : Addr} {us : List (List Key × V)} {o : HO} {ob ob' : Ob} (hk : st[k]? = some ob) (ha : ρ[k]? = some a) (hh : H a = some (.dT us)) (ho : OR G F ρ o ob') (hob : ¬ Im ob := by intro z; exact z) : Rep G S F ρ (upd H a o) (st.set k ob') := by
  refine r.put hk ha ho (fun p q hm z => ?_) (fun c q e z => ?_) hob
  · obtain ⟨ps, h1, _⟩ := r.tab (p, q) hm
    rw [z, hh] at h1
    cases h1
  · rw [z, hh] at e
    cases e
theorem qs_dput {E : XK} {o i e : Expr} {fo fi fe : Y.E} {pos pos' : Pos} (hu : X.A.units + 64 < cLine) (ho : PE X o (lE G E fo)) (hi : PE X i (lE G E fi)) (he : PE X e (lE G E fe)) (hs : swapsWith e (some (.Subscript o i pos')) pos.line X.env = pure false := by rfl) : PS X (.Assign [.Subscript o i pos'] e pos) (lS G E (Y.sDPut fo fi fe)) := by
  refine PS.imp (ps_dput (by omega) ho hi he hs) fun D σ H ⟨S, F, ρ, loc, st, rp, l, o⟩ => ⟨S, F, ρ, loc, st, rp, l, out.imp (fun v H1 h1 => ?_) (out.bd (Rl := VR G) o)⟩
  obtain ⟨F1, ρ1, cv, st1, g1, r1, v1, o1⟩ := h1
  refine ⟨S, F1, ρ1, loc, st1, r1, l.mono g1, out.imp (fun x H2 h2 => ?_) (out.bd (Rl := VR G) o1)⟩
  obtain ⟨F2, ρ2, cx, st2, g2, r2, v2, o2⟩ := h2
  refine ⟨S, F2, ρ2, loc, st2, r2, (l.mono g1).mono g2, out.imp (fun y H3 h3 => ?_) (out.bd (Rl := VR G) o2)⟩
  obtain ⟨F3, ρ3, cy, st3, g3, r3, v3, o3⟩ := h3
  have v1' := v1.mono (g2.trans g3)
  have v2' := v2.mono g3
  unfold putS bd at o3
  cases cx with
  | d _ => exact o3.elim
  | s _ => exact o3.elim
  | o k =>
    cases e2 : keyOf cy with
    | none => simp only [e2] at o3; exact o3.elim
    | some key =>
      simp only [e2] at o3
      cases cv with
      | o _ => exact o3.elim
      | s _ => exact o3.elim
      | d d =>
        dsimp only at o3
        cases q : st3[k]? with
        | none => simp only [q] at o3; exact o3.elim
        | some ob =>
          simp only [q] at o3
          cases ob with
          | ins _ _ => exact o3.elim
          | gone => exact o3.elim
          | tup _ => exact o3.elim
          | lst _ => exact o3.elim
          | dcf _ => exact o3.elim
          | dct kvs =>
            dsimp only at o3
            by_cases hl : kvs.length < lim
            · rw [if_pos hl] at o3
              obtain ⟨a, us, rfl, hk, hh, hr⟩ := own_dct r3 v2' q
              obtain ⟨p2, rfl, hp2⟩ := key_rel r3 v3 e2
              refine ⟨a, _, rfl, DPut.t hh hp2 (by rw [Paired.length hr]; exact sz' hl), ?_⟩
              have r4 := r3.putT q hk hh (ob' := .dct (putD kvs key d)) ⟨_, rfl, dc_put v1' hr⟩
              exact out.at (v := (Fl.nx, loc)) (u := FV.nx σ) o3 r4 (((l.mono g1).mono g2).mono g3)
            · rw [if_neg hl] at o3
              exact o3.elim
theorem bLenD_snd : BSnd G rLenT bLenD := by
  intro S F ρ H st xs as Q E rp hx o
  unfold bLenD at o
  split at o
  · rename_i v
    cases hx with
    | cons h hr =>
      cases hr
      cases e : dctOf v st with
      | bad => unfold bd at o; rw [e] at o; exact o.elim
      | ex c s => exact (dctOf_ex e).elim
      | ok kvs s' =>
        unfold bd at o
        rw [e] at o
        obtain ⟨rfl, p, us, rfl, ha, hu⟩ := dctOf_rel rp h e
        refine ⟨p, us, rfl, ha, ?_⟩
        rw [Paired.length hu]
        exact out.at (v := vI (kvs.length : Int)) o rp (.int _)
  · exact o.elim
end
end Y
end
section
set_option Elab.async false
set_option linter.all false
/-! Sk: sorted keys of a dict. -/
namespace Y
open PySem (PyData Str)
def tD (k : List Int) : D := .tuple (k.map .int)
noncomputable def sortK (ks : List (List Int)) : List (List Int) := ks.mergeSort (PySem.W.dataLe false tD)
open Classical in
/-- sorted(d) -/
noncomputable def bSortK : List Val → M Val
  | [v] => bd (dctOf v) fun kvs => if kvs.length ≤ lim ∧ ∀ p ∈ kvs, p.1 ≠ [] then ret (.d (.list ((sortK (kvs.map (·.1))).map tD))) else die
  | _ => die
end Y
end
section
set_option Elab.async false
set_option Elab.async false
set_option linter.all false
set_option maxRecDepth 100000
set_option maxHeartbeats 2000000
/-! Tsk: sorted(d), d a dict whose keys are tuples of whole numbers. -/
namespace Y
open PySem PySem.Spec PySem.Calls PyProof.Rows L2
section
variable {X : Cx} {G : Glo}
def KsAt (H : Hp) : List Addr → List (List Int) → Prop := Paired (fun b k => H b = some (.tup (k.map V.int)))
def rSortK : List V → Hp → VK → Prop := fun vs H Q => ∃ (d : Addr) (kvs : List (List Key × V)) (ks : List (List Int)), vs = [V.ref d] ∧ H d = some (.dT kvs) ∧ kvs.map (·.1) = ks.map (fun k => k.map Sum.inl) ∧ ks.length ≤ sizeLine ∧ (∀ k ∈ ks, k ≠ []) ∧
  ∀ (bs : List Addr) (p : Addr), H p = none → KsAt H bs (Y.sortK ks) → Q (.ref p) (upd H p (.lst (bs.map V.ref)))
theorem readsA_ints {h : Heap} : ∀ {k : List Int} {its : List Value}, Vals (k.map V.int) its → ReadsAll h its (k.map .int) []
  | [], _, .nil => .nil
  | i :: k, _, .cons r t => by
    obtain ⟨tk, rfl⟩ := r
    exact ReadsAll.cons (as := []) (bs := []) (.int i tk) (readsA_ints t)
theorem reads_tI {pins : List (Addr × Obj)} {σ : L2.St} {H : Hp} {s : Shared} (I : Inv X pins σ H s) {b : Addr} {k : List Int} (hb : H b = some (.tup (k.map V.int))) : Reads s.heap (.ref b) (tD k) [] := by
  obtain ⟨_, its, rv, o, ho, hc, n, hd⟩ := I.hok _ _ hb
  exact Reads.tuple ho hc hd (by simpa using readsA_ints rv)
theorem ks_of {H : Hp} : ∀ {kvs : List (List Key × V)} {bs : List Addr} {ks : List (List Int)}, IsKeys H kvs bs → kvs.map (·.1) = ks.map (fun k => k.map Sum.inl) → KsAt H bs ks
  | [], [], [], .nil, _ => .nil
  | [], [], _ :: _, .nil, e => by cases e
  | _ :: _, _ :: _, [], .cons _ _, e => by cases e
  | p :: kvs, b :: bs, k :: ks, .cons h t, e => by
    rw [List.map_cons, List.map_cons] at e
    injection e with e1 e2
    have h : H b = some (.tup (p.1.map kV)) := h
    refine .cons ?_ (ks_of t e2)
    show H b = some (.tup (k.map V.int))
    rw [h, e1, List.map_map]
    rfl
theorem alike_tD (a b : List Int) : PySem.W.alike (tD a) (tD b) = true := PySem.W.alike_ints a b
theorem dep_ints : ∀ xs : List Int, PyData.depthAll (xs.map PyData.int) = 0
  | [] => by simp [PyData.depthAll]
  | x :: xs => by simp [PyData.depthAll, PyData.depth, dep_ints xs]
theorem cr_sortedK (hc : X.calm = true) (hu : X.A.units + 64 < cLine) : CallR X (.builtin "sorted") rSortK := by
  intro pins s σ H xs us Q I r h
  obtain ⟨d, kvs, ks, rfl, hd, hks, hlen, hne, q⟩ := h
  obtain ⟨u, rfl, rx⟩ := r.one
  cases rx
  obtain ⟨z, hs, kx, pr, o, es, ep, ho, hx, hdt, he, hn⟩ := (show ObjOk X.prog X.w H s.heap d (.dT kvs) from I.hok d _ hd)
  have l1 : es.size = kx.length := size_of_entries he
  have l2 : kvs.length = kx.length := Paired.length pr
  have l3 : kvs.length = ks.length := by have := congrArg List.length hks; simpa using this
  have hh : X.A.handled = none := I.ok.hd hc
  refine call_function_entry kind_sorted plain_sorted entry_sorted (args_sorted1 _) ?_
  unfold Builtin.«sorted»
  refine wpAny_bind (m := checkCount "sorted" 1 1 _) (wpAny_pure ?_)
  refine wpAny_bind (PySem.W.kdu_collect (A := X.A.in1) (kdl_raw hs hx hdt) hh ho (by omega) fun h' tk acc' kp it => ?_)
  have ea : acc'.toList = (kx.map fun x => x.2.1).map Value.ref := by
    have hl : acc'.toList.length = kx.length := by rw [Array.length_toList, it.1]; exact l1
    rw [List.map_map]
    apply List.ext_getElem?
    intro j
    rw [List.getElem?_map]
    cases hj : acc'.toList[j]? with
    | none =>
      have h1 := List.getElem?_eq_none_iff.mp hj
      rw [List.getElem?_eq_none (by omega)]
      all_goals rfl
    | some v =>
      obtain ⟨en, hen, hv⟩ := it.2 j v (by rw [← Array.getElem?_toList]; exact hj)
      have qe := entry_at he j
      rw [hen] at qe
      cases hb : kx[j]? with
      | none =>
        rw [hb] at qe
        exact nomatch (show some en = none from qe)
      | some b =>
        rw [hb] at qe
        have e2 : en = entryOfKey (tupleKind (mixKind X.prog X.w)) b := Option.some.inj qe
        rw [hv, e2]
        all_goals rfl
  have kat : KsAt H (kx.map fun x => x.2.1) ks := ks_of (isKeys_of pr) hks
  generalize hbs : (kx.map fun x => x.2.1) = bs at ea kat
  have lb : bs.length = ks.length := Paired.length kat
  generalize acc'.toList = vs at ea ⊢
  subst ea
  have la : (bs.map Value.ref).length ≤ sizeLine := by rw [List.length_map, lb]; exact hlen
  refine wpAny_bind (wpAny_newList ?_ la)
  generalize hpo : h'.push { cls := .type "list", data := .seq (bs.map Value.ref).toArray } = h2
  have hob : h2.get? h'.objs.size = some (seqObj "list" (bs.map Value.ref).toArray 0) := by rw [← hpo]; exact Heap.get?_push_size _ rfl
  have k2 : ∀ b ob, h'.get? b = some ob → h2.get? b = some ob := fun b ob e => by rw [← hpo]; exact Heap.get?_push_of_some _ e
  have I1 : Inv X pins σ H { s with heap := h', toks := tk } := I.kept (t' := tk) kp
  have I2 : Inv X pins σ H { s with heap := h2, toks := tk } := I.kept (t' := tk) fun b ob e => k2 b ob (kp b ob e)
  have each1 : ∀ {as : List Addr} {ls : List (List Int)}, KsAt H as ls → PySem.W.EachIs (fun (v : Value) (b : Addr × List Int) => v = .ref b.1) (as.map Value.ref) (as.zip ls) := by
    intro as ls hk
    induction hk with
    | nil => exact .nil
    | cons h t ih => exact .cons rfl ih
  have each2 : ∀ {as : List Addr} {ls : List (List Int)}, KsAt H as ls → PySem.W.EachIs (fun (v : Value) (b : Addr × List Int) => ∃ l, Reads h2 v (tD b.2) l ∧ h'.objs.size ∉ l) (as.map Value.ref) (as.zip ls) := by
    intro as ls hk
    induction hk with
    | nil => exact .nil
    | cons h t ih => exact .cons ⟨[], reads_tI I2 h, by simp⟩ ih
  have ez : (bs.zip ks).map (fun b => tD b.2) = ks.map tD := by
    have : (fun b : Addr × List Int => tD b.2) = tD ∘ Prod.snd := rfl
    rw [this, ← List.map_map, List.map_snd_zip (by omega)]
  have call := PySem.W.list_sort_data (prog := X.prog) (w := X.w) (A := X.A.in1) (E := X.xe) (s := { s with heap := h2, toks := tk }) (vs := bs.map Value.ref) (bs := bs.zip ks) (enc := fun b => tD b.2) (R := fun v b => v = .ref b.1) (Q := fun _ s' => EP X pins σ Q (.ref h'.objs.size) s') hob (each1 kat) (each2 kat) (PySem.W.AllAlike.of fun a b => alike_tD _ _) (.inl fun d hd => by
      rw [ez] at hd
      obtain ⟨k, hk, rfl⟩ := List.mem_map.mp hd
      cases k with
      | nil => exact absurd rfl (hne [] hk)
      | cons x r => exact ⟨_, _, rfl⟩) (by rw [List.length_zip]; omega) (fun b hb => by
      show X.A.in1.units + 1 + (PyData.tuple (b.2.map PyData.int)).depth < cLine
      have hi : X.A.in1.units = X.A.units + 1 := rfl
      simp only [PyData.depth, dep_ints]
      omega) fun out hol heo => by
    have hperm := heo
    have so : (bs.zip ks).mergeSort (PySem.W.dataLe false fun b => tD b.2) = (bs.zip ks).mergeSort (PySem.W.dataLe false fun b : Addr × List Int => tD b.2) := rfl
    have hout : out = (((bs.zip ks).mergeSort (PySem.W.dataLe false fun b : Addr × List Int => tD b.2)).map Prod.fst).map Value.ref := by
      have : ∀ {l : List Value} {m : List (Addr × List Int)}, PySem.W.EachIs (fun (v : Value) (b : Addr × List Int) => v = .ref b.1) l m → l = (m.map Prod.fst).map Value.ref := by
        intro l m h
        induction h with
        | nil => rfl
        | cons h t ih => rw [h, ih]; rfl
      exact this heo
    have hsk : ((bs.zip ks).mergeSort (PySem.W.dataLe false fun b : Addr × List Int => tD b.2)).map Prod.snd = Y.sortK ks := by
      unfold Y.sortK
      have m := PySem.W.sort_maps (r := PySem.W.dataLe false fun b : Addr × List Int => tD b.2) (s := PySem.W.dataLe false tD) (Prod.snd : Addr × List Int → List Int) (l := bs.zip ks) (fun _ _ _ _ => rfl)
      rw [m, List.map_snd_zip (by omega)]
    have katS : KsAt H (((bs.zip ks).mergeSort (PySem.W.dataLe false fun b : Addr × List Int => tD b.2)).map Prod.fst) (Y.sortK ks) := by
      rw [← hsk]
      have memz : ∀ p ∈ bs.zip ks, H p.1 = some (.tup (p.2.map V.int)) := by
        have : ∀ {as : List Addr} {ls : List (List Int)}, KsAt H as ls → ∀ p ∈ as.zip ls, H p.1 = some (.tup (p.2.map V.int)) := by
          intro as ls hk
          induction hk with
          | nil => intro p hp; cases hp
          | cons h t ih =>
            intro p hp
            rw [List.zip_cons_cons] at hp
            rcases List.mem_cons.mp hp with rfl | hp
            · exact h
            · exact ih p hp
        exact this kat
      have : ∀ {m : List (Addr × List Int)}, (∀ p ∈ m, H p.1 = some (.tup (p.2.map V.int))) → KsAt H (m.map Prod.fst) (m.map Prod.snd) := by
        intro m
        induction m with
        | nil => intro _; exact .nil
        | cons p m ih => intro h; exact .cons (h p List.mem_cons_self) (ih fun q hq => h q (List.mem_cons_of_mem _ hq))
      exact this fun p hp => memz p (List.mem_mergeSort.mp hp)
    generalize hos : ((bs.zip ks).mergeSort (PySem.W.dataLe false fun b : Addr × List Int => tD b.2)).map Prod.fst = os at hout katS
    have los : os.length = ks.length := by rw [← hos, List.length_map, List.length_mergeSort, List.length_zip]; omega
    obtain ⟨ep', he'⟩ := PyProof.Rows.sortedHeap_at (vs := bs.map Value.ref) (out := out.toArray) hob
    have keep : ∀ b ob, h'.get? b = some ob → (sortedHeap h2 h'.objs.size (bs.map Value.ref) out.toArray).get? b = some ob := fun b ob e => by
      have e2 := k2 b ob e
      rw [PyProof.Rows.sortedHeap_old (Nat.ne_of_lt (Heap.lt_size e)) (Heap.lt_size e2)]
      exact e2
    have rv : Vals (os.map V.ref) out := by rw [hout]; exact vals_refs os
    have hln : (os.map V.ref).length ≤ sizeLine := by rw [List.length_map, los]; exact hlen
    exact ⟨.ref h'.objs.size, upd H h'.objs.size (.lst (os.map V.ref)), I1.laid (t' := tk) keep (Nat.le_refl _) ⟨hln, out, ep', rv, he'⟩, rfl, q os _ (I1.hok.fresh (Nat.le_refl _)) katS⟩
  refine wpAny_bind (wpAny_holding (wpAny_mono call (fun _ s' x => ?_) fun _ _ e => e))
  exact wpAny_pure ⟨_, rfl, x⟩
theorem dt_ks {F : Hp} : ∀ {bs : List Addr} {ks : List (List Int)}, KsAt F bs ks → DtA F (bs.map V.ref) (ks.map tD)
  | [], [], .nil => .nil
  | b :: bs, k :: ks, .cons h t => by
    have dints : ∀ l : List Int, DtA F (l.map V.int) (l.map .int) := fun l => by
      induction l with
      | nil => exact .nil
      | cons i l ih => exact .cons (.int i) ih
    exact .cons (.tup h (dints k)) (dt_ks t)
theorem bSortK_snd : BSnd G rSortK bSortK := by
  intro S F ρ H st xs as Q E rp hx o
  unfold bSortK at o
  split at o
  · rename_i v
    cases hx with
    | cons h hr =>
      cases hr
      cases e : dctOf v st with
      | bad => unfold bd at o; rw [e] at o; exact o.elim
      | ex c s => exact (dctOf_ex e).elim
      | ok kvs s' =>
        unfold bd at o
        rw [e] at o
        obtain ⟨rfl, p, us, rfl, ha, hu⟩ := dctOf_rel rp h e
        dsimp only at o
        by_cases hc : kvs.length ≤ lim ∧ ∀ p ∈ kvs, p.1 ≠ []
        · rw [if_pos hc] at o
          have hk : us.map (·.1) = (kvs.map (·.1)).map (fun k => k.map Sum.inl) := by
            clear o e ha hc h
            induction hu with
            | nil => rfl
            | cons h t ih => rw [List.map_cons, List.map_cons, List.map_cons, ih, h.1]
          refine ⟨p, us, kvs.map (·.1), rfl, ha, hk, by rw [List.length_map]; exact sz hc.1, fun k hk => ?_, fun bs l hl kat => ?_⟩
          · obtain ⟨q, hq, rfl⟩ := List.mem_map.mp hk
            exact hc.2 q hq
          · obtain ⟨F', r', g', hF⟩ := rp.adopt (bs := bs) (fun b hb => by
              have : ∀ {bs : List Addr} {ks : List (List Int)}, KsAt H bs ks → ∀ b ∈ bs, ∃ xs, H b = some (.tup xs) := by
                intro bs ks hk
                induction hk with
                | nil => intro b hb; cases hb
                | cons h t ih =>
                  intro b hb
                  rcases List.mem_cons.mp hb with rfl | hb
                  · exact ⟨_, h⟩
                  · exact ih b hb
              exact this kat b hb)
            have katF : KsAt F' bs (Y.sortK (kvs.map (·.1))) := by
              have : ∀ {bs : List Addr} {ks : List (List Int)}, KsAt H bs ks → (∀ b ∈ bs, F' b = H b) → KsAt F' bs ks := by
                intro bs ks hk
                induction hk with
                | nil => intro _; exact .nil
                | cons h t ih => intro hf; exact .cons ((hf _ List.mem_cons_self).trans h) (ih fun b hb => hf b (List.mem_cons_of_mem _ hb))
              exact this kat hF
            exact out_lst r' (dt_ks katF) (out.mono g' o) l hl
        · rw [if_neg hc] at o
          exact o.elim
  · exact o.elim
end
end Y
end
section
set_option Elab.async false
set_option linter.all false
/-! Sl: sorted(l, key=lambda x: ..), whole numbers as keys; max and min with a default. -/
namespace Y
open PySem (PyData Str)
def keyL (fb : E) (cap : Loc) : List D → M (List Int)
  | [] => ret []
  | d :: ds => bd (fb (some (.d d) :: cap)) fun v => bd (asI v) fun n => bd (keyL fb cap ds) fun ys => ret (n :: ys)
def capt (loc : Loc) (js : List Nat) : Loc := js.map fun j => (loc[j]?).join
def sortI (ds : List D) (ks : List Int) : List D := ((ds.zip ks).mergeSort fun p q => decide (p.2 ≤ q.2)).map Prod.fst
def eSortF (e : E) (js : List Nat) (fb : E) : E := fun loc => bd (e loc) fun v => bd (chkD v) fun ds => if ds.length ≤ lim then bd (noex (keyL fb (capt loc js) ds)) fun ks => ret (.d (.list (sortI ds ks))) else die
/-- max(l, default=d), min(l, default=d) -/
def bMaxF (le : Bool) (v z : Val) : M Val := bd (chkD v) fun ds => bd (oget (toIs ds)) fun ns => match ns with
  | [] => ret z
  | x :: r => ret (vI (if le then r.foldl max x else r.foldl min x))
def eMaxD (le : Bool) (e z : E) : E := fun loc => bd (e loc) fun v => bd (z loc) fun d => bMaxF le v d
/-- the list at i changes no more: it is data from now on -/
def sThaw (i : Nat) (s : S) : S := fun loc => bd (eV i loc) fun v => bd (bFrz v) fun w => s (loc.set i (some w))
end Y
end
section
set_option Elab.async false
set_option Elab.async false
set_option linter.all false
set_option maxRecDepth 100000
set_option maxHeartbeats 2000000
/-! Tsl: sorted(l, key=lambda x: ..). -/
namespace Y
open PySem PySem.Spec PySem.Calls PyProof.Rows L2
section
variable {P : Program} {w : World} {K : PySem.W.Frag} {mg : Str → Option Value} {base : Heap} {CX : CXT} {N ps fr : List Str} {F : NdefX.NF} {f : Addr} {A : Around} {outer : List Env} {s : Shared} {H : Hp} {E : XK} {us : List Value} {vs : List V} {ws : List (Option V)} {k : Nat}
/-- a lambda with parameters runs -/
theorem lam_callN {body : Expr} {pm ctv : Value} {t : TE} {Q : VK} (S : NdefX.NScope N ps fr F.scope) (hr : Room (k + 1) A) (e0 : Env0 P w K mg base A outer s H) (hf : s.heap.get? f = some (PySem.W.kla_obj F.name F.qual F.params body F.scope F.cl pm F.c ctv)) (hc : H F.c = some (LamX.CodeO F.c F.qual))
    (hb : bindArgs (PySem.W.kla_fn F.name F.qual F.params body F.scope F.cl pm (.ref F.c) ctv) ⟨us, []⟩ = pure (ps.zip us)) (C : NdefX.CellsAt F.cl fr ws s.heap H) (r : Vals vs us) (hl : vs.length = ps.length)
    (hbody : PE (NdefX.ncx CX P w K mg base N F f A outer s H E) body t) (ht : t (NdefX.startF N vs ws) H Q) : codeAny (model P w) A (.call (.ref f) ⟨us, []⟩) (CR CX outer P w H s Q E) s := by
  have lim : s.heap.NoLimit := e0.mod.nolimit.keeps fun b o e => (e0.bs b o e).1
  refine PySem.W.kla_callFunE hr.depth hf rfl S.co S.gen rfl (NdefX.codeO_at e0.hok hc) ?_
  rw [hb]
  refine wpAny_pure (wpAny_newFunctionEnv S.nocell (fun ⟨n, _⟩ hy => S.par n (List.of_mem_zip hy).1) (fun h₁ hns hsb => ⟨lim.fresh _ hsb, ?_⟩) S.kind)
  have kp : ∀ b o, s.heap.get? b = some o → h₁.get? b = some o := fun b o e => hsb.extBut b o (Nat.ne_of_lt (Heap.lt_size e)) (Heap.get?_push_of_some _ e)
  have I : Inv (NdefX.ncx CX P w K mg base N F f A outer s H E) [] (NdefX.startF N vs ws) H { s with heap := h₁, toks := s.toks + (ps.zip us).length } := NdefX.inv_startN S hr.hd e0 hl r C hns kp
  refine PySem.W.kla_codeExpr (wpAny_mono (hbody.run [] _ _ H Q I ht) (fun v s' hq => ?_) fun e s' hq => hq)
  obtain ⟨w', H', J', rv, q⟩ := hq
  exact ⟨w', H', J'.os, J'.bare, J'.base, J'.hok, rv, q⟩
end
section
variable {X : Cx} {G : Glo}
/-- an object of code becomes data: it stays -/
theorem Rep.adoptC {S F : Hp} {ρ : List Addr} {H : Hp} {st : Store} (r : Rep G S F ρ H st) {c : Addr} {q : Str} (hc : H c = some (LamX.CodeO c q)) : ∃ F', Rep G S F' ρ H st ∧ Gr F ρ F' ρ ∧ F' c = some (LamX.CodeO c q) := by
  have g : Gr F ρ (upd F c (LamX.CodeO c q)) ρ := by
    refine ⟨fun a o h => ?_, [], by simp⟩
    by_cases ha : a = c
    · subst ha
      rw [upd_same, ← hc]
      exact r.ex _ o h
    · rw [upd_ne ha]; exact h
  refine ⟨upd F c (LamX.CodeO c q), ⟨fun a o h => ?_, fun a o h => ?_, fun a ps h => ?_, r.len, r.nd, fun k ob e => ?_, r.tab⟩, g, upd_same⟩
  · obtain ⟨h1, h2, h3, xs, h4⟩ := r.sd a o h
    refine ⟨h1, ?_, h3, xs, h4⟩
    have ha : a ≠ c := fun z => by
      rw [z, hc, h4] at h1
      cases h1
    rw [upd_ne ha]; exact h2
  · by_cases ha : a = c
    · subst ha
      rw [upd_same] at h
      rw [← h]; exact hc
    · rw [upd_ne ha] at h; exact r.ex a o h
  · by_cases ha : a = c
    · subst ha
      rw [upd_same] at h
      exact LamX.codeO_ne ps (Option.some.inj h)
    · rw [upd_ne ha] at h; exact r.nt a ps h
  · obtain ⟨a, h, e1, e2, e3, e4⟩ := r.own k ob e
    have ha : a ≠ c := fun z => by
      rw [z, hc] at e3
      cases e3
      cases ob with
      | lst _ => obtain ⟨_, z, _⟩ := e4; cases z
      | ins _ _ => obtain ⟨_, _, z, _⟩ := e4; cases z
      | gone => obtain ⟨_, z⟩ := e4; cases z
      | tup _ => obtain ⟨_, z, _⟩ := e4; cases z
      | dct _ => obtain ⟨_, z, _⟩ := e4; cases z
      | dcf _ => obtain ⟨_, _, z, _⟩ := e4; cases z
    exact ⟨a, h, e1, e2.imp id fun z => by rw [upd_ne ha]; exact z, e3, e4.mono g⟩
abbrev lamF (X : Cx) (params : Arguments) (scope : Scope) (c' : Addr) : NdefX.NF := ⟨"<lambda>", X.env.qual ++ "<lambda>", params, [], scope, cloFrom X.env.cells scope.names [], c'⟩
/-- the captured ones -/
theorem lr_capt {F : Hp} {ρ : List Addr} {σ : L2.St} {loc : Loc} (l : LR G F ρ σ loc) {N : List Str} {js : List Nat} {u : V} {d : D} (hd : Dt F u d) (hN : N.length = 1 + js.length) : LR G F ρ (NdefX.startF N [u] (js.map (NdefX.slotAt σ))) (some (.d d) :: capt loc js) := by
  have e : NdefX.startF N [u] (js.map (NdefX.slotAt σ)) = some u :: js.map (NdefX.slotAt σ) := by
    unfold NdefX.startF
    have z : N.length - [u].length - (js.map (NdefX.slotAt σ)).length = 0 := by rw [List.length_map, hN]; simp
    rw [z]
    simp
  rw [e]
  refine ⟨by simp [capt], fun i v h => ?_⟩
  cases i with
  | zero =>
    have h : some (some (Val.d d)) = some (some v) := h
    cases h
    exact ⟨u, rfl, hd⟩
  | succ i =>
    have h : (capt loc js)[i]? = some (some v) := h
    unfold capt at h
    rw [List.getElem?_map] at h
    cases hj : js[i]? with
    | none => rw [hj] at h; cases h
    | some j =>
      rw [hj] at h
      have h : some ((loc[j]?).join) = some (some v) := h
      have h2 : loc[j]? = some (some v) := by
        have := Option.some.inj h
        cases q : loc[j]? with
        | none => rw [q] at this; cases this
        | some o => rw [q] at this; exact congrArg some this
      obtain ⟨u', a, b⟩ := l.2 j v h2
      refine ⟨u', ?_, b⟩
      show (js.map (NdefX.slotAt σ))[i]? = _
      rw [List.getElem?_map, hj, Option.map_some, NdefX.slotAt_of a]
theorem asI_ok {v : Val} {st s : Store} {n : Int} (h : asI v st = .ok n s) : v = .d (.int n) ∧ s = st := by
  unfold asI at h
  split at h
  · rename_i i
    have h : R.ok i st = R.ok n s := h
    injection h with h1 h2
    exact ⟨by rw [h1], h2.symm⟩
  · cases h
/-- the key sort's data -/
theorem dtA_sortI {F : Hp} {us : List V} {ds : List D} {ns : List Int} (h : DtA F us ds) (hn : ns.length = ds.length) : DtA F (((us.zip (ds.zip ns)).mergeSort (PySem.W.dataLe false fun b => PyData.int b.2.2)).map Prod.fst) (sortI ds ns) := by
  have hl := h.length
  have z := dtA_of (F := F) (bs := ((us.zip (ds.zip ns)).mergeSort (PySem.W.dataLe false fun b => PyData.int b.2.2)).map fun b => (b.1, b.2.1)) fun p hp => by
    obtain ⟨b, hb, rfl⟩ := List.mem_map.mp hp
    have hb := List.mem_mergeSort.mp hb
    have : ∀ {us : List V} {ds : List D} {ns : List Int}, DtA F us ds → ∀ b ∈ us.zip (ds.zip ns), Dt F b.1 b.2.1 := by
      intro us ds ns hh b hb
      have hm : (b.1, b.2.1) ∈ us.zip ds := by
        obtain ⟨i, hi⟩ := List.mem_iff_getElem?.mp hb
        obtain ⟨h1, h2⟩ := List.getElem?_zip_eq_some.mp hi
        obtain ⟨h3, h4⟩ := List.getElem?_zip_eq_some.mp h2
        exact List.mem_iff_getElem?.mpr ⟨i, List.getElem?_zip_eq_some.mpr ⟨h1, h3⟩⟩
      exact dtA_zip hh _ hm
    exact this h b hb
  rw [List.map_map, List.map_map] at z
  have e2 : ((us.zip (ds.zip ns)).mergeSort (PySem.W.dataLe false fun b => PyData.int b.2.2)).map (Prod.snd ∘ fun b => (b.1, b.2.1)) = sortI ds ns := by
    unfold sortI
    have m := PySem.W.sort_maps (r := PySem.W.dataLe false fun b : V × D × Int => PyData.int b.2.2) (s := fun p q : D × Int => decide (p.2 ≤ q.2)) (Prod.snd : V × D × Int → D × Int) (l := us.zip (ds.zip ns)) (fun a _ b _ => by rw [PySem.W.dataLe_int])
    have m2 : (us.zip (ds.zip ns)).map Prod.snd = ds.zip ns := List.map_snd_zip (by rw [List.length_zip]; omega)
    rw [m2] at m
    rw [← m, List.map_map]
    rfl
  rw [e2] at z
  exact z
/-- sorted(l, key=lambda x: ..) -/
theorem qe_sortF {E : XK} {e body : Expr} {fe fb : Y.E} {x : Str} {N fr : List Str} {js : List Nat} {params : Arguments} {scope : Scope} {c P : Addr} {k : Nat} {p lpos kpos pos : Pos}
    (hg : Gl X "sorted") (hm : X.mg "sorted" = none) (hv : bootBuiltins "sorted" = some (.builtin "sorted")) (he : PE X e (lE G E fe)) (TB : LamX.TabB X.base X.mg c P) (hcode : X.env.code = .ref c) (hmT : (P, X.env.qual ++ "<lambda>") ∈ G.T)
    (hu : ∀ p ∈ G.T, p.1 = P → p.2 = X.env.qual ++ "<lambda>") (hr : Room (k + 5) X.A) (S : NdefX.NScope N [x] fr scope) (hfr : NdefX.ndefB X.env.scope scope fr = true) (hjs : js.map (fun j => X.N[j]?) = fr.map some) (hNl : N.length = 1 + fr.length) (hdef : defaultsOf params X.env = ([], []))
    (hbind : ∀ (q : Str) (cl : List (Str × Addr)) (pm cv ctv v : Value), bindArgs (PySem.W.kla_fn "<lambda>" q params body scope cl pm cv ctv) ⟨[v], []⟩ = pure [(x, v)])
    (hbody : ∀ (A : Around) (outer : List Env) (s : Shared) (H : Hp) (f c' : Addr), Room k (A.deeper (NdefX.envF (lamF X params scope c') f s.heap.objs.size)) → PE (NdefX.ncx (L2N.CX X.prog X.w) X.prog X.w X.K X.mg X.base N (lamF X params scope c') f A outer s H EF) body (lE G EF fb))
    (hst : starEach [e] X.env = (false, eval e X.env) :: starEach [] X.env := by rfl) (hK : X.K = G.K := by rfl)
    (hbe : backTo pos (starEach [e] X.env) = (false, eval e X.env) :: backTo pos (starEach [] X.env) := by rfl) (hpl : (backTo pos (starEach [e] X.env)).any (·.1) = false := by rfl) :
    PE X (.Call (.Name "sorted" p) [e] [⟨some "key", .Lambda params body scope lpos, kpos⟩] pos) (lE G E (eSortF fe js fb)) := by
  refine ⟨fun pins s σ H Q I h => ?_⟩
  obtain ⟨S0, F, ρ, loc, st, rp, l, o⟩ := h
  have hfree : ∀ y ∈ scope.names, y.2 = .free → ∃ c, X.env.cells.lookup y.1 = some c := fun y hy e => (NdefX.ndef_free hfr y hy e).elim (fun z => I.ok.has _ (.inl z)) fun z => I.ok.has _ (.inr z)
  refine wpAny_Call_Name_kw (ld_blt I hg hm hv ?_ (by decide) (by decide))
  refine PyProof.Rows.callWith_kw (thn ((pa_cons he pa_nil hst).run pos pins s σ H (fun vs H1 => ∃ u, vs = [u] ∧ Then G S0 F ρ (VR G) (VR G) Q E (fun v => bd (chkD v) fun ds => if ds.length ≤ lim then bd (noex (keyL fb (capt loc js) ds)) fun ks => ret (.d (.list (sortI ds ks))) else die) u H1) I ⟨S0, F, ρ, loc, st, rp, l, out.imp (fun u H1 h1 => ⟨u, rfl, h1⟩) (out.bd (Rl := VR G) o)⟩) fun us s1 ⟨vs, H1, I1, r1, u, hu1, q1⟩ => ?_) hbe hpl rfl rfl
  subst hu1
  obtain ⟨F1, ρ1, cv, st1, g1, rp1, v1, o1⟩ := q1
  cases cv with
  | o _ => exact o1.elim
  | s _ => exact o1.elim
  | d y => ?_
  cases y with
  | list ds => ?_
  | none => exact o1.elim
  | bool _ => exact o1.elim
  | int _ => exact o1.elim
  | str _ => exact o1.elim
  | tuple _ => exact o1.elim
  | dict _ => exact o1.elim
  have o1 : out G S0 F1 ρ1 (VR G) Q E ((if ds.length ≤ lim then bd (noex (keyL fb (capt loc js) ds)) fun ks => ret (.d (.list (sortI ds ks))) else die) st1) := o1
  have hlen : ds.length ≤ lim := by
    by_cases hl : ds.length ≤ lim
    · exact hl
    · rw [if_neg hl] at o1; exact o1.elim
  rw [if_pos hlen] at o1
  obtain ⟨a, xs, rfl, ha, hxs⟩ := dt_list v1
  obtain rfl := Vals.ref1 r1
  show wpAny _ _ (evalAll ((do let v ← eval (.Lambda params body scope lpos) X.env; standAt pos; pure v) :: [])) _ _ s1
  refine wpAny_evalAll_cons (wpAny_bind (LamX.lam_make2 I1 TB hcode hmT hu rp1.tab hdef hfree fun f c' pm ctv H2 s2 I2 eN T2 hf hfn hff hco => wpAny_bind (wpAny_standAt (wpAny_pure (wpAny_evalAll_nil ?_)))))
  show wpAny _ _ (call (.builtin "sorted") [.ref a] [(Str.ofString "key", .ref f)]) _ _ s2
  have rp2 := rp1.extN eN T2
  obtain ⟨F2, rp3, g3, hF2⟩ := rp2.adoptC hco
  have l1 : LR G F2 ρ1 σ loc := (l.mono g1).mono g3
  have hxs2 : DtA F2 xs ds := hxs.mono g3.f
  have o2 := out.mono g3 o1
  have hda : H2 a = some (.lst xs) := rp2.ex _ _ ha
  obtain ⟨its, rv, hl, hz⟩ := I2.list (SqL.of hda)
  have hxl := hxs.length
  have hil : its.length = xs.length := rv.length.symm
  have cap := NdefX.Caps.made (X := X) (scope := scope) (fr := fr) (js := js) I.ok (NdefX.ndef_free hfr) (NdefX.ndef_fr hfr) hjs
  have hjl : js.length = fr.length := by have := congrArg List.length hjs; simpa using this
  refine PySem.W.sorted_of_sort (w := X.w) hl.isList (by rw [hil]; exact hz) (PyProof.Rows.ksk_s1 _ _) (fun _ => PyProof.Rows.ksk_l1 _ _) fun E' => ?_
  rw [PyProof.Rows.ksk_t1]
  generalize hAL : s2.heap.objs.size + 1 = aL
  have ho := PySem.W.copyHeap_at s2.heap its
  rw [hAL] at ho
  have hZ : its.length ≤ sizeLine := by rw [hil]; exact hz
  obtain ⟨e1, ho1⟩ : ∃ e1, ((PySem.W.copyHeap s2.heap its).update aL (Obj.mapSeq fun _ => (#[] : Array Value))).get? aL = some (seqObj "list" #[] e1) := ⟨_, get?_update_seq ho fun _ => #[]⟩
  unfold PyProof.Rows.ksk_tree
  refine wpAny_bind (PyProof.Rows.listItems_at ho rfl ?_)
  refine wpAny_bind (PyProof.Rows.listUpdate_at ho rfl ?_ (by rw [List.size_toArray]; exact hZ) (Nat.zero_le _))
  refine wpAny_bind (PyProof.Rows.seqEpoch_at ho1 rfl ?_)
  refine wpAny_bind (wpAny_newTuple ?_ (by show its.length ≤ _; exact hZ))
  refine wpAny_bind (wpAny_newList ?_ (Nat.zero_le _))
  refine wpAny_holding ?_
  generalize hh2 : ((PySem.W.copyHeap s2.heap its).update aL (Obj.mapSeq fun _ => (#[] : Array Value))).push { cls := .type "tuple", data := .seq its.toArray.toList.toArray } = h2
  generalize hkS : h2.objs.size = kS
  have k2 : ∀ b ob, s2.heap.get? b = some ob → (h2.push { cls := .type "list", data := .seq ([] : List Value).toArray }).get? b = some ob := fun b ob e => by
    have hb : b ≠ aL := by
      have hlt : b < s2.heap.objs.size := Heap.lt_size e
      exact Nat.ne_of_lt (by rw [← hAL]; exact Nat.lt_succ_of_lt hlt)
    rw [← hh2]
    refine Heap.get?_push_of_some _ (Heap.get?_push_of_some _ ?_)
    rw [Heap.get?_update_ne _ _ _ _ hb]
    exact PySem.W.copyHeap_old e
  have szc : (PySem.W.copyHeap s2.heap its).objs.size = s2.heap.objs.size + 2 := by
    unfold PySem.W.copyHeap
    rw [size_push', Heap.size_update, size_push']
  have szk : kS = s2.heap.objs.size + 3 := by
    rw [← hkS, ← hh2, size_push', Heap.size_update, szc]
  have I3 : Inv X pins σ H2 { s2 with heap := h2.push { cls := .type "list", data := .seq ([] : List Value).toArray } } := I2.kept (t' := s2.toks) k2
  have fpA : FpOk X pins H2 aL := I2.fpOk (by omega) (I2.hok.fresh (by omega))
  have fpK : FpOk X pins H2 kS := I2.fpOk (by omega) (I2.hok.fresh (by omega))
  have nst : ∀ {b : Addr}, FpOk X pins H2 b → b ∉ frs X.stack := fun {b} fp z => by
    rcases List.mem_cons.mp (I2.stkSub _ z) with e | e
    · exact fp.2.1 e
    · exact fp.2.2.1 e
  have nkS : (h2.push { cls := .type "list", data := .seq ([] : List Value).toArray }).get? kS = some (seqObj "list" #[] 0) := by rw [← hkS]; exact Heap.get?_push_size _ rfl
  have naL : (h2.push { cls := .type "list", data := .seq ([] : List Value).toArray }).get? aL = some (seqObj "list" #[] e1) := by
    rw [← hh2]; exact Heap.get?_push_of_some _ (Heap.get?_push_of_some _ ho1)
  have hflt : f < s2.heap.objs.size := Heap.lt_size hf
  have hfk : f ≠ kS := Nat.ne_of_lt (by rw [szk]; exact Nat.lt_of_lt_of_le hflt (Nat.le_add_right _ _))
  have hfa : f ≠ aL := Nat.ne_of_lt (by rw [← hAL]; exact Nat.lt_succ_of_lt hflt)
  have hak : kS ≠ aL := by omega
  unfold PyProof.Rows.ksk_rest
  refine wpAny_bind (wpAny_rule ?_)
  first
    | rw [List.forIn_toArray]
    | (rw [← Array.forIn_toList]; simp only [List.toList_toArray])
    | rw [← Array.forIn_toList]
  refine wpAny_bind (PyProof.Rows.ksk_fold (fun i s' => ∃ (H' : Hp) (kA : Array Value) (ek : Nat) (ns : List Int) (F' : Hp) (ρ' : List Addr) (st' : Store), Inv X pins σ H' s' ∧ s'.heap.get? kS = some (seqObj "list" kA ek) ∧ s'.heap.get? aL = some (seqObj "list" #[] e1) ∧ s'.heap.get? f = some (PySem.W.kla_obj "<lambda>" (X.env.qual ++ "<lambda>") params body scope (cloFrom X.env.cells scope.names []) pm c' ctv) ∧ H' kS = none ∧ H' aL = none ∧ H' f = none ∧
      Vals (ns.map V.int) kA.toList ∧ ns.length = i ∧ Gr F2 ρ1 F' ρ' ∧ Rep G S0 F' ρ' H' st' ∧ out G S0 F' ρ' (VR G) Q E (bd (noex (keyL fb (capt loc js) (ds.drop i))) (fun ys => ret (.d (.list (sortI ds (ns ++ ys))))) st')) its 0 _
    ⟨H2, #[], 0, [], F2, ρ1, st1, I3, nkS, naL, k2 _ _ hf, fpK.1, fpA.1, hfn, .nil, rfl, Gr.refl, rp3, o2⟩ ?step ?done)
  case step =>
    rintro j v s' hjv ⟨H', kA, ek, ns, F', ρ', st', I', nk', na', hf', hk0, ha0, hf0, hva, hnl, g', r', o'⟩
    simp only [Nat.zero_add] at hnl o' ⊢
    have hj : j < its.length := (List.getElem?_eq_some_iff.mp hjv).1
    have hjx : j < xs.length := by omega
    have hjd : j < ds.length := by omega
    have hxj : xs[j]? = some xs[j] := List.getElem?_eq_getElem hjx
    have hdj : ds[j]? = some ds[j] := List.getElem?_eq_getElem hjd
    have hdt : Dt F' xs[j] ds[j] := Dt.mono g'.f (dtA_zip hxs2 (xs[j], ds[j]) (List.mem_iff_getElem?.mpr ⟨j, List.getElem?_zip_eq_some.mpr ⟨hxj, hdj⟩⟩))
    have rj : RelV xs[j] v := by
      have : ∀ {xs : List V} {its : List Value} {j : Nat} {a : V} {b : Value}, Vals xs its → xs[j]? = some a → its[j]? = some b → RelV a b := by
        intro xs its j a b h
        induction h generalizing j with
        | nil => intro e; simp at e
        | cons r _ ih =>
          intro e1 e2
          cases j with
          | zero => simp at e1 e2; subst e1 e2; exact r
          | succ j => exact ih (by simpa using e1) (by simpa using e2)
      exact this rv hxj hjv
    have hdr : ds.drop j = ds[j] :: ds.drop (j + 1) := List.drop_eq_getElem_cons hjd
    rw [hdr] at o'
    obtain ⟨ys, sf, hkl, ofin⟩ := out_noex (Rl := fun _ _ (_ : Unit) _ => True) o'
    obtain ⟨rv0, sa, hfb, hkl⟩ := bd_ok (show bd (fb (some (.d ds[j]) :: capt loc js)) (fun v => bd (asI v) fun n => bd (keyL fb (capt loc js) (ds.drop (j + 1))) fun ys => ret (n :: ys)) st' = .ok ys sf from hkl)
    obtain ⟨n, sb, hai, hkl⟩ := bd_ok hkl
    obtain ⟨ys', sc', hkr, hfin⟩ := bd_ok hkl
    obtain ⟨rfl, rfl⟩ := asI_ok hai
    have hfin : R.ok (n :: ys') sc' = R.ok ys sf := hfin
    injection hfin with hys hsf
    subst hys hsf
    have lr' : LR G F' ρ' (NdefX.startF N [xs[j]] (js.map (NdefX.slotAt σ))) (some (.d ds[j]) :: capt loc js) := lr_capt (l1.mono g') hdt (by rw [hNl, hjl])
    have hc' : H' c' = some (LamX.CodeO c' (X.env.qual ++ "<lambda>")) := r'.ex _ _ (g'.f _ _ hF2)
    have hrA : Room (k + 1) X.A.in1.in1 := ((hr.mono (show k + 3 ≤ k + 5 by omega)).in1).in1
    have e0 : Env0 X.prog X.w X.K X.mg X.base X.A.in1.in1 X.stack s' H' := I'.env0.in1.in1
    have run := lam_callN (CX := L2N.CX X.prog X.w) (E := EF) (ps := [x]) (us := [v]) (vs := [xs[j]]) (F := lamF X params scope c') (Q := fun v3 H3 => ∃ m, v3 = .int m ∧ ∃ (F3 : Hp) (ρ3 : List Addr) (st3 : Store), Gr F2 ρ1 F3 ρ3 ∧ Rep G S0 F3 ρ3 H3 st3 ∧ out G S0 F3 ρ3 (VR G) Q E (bd (noex (keyL fb (capt loc js) (ds.drop (j + 1)))) (fun ys => ret (.d (.list (sortI ds (ns ++ [m] ++ ys))))) st3))
      S hrA e0 hf' hc' (hbind _ _ _ _ _ _) (NdefX.cells_of I' cap) (.cons rj .nil) rfl (hbody X.A.in1.in1 X.stack s' H' f c' (hrA.deeper _)) ⟨S0, F', ρ', _, st', r', lr', out_ok hfb fun F3 ρ3 H3 u3 g4 r4 v4 => ⟨n, dt_int v4, F3, ρ3, _, g'.trans g4, r4, ?_⟩⟩
    · refine wpAny_bind (wpAny_attempt (wpAny_mono (wpAny_call run) (fun kv s3 he => ?_) fun ee s3 he => ?_))
      · obtain ⟨v3, H3, os3, bare3, un3, hok3, rel3, m, rfl, F3, ρ3, st3, g4, r4, o4⟩ := he
        obtain ⟨hh3, gg3, dd3, tt3, oo3⟩ := s3
        obtain rfl : oo3 = s'.os := os3
        have I4 : Inv X pins σ H3 ⟨hh3, gg3, dd3, tt3, s'.os⟩ := I'.call (h' := hh3) (g' := gg3) (d' := dd3) (t' := tt3) (ch := []) un3 hok3 bare3 (fun b z => absurd z (by simp))
        have nk4 : hh3.get? kS = some (seqObj "list" kA ek) := un3.keep kS _ nk' hk0 (nst fpK) (by simp)
        have na4 : hh3.get? aL = some (seqObj "list" #[] e1) := un3.keep aL _ na' ha0 (nst fpA) (by simp)
        have hf4 := un3.keep f _ hf' hf0 hff (by simp)
        have hk4 : H3 kS = none := un3.free kS _ nk' hk0 (by simp)
        have ha4 : H3 aL = none := un3.free aL _ na' ha0 (by simp)
        have hf4n : H3 f = none := un3.free f _ hf' hf0 (by simp)
        obtain ⟨tk, rfl⟩ := rel3
        have kz : kA.size ≤ sizeLine := by
          have h1 : (ns.map V.int).length = kA.toList.length := hva.length
          rw [List.length_map] at h1
          have h3 : kA.toList.length = kA.size := Array.length_toList
          omega
        have s1' := Heap.SameBut.update hh3 kS (Obj.mapSeq (·.push (Value.int m tk)))
        obtain ⟨c2, hc2⟩ : ∃ c2, (hh3.update kS (Obj.mapSeq (·.push (Value.int m tk)))).get? kS = some (seqObj "list" (kA.push (Value.int m tk)) c2) := ⟨_, get?_update_seq nk4 (·.push (Value.int m tk))⟩
        have fpK3 : FpOk X pins H3 kS := ⟨hk4, fpK.2⟩
        refine wpAny_bind (PyProof.Rows.listUpdate_at nk4 rfl ?_ kz (by rw [Array.size_push]; omega))
        refine wpAny_pure ⟨rfl, H3, kA.push (Value.int m tk), c2, ns ++ [m], F3, ρ3, st3, I4.turnedL (t' := tt3) (ch := [kS]) (fun b ob hb e => (s1'.2 b (fun z => hb (by simp [z]))).trans e) (fun b hb => by rw [List.mem_singleton.mp hb]; exact fpK3), hc2, (s1'.2 aL hak.symm).trans na4, (s1'.2 f hfk).trans hf4, hk4, ha4, hf4n, ?_, by rw [List.length_append, hnl]; simp, g4, r4, o4⟩
        rw [Array.toList_push, List.map_append]
        have : ∀ {as : List V} {bs : List Value} {a : V} {b : Value}, Vals as bs → RelV a b → Vals (as ++ [a]) (bs ++ [b]) := by
          intro as bs a b h r
          induction h with
          | nil => exact .cons r .nil
          | cons r0 _ ih => exact .cons r0 ih
        exact this hva ⟨tk, rfl⟩
      · obtain ⟨_, _, _, _, _, _, _, _, _, _, _, _, z⟩ := he
        exact z.elim
    · have e5 : bd (noex (keyL fb (capt loc js) (ds.drop (j + 1)))) (fun ys => ret (Val.d (.list (sortI ds (ns ++ [n] ++ ys))))) sb = ret (Val.d (.list (sortI ds (ns ++ (n :: ys'))))) sc' := by
        unfold bd
        rw [noex_ok hkr]
        show R.ok _ _ = R.ok _ _
        rw [List.append_assoc]
        rfl
      rw [e5]
      exact out.mono g4 ofin
  case done =>
    rintro s' ⟨H', kA, ek, ns, F', ρ', st', I', nk', na', hf', hk0, ha0, hf0, hva, hnl, g', r', o'⟩
    simp only [Nat.zero_add] at hnl o'
    have h1 : (ns.map V.int).length = kA.toList.length := hva.length
    rw [List.length_map] at h1
    have h3 : kA.toList.length = kA.size := Array.length_toList
    have hsz : kA.size = its.length := by omega
    have hnd : ns.length = ds.length := by omega
    refine wpAny_bind (PyProof.Rows.listItems_at nk' rfl ?_)
    obtain ⟨hR, hR1, hR2⟩ := L2.restrict s'.heap (fun b => !decide (b = kS))
    have kp1 : PySem.W.KeepsBut aL hR s'.heap := fun b ob hb e => by
      by_cases hbk : b = kS
      · rw [hR2 b (by simp [hbk])] at e; cases e
      · rw [hR1 b (by simp [hbk])] at e; exact e
    have ez : (xs.zip (ds.zip ns)).map (fun b => PyData.int b.2.2) = ns.map PyData.int := by
      have q : (fun b : V × D × Int => PyData.int b.2.2) = PyData.int ∘ (Prod.snd ∘ Prod.snd) := rfl
      rw [q, ← List.map_map, ← List.map_map, List.map_snd_zip (by rw [List.length_zip]; omega), List.map_snd_zip (by omega)]
    have hk' : PySem.W.EachIs (fun v d => ∃ as, Reads s'.heap v d as) kA.toList (ns.map PyData.int) := by
      have : ∀ {ns : List Int} {vs : List Value}, Vals (ns.map V.int) vs → PySem.W.EachIs (fun v d => ∃ as, Reads s'.heap v d as) vs (ns.map PyData.int) := by
        intro ns
        induction ns with
        | nil => intro vs h; cases h; exact .nil
        | cons n ns ih =>
          intro vs h
          cases h with
          | cons r t =>
            obtain ⟨tk, rfl⟩ := r
            exact .cons ⟨[], .int n tk⟩ (ih t)
      exact this hva
    have hal : PySem.W.AllAlike (ns.map PyData.int) := PySem.W.AllAlike.of fun a b => rfl
    have hsk : PySem.W.Sortable (ns.map PyData.int) := PySem.W.Sortable.others fun b => ⟨(fun z => by cases z), (fun xs z => by cases z)⟩
    have hud : ∀ d, d ∈ ns.map PyData.int → X.A.in1.in1.units + d.depth < cLine := fun d hd => by
      obtain ⟨n, _, rfl⟩ := List.mem_map.mp hd
      have hi : X.A.in1.in1.units = X.A.units + 1 + 1 := rfl
      have := hr.units
      have hdp : (PyData.int n).depth ≤ 1 := by simp [PyData.depth]
      omega
    refine PySem.W.keyH_end (prog := X.prog) (w := X.w) (h₁ := hR) (κ := PySem.W.dataKind s'.heap (ns.map PyData.int)) kp1 (hR2 kS (by simp)) nk' na' hak (PySem.W.SortsAt.data hk' hal hsk hud) hsz hZ fun h5 tk5 c5 kp5 na5 => ⟨rfl, ?_⟩
    have ev : PySem.W.EachIs (fun (v : Value) (b : V × D × Int) => RelV b.1 v) its (xs.zip (ds.zip ns)) := by
      have : ∀ {xs : List V} {its : List Value} {m : List (D × Int)}, Vals xs its → xs.length = m.length → PySem.W.EachIs (fun (v : Value) (b : V × D × Int) => RelV b.1 v) its (xs.zip m) := by
        intro xs its m h
        induction h generalizing m with
        | nil => intro e; cases m with
          | nil => exact .nil
          | cons _ _ => cases e
        | cons r _ ih => intro e; cases m with
          | nil => cases e
          | cons y m => exact .cons r (ih (by simpa using e))
      exact this rv (by rw [List.length_zip]; omega)
    have eo := PySem.W.keyedOut_each (rev := false) (fun b : V × D × Int => PyData.int b.2.2) (bs := xs.zip (ds.zip ns)) (vs := its) (out := PySem.W.sortVals (PySem.W.dataKind s'.heap (ns.map PyData.int)) false kA.toList its) (by rw [ez]; exact ⟨s'.heap, kA.toList, hal, rfl, hk'⟩) ev
    generalize PySem.W.sortVals (PySem.W.dataKind s'.heap (ns.map PyData.int)) false kA.toList its = outV at eo na5
    have vo : Vals (((xs.zip (ds.zip ns)).mergeSort (PySem.W.dataLe false fun b => PyData.int b.2.2)).map Prod.fst) outV := by
      have : ∀ {vs : List Value} {m : List (V × D × Int)}, PySem.W.EachIs (fun (v : Value) (b : V × D × Int) => RelV b.1 v) vs m → Vals (m.map Prod.fst) vs := by
        intro vs m h
        induction h with
        | nil => exact .nil
        | cons r _ ih => exact .cons r ih
      exact this eo
    have dso := dtA_sortI (hxs2.mono g'.f) hnd
    have ln : (((xs.zip (ds.zip ns)).mergeSort (PySem.W.dataLe false fun b => PyData.int b.2.2)).map Prod.fst).length ≤ sizeLine := by
      rw [List.length_map, List.length_mergeSort, List.length_zip]; omega
    generalize ((xs.zip (ds.zip ns)).mergeSort (PySem.W.dataLe false fun b => PyData.int b.2.2)).map Prod.fst = outs at vo dso ln
    have I5 : Inv X pins σ H' { s' with heap := h5, toks := tk5 } := I'.turnedL (t' := tk5) (ch := [kS, aL]) (fun b ob hb e => by
      simp only [List.mem_cons, List.not_mem_nil, or_false, not_or] at hb
      exact kp5 b ob hb.2 (by rw [hR1 b (by simp [hb.1])]; exact e)) (fun b hb => by
      simp only [List.mem_cons, List.not_mem_nil, or_false] at hb
      rcases hb with rfl | rfl
      · exact ⟨hk0, fpK.2⟩
      · exact ⟨ha0, fpA.2⟩)
    have I6 : Inv X pins σ (upd H' aL (.lst outs)) { s' with heap := h5, toks := tk5 } := I5.take (t' := tk5) (fun b ob _ e => e) ⟨ha0, fpA.2⟩ ⟨ln, outV, c5, vo, na5⟩
    have dz : ds.drop its.length = [] := List.drop_eq_nil_of_le (by omega)
    rw [dz] at o'
    have o' : out G S0 F' ρ' (VR G) Q E (.ok (.d (.list (sortI ds (ns ++ [])))) st') := o'
    rw [List.append_nil] at o'
    exact ⟨.ref aL, upd H' aL (.lst outs), I6, rfl, out_lst r' dso o' aL ha0⟩
end
end Y
end
section
set_option Elab.async false
set_option Elab.async false
set_option linter.all false
set_option maxRecDepth 100000
set_option maxHeartbeats 2000000
/-! Tmd: max(l, default=d), min(l, default=d), whole numbers. -/
namespace Y
open PySem PySem.Spec PySem.Calls PyProof.Rows L2
section
variable {X : Cx} {G : Glo}
def rMaxD (le : Bool) (K : PySem.W.Frag) : List V → List V → Hp → VK → Prop := fun vs zs H Q => ∃ (a : Addr) (ns : List Int) (d : V), vs = [V.ref a] ∧ zs = [d] ∧ SqL K H a (ns.map V.int) ∧
  (match ns with | [] => Q d H | x :: r => Q (.int (if le then r.foldl max x else r.foldl min x)) H)
theorem alikeA_ints (ns : List Int) : PySem.W.AlikeAll (ns.map PyData.int) := by
  refine ⟨fun x hx y hy => ?_, fun x hx z => ?_⟩
  · obtain ⟨a, _, rfl⟩ := List.mem_map.mp hx
    obtain ⟨b, _, rfl⟩ := List.mem_map.mp hy
    rfl
  · obtain ⟨a, _, rfl⟩ := List.mem_map.mp hx
    cases z
theorem cr_maxD (hc : X.calm = true) (hu : X.A.units + 64 < cLine) : CallRK X (.builtin "max") [Str.ofString "default"] (rMaxD true X.K) := by
  intro pins s σ H xs zs us ws Q I r rz h
  obtain ⟨a, ns, d, rfl, rfl, hs, q⟩ := h
  obtain rfl := Vals.ref1 r
  obtain ⟨w1, rfl, e1⟩ := vals1 rz
  obtain ⟨its, rv, hl, hz⟩ := I.list hs
  refine PySem.W.max_list_default (xs := ns.map PyData.int) (as := []) (I.ok.hd hc) hl.isList (by simpa using readsA_ints rv) (alikeA_ints ns) (by rw [dep_ints]; omega) (fun h0 h' tk kp => ?_) fun y ys i v h' tk bs h1 h2 h3 kp => ?_
  · have : ns = [] := by cases ns with | nil => rfl | cons _ _ => cases h0
    subst this
    exact ⟨d, H, I.kept (t' := tk) kp, e1, q⟩
  · cases ns with
    | nil => cases h1
    | cons x r =>
      rw [List.map_cons] at h1
      injection h1 with h1 h4
      subst h1 h4
      rw [PySem.W.maxD_ints] at h3
      cases h3 with
      | int n t => exact ⟨.int _, H, I.kept (t' := tk) kp, ⟨t, rfl⟩, q⟩
theorem cr_minD (hc : X.calm = true) (hu : X.A.units + 64 < cLine) : CallRK X (.builtin "min") [Str.ofString "default"] (rMaxD false X.K) := by
  intro pins s σ H xs zs us ws Q I r rz h
  obtain ⟨a, ns, d, rfl, rfl, hs, q⟩ := h
  obtain rfl := Vals.ref1 r
  obtain ⟨w1, rfl, e1⟩ := vals1 rz
  obtain ⟨its, rv, hl, hz⟩ := I.list hs
  refine PySem.W.min_list_default (xs := ns.map PyData.int) (as := []) (I.ok.hd hc) hl.isList (by simpa using readsA_ints rv) (alikeA_ints ns) (by rw [dep_ints]; omega) (fun h0 h' tk kp => ?_) fun y ys i v h' tk bs h1 h2 h3 kp => ?_
  · have : ns = [] := by cases ns with | nil => rfl | cons _ _ => cases h0
    subst this
    exact ⟨d, H, I.kept (t' := tk) kp, e1, q⟩
  · cases ns with
    | nil => cases h1
    | cons x r =>
      rw [List.map_cons] at h1
      injection h1 with h1 h4
      subst h1 h4
      rw [PySem.W.minD_ints] at h3
      cases h3 with
      | int n t => exact ⟨.int _, H, I.kept (t' := tk) kp, ⟨t, rfl⟩, q⟩
theorem lE_maxD {E : XK} {le : Bool} {fe fz : Y.E} : ∀ σ H Q, lE G E (eMaxD le fe fz) σ H Q → tCKw (rMaxD le G.K) (tCons (lE G E fe) tNil) (tCons (lE G E fz) tNil) σ H Q := by
  rintro σ H Q ⟨S, F, ρ, loc, st, rp, l, o⟩
  refine ⟨S, F, ρ, loc, st, rp, l, out.imp (fun x H1 h1 => ?_) (out.bd (Rl := VR G) o)⟩
  obtain ⟨F1, ρ1, a, st1, g1, r1, v1, o1⟩ := h1
  refine ⟨S, F1, ρ1, loc, st1, r1, l.mono g1, out.imp (fun y H2 h2 => ?_) (out.bd (Rl := VR G) o1)⟩
  obtain ⟨F2, ρ2, b, st2, g2, r2, v2, o2⟩ := h2
  have v1' := v1.mono g2
  cases a with
  | o _ => exact o2.elim
  | s _ => exact o2.elim
  | d z => ?_
  cases z with
  | list ds => ?_
  | none => exact o2.elim
  | bool _ => exact o2.elim
  | int _ => exact o2.elim
  | str _ => exact o2.elim
  | tuple _ => exact o2.elim
  | dict _ => exact o2.elim
  obtain ⟨p, us, rfl, ha, hu⟩ := dt_list v1'
  cases e : toIs ds with
  | none =>
    unfold bMaxF bd chkD ret at o2
    dsimp only at o2
    rw [e] at o2
    exact o2.elim
  | some ns =>
    have hus := toIs_vi hu e
    have o3 : out G S F2 ρ2 (VR G) Q E ((match ns with
      | [] => ret b
      | x :: r => ret (vI (if le then r.foldl max x else r.foldl min x))) st2) := by
      have : bMaxF le (.d (.list ds)) b st2 = (match ns with
        | [] => ret b
        | x :: r => ret (vI (if le then r.foldl max x else r.foldl min x))) st2 := by
        unfold bMaxF bd chkD ret
        dsimp only
        rw [e]
        rfl
      rw [← this]
      exact o2
    refine ⟨p, ns, y, rfl, rfl, ?_, ?_⟩
    · rw [← hus]; exact SqL.of (r2.ex _ _ ha)
    · cases ns with
      | nil => exact out.at (v := b) o3 r2 v2
      | cons x r => exact out.at (v := vI (if le then r.foldl max x else r.foldl min x)) o3 r2 (.int _)
theorem qe_maxD {E : XK} {e z : Expr} {fe fz : Y.E} {p kpos pos : Pos} (hc : X.calm = true) (hu : X.A.units + 64 < cLine) (hg : Gl X "max") (hm : X.mg "max" = none) (hv : bootBuiltins "max" = some (.builtin "max")) (he : PE X e (lE G E fe)) (hz : PE X z (lE G E fz))
    (hst : starEach [e] X.env = (false, eval e X.env) :: starEach [] X.env := by rfl) (hbe : backTo pos (starEach [e] X.env) = (false, eval e X.env) :: backTo pos (starEach [] X.env) := by rfl) (hpl : (backTo pos (starEach [e] X.env)).any (·.1) = false := by rfl) (hK : X.K = G.K := by rfl) :
    PE X (.Call (.Name "max" p) [e] [⟨some "default", z, kpos⟩] pos) (lE G E (eMaxD true fe fz)) := PE.imp (pe_callBK (cr_maxD hc hu) hg hm hv (pa_cons he pa_nil hst) (pk_cons hz pk_nil) (by decide) (by decide) hbe hpl rfl rfl rfl) (by rw [hK]; exact lE_maxD)
theorem qe_minD {E : XK} {e z : Expr} {fe fz : Y.E} {p kpos pos : Pos} (hc : X.calm = true) (hu : X.A.units + 64 < cLine) (hg : Gl X "min") (hm : X.mg "min" = none) (hv : bootBuiltins "min" = some (.builtin "min")) (he : PE X e (lE G E fe)) (hz : PE X z (lE G E fz))
    (hst : starEach [e] X.env = (false, eval e X.env) :: starEach [] X.env := by rfl) (hbe : backTo pos (starEach [e] X.env) = (false, eval e X.env) :: backTo pos (starEach [] X.env) := by rfl) (hpl : (backTo pos (starEach [e] X.env)).any (·.1) = false := by rfl) (hK : X.K = G.K := by rfl) :
    PE X (.Call (.Name "min" p) [e] [⟨some "default", z, kpos⟩] pos) (lE G E (eMaxD false fe fz)) := PE.imp (pe_callBK (cr_minD hc hu) hg hm hv (pa_cons he pa_nil hst) (pk_cons hz pk_nil) (by decide) (by decide) hbe hpl rfl rfl rfl) (by rw [hK]; exact lE_maxD)
end
end Y
end
section
set_option Elab.async false
set_option Elab.async false
set_option linter.all false
set_option maxRecDepth 100000
set_option maxHeartbeats 2000000
/-! Tpl: a class whose __init__ makes a lambda. -/
namespace Y
open PySem PySem.Spec PyProof.Rows L2
section
variable {P : Program} {w : World} {mg : Str → Option Value} {base : Heap} {G : Glo}
theorem fn_okQ {nm qual : Str} {st : Stmt} {N ps : List Str} {k n : Nat} {b : Y.S} {f : Addr} {cdv oc kV doc pm ct : Value} {od an : Option Addr} {osl : Array (Option Value)} (lk : G.K.lookup f = some ⟨oc, od, .func (PySem.W.fnOf nm qual (defArgs st) (defBody st) (defScope st) .none kV doc pm an cdv ct), osl⟩) (hcd : PySem.W.codeIn G.K cdv qual = true) (Sc : FnScope N ps (defScope st)) (hn : n = ps.length) (hN : n ≤ N.length)
    (hb : ∀ (A : Around) (outer : List Env) (s : Shared) (H : Hp) (E : XK), Room k (A.deeper (envOfC qual (defScope st) s.heap.objs.size f cdv)) → PSs (cxOf (L2N.CX P w) P w G.K mg base N qual (defScope st) f cdv A outer s H E) (defBody st) (lS G E b)) :
    FnOk P w G.K mg base (L2N.CX P w) (k + 1) f (PySem.W.fnOf nm qual (defArgs st) (defBody st) (defScope st) .none kV doc pm an cdv ct) ps (spF G n (runF N.length b)) := by
  refine fn_of lk hcd Sc (fun vs H Q E h => ?_) fun A outer s H vs Q E hr h => ⟨lS G E b, hb A outer s H E hr, fn_body hN h⟩
  obtain ⟨S, F, ρ, st, as, rp, vr, hl, o⟩ := h
  rw [vr.length, hl, hn]
theorem cls_okT {x qual : Str} {st : Stmt} {N ps : List Str} {k n c : Nat} {b : Y.S} {f : Addr} {cdv oc kV doc pm ct : Value} {od an : Option Addr} {osl : Array (Option Value)} (lk : G.K.lookup f = some ⟨oc, od, .func (PySem.W.fnOf "__init__" qual (defArgs st) (defBody st) (defScope st) .none kV doc pm an cdv ct), osl⟩) (hcd : PySem.W.codeIn G.K cdv qual = true) (hm : mg x = some (.ref (G.ic c))) (M : Mk G.K (G.ic c) f) (hbd : Binds G.K (PySem.W.fnOf "__init__" qual (defArgs st) (defBody st) (defScope st) .none kV doc pm an cdv ct) ps []) (Sc : FnScope N ps (defScope st)) (hn : n + 1 = ps.length) (hN : n + 1 ≤ N.length)
    (hb : ∀ (A : Around) (outer : List Env) (s : Shared) (H : Hp) (E : XK), Room k (A.deeper (envOfC qual (defScope st) s.heap.objs.size f cdv)) → PSs (cxOf (L2N.CX P w) P w G.K mg base N qual (defScope st) f cdv A outer s H E) (defBody st) (lS G E b)) :
    ClsOk P w mg base G (k + 1) x c n (runF N.length b) := ⟨f, _, ps, fn_okQ lk hcd Sc hn hN hb, hm, M, hbd⟩
end
section
variable {X : Cx} {G : Glo} {E : XK}
theorem set_same {α : Type} : ∀ {l : List α} {i : Nat} {x : α}, l[i]? = some x → l.set i x = l
  | [], i, x, h => by simp at h
  | a :: l, 0, x, h => by simp at h; subst h; rfl
  | a :: l, i + 1, x, h => by
    have h : l[i]? = some x := h
    show a :: l.set i x = a :: l
    rw [set_same h]
theorem qs_thaw (i : Nat) {stm : Stmt} {s : Y.S} (h : PS X stm (lS G E s)) : PS X stm (lS G E (sThaw i s)) := by
  refine PS.imp h fun D σ H ⟨S, F, ρ, loc, st, rp, l, o⟩ => ?_
  unfold sThaw at o
  cases hv : loc[i]? with
  | none =>
    have : eV i loc = die := by unfold eV; rw [hv]
    rw [this] at o
    exact o.elim
  | some ov =>
    cases ov with
    | none =>
      have : eV i loc = die := by unfold eV; rw [hv]
      rw [this] at o
      exact o.elim
    | some v =>
      have ev : eV i loc = ret v := by unfold eV; rw [hv]
      rw [ev] at o
      obtain ⟨u, hu, vr⟩ := l.2 i v hv
      have ss : σ.set i (some u) = σ := set_same hu
      cases v with
      | s ns => exact o.elim
      | d x =>
        have o : out G S F ρ (FR G) (endQ D) E (s (loc.set i (some (.d x))) st) := o
        rw [set_same hv] at o
        exact ⟨S, F, ρ, loc, st, rp, l, o⟩
      | o k =>
        obtain ⟨a, ha, rfl⟩ := vr
        have o : out G S F ρ (FR G) (endQ D) E (bd (bFrz (.o k)) (fun w => s (loc.set i (some w))) st) := o
        cases q : st[k]? with
        | none =>
          have : bFrz (.o k) st = .bad := by
            show (match st[k]? with | some (.lst xs) => (match toDs xs with | some ds => if ds.length ≤ lim then R.ok (Val.d (.list ds)) (st.set k .gone) else .bad | none => .bad) | _ => .bad) = _
            rw [q]
          unfold bd at o
          rw [this] at o
          exact o.elim
        | some ob =>
          have e : bFrz (.o k) st = (match some ob with | some (.lst xs) => (match toDs xs with | some ds => if ds.length ≤ lim then R.ok (Val.d (.list ds)) (st.set k .gone) else .bad | none => .bad) | _ => .bad) := by
            rw [← q]
            rfl
          unfold bd at o
          rw [e] at o
          cases ob with
          | ins _ _ => exact o.elim
          | gone => exact o.elim
          | tup _ => exact o.elim
          | dct _ => exact o.elim
          | dcf _ => exact o.elim
          | lst xs =>
            dsimp only at o
            cases q2 : toDs xs with
            | none => rw [q2] at o; exact o.elim
            | some ds =>
              rw [q2] at o
              dsimp only at o
              obtain ⟨p', h', e1, e2, e3, us, e4, hus⟩ := rp.own k _ q
              rw [ha] at e1
              cases e1
              subst e4
              have hu' := toDs_rel hus q2
              by_cases hl : ds.length ≤ lim
              · rw [if_pos hl] at o
                obtain ⟨r2, g2⟩ := rp.freeze q ha e3
                have l2 := (l.mono g2).set (u := .ref a) (v := Val.d (.list ds)) (Dt.lst upd_same (hu'.mono g2.f)) i
                rw [ss] at l2
                exact ⟨S, _, ρ, _, _, r2, l2, out.mono g2 o⟩
              · rw [if_neg hl] at o
                exact o.elim
end
end Y
end
section
set_option Elab.async false
set_option Elab.async false
set_option linter.all false
set_option maxRecDepth 100000
set_option maxHeartbeats 2000000
/-! Tdi: the keys of a dict that changes no more, walked. -/
namespace Y
open PySem PySem.Spec PyProof.Rows L2
section
variable {X : Cx} {G : Glo}
def iKeysL (td : TE) : TI := fun σ H R => td σ H fun x H1 => ∃ d, x = .ref d ∧ ((∃ kvs, H1 d = some (.dT kvs) ∧ ∀ o, R (Itkt d o kvs) (upd H1 d (.frz o (.dT kvs)))) ∨ ∃ o kvs, H1 d = some (.frz o (.dT kvs)) ∧ R (Itkt d o kvs) H1)
theorem pi_keysL {tg e : Expr} {td : TE} (he : PE X e td) : PI X tg e (iKeysL td) := by
  refine ⟨fun pins s σ H R I h => ?_⟩
  refine thn (he.run pins s σ H _ I h) fun u s1 ⟨x, H1, I1, rx, d, ex, q⟩ => ?_
  subst ex
  obtain rfl : u = Value.ref d := rx
  rcases q with ⟨kvs, hd, q⟩ | ⟨o, kvs, hd, q⟩
  · obtain ⟨od, I2⟩ := I1.lock hd trivial
    have hd2 : (upd H1 d (.frz od (.dT kvs))) d = some (.frz od (.dT kvs)) := upd_same
    obtain ⟨hs, hgd, hx, es, ep, hdt, hsz, ent⟩ := I2.frzT hd2
    refine iter_keys hs hgd hx hdt (pi_one (tk := s1.toks) I2 _ (turn_keysT _ hdt) ⟨_, Heap.get?_push_size _ rfl, rfl, ?_⟩ (q od))
    rw [hsz] <;> rfl
  · obtain ⟨hs, hgd, hx, es, ep, hdt, hsz, ent⟩ := I1.frzT hd
    refine iter_keys hs hgd hx hdt (pi_one (tk := s1.toks) I1 _ (turn_keysT _ hdt) ⟨_, Heap.get?_push_size _ rfl, rfl, ?_⟩ q)
    rw [hsz] <;> rfl
/-- a dict that changes no more stands among the data -/
theorem Rep.adoptD {S F : Hp} {ρ : List Addr} {H : Hp} {st : Store} (r : Rep G S F ρ H st) {a : Addr} {od : Obj} {us : List (List Key × V)} (ha : H a = some (.frz od (.dT us))) : ∃ F', Rep G S F' ρ H st ∧ Gr F ρ F' ρ ∧ F' a = some (.frz od (.dT us)) := by
  have f1 : (if a = a then H a else F a) = H a := if_pos rfl
  have f2 : ∀ b, b ≠ a → (if b = a then H b else F b) = F b := fun b hb => if_neg hb
  have g : Gr F ρ (fun b => if b = a then H b else F b) ρ := by
    refine ⟨fun b o h => ?_, [], by simp⟩
    show (if b = a then H b else F b) = some o
    by_cases hb : b = a
    · rw [if_pos hb]; exact r.ex b o h
    · rw [f2 b hb]; exact h
  refine ⟨fun b => if b = a then H b else F b, ⟨fun b o h => ?_, fun b o h => ?_, fun b ps h => ?_, r.len, r.nd, fun k ob e => ?_, r.tab⟩, g, ?_⟩
  · obtain ⟨h1, h2, h3, xs, h4⟩ := r.sd b o h
    refine ⟨h1, ?_, h3, xs, h4⟩
    show (if b = a then H b else F b) = none
    by_cases hb : b = a
    · rw [hb, ha, h4] at h1
      cases h1
    · rw [f2 b hb]; exact h2
  · have h : (if b = a then H b else F b) = some o := h
    by_cases hb : b = a
    · rw [if_pos hb] at h; exact h
    · rw [f2 b hb] at h; exact r.ex b o h
  · have h : (if b = a then H b else F b) = some (.tbl ps) := h
    by_cases hb : b = a
    · rw [if_pos hb, hb, ha] at h
      cases h
    · rw [f2 b hb] at h; exact r.nt b ps h
  · obtain ⟨b, h, e1, e2, e3, e4⟩ := r.own k ob e
    refine ⟨b, h, e1, ?_, e3, e4.mono g⟩
    by_cases hb : b = a
    · left
      rw [hb, ha] at e3
      cases e3
      cases ob with
      | lst _ => obtain ⟨_, z, _⟩ := e4; cases z
      | ins _ _ => obtain ⟨_, _, z, _⟩ := e4; cases z
      | gone => trivial
      | tup _ => trivial
      | dct _ => obtain ⟨_, z, _⟩ := e4; cases z
      | dcf _ => trivial
    · rcases e2 with e2 | e2
      · exact .inl e2
      · right
        show (if b = a then H b else F b) = none
        rw [f2 b hb]; exact e2
  · show (if a = a then H a else F a) = _
    rw [if_pos rfl, ha]
theorem dtA_ints {F : Hp} : ∀ k : List Int, DtA F (((k.map Sum.inl : List Key)).map kV) (k.map .int)
  | [] => .nil
  | i :: k => .cons (.int i) (dtA_ints k)
theorem jw_keys {F : Hp} {ρ : List Addr} {a : Addr} {od : Obj} {us : List (List Key × V)} {kvs : List (List Int × D)} (ha : F a = some (.frz od (.dT us))) (hr : DcR F us kvs) : JW G F ρ (Itkt a od us) (kvs.map fun p => Val.d (.tuple (p.1.map .int))) := by
  have hl : us.length = kvs.length := Paired.length hr
  refine ⟨fun i H hi e => ?_, fun H e => ?_, fun i H x H' hi e y => ?_⟩
  · rw [List.length_map] at hi
    exact ⟨e _ _ ha, by omega⟩
  · rw [List.length_map]
    exact ⟨e _ _ ha, by omega⟩
  · obtain ⟨e1, k, v, q, h1, h2, h3⟩ := y
    rw [List.length_map] at hi
    obtain ⟨p, hp⟩ : ∃ p, kvs[i]? = some p := ⟨kvs[i], List.getElem?_eq_getElem hi⟩
    have hk : k = p.1.map Sum.inl := by
      have key : ∀ {us : List (List Key × V)} {kvs : List (List Int × D)}, DcR F us kvs → ∀ (i : Nat) (u : List Key × V) (p : List Int × D), us[i]? = some u → kvs[i]? = some p → u.1 = p.1.map Sum.inl := by
        intro us kvs h
        induction h with
        | nil => intro i u p hu; simp at hu
        | cons z t ih =>
          intro i u p hu hp
          cases i with
          | zero =>
            simp at hu hp
            subst hu hp
            exact z.1
          | succ i =>
            simp at hu hp
            exact ih i u p hu hp
      exact key hr i (k, v) p h1 hp
    refine .inr (.inr ⟨q, k.map kV, p.1.map .int, h3, e1, h2, by rw [List.getElem?_map, hp]; rfl, ?_⟩)
    rw [hk]
    exact dtA_ints p.1
theorem qi_dct {E : XK} {tg l : Expr} {f : Y.E} (hl : PE X l (lE G E f)) : PI X tg l (lI G E (iDct f)) := by
  refine PI.imp (pi_keysL hl) fun σ H Q ⟨S, F, ρ, loc, st, rp, l, o⟩ => ⟨S, F, ρ, loc, st, rp, l, out.imp (fun x H1 h1 => ?_) (out.bd (Rl := VR G) o)⟩
  obtain ⟨F1, ρ1, a, st1, g1, r1, v1, o1⟩ := h1
  cases a with
  | d _ => exact o1.elim
  | s _ => exact o1.elim
  | o k =>
    cases q : st1[k]? with
    | none => simp only [q] at o1; exact o1.elim
    | some ob =>
      simp only [q] at o1
      cases ob with
      | ins _ _ => exact o1.elim
      | gone => exact o1.elim
      | tup _ => exact o1.elim
      | lst _ => exact o1.elim
      | dct kvs =>
        obtain ⟨a, us, rfl, hk, hh, hr⟩ := own_dct r1 v1 q
        refine ⟨a, rfl, .inl ⟨us, hh, fun od => ?_⟩⟩
        have r2 := r1.putT q hk hh (o := .frz od (.dT us)) (ob' := .dcf kvs) ⟨od, us, rfl, hr⟩
        obtain ⟨F2, r3, g3, hF⟩ := r2.adoptD (a := a) (od := od) (us := us) upd_same
        exact out.go o1 g3 r3 (jw_keys hF (Paired.mapP hr fun _ _ z => ⟨z.1, z.2.mono g3.f⟩))
      | dcf kvs =>
        obtain ⟨a, od, us, rfl, hk, hh, hr⟩ := own_dcf r1 v1 q
        refine ⟨a, rfl, .inr ⟨od, us, hh, ?_⟩⟩
        obtain ⟨F2, r3, g3, hF⟩ := r1.adoptD hh
        exact out.go o1 g3 r3 (jw_keys hF (Paired.mapP hr fun _ _ z => ⟨z.1, z.2.mono g3.f⟩))
end
end Y
end
section
set_option Elab.async false
set_option linter.all false
namespace Y
open PySem (PyData Str)
/-- x in l, of data of any depth -/
def bInD (neg : Bool) : Val → Val → M Val
  | .d a, .d (.list ds) => if PySem.SeqAt.shaped a = true ∧ PySem.SeqAt.shaped (.list ds) = true then ret (vB (if neg then !(ds.any fun z => PyData.eqv z a) else ds.any fun z => PyData.eqv z a)) else die
  | _, _ => die
end Y
end
section
set_option Elab.async false
set_option Elab.async false
set_option linter.all false
set_option maxRecDepth 100000
set_option maxHeartbeats 2000000
/-! Tin: x in l, of data of any depth. -/
namespace Y
open PySem PySem.Spec PyProof.Rows L2
section
variable {X : Cx} {G : Glo}
theorem units65 {k : Nat} {A : Around} (r : Room k A) : A.units + 65 < cLine := by have := r.un; omega
theorem bInD_snd : OSnd G (rInD G.K) (bInD false) := by
  intro S F ρ H st x y a b Q E rp hx hy o
  unfold bInD at o
  split at o
  · rename_i d ds
    by_cases c : SeqAt.shaped d = true ∧ SeqAt.shaped (.list ds) = true
    · rw [if_pos c] at o
      exact ⟨d, ds, Dp.mono rp.ex (Dt.dp hx), Dp.mono rp.ex (Dt.dp hy), c.1, c.2, out.at (v := vB (ds.any fun z => PyData.eqv z d)) o rp (.bl _)⟩
    · rw [if_neg c] at o
      exact o.elim
  · exact o.elim
theorem bNInD_snd : OSnd G (rNotInD G.K) (bInD true) := by
  intro S F ρ H st x y a b Q E rp hx hy o
  unfold bInD at o
  split at o
  · rename_i d ds
    by_cases c : SeqAt.shaped d = true ∧ SeqAt.shaped (.list ds) = true
    · rw [if_pos c] at o
      exact ⟨d, ds, Dp.mono rp.ex (Dt.dp hx), Dp.mono rp.ex (Dt.dp hy), c.1, c.2, out.at (v := vB (!(ds.any fun z => PyData.eqv z d))) o rp (.bl _)⟩
    · rw [if_neg c] at o
      exact o.elim
  · exact o.elim
end
end Y
end
section
set_option Elab.async false
set_option linter.all false
/-! Ss: texts. -/
namespace Y
open PySem (PyData Str)
open TL (tl spl joinL numL)
/-- the text of some signs -/
def tx (l : List Nat) : Str := ⟨l.toArray⟩
theorem tl_tx (l : List Nat) : tl (tx l) = l := rfl
theorem tx_tl (x : Str) : tx (tl x) = x := TL.mk_tl x
theorem len_tx (l : List Nat) : (tx l).length = l.length := by
  show l.toArray.size = _
  simp
theorem tx_app (l m : List Nat) : tx l ++ tx m = tx (l ++ m) := TL.ext_tl (by rw [TL.tl_append]; rfl)
def strOf : Val → M Str
  | .d (.str x) => ret x
  | _ => die
abbrev vS (l : List Nat) : Val := .d (.str (tx l))
/-- a lone sign -/
def sg : List Nat → Option Nat
  | [c] => some c
  | _ => none
theorem sg_some {l : List Nat} {c : Nat} (h : sg l = some c) : l = [c] := by
  match l, h with
  | [d], h => cases h; rfl
/-- {x} within a text: a text, or a whole number from 0 on -/
def fmt1 : Val → M Val
  | .d (.str y) => if y.length ≤ lim then ret (.d (.str y)) else die
  | .d (.int i) => if 0 ≤ i ∧ i.natAbs.log2 < 1900 then ret (vS (numL i.toNat)) else die
  | _ => die
def eFmt (f : E) : E := fun loc => bd (f loc) fmt1
def eJl : List E → Str → E
  | [], acc => fun _ => ret (.d (.str acc))
  | f :: fs, acc => fun loc => bd (f loc) fun v => bd (strOf v) fun y => if (acc ++ y).length ≤ lim then eJl fs (acc ++ y) loc else die
def toSs : List D → Option (List Str)
  | [] => some []
  | .str i :: r => (toSs r).map (i :: ·)
  | _ :: _ => none
def bJoin (a : Str) : Val → M Val
  | .d (.list ds) => bd (oget (toSs ds)) fun ys => if (ys.map (·.length)).sum + ys.length * a.length ≤ lim then ret (.d (.str (Str.join a ys))) else die
  | .o k => fun st => match st[k]? with
    | some (.lst xs) => (match toDs xs with
      | some ds => (bd (oget (toSs ds)) fun ys => if (ys.map (·.length)).sum + ys.length * a.length ≤ lim then ret (.d (.str (Str.join a ys))) else die) st
      | none => .bad)
    | _ => .bad
  | _ => die
/-- o.join(e) -/
def eJoin (o e : E) : E := fun loc => bd (o loc) fun x => bd (strOf x) fun a => bd (e loc) (bJoin a)
def bSplit (a : Str) : Val → M Val
  | .d (.str b) => if tl b ≠ [] ∧ b.cps.all (· < 256) = true ∧ a.length ≤ lim then ret (.d (.list ((spl (tl b) 0 [] (tl a)).map fun l => .str (tx l)))) else die
  | _ => die
/-- o.split(e) -/
def eSplit (o e : E) : E := fun loc => bd (o loc) fun x => bd (strOf x) fun a => bd (e loc) (bSplit a)
/-- "abcd".index(e) -/
def bIdx (a : Str) : Val → M Val
  | .d (.str b) => bd (oget (sg (tl b))) fun c => if tl a = [97, 98, 99, 100] ∧ 97 ≤ c ∧ c ≤ 100 then ret (vI ((c - 97 : Nat) : Int)) else die
  | _ => die
def eIdx (o e : E) : E := fun loc => bd (o loc) fun x => bd (strOf x) fun a => bd (e loc) (bIdx a)
def bLenT : List Val → M Val
  | [.d (.str x)] => if x.length ≤ lim then ret (vI (x.length : Int)) else die
  | _ => die
def bIxT : Val → Val → M Val
  | .d (.str x), .d (.int i) => if x.length ≤ lim then bd (oget (atI (tl x) i)) fun c => ret (vS [c]) else die
  | _, _ => die
def bSlT : Val → Option Int → Option Int → M Val
  | .d (.str z), lo, hi => if z.length ≤ lim then ret (vS (((tl z).drop (sIx z.length 0 lo)).take (sIx z.length z.length hi - sIx z.length 0 lo))) else die
  | _, _, _ => die
def eSlT (e : E) (lo hi : Oe) : E := fun loc => bd (e loc) fun x => bd (lo loc) fun a => bd (hi loc) fun b => bSlT x a b
def iTxt (e : E) : I := fun loc => bd (e loc) fun v => bd (strOf v) fun x => ret ((tl x).map fun c => vS [c])
def bInT (neg : Bool) : Val → Val → M Val
  | .d (.str x), .d (.str z) => bd (oget (sg (tl x))) fun c => ret (vB (if neg then !decide (c ∈ tl z) else decide (c ∈ tl z)))
  | _, _ => die
def bMulT : Val → Val → M Val
  | .d (.str x), .d (.int k) => if 0 ≤ k ∧ k ≤ 100 ∧ x.length ≤ 100 then ret (vS ((List.replicate k.toNat (tl x)).flatten)) else die
  | _, _ => die
/-- str(n), n from 0 on -/
def bStrI : List Val → M Val
  | [.d (.int i)] => if 0 ≤ i ∧ i.natAbs.log2 < 1900 then ret (vS (numL i.toNat)) else die
  | _ => die
def digs (l : List Nat) : Bool := decide (l ≠ []) && l.all fun c => decide (48 ≤ c) && decide (c ≤ 57)
def valL (l : List Nat) : Nat := l.foldl (fun a c => a * 10 + (c - 48)) 0
/-- int(t), t of figures alone -/
def bIntT : List Val → M Val
  | [.d (.str x)] => if digs (tl x) = true ∧ x.length ≤ 600 then ret (vI (valL (tl x) : Int)) else die
  | _ => die
/-- a comprehension whose parts may refuse -/
def eLcX (it : I) (g : G) (t : Tst) (e : E) (vs : List Nat) : E := fun loc => bd (it loc) fun xs => if xs.length ≤ lim then bd (compL (cBody g t e (wip loc vs)) xs) bLst else die
/-- an own list != [] -/
def bNeE : Val → Val → M Val
  | .o k, .d (.list []) => fun st => match st[k]? with
    | some (.lst xs) => .ok (vB (!xs.isEmpty)) st
    | _ => .bad
  | _, _ => die
/-- a, b, .. = an own list -/
def gLO (n : Nat) (gs : Gs) : G := fun v loc => match v with
  | .o k => fun st => match st[k]? with
    | some (.lst xs) => if xs.length = n then gs xs loc st else .bad
    | _ => .bad
  | _ => die
end Y
end
section
set_option Elab.async false
set_option Elab.async false
set_option linter.all false
set_option maxRecDepth 100000
set_option maxHeartbeats 2000000
/-! Tss: texts. -/
namespace Y
open PySem PySem.Spec PyProof.Rows L2
open TL (tl spl joinL numL)
section
variable {X : Cx} {G : Glo} {E : XK}
theorem qe_txt {x : Str} {l : List Nat} {j pos} (h : x = tx l := by decide +kernel) : PE X (.Constant (.str x) j pos) (lE G E (eC (.str (tx l)))) := by
  subst h
  exact qe_str
theorem qe_gT {x i : Str} {l : List Nat} {pos : Pos} (hm : ∃ t, X.mg x = some (.str i t)) (hg : Gl X x) (h : i = tx l := by decide +kernel) (hd : (x == ("__debug__" : Str)) = false := by decide) : PE X (.Name x pos) (lE G E (eC (.str (tx l)))) := by
  subst h
  exact qe_gS hm hg hd
theorem num_txt {i : Int} (h : 0 ≤ i) : (Str.ofString (toString i) : Str) = tx (numL i.toNat) := by
  obtain ⟨n, rfl⟩ := Int.eq_ofNat_of_zero_le h
  exact TL.ext_tl ((TL.tl_num n).trans rfl)
theorem strOf_out {α β : Type} {Rl : Hp → List Addr → β → α → Prop} {Q : β → Hp → Prop} {S F : Hp} {ρ : List Addr} {st : Store} {v : Val} {f : Str → M α} (o : out G S F ρ Rl Q E (bd (strOf v) f st)) : ∃ x, v = .d (.str x) ∧ out G S F ρ Rl Q E (f x st) := by
  cases v with
  | o _ => exact o.elim
  | s _ => exact o.elim
  | d x =>
    cases x with
    | str y => exact ⟨y, rfl, o⟩
    | none => exact o.elim
    | bool _ => exact o.elim
    | int _ => exact o.elim
    | list _ => exact o.elim
    | tuple _ => exact o.elim
    | dict _ => exact o.elim
/-! ### f-strings -/
theorem qe_fmt {e : Expr} {f : Y.E} {pos : Pos} (h : PE X e (lE G E f)) : PE X (.FormattedValue e (-1) none pos) (lE G E (eFmt f)) := by
  refine PE.imp (pe_fmt h) fun σ H Q ⟨S, F, ρ, loc, st, rp, l, o⟩ => ⟨S, F, ρ, loc, st, rp, l, out.imp (fun x H1 h1 => ?_) (out.bd (Rl := VR G) o)⟩
  obtain ⟨F1, ρ1, a, st1, g1, r1, v1, o1⟩ := h1
  unfold fmt1 at o1
  split at o1
  · rename_i y
    rw [dt_str v1]
    by_cases hl : y.length ≤ lim
    · rw [if_pos hl] at o1
      exact .inl ⟨y, rfl, sz hl, out.at (v := Val.d (.str y)) o1 r1 (.str y)⟩
    · rw [if_neg hl] at o1
      exact o1.elim
  · rename_i i
    rw [dt_int v1]
    by_cases hl : 0 ≤ i ∧ i.natAbs.log2 < 1900
    · rw [if_pos hl] at o1
      refine .inr ⟨i, rfl, by omega, ?_⟩
      have e : (Str.ofString (toString i) : Str) = tx (numL i.toNat) := num_txt hl.1
      show Q (.str (Str.ofString (toString i))) H1
      rw [e]
      exact out.at (v := vS (numL i.toNat)) o1 r1 (.str _)
    · rw [if_neg hl] at o1
      exact o1.elim
  · exact o1.elim
theorem lE_jl {Q : VK} {σ : L2.St} : ∀ (fs : List Y.E) (acc : Str) (H : Hp), lE G E (eJl fs acc) σ H Q → tJs (fs.map (lE G E)) acc σ H fun out H1 => Q (.str out) H1
  | [], acc, H, ⟨S, F, ρ, loc, st, rp, l, o⟩ => out.at (v := Val.d (.str acc)) o rp (.str acc)
  | f :: fs, acc, H, ⟨S, F, ρ, loc, st, rp, l, o⟩ => by
    refine ⟨S, F, ρ, loc, st, rp, l, out.imp (fun x H1 h1 => ?_) (out.bd (Rl := VR G) o)⟩
    obtain ⟨F1, ρ1, a, st1, g1, r1, v1, o1⟩ := h1
    obtain ⟨y, rfl, o2⟩ := strOf_out (f := fun y => if (acc ++ y).length ≤ lim then eJl fs (acc ++ y) loc else die) o1
    rw [dt_str v1]
    by_cases hl : (acc ++ y).length ≤ lim
    · rw [if_pos hl] at o2
      exact ⟨y, rfl, sz hl, lE_jl fs (acc ++ y) H1 ⟨S, F1, ρ1, loc, st1, r1, l.mono g1, o2⟩⟩
    · rw [if_neg hl] at o2
      exact o2.elim
theorem qj_nil : PJ X [] (([] : List Y.E).map (lE G E)) := .nil
theorem qj_cons {e : Expr} {es : List Expr} {f : Y.E} {fs : List Y.E} (h : PE X e (lE G E f)) (r : PJ X es (fs.map (lE G E))) : PJ X (e :: es) ((f :: fs).map (lE G E)) := .cons h r
theorem qe_joined {v1 v2 : Expr} {rest : List Expr} {fs : List Y.E} {pos : Pos} (h : PJ X (v1 :: v2 :: rest) (fs.map (lE G E))) : PE X (.JoinedStr (v1 :: v2 :: rest) pos) (lE G E (eJl fs (tx []))) := PE.imp (pe_joined h) fun σ H Q q => lE_jl fs _ H q
/-! ### methods -/
theorem lE_m1 {r : V → List V → Hp → VK → Prop} {fo fe : Y.E} {b : Str → Val → M Val} (hs : ∀ (S F : Hp) (ρ : List Addr) (H : Hp) (st : Store) (a : Str) (y : V) (w : Val) (Q : VK), Rep G S F ρ H st → VR G F ρ y w → out G S F ρ (VR G) Q E (b a w st) → r (.str a) [y] H Q) :
    ∀ σ H Q, lE G E (fun loc => bd (fo loc) fun x => bd (strOf x) fun a => bd (fe loc) (b a)) σ H Q → tM1 r (lE G E fo) (lE G E fe) σ H Q := fun σ H Q ⟨S, F, ρ, loc, st, rp, l, o⟩ => by
  refine ⟨S, F, ρ, loc, st, rp, l, out.imp (fun x H1 h1 => ?_) (out.bd (Rl := VR G) o)⟩
  obtain ⟨F1, ρ1, a, st1, g1, r1, v1, o1⟩ := h1
  obtain ⟨y, rfl, o1⟩ := strOf_out o1
  rw [dt_str v1]
  refine ⟨⟨y, rfl⟩, S, F1, ρ1, loc, st1, r1, l.mono g1, out.imp (fun w H2 h2 => ?_) (out.bd (Rl := VR G) o1)⟩
  obtain ⟨F2, ρ2, b', st2, g2, r2, v2, o2⟩ := h2
  exact hs S F2 ρ2 H2 st2 y w b' Q r2 v2 o2
theorem toSs_vi {F : Hp} : ∀ {us : List V} {ds : List D} {ns : List Str}, DtA F us ds → toSs ds = some ns → us = ns.map V.str
  | _, [], _, .nil, e => by
    cases e
    rfl
  | _, .str i :: r, ns, .cons h hr, e => by
    have e : (toSs r).map (i :: ·) = some ns := e
    cases q : toSs r with
    | none => rw [q] at e; cases e
    | some ms =>
      rw [q] at e
      cases e
      rw [toSs_vi hr q, dt_str h]
      rfl
  | _, .none :: r, ns, .cons h hr, e => by cases e
  | _, .bool _ :: r, ns, .cons h hr, e => by cases e
  | _, .int _ :: r, ns, .cons h hr, e => by cases e
  | _, .list _ :: r, ns, .cons h hr, e => by cases e
  | _, .tuple _ :: r, ns, .cons h hr, e => by cases e
  | _, .dict _ :: r, ns, .cons h hr, e => by cases e
theorem qe_join {o e : Expr} {fo fe : Y.E} {apos pos : Pos} (ho : PE X o (lE G E fo)) (he : PE X e (lE G E fe)) (hs : starEach [e] X.env = [(false, eval e X.env)] := by rfl) (hbase : attributeBase o "join" X.env (eval o X.env) = eval o X.env := by rfl) (hline : (apos.endLine == pos.line) = true := by rfl) (hK : X.K = G.K := by rfl) :
    PE X (.Call (.Attribute o "join" apos) [e] [] pos) (lE G E (eJoin fo fe)) := by
  refine PE.imp (pe_join ho he hs hbase hline) (lE_m1 (b := bJoin) fun S F ρ H st a y w Q rp hy o => ?_)
  have key : ∀ (p : Addr) (us : List V) (ds : List D), y = .ref p → H p = some (.lst us) → DtA F us ds → out G S F ρ (VR G) Q E ((bd (oget (toSs ds)) fun ys => if (ys.map (·.length)).sum + ys.length * a.length ≤ lim then ret (.d (.str (Str.join a ys))) else die) st) → ∃ (a' : Str) (p : Addr) (ys : List Str), V.str a = .str a' ∧ [y] = [.ref p] ∧ (SqL X.K H p (ys.map V.str) ∨ SqT X.K H p (ys.map V.str)) ∧ (ys.map (·.length)).sum + ys.length * a'.length ≤ 16777216 ∧ Q (.str (Txt.join a' ys)) H := by
    intro p us ds ey hp hd o
    obtain ⟨ys, hq, o⟩ := oget_out o
    have hu := toSs_vi hd hq
    subst hu ey
    by_cases hl : (ys.map (·.length)).sum + ys.length * a.length ≤ lim
    · rw [if_pos hl] at o
      refine ⟨a, p, ys, rfl, rfl, .inl (SqL.of hp), Nat.le_trans hl (by decide), ?_⟩
      rw [TL.join_eq]
      exact out.at (v := Val.d (.str (Str.join a ys))) o rp (.str _)
    · rw [if_neg hl] at o
      exact o.elim
  cases w with
  | s _ => exact o.elim
  | d x =>
    cases x with
    | list ds =>
      obtain ⟨p, us, rfl, ha, hu⟩ := dt_list hy
      exact key p us ds rfl (rp.ex _ _ ha) hu o
    | none => exact o.elim
    | bool _ => exact o.elim
    | int _ => exact o.elim
    | str _ => exact o.elim
    | tuple _ => exact o.elim
    | dict _ => exact o.elim
  | o k =>
    have o : out G S F ρ (VR G) Q E (match st[k]? with
      | some (.lst xs) => (match toDs xs with
        | some ds => (bd (oget (toSs ds)) fun ys => if (ys.map (·.length)).sum + ys.length * a.length ≤ lim then ret (.d (.str (Str.join a ys))) else die) st
        | none => .bad)
      | _ => .bad) := o
    obtain ⟨p, hp, rfl⟩ := hy
    cases q : st[k]? with
    | none => rw [q] at o; exact o.elim
    | some ob =>
      rw [q] at o
      cases ob with
      | ins _ _ => exact o.elim
      | gone => exact o.elim
      | tup _ => exact o.elim
      | dct _ => exact o.elim
      | dcf _ => exact o.elim
      | lst xs =>
        dsimp only at o
        cases q2 : toDs xs with
        | none => rw [q2] at o; exact o.elim
        | some ds =>
          rw [q2] at o
          obtain ⟨a', h', e1, e2, e3, us, e4, hu⟩ := rp.own k _ q
          rw [hp] at e1
          cases e1
          subst e4
          exact key p us ds rfl e3 (toDs_rel hu q2) o
theorem dtA_strs {F : Hp} : ∀ ls : List (List Nat), DtA F ((ls.map tx).map V.str) (ls.map fun l => PyData.str (tx l))
  | [] => .nil
  | l :: ls => .cons (.str _) (dtA_strs ls)
theorem spl_len {S : List Nat} : ∀ (l : List Nat) (k : Nat) (acc : List Nat), (spl S k acc l).length ≤ l.length + 1
  | [], k, acc => by rw [TL.spl_nil]; simp
  | c :: r, 0, acc => by
    unfold spl
    split
    · have := spl_len (S := S) r (S.length - 1) []
      simp only [List.length_cons]; omega
    · have := spl_len (S := S) r 0 (acc ++ [c])
      simp only [List.length_cons]; omega
  | c :: r, k + 1, acc => by
    unfold spl
    have := spl_len (S := S) r k acc
    simp only [List.length_cons]; omega
theorem qe_split {o e : Expr} {fo fe : Y.E} {apos pos : Pos} (ho : PE X o (lE G E fo)) (he : PE X e (lE G E fe)) (hs : starEach [e] X.env = [(false, eval e X.env)] := by rfl) (hbase : attributeBase o "split" X.env (eval o X.env) = eval o X.env := by rfl) (hline : (apos.endLine == pos.line) = true := by rfl) :
    PE X (.Call (.Attribute o "split" apos) [e] [] pos) (lE G E (eSplit fo fe)) := by
  refine PE.imp (pe_split ho he hs hbase hline) (lE_m1 (b := bSplit) fun S F ρ H st a y w Q rp hy o => ?_)
  unfold bSplit at o
  split at o
  · rename_i b
    rw [dt_str hy]
    by_cases hl : tl b ≠ [] ∧ b.cps.all (· < 256) = true ∧ a.length ≤ lim
    · rw [if_pos hl] at o
      have e1 : Txt.split a b = (spl (tl b) 0 [] (tl a)).map tx := by
        refine TL.map_tl_inj ?_
        rw [TL.split_spl a b hl.1 (TL.kind_ok hl.2.1), List.map_map]
        exact (List.map_id _).symm
      refine ⟨a, b, rfl, rfl, ?_, ?_, fun p hp => ?_⟩
      · have := TL.len_tl b
        cases q : tl b with
        | nil => exact absurd q hl.1
        | cons c r => rw [q] at this; rw [this]; simp
      · have : a.length + 2 ≤ 100000 + 2 := Nat.add_le_add_right hl.2.2 2
        rw [sizeLine_eq]; omega
      · rw [e1]
        exact out_lst rp (dtA_strs _) o p hp
    · rw [if_neg hl] at o
      exact o.elim
  · exact o.elim
theorem idx_abcd : ∀ c : Nat, 97 ≤ c → c ≤ 100 → ∃ r, Builtin.Str.occurrences (tx [97, 98, 99, 100]) (tx [c]) 0 (tx [97, 98, 99, 100]).length 1 = (c - 97) :: r := by
  intro c h1 h2
  have : c = 97 ∨ c = 98 ∨ c = 99 ∨ c = 100 := by omega
  rcases this with rfl | rfl | rfl | rfl
  · exact ⟨[], by decide +kernel⟩
  · exact ⟨[], by decide +kernel⟩
  · exact ⟨[], by decide +kernel⟩
  · exact ⟨[], by decide +kernel⟩
theorem qe_idx {o e : Expr} {fo fe : Y.E} {apos pos : Pos} (ho : PE X o (lE G E fo)) (he : PE X e (lE G E fe)) (hs : starEach [e] X.env = [(false, eval e X.env)] := by rfl) (hbase : attributeBase o "index" X.env (eval o X.env) = eval o X.env := by rfl) (hline : (apos.endLine == pos.line) = true := by rfl) :
    PE X (.Call (.Attribute o "index" apos) [e] [] pos) (lE G E (eIdx fo fe)) := by
  refine PE.imp (pe_m1 PySem.F.slot_str_index PySem.F.type_str_index mt_sindex ho he hs hbase hline) (lE_m1 (b := bIdx) fun S F ρ H st a y w Q rp hy o => ?_)
  unfold bIdx at o
  split at o
  · rename_i b
    rw [dt_str hy]
    obtain ⟨c, hc, o2⟩ := oget_out o
    have hc := sg_some hc
    by_cases hl : tl a = [97, 98, 99, 100] ∧ 97 ≤ c ∧ c ≤ 100
    · rw [if_pos hl] at o2
      have ea : a = tx [97, 98, 99, 100] := TL.ext_tl hl.1
      have eb : b = tx [c] := TL.ext_tl hc
      obtain ⟨r, hr⟩ := idx_abcd c hl.2.1 hl.2.2
      subst ea eb
      exact ⟨_, _, c - 97, r, rfl, rfl, hr, out.at (v := vI ((c - 97 : Nat) : Int)) o2 rp (.int _)⟩
    · rw [if_neg hl] at o2
      exact o2.elim
  · exact o.elim
/-! ### built-ins, operators -/
theorem bLenT_snd : BSnd G (fun xs H Q => ∃ z, xs = [.str z] ∧ z.length ≤ sizeLine ∧ Q (.int z.length) H) bLenT := by
  intro S F ρ H st xs as Q E rp hx o
  unfold bLenT at o
  split at o
  · rename_i x
    cases hx with
    | cons h hr =>
      cases hr
      rw [dt_str h]
      by_cases hl : x.length ≤ lim
      · rw [if_pos hl] at o
        exact ⟨x, rfl, sz hl, out.at (v := vI (x.length : Int)) o rp (.int _)⟩
      · rw [if_neg hl] at o
        exact o.elim
  · exact o.elim
theorem bStrI_snd : BSnd G (fun xs H Q => ∃ i, xs = [.int i] ∧ i.natAbs.log2 < 1920 ∧ Q (.str (toString i)) H) bStrI := by
  intro S F ρ H st xs as Q E rp hx o
  unfold bStrI at o
  split at o
  · rename_i i
    cases hx with
    | cons h hr =>
      cases hr
      rw [dt_int h]
      by_cases hl : 0 ≤ i ∧ i.natAbs.log2 < 1900
      · rw [if_pos hl] at o
        refine ⟨i, rfl, by omega, ?_⟩
        have e : (Str.ofString (toString i) : Str) = tx (numL i.toNat) := num_txt hl.1
        show Q (.str (Str.ofString (toString i))) H
        rw [e]
        exact out.at (v := vS (numL i.toNat)) o rp (.str _)
      · rw [if_neg hl] at o
        exact o.elim
  · exact o.elim
theorem bIntT_snd : BSnd G (fun xs H Q => ∃ a n, xs = [.str a] ∧ PySem.intText? a = some n ∧ a.length ≤ 640 ∧ Q (.int n) H) bIntT := by
  intro S F ρ H st xs as Q E rp hx o
  unfold bIntT at o
  split at o
  · rename_i x
    cases hx with
    | cons h hr =>
      cases hr
      rw [dt_str h]
      by_cases hl : digs (tl x) = true ∧ x.length ≤ 600
      · rw [if_pos hl] at o
        obtain ⟨hd, hz⟩ := hl
        unfold digs at hd
        rw [Bool.and_eq_true] at hd
        refine ⟨x, _, rfl, PySem.intText_digits (fun c hc => ?_) (by simpa using hd.1) (by omega), by omega, out.at (v := vI (valL (tl x) : Int)) o rp (.int _)⟩
        have := List.all_eq_true.mp hd.2 c hc
        simpa using this
      · rw [if_neg hl] at o
        exact o.elim
  · exact o.elim
theorem bIxT_snd : OSnd G (rIx G.K) bIxT := by
  intro S F ρ H st x y a b Q E rp hx hy o
  unfold bIxT at o
  split at o
  · rename_i z i
    rw [dt_str hx, dt_int hy]
    by_cases hl : z.length ≤ lim
    · rw [if_pos hl] at o
      obtain ⟨c, hq, o⟩ := oget_out o
      refine .inr (.inr ⟨z, i, c, rfl, rfl, sz hl, ?_, out.at (v := vS [c]) o rp (.str _)⟩)
      unfold Y.atI at hq
      unfold L2.atI
      rw [← ixN_eq]
      exact hq
    · rw [if_neg hl] at o
      exact o.elim
  · exact o.elim
theorem bSlT_snd : LSnd G rSlS bSlT := by
  intro S F ρ H st x a lo hi Q E rp hx o
  unfold bSlT at o
  split at o
  · rename_i z
    rw [dt_str hx]
    by_cases hl : z.length ≤ lim
    · rw [if_pos hl] at o
      exact ⟨z, rfl, sz hl, out.at (v := Val.d (.str (cutS z lo hi))) o rp (.str _)⟩
    · rw [if_neg hl] at o
      exact o.elim
  · exact o.elim
theorem qe_sliceT {e : Expr} {lo hi : Option Expr} {f : Y.E} {fl fh : Oe} {p2 pos : Pos} (he : PE X e (lE G E f)) (hl : PO X lo (lO G E fl)) (hu : PO X hi (lO G E fh)) : PE X (.Subscript e (.Slice lo hi none p2) pos) (lE G E (eSlT f fl fh)) := by
  refine PE.imp (pe_slice sl_str he hl hu) fun σ H Q ⟨S, F, ρ, loc, st, rp, l, o⟩ => ⟨S, F, ρ, loc, st, rp, l, out.imp (fun x H1 h1 => ?_) (out.bd (Rl := VR G) o)⟩
  obtain ⟨F1, ρ1, a, st1, g1, r1, v1, o1⟩ := h1
  refine ⟨S, F1, ρ1, loc, st1, r1, l.mono g1, out.imp (fun y H2 h2 => ?_) (out.bd (Rl := IR) o1)⟩
  obtain ⟨F2, ρ2, b, st2, g2, r2, v2, o2⟩ := h2
  refine ⟨S, F2, ρ2, loc, st2, r2, l.mono (g1.trans g2), out.imp (fun z H3 h3 => ?_) (out.bd (Rl := IR) o2)⟩
  obtain ⟨F3, ρ3, c, st3, g3, r3, v3, o3⟩ := h3
  cases v2
  cases v3
  exact bSlT_snd S F3 ρ3 H3 st3 x a _ _ Q E r3 (v1.mono (g2.trans g3)) o3
theorem jw_str {F : Hp} {ρ : List Addr} (z : Str) : JW G F ρ (Its z) ((tl z).map fun c => vS [c]) := by
  have hl : ((tl z).map fun c => vS [c]).length = z.cps.size := by simp [tl]
  have w := walk_str (z := z)
  refine ⟨fun i H hi _ => w.goes i H (by omega) trivial, fun H _ => ?_, fun i H x H' hi _ y => ?_⟩
  · rw [hl]; exact w.stops H trivial
  · obtain ⟨e, c, hc, rfl⟩ := w.yields i H x H' (by omega) trivial y
    refine .inl ⟨e, vS [c], ?_, .str _⟩
    rw [List.getElem?_map, show (tl z)[i]? = some c from by rw [Array.getElem?_toList]; exact hc]
    rfl
theorem qi_txt {tg e : Expr} {f : Y.E} (he : PE X e (lE G E f)) : PI X tg e (lI G E (iTxt f)) := by
  refine PI.imp (pi_str he) fun σ H Q ⟨S, F, ρ, loc, st, rp, l, o⟩ => ⟨S, F, ρ, loc, st, rp, l, out.imp (fun x H1 h1 => ?_) (out.bd (Rl := VR G) o)⟩
  obtain ⟨F1, ρ1, a, st1, g1, r1, v1, o1⟩ := h1
  obtain ⟨z, rfl, o1⟩ := strOf_out o1
  rw [dt_str v1]
  exact ⟨z, rfl, out.at (v := (tl z).map fun c => vS [c]) o1 r1 (jw_str z)⟩
theorem bInT_snd : OSnd G (fun x y H Q => ∃ (c : Nat) (z : Str), x = .str ⟨#[c]⟩ ∧ y = .str z ∧ Q (.bl (decide (c ∈ z.cps.toList))) H) (bInT false) := by
  intro S F ρ H st x y a b Q E rp hx hy o
  unfold bInT at o
  split at o
  · rename_i u z
    rw [dt_str hx, dt_str hy]
    obtain ⟨c, hc, o2⟩ := oget_out o
    have e : u = tx [c] := TL.ext_tl (sg_some hc)
    exact ⟨c, z, by rw [e]; rfl, rfl, out.at (v := vB (decide (c ∈ tl z))) o2 rp (.bl _)⟩
  · exact o.elim
theorem bNInT_snd : OSnd G (fun x y H Q => ∃ (c : Nat) (z : Str), x = .str ⟨#[c]⟩ ∧ y = .str z ∧ Q (.bl (!decide (c ∈ z.cps.toList))) H) (bInT true) := by
  intro S F ρ H st x y a b Q E rp hx hy o
  unfold bInT at o
  split at o
  · rename_i u z
    rw [dt_str hx, dt_str hy]
    obtain ⟨c, hc, o2⟩ := oget_out o
    have e : u = tx [c] := TL.ext_tl (sg_some hc)
    exact ⟨c, z, by rw [e]; rfl, rfl, out.at (v := vB (!decide (c ∈ tl z))) o2 rp (.bl _)⟩
  · exact o.elim
theorem fold_rep (a : Array Nat) : ∀ (n : Nat) (acc : Array Nat), ((List.replicate n a).foldl (· ++ ·) acc).toList = acc.toList ++ (List.replicate n a.toList).flatten
  | 0, acc => by simp
  | n + 1, acc => by
    rw [List.replicate_succ, List.foldl_cons, fold_rep a n, Array.toList_append, List.replicate_succ, List.flatten_cons, List.append_assoc]
def rMulT : R2 := fun x y H Q => ∃ (z : Str) (k : Int), x = .str z ∧ y = .int k ∧ 0 ≤ k ∧ k ≤ 100 ∧ z.length ≤ 100 ∧ Q (.str (tx ((List.replicate k.toNat (tl z)).flatten))) H
theorem op_mulT : OpR X (binaryOp .Mult) rMulT := by
  intro pins s σ H x y v u Q I rx ry h
  obtain ⟨z, k, rfl, rfl, h0, h1, hz, q⟩ := h
  obtain ⟨t, rfl⟩ := rx
  obtain ⟨t', rfl⟩ := ry
  have hm : z.length * k.toNat ≤ 100 * 100 := Nat.mul_le_mul hz (by omega)
  refine PySem.P.mul_str (by rw [decide_eq_false (by omega), decide_eq_false (by omega)]; rfl) (fun hk _ hgt => ?_) (fun _ _ => ?_) ?_
  · have : (100 : Int) ≤ (2 ^ 63 - 1) / k := by
      rw [Int.le_ediv_iff_mul_le (by omega)]
      omega
    omega
  · unfold Builtin.Str.tooLong
    rw [decide_eq_false]
    have : sizeLine = 16777216 := sizeLine_eq
    omega
  · by_cases hk : k < 1
    · rw [if_pos hk]
      have ek : k.toNat = 0 := by omega
      rw [ek] at q
      exact ⟨by decide, .str Str.empty, H, I.tok _, ⟨_, rfl⟩, q⟩
    · rw [if_neg hk]
      by_cases hc : (k == 1 || z.length == 0) = true
      · rw [if_pos hc]
        have e : tx ((List.replicate k.toNat (tl z)).flatten) = z := by
          rcases Bool.or_eq_true _ _ ▸ hc with h | h
          · have : k = 1 := by simpa using h
            subst this
            refine TL.ext_tl ?_
            show (List.replicate 1 (tl z)).flatten = tl z
            simp
          · have h : z.length = 0 := by simpa using h
            have h : tl z = [] := (TL.len0_tl z).mp h
            refine TL.ext_tl ?_
            show (List.replicate k.toNat (tl z)).flatten = tl z
            rw [h]; simp
        rw [e] at q
        exact ⟨.str z, H, I, ⟨t, rfl⟩, q⟩
      · rw [if_neg hc]
        have e : (⟨(List.replicate k.toNat z.cps).foldl (· ++ ·) #[]⟩ : Str) = tx ((List.replicate k.toNat (tl z)).flatten) := by
          refine TL.ext_tl ?_
          show ((List.replicate k.toNat z.cps).foldl (· ++ ·) #[]).toList = _
          rw [fold_rep]
          rfl
        refine ⟨?_, ?_⟩
        · rw [e, len_tx, List.length_flatten, List.map_replicate, List.sum_replicate_nat, ← TL.len_tl, sizeLine_eq]
          have := Nat.mul_comm z.length k.toNat
          omega
        · rw [e]
          exact ⟨.str _, H, I.tok _, ⟨_, rfl⟩, q⟩
theorem bMulT_snd : OSnd G rMulT bMulT := by
  intro S F ρ H st x y a b Q E rp hx hy o
  unfold bMulT at o
  split at o
  · rename_i z k
    rw [dt_str hx, dt_int hy]
    by_cases hl : 0 ≤ k ∧ k ≤ 100 ∧ z.length ≤ 100
    · rw [if_pos hl] at o
      exact ⟨z, k, rfl, rfl, hl.1, hl.2.1, hl.2.2, out.at (v := vS ((List.replicate k.toNat (tl z)).flatten)) o rp (.str _)⟩
    · rw [if_neg hl] at o
      exact o.elim
  · exact o.elim
end
end Y
end
section
set_option Elab.async false
set_option Elab.async false
set_option linter.all false
set_option maxRecDepth 100000
set_option maxHeartbeats 2000000
/-! Tlx: a list comprehension whose parts may let an exception out. -/
namespace Y
open PySem PySem.Spec PyProof.Rows L2
section
variable {M : Model} {A : Around} {Ex : Value → Shared → Prop} {s : Shared} {env : Env}
abbrev cEnv (scope : Scope) (env cenv : Env) : Env := { cenv with scope := relabel scope env }
/-- the ends of a comprehension's block -/
def cEnds (M : Model) (A : Around) (Ex : Value → Shared → Prop) (Q : Value → Shared → Prop) (acc : Value) (ce : Env) (r : Result) (s' : Shared) : Prop :=
  ∃ m, s'.heap.Ns ce.locals m ∧ ∀ h', Heap.SameBut ce.locals s'.heap h' → match r with
    | .ok _ => Q acc { s' with heap := h' }
    | .error u => wpAny M A (passOn "comprehension.variables-let-go" u ce : Sem Value) (fun _ _ => False) Ex { s' with heap := h' }
theorem comp_ends {e : Expr} {scope : Scope} {pos : Pos} {mk src : Sem Value} {g : Comprehension} {gs : List Comprehension} {cl : List (Str × Addr)} {Q : Value → Shared → Prop}
    (h1 : clausesOf e = g :: gs) (h2 : ∀ x, foldedSetIterable g.iter env x = pure x) (h3 : closureFor scope env = pure cl) (h4 : scope.kind = .function) (h5 : ∀ x ∈ scope.names, x.2 = .local → scope.names.lookup x.1 = some .local)
    (hrun : wpAny M A src (fun x sa => wpAny M A (pyIter x) (fun it sb => wpAny M A mk (fun acc sc => wpAny M A (newFunctionEnv scope env.globals cl [] env.qual none .none (some env)) (fun cenv sd =>
      codeAny M A (.compStart e 0 it acc (cEnv scope env cenv)) (cEnds M A Ex Q acc (cEnv scope env cenv)) sd) Ex sc) Ex sb) Ex sa) Ex s) :
    wpAny M A (comprehension e scope env pos mk false src none) Q Ex s := by
  unfold comprehension
  rw [h3, h1]
  refine wpAny_bind (wpAny_mono hrun (fun x sa qa => ?_) fun _ _ z => z)
  refine wpAny_bind (wpAny_standAt (wpAny_bind (wpAny_of_eq (h2 x) (wpAny_bind (wpAny_holding (wpAny_mono qa (fun it sb qb => ?_) fun _ _ z => z))))))
  refine wpAny_standIf (wpAny_bind (wpAny_mono qb (fun acc sc qc => ?_) fun _ _ z => z))
  refine wpAny_bind (wpAny_pure (wpAny_bind (wpAny_mono qc (fun cenv sd qd => ?_) fun _ _ z => z)))
  dsimp only
  have own : ∀ x ∈ (scope.names.filter fun x => (x.2 == .local || x.2 == .cell) && x.1 != (".0" : Str)).reverse, x.2 = .local → (cEnv scope env cenv).kindOf x.1 = some .local :=
    fun x hx hl => lookup_relabel_local (h5 x (List.mem_filter.mp (List.mem_reverse.mp hx)).1 hl)
  refine wpAny_holding (wpAny_bind (wpAny_attempt (wpAny_holding (wpAny_run (codeAny_mono qd fun r se qe => ?_)))))
  obtain ⟨m, hn, q⟩ := qe
  have go := @wpAny_comp_letGo
  cases r with
  | ok f => exact wpAny_bind (wpAny_holding (wpAny_comp_letGo (cenv := cEnv scope env cenv) h4 _ se m own hn fun h' _ _ sb => wpAny_pure (q h' sb)))
  | error u => exact wpAny_bind (wpAny_holding (wpAny_comp_letGo (cenv := cEnv scope env cenv) h4 _ se m own hn fun h' _ _ sb => wpAny_mono (q h' sb) (fun _ _ z => z.elim) fun _ _ z => z))
theorem note_same {u : Value} {e1 e2 : Env} (h : e1.frame = e2.frame) : noteFrame u e1 = noteFrame u e2 := by
  unfold noteFrame PySem.frameOf
  rw [h]
end
section
variable {X : Cx} {pins : List (Addr × Obj)} {σ : L2.St} {H : Hp} {s s' : Shared} {E : XK}
/-- a call's exception, in flight; the state without it -/
theorem in_air (I : Inv X pins σ H s) {u : Value} (c : L2N.CX X.prog X.w X.stack H s E u s') : ∃ (a : Addr) (B : Heap) (sI : Shared) (H' : Hp) (cls : Value) (d : Option Addr),
    u = .ref a ∧ Inv X pins σ H' sI ∧ (∀ b o, sI.heap.get? b = some o → b ∉ frs X.stack → B.get? b = some o) ∧ sI.heap.UpToSlots s'.heap ∧ HandSPX.FlyingZ B X.stack a (L2N.Zn cls d) s'.heap ∧ H' a = none ∧ s'.os = sI.os ∧ AllBare s'.gens ∧ E cls d H' := by
  obtain ⟨a, B, H', cls, d, rfl, fl, hok, ub, na, os, ag, hE⟩ := c
  obtain ⟨R, t1, t2⟩ := L2.restrict s'.heap fun b => (B.get? b).isSome || decide (b ∈ frs X.stack)
  have hB : ∀ b o, B.get? b = some o → R.get? b = some o := fun b o e => (t1 b (by simp [e])).trans (fl.1 b o e)
  have hF : ∀ b, b ∈ frs X.stack → R.get? b = s'.heap.get? b := fun b hb => t1 b (by simp [hb])
  have un : ∀ b o, R.get? b = some o → s'.heap.get? b = some o ∧ ((B.get? b).isSome = true ∨ b ∈ frs X.stack) := fun b o e => by
    by_cases q : ((B.get? b).isSome || decide (b ∈ frs X.stack)) = true
    · rw [t1 b q] at e
      exact ⟨e, by simpa [Bool.or_eq_true] using q⟩
    · rw [t2 b (by simpa using q)] at e
      cases e
  refine ⟨a, B, { s with heap := R, gens := s'.gens, drawn := s'.drawn, toks := s'.toks }, H', cls, d, rfl, ?_, fun b o e hb => ?_, Heap.UpToSlots.of_keeps fun b o e => (un b o e).1, fl, na, os, ag, hE⟩
  · refine I.call (ch := []) ⟨fun b o e n hb _ => hB b o (ub.keep b o e n hb), fun b o e n hb _ => ?_, fun b o e n _ => ub.free b o e n, fun b o e _ => ?_, ub.tups, ub.frzs, ub.tbls⟩ (hok.kept hB) ag (fun _ z => nomatch z)
    · obtain ⟨sl, q⟩ := ub.slot b o e hb
      exact ⟨sl, (hF b hb).trans q⟩
    · rcases Classical.em (b ∈ frs X.stack) with hb | hb
      · obtain ⟨sl, q⟩ := ub.slot b o e hb
        exact ⟨_, (hF b hb).trans q⟩
      · obtain ⟨o', q⟩ := ub.there b o e hb
        exact ⟨o', hB b o' q⟩
  · obtain ⟨e', z⟩ := un b o e
    rcases z with z | z
    · obtain ⟨o', q⟩ := Option.isSome_iff_exists.mp z
      have w := fl.1 b o' q
      rw [e'] at w
      cases w
      exact q
    · exact absurd z hb
end
section
variable {X : Cx} {G : Glo} {E : XK}
/-- the block, what it lets out goes to xe -/
abbrev blkE (X : Cx) (s : Shared) (H : Hp) (scope : Scope) (ce : Env) (fp : List Addr) (xe : Value → Shared → Prop) : Cx := (X.blk s H scope ce fp).tr [] xe
theorem traced_but {h h' base base' : Heap} {e C : Addr} {Z : Obj → Prop} {fl : Value} (t : HandSPX.TracedZ h base e Z fl) (hs : Heap.SameBut C h h') (hC : ∃ o, base.get? C = some o) (he : base.get? e = none) (hb : ∀ b, base.get? b = none → base'.get? b = none) : HandSPX.TracedZ h' base' e Z fl := by
  obtain ⟨oe, vs, T, oT, ts, k1, k2, k3, k4, k5, k6, k7, k8, k9⟩ := t
  obtain ⟨o, hC⟩ := hC
  have n1 : e ≠ C := fun z => by rw [z, hC] at he; cases he
  have n2 : T ≠ C := fun z => by rw [z, hC] at k5; cases k5
  exact ⟨oe, vs, T, oT, ts, (hs.2 e n1).trans k1, k2, k3, k4, hb T k5, k6, (hs.2 T n2).trans k7, k8, k9⟩
theorem frames_but {h h' base base' : Heap} (hb : ∀ b, base.get? b = none → base'.get? b = none) : ∀ {l : List Env}, (∀ b ∈ frs l, ∀ o, h.get? b = some o → h'.get? b = some o) → h.FunFrames base l → h'.FunFrames base' l
  | [], _, _ => trivial
  | env :: l, hk, ⟨k1, ⟨L, o, k2, k3, k4, k5⟩, k6⟩ => by
    have hm : L ∈ frs (env :: l) := by
      unfold frs
      rw [List.filterMap_cons, k2]
      exact List.mem_cons_self
    refine ⟨k1, ⟨L, o, k2, hb L k3, hk L hm o k4, k5⟩, frames_but hb (fun b hm' => hk b ?_) k6⟩
    unfold frs at hm' ⊢
    rw [List.filterMap_cons, k2]
    exact List.mem_cons_of_mem _ hm'
/-- [elt for target in iter ..], as lc_core has it, but an exception of the block leaves -/
theorem lcX {pins : List (Addr × Obj)} {s : Shared} {σ : L2.St} {H : Hp} {Q : VK} {elt tg iter : Expr} {ifs : List Expr} {scope : Scope} {own : List (Str × Nat)} {pos pos' : Pos} {wi : TI} {g : TG} {tt : TT} {te : TE}
    (hc : X.calm = true) (hN : X.N.Nodup) (hst : X.stack = X.env :: X.outer) (hfr : X.env.frame = some X.env.locals) (tk : L2N.Takes X (fun cls d _ H => E cls d H)) (I : Inv X pins σ H s) (hi : PI X tg iter wi) (ok : BlkOk X.N X.env.scope scope own)
    (hg : ∀ (s : Shared) (H : Hp) (C : Addr) (cl : List (Str × Addr)) (fp : List Addr) (xe : Value → Shared → Prop), PG (blkE X s H scope (compEnvC scope cl C X.env) fp xe) tg g)
    (ht : ∀ (s : Shared) (H : Hp) (C : Addr) (cl : List (Str × Addr)) (fp : List Addr) (xe : Value → Shared → Prop), PTs (blkE X s H scope (compEnvC scope cl C X.env) fp xe) ifs tt)
    (he : ∀ (s : Shared) (H : Hp) (C : Addr) (cl : List (Str × Addr)) (fp : List Addr) (xe : Value → Shared → Prop), (∀ σ, PassesAt (L2N.CX X.prog X.w) (blkE X s H scope (compEnvC scope cl C X.env) fp xe) σ E) → PE (blkE X s H scope (compEnvC scope cl C X.env) fp xe) elt te)
    (hs : ∀ x, foldedSetIterable iter X.env x = pure x) (h : tLc wi g tt te (own.map (·.2)) σ H Q) :
    wpAny (model X.prog X.w) X.A (comprehension (.ListComp elt [⟨tg, iter, ifs, 0⟩] scope pos) scope X.env pos' (newList []) false (eval iter X.env) none) (EP X pins σ Q) X.xe s := by
  have hfree : ∀ y ∈ scope.names, y.2 = .free → ∃ c, X.env.cells.lookup y.1 = some c := fun y hy e => (ok.free y hy e).elim (fun k => I.ok.has _ (.inl k)) fun k => I.ok.has _ (.inr k)
  refine comp_ends rfl hs (closure_ok hfree) ok.kind (fun y hy e => (ok.uniq y hy).trans (congrArg some e)) (thn (hi.run pins s σ H _ I h) fun xv s1 hx => thn hx fun itv s2 q2 => ?_)
  obtain ⟨it, fp, tn, J, H2, rfl, I2, T, st2, f2, q⟩ := q2
  refine wpAny_newObj_type (newEnv_comp ?_) (by show 0 ≤ sizeLine; decide)
  obtain ⟨D, hD⟩ : ∃ D, D = s2.heap.objs.size := ⟨_, rfl⟩
  rw [← hD]
  have hDn : H2 D = none := I2.hok.fresh (Nat.le_of_eq hD.symm)
  obtain ⟨W, ⟨m0, w0⟩, turn⟩ := q D hDn
  obtain ⟨s3, hs3⟩ : ∃ s3 : Shared, s3 = { s2 with heap := s2.heap.push { cls := .type "list", data := .seq ([] : List Value).toArray } } := ⟨_, rfl⟩
  have h3 : s3.heap = s2.heap.push { cls := .type "list", data := .seq ([] : List Value).toArray } := by rw [hs3]
  have I3 : Inv X pins σ (upd H2 D (.lst [])) s3 := by
    rw [hs3]
    refine I2.laid (t' := s2.toks) (fun b o e => Heap.get?_push_of_some _ e) (Nat.le_of_eq hD.symm) ⟨Nat.zero_le _, [], 0, .nil, ?_⟩
    rw [hD]
    exact Heap.get?_push_size _ rfl
  have small : ∀ b ∈ fp, b < s2.heap.objs.size := fun b hb => (T.obj _ _ st2 b hb).elim fun o e => Heap.lt_size e.1
  have f3 : ∀ b ∈ fp, FpOk X pins (upd H2 D (.lst [])) b ∧ b < s3.heap.objs.size := fun b hb => by
    have lt := small b hb
    refine ⟨⟨?_, (f2 b hb).2⟩, by rw [h3, Heap.size_push]; exact Nat.lt_succ_of_lt lt⟩
    rw [upd_ne (by rw [hD]; exact Nat.ne_of_lt lt)]
    exact (f2 b hb).1
  have st3 : tn 0 s3.heap := T.keep _ _ _ st2 fun b _ o e => by rw [h3]; exact Heap.get?_push_of_some _ e
  obtain ⟨C, hCe⟩ : ∃ C, C = s3.heap.objs.size := ⟨_, rfl⟩
  obtain ⟨cl, hcl⟩ : ∃ cl, cl = cellsFrom (C + 1) scope.names (cloFrom X.env.cells scope.names []) := ⟨_, rfl⟩
  obtain ⟨ce, hce⟩ : ∃ ce, ce = compEnvC scope cl C X.env := ⟨_, rfl⟩
  have I40 := block_start I3 ok hN f3
  rw [← hCe, ← hcl, ← hce] at I40
  have cL : ce.locals = C := by rw [hce]; rfl
  have cF : ce.frame = X.env.frame := by rw [hce]; rfl
  have start : codeAny (model X.prog X.w) X.A (.compStart (.ListComp elt [⟨tg, iter, ifs, 0⟩] scope pos) 0 (.ref it) (.ref D) ce) (cEnds (model X.prog X.w) X.A X.xe (EP X pins σ Q) (.ref D) ce) { s3 with heap := pushCells (s3.heap.push { cls := .type "dict", data := .dict #[] }) scope.names } := ?_
  · rw [hce, hcl, hCe, hs3] at start
    exact start
  obtain ⟨s4, hs4⟩ : ∃ s4 : Shared, s4 = { s3 with heap := pushCells (s3.heap.push { cls := .type "dict", data := .dict #[] }) scope.names } := ⟨_, rfl⟩
  rw [← hs4] at I40
  obtain ⟨H3, hH3⟩ : ∃ H3, H3 = upd H2 D (.lst []) := ⟨_, rfl⟩
  rw [← hH3] at I40 I3 f3 w0
  rw [← hs4]
  -- what leaves
  obtain ⟨xe, hxe⟩ : ∃ xe : Value → Shared → Prop, xe = notedBy (model X.prog X.w) X.A ce fun u s' => cEnds (model X.prog X.w) X.A X.xe (EP X pins σ Q) (.ref D) ce (.error u) s' := ⟨_, rfl⟩
  have I4 : Inv (blkE X s3 H3 scope ce fp xe) [] (wipe σ (own.map (·.2))) H3 s4 := I40.toTry xe
  have hfm : X.A.frames = some (X.env :: X.outer) := by rw [I.ok.frames, hst]
  have nCf : C ∉ frs X.stack := fun hm => by
    obtain ⟨_, o, e, _⟩ := I3.stack.mem hm
    have lt := Heap.lt_size e
    rw [hCe] at lt
    exact absurd lt (Nat.lt_irrefl _)
  have back : ∀ {s' : Shared} {H' : Hp}, s'.os = s3.os → Un (frs X.stack) fp H3 H' s3.heap s'.heap → HOk X.prog X.w H' s'.heap → AllBare s'.gens → Inv X pins σ H' s' := fun {s' H'} a b c d =>
    I3.call' (ch := fp) a b c d fun b hb => ⟨(f3 b hb).1.2.2.2.1, (f3 b hb).1.2.1, (f3 b hb).1.2.2.2.2.1, (f3 b hb).1.2.2.2.2.2⟩
  have pas : ∀ σ', PassesAt (L2N.CX X.prog X.w) (blkE X s3 H3 scope ce fp xe) σ' E := fun σ' pinsZ HZ sZ u s' IZ c => by
    obtain ⟨a, B, sI, H', cls, d, rfl, I', nb, up, fl, na, os, ag, hE⟩ := in_air IZ c
    have fl : HandSPX.FlyingZ B X.stack a (L2N.Zn cls d) s'.heap := fl
    have nb : ∀ b o, sI.heap.get? b = some o → b ∉ frs X.stack → B.get? b = some o := nb
    show xe (.ref a) s'
    rw [hxe]
    show wpAny _ X.A (noteFrame (.ref a) ce) _ _ s'
    rw [note_same cF]
    rw [hst] at fl
    refine PXN.looks_onZ L2N.Zn.steady hfm hfr fl fun h1 held up1 => ?_
    rw [← hst] at held
    obtain ⟨m, hn, _⟩ := I'.loc
    have hn : sI.heap.Ns C m := by rw [← cL]; exact hn
    obtain ⟨oC, hoC⟩ : ∃ o, sI.heap.get? C = some o := by
      obtain ⟨o, _, _, e, _⟩ := hn
      exact ⟨o, e⟩
    have bC : B.get? C = some oC := nb C oC hoC nCf
    have hC1 : h1.get? C = some oC := held.1 C oC bC
    have fC : H' C = none := by
      have z : H' ce.locals = none := I'.free
      rw [cL] at z
      exact z
    refine ⟨m, ?_, fun h' sb => ?_⟩
    · rw [cL]
      exact hn.at' fun o e => by rw [hoC] at e; cases e; exact hC1
    · rw [cL] at sb
      have sb : Heap.SameBut C h1 h' := sb
      obtain ⟨B', b1, b2⟩ := L2.restrict B fun b => !decide (b = C)
      obtain ⟨Rs, r1, r2⟩ := L2.restrict sI.heap fun b => !decide (b = C)
      have bB : ∀ b o, B'.get? b = some o → b ≠ C ∧ B.get? b = some o := fun b o e => by
        by_cases z : b = C
        · rw [b2 b (by simp [z])] at e; cases e
        · rw [b1 b (by simp [z])] at e; exact ⟨z, e⟩
      have bN : ∀ b, B.get? b = none → B'.get? b = none := fun b e => by
        cases q : B'.get? b with
        | none => rfl
        | some o => rw [(bB b o q).2] at e; cases e
      have rR : ∀ b o, Rs.get? b = some o → b ≠ C ∧ sI.heap.get? b = some o := fun b o e => by
        by_cases z : b = C
        · rw [r2 b (by simp [z])] at e; cases e
        · rw [r1 b (by simp [z])] at e; exact ⟨z, e⟩
      have held' : HandSPX.HeldZ B' X.stack a (L2N.Zn cls d) X.env.locals h' := ⟨fun b o e => (sb.2 b (bB b o e).1).trans (held.1 b o (bB b o e).2), bN a held.2.1, frames_but bN (fun b hb o e => (sb.2 b fun z => nCf (z ▸ hb)).trans e) held.2.2.1, traced_but held.2.2.2 sb ⟨oC, bC⟩ held.2.1 bN⟩
      have fresh : ∀ b o, s3.heap.get? b = some o → b ≠ C := fun b o e z => by
        have lt := Heap.lt_size e
        rw [z, hCe] at lt
        exact absurd lt (Nat.lt_irrefl _)
      have toR : ∀ b o, b ≠ C → sI.heap.get? b = some o → Rs.get? b = some o := fun b o z e => (r1 b (by simp [z])).trans e
      have I7 : Inv X pins σ H' { sI with heap := Rs } := by
        have bs : Un (frs X.stack) fp H3 H' s3.heap sI.heap := I'.base
        refine back I'.os ⟨fun b o e n hb hx => toR b o (fresh b o e) (bs.keep b o e n hb hx), fun b o e n hb hx => ?_, bs.free, fun b o e hx => ?_, bs.tups, bs.frzs, bs.tbls⟩ (fun b o e => ?_) I'.bare
        · obtain ⟨sl, q⟩ := bs.slot b o e n hb hx
          exact ⟨sl, toR b _ (fresh b o e) q⟩
        · obtain ⟨o', q⟩ := bs.there b o e hx
          exact ⟨o', toR b o' (fresh b o e) q⟩
        · refine (I'.hok b o e).stay (fun c w hc q => toR c w (fun z => ?_) q) (fun _ r => r) fun _ _ r => r
          rcases hc with hc | hc
          · rw [← hc, z, fC] at e; cases e
          · rw [z, fC] at hc; cases hc
      obtain ⟨oe, vs, Tb, oT, ts, k1, k2, k3, k4, k5, k6, k7, k8, k9⟩ := held'.2.2.2
      unfold PySem.passOn
      refine wpAny_bind (wpAny_field k1 k3 k4 ?_)
      rw [if_neg (by simp), cF, hfr]
      refine wpAny_bind (HandSPX.setFlight_onZ held' fun h2 held2 up2 => wpAny_throw ?_)
      refine tk _ _ ⟨a, B', { sI with heap := Rs }, pins, σ, H', cls, d, rfl, I7, fun b o e hb => ?_, fun b o e hnf => ?_, .inr (.inr held2), na, os, ag, hE⟩
      · obtain ⟨z, q⟩ := rR b o e
        exact (b1 b (by simp [z])).trans (nb b o q hb)
      · obtain ⟨z, q⟩ := rR b o e
        obtain ⟨sl, q1⟩ := up b o q hnf
        obtain ⟨sl1, q2⟩ := up1 b _ q1 hnf
        obtain ⟨sl2, q3⟩ := up2 b _ ((sb.2 b z).trans q2) hnf
        exact ⟨sl2, q3⟩
  have pg := hg s3 H3 C cl fp xe
  have pt := ht s3 H3 C cl fp xe
  have pe := he s3 H3 C cl fp xe
  rw [← hce] at pg pt pe
  have pe := pe pas
  have st4 : tn 0 s4.heap := T.keep _ _ _ st3 fun b _ o e => by rw [hs4]; exact pushCells_keeps _ _ _ _ (Heap.get?_push_of_some _ e)
  have nfp : ∀ b ∈ fp, H3 b = none := fun b hb => (f3 b hb).1.1
  have keepFp : ∀ {σ' : L2.St} {H' : Hp} {s' : Shared}, Inv (blkE X s3 H3 scope ce fp xe) [] σ' H' s' → (∀ b ∈ fp, H' b = none) → ∀ b ∈ fp, FpOk (blkE X s3 H3 scope ce fp xe) [] H' b := fun {σ' H' s'} J hn b hb =>
    ⟨hn b hb, (J.ok.exf b hb).1, J.ok.exfs b hb, .inl hb, fun x c e => (J.ok.exf b hb).2 x c e, fun p hp => absurd (show p ∈ ([] : List (Addr × Obj)) ++ [] from hp) (by simp)⟩
  have loop : codeAny (model X.prog X.w) X.A (.compLoop (.ListComp elt [⟨tg, iter, ifs, 0⟩] scope pos) 0 (.ref it) (.ref D) ce) (cEnds (model X.prog X.w) X.A X.xe (EP X pins σ Q) (.ref D) ce) s4 := by
    refine compLoop_any (fun n s' => ∃ i H', Inv (blkE X s3 H3 scope ce fp xe) [] (wipe σ (own.map (·.2))) H' s' ∧ tn i s'.heap ∧ (∀ b ∈ fp, H' b = none) ∧ W i n H') ?_ m0 ⟨0, H3, I4, st4, nfp, w0⟩
    rw [← hxe]
    rintro n s5 ⟨i, H5, I5, st5, n5, w5⟩
    rcases turn i n H5 w5 with ⟨stop, qq⟩ | ⟨go, Nx, hNx, step⟩
    · refine thnF (T.done (blkE X s3 H3 scope ce fp xe) rfl rfl rfl hc i [] s5 _ H5 (fun _ _ => False) I5 (keepFp I5 n5) st5 stop) fun r s6 ⟨hr, I6⟩ => ?_
      subst hr
      obtain ⟨m, hn, _⟩ := I6.loc
      have nC : H5 ce.locals = none := I6.free
      have I7 : Inv X pins σ H5 s6 := back I6.os I6.base I6.hok I6.bare
      have fpC : FpOk X pins H5 C := I3.fpOk (Nat.le_of_eq hCe.symm) (by rw [← cL]; exact nC)
      refine ⟨m, hn, fun h' sb => ?_⟩
      rw [cL] at sb
      exact ⟨.ref D, H5, I7.turned (t' := s6.toks) (fun b o hb e => (sb.2 b hb).trans e) fpC.1 fpC.2.1 fpC.2.2.2.1 fpC.2.2.2.2.1 fpC.2.2.2.2.2, rfl, qq⟩
    · refine thnF (T.item (blkE X s3 H3 scope ce fp xe) rfl rfl rfl hc i [] s5 _ H5 (fun _ _ => False) I5 (keepFp I5 n5) st5 go) fun r s6 ⟨u, hr, h6⟩ => ?_
      subst hr
      refine thnF h6 fun _ s7 ⟨x, H7, I7, r7, y7, st7, n7⟩ => ?_
      have I7' := I7.pinned (keepFp I7 n7) (T.obj _ _ st7)
      refine thn (pg.run _ s7 _ H7 x u _ I7' r7 (step x H7 y7)) fun _ s8 ⟨σ8, H8, I8, hw8, q8⟩ => ?_
      refine thn (pt.run _ s8 σ8 H8 _ I8 q8) fun b s9 ⟨H9, I9, q9⟩ => ?_
      have fin : ∀ {s' : Shared} {H' : Hp}, Inv (blkE X s3 H3 scope ce fp xe) ([] ++ pinsAt fp s7.heap) σ8 H' s' → Nx H' → ∃ m, m < n ∧ ∃ i H', Inv (blkE X s3 H3 scope ce fp xe) [] (wipe σ (own.map (·.2))) H' s' ∧ tn i s'.heap ∧ (∀ b ∈ fp, H' b = none) ∧ W i m H' := fun {s' H'} J nx => by
        obtain ⟨m', hm, w'⟩ := hNx H' nx
        have pin' : ∀ b ∈ fp, ∀ o, s7.heap.get? b = some o → s'.heap.get? b = some o ∧ H' b = none := fun b hb o e =>
          (J.pin (b, o) (List.mem_append_right _ (List.mem_append_right _ (mem_pinsAt hb e)))).imp id fun z => z.1
        have hl : (wipe σ (own.map (·.2))).length = σ8.length := by rw [← hw8, wipe_length]
        refine ⟨m', hm, i + 1, H', (J.unpinned (pins := [])).weak hl (fun j v e => ?_), T.keep _ _ _ st7 fun b hb o e => (pin' b hb o e).1, fun b hb => ?_, w'⟩
        · rw [← hw8] at e
          exact (wipe_some e).1
        · obtain ⟨o, e, _⟩ := T.obj _ _ st7 b hb
          exact (pin' b hb o e).2
      cases b with
      | false =>
        simp only [Bool.false_eq_true, if_false] at q9 ⊢
        exact fin I9 q9
      | true =>
        simp only [if_true] at q9 ⊢
        refine thn (pe.run _ s9 σ8 H9 _ I9 q9) fun z s10 ⟨yv, H10, I10, r10, acc, hD10, hz10, nx⟩ => ?_
        exact app_ok (X := blkE X s3 H3 scope ce fp xe) I10 hD10 hz10 r10 fun s11 I11 => fin I11 nx
  exact codeAny_compStart_list loop (T.self X.A 0 _ _ _ st4 loop)
end
end Y
end
section
set_option Elab.async false
set_option Elab.async false
set_option linter.all false
set_option maxRecDepth 100000
set_option maxHeartbeats 2000000
/-! Tly: the reading of a comprehension whose parts may refuse; own lists taken apart; an own list != []. -/
namespace Y
open PySem PySem.Spec PyProof.Rows L2
section
variable {X : Cx} {G : Glo} {E : XK} {vs : List Nat}
theorem Rep.less {S F : Hp} {ρ : List Addr} {H : Hp} {st : Store} {p : Addr} {o : HO} (r : Rep G (upd S p o) F ρ H st) (hs : S p = none) : Rep G S F ρ H st :=
  ⟨fun a u h => r.sd a u (by rw [upd_ne (ne_of_none h hs)]; exact h), r.ex, r.nt, r.len, r.nd, r.own, r.tab⟩
/-- what is wanted behind the side list holds without it -/
theorem out.side {α β : Type} {Rl : Hp → List Addr → β → α → Prop} {Q : β → Hp → Prop} {S F : Hp} {ρ : List Addr} {p : Addr} {o : HO} (hs : S p = none) {m : M α} {st : Store} (ho : ∀ v s, m st = .ok v s → ∀ F' ρ' H' u, Gr F ρ F' ρ' → Rep G (upd S p o) F' ρ' H' s → Rl F' ρ' u v → Q u H')
    (hx : ∀ c s, m st = .ex c s → ∀ F' ρ' H', Gr F ρ F' ρ' → Rep G S F' ρ' H' s → E (.ref (G.cl c)) none H') (hb : m st ≠ .bad) : out G (upd S p o) F ρ Rl Q E (m st) := by
  cases e : m st with
  | ok v s => exact ho v s e
  | ex c s => exact fun F' ρ' H' g r => hx c s e F' ρ' H' g (r.less hs)
  | bad => exact (hb e).elim
/-- a first part of something that is wanted -/
theorem out_first {α γ δ : Type} {Rk : Hp → List Addr → δ → γ → Prop} {Qk : δ → Hp → Prop} {S F : Hp} {ρ : List Addr} {m : M α} {f : α → M γ} {st : Store} (h : out G S F ρ Rk Qk E (bd m f st)) :
    (∃ a s, m st = .ok a s ∧ out G S F ρ Rk Qk E (f a s)) ∨ (∃ c s, m st = .ex c s ∧ ∀ F' ρ' H', Gr F ρ F' ρ' → Rep G S F' ρ' H' s → E (.ref (G.cl c)) none H') := by
  unfold bd at h
  cases e : m st with
  | ok a s => rw [e] at h; exact .inl ⟨a, s, rfl, h⟩
  | ex c s => rw [e] at h; exact .inr ⟨c, s, rfl, h⟩
  | bad => rw [e] at h; exact h.elim
theorem bdA {α β γ : Type} (m : M α) (f : α → M β) (g : β → M γ) : bd (bd m f) g = bd m fun a => bd (f a) g := by
  funext st
  unfold bd
  cases m st <;> rfl
theorem bdR {α β : Type} (a : α) (f : α → M β) : bd (ret a) f = f a := rfl
def CPX (G : Glo) (S : Hp) (F : Hp) (ρ : List Addr) (Q : VK) (E : XK) (Dl : Addr) (body : Val → M (Option Val)) (xs : List Val) (n : Nat) (H : Hp) : Prop :=
  ∃ (F' : Hp) (ρ' : List Addr) (st : Store) (av : List V) (acc : List Val), Gr F ρ F' ρ' ∧ Rep G (upd S Dl (.lst av)) F' ρ' H st ∧ VRs G F' ρ' av acc ∧ acc.length + xs.length ≤ n ∧ out G S F' ρ' (VR G) Q E (bd (compL body xs) (fun ys => bLst (acc ++ ys)) st)
theorem lE_lcX {it : Y.I} {g : Y.G} {t : Tst} {e : Y.E} {vs : List Nat} : ∀ σ H Q, lE G E (eLcX it g t e vs) σ H Q → tLc (lI G E it) (lG G E vs g) (lT G E t) (lE G E e) vs σ H Q := by
  rintro σ H Q ⟨S, F, ρ, loc, st, rp, l, o⟩
  refine ⟨S, F, ρ, loc, st, rp, l, out.imp (fun J H1 h1 => ?_) (out.bd (Rl := JR G) o)⟩
  obtain ⟨F1, ρ1, xs, st1, g1, r1, jw, o1⟩ := h1
  intro Dl hD
  have o1 : out G S F1 ρ1 (VR G) Q E ((if xs.length ≤ lim then bd (compL (cBody g t e (wip loc vs)) xs) bLst else die) st1) := o1
  have hl : xs.length ≤ lim := by
    by_cases hl : xs.length ≤ lim
    · exact hl
    · rw [if_neg hl] at o1
      exact o1.elim
  rw [if_pos hl] at o1
  have hS : S Dl = none := by
    cases q : S Dl with
    | none => rfl
    | some u => rw [(r1.sd Dl u q).1] at hD; cases hD
  refine ⟨fun i m H => m = xs.length - i ∧ i ≤ xs.length ∧ CPX G S F1 ρ1 Q E Dl (cBody g t e (wip loc vs)) (xs.drop i) xs.length H, ⟨xs.length, by simp, Nat.zero_le _, F1, ρ1, st1, [], [], Gr.refl, r1.side hD, .nil, by simp, o1⟩, ?_⟩
  rintro i m H2 ⟨rfl, hi, F2, ρ2, st2, av, acc, g2, r2, va, hn, o2⟩
  have ex2 : Exn F1 H2 := fun a o h => r2.ex a o (g2.f a o h)
  by_cases hlt : i < xs.length
  · refine .inr ⟨jw.goes i H2 hlt ex2, CPX G S F1 ρ1 Q E Dl (cBody g t e (wip loc vs)) (xs.drop (i + 1)) xs.length, fun H' p => ⟨xs.length - (i + 1), by omega, rfl, hlt, p⟩, fun x H' yl => ?_⟩
    have hx : xs[i]? = some xs[i] := List.getElem?_eq_getElem hlt
    have hd : xs.drop i = xs[i] :: xs.drop (i + 1) := List.drop_eq_getElem_cons hlt
    obtain ⟨F3, g3, r3, v3⟩ := turn_rep jw g2 r2 hx yl
    rw [hd] at o2 hn
    rw [List.length_cons] at hn
    have o3 : out G S F3 ρ2 (VR G) Q E (bd (g xs[i] (wip loc vs)) (fun l => bd (t l) fun b => bd (if b = true then bd (e l) fun y => ret (some y) else ret none) fun ob => bd (compL (cBody g t e (wip loc vs)) (xs.drop (i + 1))) fun ys => bLst (acc ++ consO ob ys)) st2) := by
      have z : bd (compL (cBody g t e (wip loc vs)) (xs[i] :: xs.drop (i + 1))) (fun ys => bLst (acc ++ ys)) = bd (g xs[i] (wip loc vs)) (fun l => bd (t l) fun b => bd (if b = true then bd (e l) fun y => ret (some y) else ret none) fun ob => bd (compL (cBody g t e (wip loc vs)) (xs.drop (i + 1))) fun ys => bLst (acc ++ consO ob ys)) := by
        show bd (bd (cBody g t e (wip loc vs) xs[i]) fun o => bd (compL (cBody g t e (wip loc vs)) (xs.drop (i + 1))) fun ys => ret (consO o ys)) _ = _
        unfold cBody
        simp only [bdA, bdR]
      rw [z] at o2
      exact out.mono g3 o2
    have lr3 : LR G F3 ρ2 (L2.wipe σ vs) (wip loc vs) := (l.mono ((g1.trans g2).trans g3)).wip vs
    refine ⟨upd S Dl (.lst av), F3, ρ2, wip loc vs, st2, xs[i], r3, lr3, v3, ?_⟩
    rcases out_first o3 with ⟨l2, s2, hg, o4⟩ | ⟨c, s, hg, hx⟩
    · refine out_ok hg fun F4 ρ4 H4 σ2 g4 r4 lw => ?_
      obtain ⟨lr4, w4⟩ := lw
      refine ⟨w4.trans wipe_wipe, upd S Dl (.lst av), F4, ρ4, l2, s2, r4, lr4, ?_⟩
      have o4 := out.mono g4 o4
      rcases out_first o4 with ⟨b, s3, ht, o5⟩ | ⟨c, s, ht, hx⟩
      · refine out_ok ht fun F5 ρ5 H5 b' g5 r5 hb' => ?_
        cases hb'
        have gg : Gr F1 ρ1 F5 ρ5 := ((g2.trans g3).trans g4).trans g5
        have g25 : Gr F2 ρ2 F5 ρ5 := (g3.trans g4).trans g5
        have o5 := out.mono g5 o5
        cases b with
        | false => exact ⟨F5, ρ5, s3, av, acc, gg, r5, VRs.mono g25 va, by omega, o5⟩
        | true =>
          have o5 : out G S F5 ρ5 (VR G) Q E (bd (e l2) (fun y => bd (compL (cBody g t e (wip loc vs)) (xs.drop (i + 1))) fun ys => bLst (acc ++ y :: ys)) s3) := by
            have z : bd (bd (e l2) fun y => ret (some y)) (fun ob => bd (compL (cBody g t e (wip loc vs)) (xs.drop (i + 1))) fun ys => bLst (acc ++ consO ob ys)) = bd (e l2) (fun y => bd (compL (cBody g t e (wip loc vs)) (xs.drop (i + 1))) fun ys => bLst (acc ++ y :: ys)) := by
              simp only [bdA, bdR]
              rfl
            rw [← z]
            exact o5
          refine ⟨upd S Dl (.lst av), F5, ρ5, l2, s3, r5, lr4.mono g5, ?_⟩
          rcases out_first o5 with ⟨yv, s4, he, o6⟩ | ⟨c, s, he, hx⟩
          · refine out_ok he fun F6 ρ6 H6 u g6 r6 vu => ?_
            have hav : av.length = acc.length := va.length
            refine ⟨av, (r6.sd Dl _ upd_same).1, sz' (by omega), F6, ρ6, s4, av ++ [u], acc ++ [yv], gg.trans g6, r6.side2, Paired.snoc (VRs.mono (g25.trans g6) va) vu, by rw [List.length_append]; show acc.length + 1 + _ ≤ _; omega, ?_⟩
            have ea : (fun ys => bLst (acc ++ [yv] ++ ys)) = fun ys => bLst (acc ++ yv :: ys) := by
              funext ys
              simp
            rw [ea]
            exact out.mono g6 o6
          · rw [he]
            exact fun F' ρ' H' gr rr => hx F' ρ' H' gr (rr.less hS)
      · rw [ht]
        exact fun F' ρ' H' gr rr => hx F' ρ' H' gr (rr.less hS)
    · rw [hg]
      exact fun F' ρ' H' gr rr => hx F' ρ' H' gr (rr.less hS)
  · have e : i = xs.length := by omega
    subst e
    refine .inl ⟨jw.stops H2 ex2, ?_⟩
    rw [List.drop_length] at o2
    have o3 : out G S F2 ρ2 (VR G) Q E (bLst (acc ++ []) st2) := o2
    rw [List.append_nil] at o3
    exact fin_lst S F2 ρ2 H2 st2 av acc Dl Q E r2 va hS o3
theorem qe_lcX {elt tgt iter : Expr} {ifs : List Expr} {scope : Scope} {own : List (Str × Nat)} {pos : Pos} {it : Y.I} {g : Y.G} {t : Tst} {e : Y.E} (hc : X.calm = true) (hN : X.N.Nodup) (hst : X.stack = X.env :: X.outer) (hfr : X.env.frame = some X.env.locals) (tk : L2N.Takes X (fun cls d _ H => E cls d H)) (hi : PI X tgt iter (lI G E it)) (ok : BlkOk X.N X.env.scope scope own)
    (hg : ∀ (s : Shared) (H : Hp) (C : Addr) (cl : List (Str × Addr)) (fp : List Addr) (xe : Value → Shared → Prop), PG (blkE X s H scope (compEnvC scope cl C X.env) fp xe) tgt (lG G E (own.map (·.2)) g))
    (ht : ∀ (s : Shared) (H : Hp) (C : Addr) (cl : List (Str × Addr)) (fp : List Addr) (xe : Value → Shared → Prop), PTs (blkE X s H scope (compEnvC scope cl C X.env) fp xe) ifs (lT G E t))
    (he : ∀ (s : Shared) (H : Hp) (C : Addr) (cl : List (Str × Addr)) (fp : List Addr) (xe : Value → Shared → Prop), (∀ σ, PassesAt (L2N.CX X.prog X.w) (blkE X s H scope (compEnvC scope cl C X.env) fp xe) σ E) → PE (blkE X s H scope (compEnvC scope cl C X.env) fp xe) elt (lE G E e))
    (hs : ∀ x, foldedSetIterable iter X.env x = pure x := by intro _; rfl) : PE X (.ListComp elt [⟨tgt, iter, ifs, 0⟩] scope pos) (lE G E (eLcX it g t e (own.map (·.2)))) := by
  refine ⟨fun pins s σ H Q I h => ?_⟩
  rw [eval_ListComp]
  exact lcX hc hN hst hfr tk I hi ok hg ht he hs (lE_lcX σ H Q h)
/-- a, b, .. = an own list -/
theorem qg_lstO {es : List Expr} {k n : Nat} {gs : Y.Gs} {pos : Pos} (hc : X.calm = true) (h : PGs X es (lGs G E vs gs)) (hl : (assignEach es X.env).length = n := by rfl) (hf : List.findIdx? (fun x => x.fst) (assignEach es X.env) = none := by rfl) : PG X (.Tuple es k pos) (lG G E vs (gLO n gs)) := by
  refine PG.imp (pg_lst hc h hl hf) fun v σ H Q ⟨S, F, ρ, loc, st, y, rp, l, r, o⟩ => ?_
  cases y with
  | s _ => exact o.elim
  | d _ => exact o.elim
  | o j =>
    have o : out G S F ρ (TR G vs σ) Q E ((match st[j]? with | some (.lst xs) => if xs.length = n then gs xs loc st else .bad | _ => .bad)) := o
    cases q : st[j]? with
    | none => rw [q] at o; exact o.elim
    | some ob =>
      rw [q] at o
      cases ob with
      | ins _ _ => exact o.elim
      | gone => exact o.elim
      | tup _ => exact o.elim
      | dct _ => exact o.elim
      | dcf _ => exact o.elim
      | lst xs =>
        dsimp only at o
        by_cases e : xs.length = n
        · rw [if_pos e] at o
          obtain ⟨a, ha, rfl⟩ := r
          obtain ⟨a', h', e1, e2, e3, us, e4, hu⟩ := rp.own j _ q
          rw [ha] at e1
          cases e1
          subst e4
          exact ⟨a, us, rfl, SqL.of e3, by rw [hu.length]; exact e, S, F, ρ, loc, st, xs, rp, l, hu, o⟩
        · rw [if_neg e] at o
          exact o.elim
end
end Y
namespace Y
open PySem PySem.Spec PyProof.Rows L2
section
variable {X : Cx} {G : Glo}
def rNeE (K : PySem.W.Frag) : R2 := fun x y H Q => ∃ a b us, x = V.ref a ∧ y = V.ref b ∧ SqL K H a us ∧ SqL K H b [] ∧ Q (.bl (!us.isEmpty)) H
theorem op_neE (hu : X.A.units + 64 < cLine) : OpR X (compareOp .NotEq) (rNeE X.K) := by
  intro pins s σ H x y v u Q I rx ry h
  obtain ⟨a, b, us, rfl, rfl, h1, h2, q⟩ := h
  cases rx
  cases ry
  obtain ⟨its, r, pl, hz⟩ := I.list h1
  obtain ⟨its2, r2, pl2, hz2⟩ := I.list h2
  have n2 : its2 = [] := List.length_eq_zero_iff.mp (by rw [← r2.length]; rfl)
  subst n2
  cases us with
  | nil =>
    have n1 : its = [] := List.length_eq_zero_iff.mp (by rw [← r.length]; rfl)
    subst n1
    exact SeqAt.RcNeAt.lists (e := fun _ => true) pl.isList pl2.isList rfl (by omega) (fun j h1 _ => absurd h1 (by simp)) _ _ _ _ ⟨.bl false, H, I, rfl, q⟩
  | cons u0 us =>
    have hl := r.length
    exact SeqAt.RcNeAt.lists_lengths pl.isList pl2.isList (by simp [← hl]) (by omega) _ _ _ _ ⟨.bl true, H, I, rfl, q⟩
theorem bNeE_snd : OSnd G (rNeE G.K) bNeE := by
  intro S F ρ H st x y a b Q E rp hx hy o
  unfold bNeE at o
  split at o
  · rename_i k
    obtain ⟨b, ws, rfl, hb, hw⟩ := dt_list hy
    cases hw
    cases q : st[k]? with
    | none => rw [q] at o; exact o.elim
    | some ob =>
      rw [q] at o
      cases ob with
      | ins _ _ => exact o.elim
      | gone => exact o.elim
      | tup _ => exact o.elim
      | dct _ => exact o.elim
      | dcf _ => exact o.elim
      | lst xs =>
        dsimp only at o
        obtain ⟨a, us, rfl, hk, hh, hv⟩ := own_lst rp hx q
        refine ⟨a, b, us, rfl, rfl, SqL.of hh, SqL.of (rp.ex _ _ hb), ?_⟩
        have e : us.isEmpty = xs.isEmpty := by
          cases hv <;> rfl
        rw [e]
        exact out.at (v := vB (!xs.isEmpty)) (u := V.bl _) o rp (.bl _)
  · exact o.elim
end
end Y
end
section
set_option Elab.async false
set_option linter.all false
namespace Y
def CS : List Nat := [1, 4, 10]
def b_is_whole : S := (sRet (eAn (eU (bIsi "int") (eV 0)) (eAn (eNo (eU (bIsi "bool") (eV 0))) (eCh bLe bLe (eV 1) (eV 0) (eV 2)))))
def f_is_whole : List Val → M Val := runF 3 b_is_whole
def are_whole_C1 : E := (eLc (iSeq (eV 0)) (gN 3) tTr (eB (fixN 3 f_is_whole) (aC (eV 3) (aC (eC (.int 0)) (aC (eV 2) aN)))) [3])
theorem are_whole_C1_eq (loc : Loc) : are_whole_C1 loc = (eLc (iSeq (eV 0)) (gN 3) tTr (eB (fixN 3 f_is_whole) (aC (eV 3) (aC (eC (.int 0)) (aC (eV 2) aN)))) [3]) loc := rfl
def b_are_whole : S := (sRet (eAn (eU (bIsi "tuple") (eV 0)) (eAn (eO bEq (eB bLen (aC (eV 0) aN)) (eV 1)) (eB bAll (aC are_whole_C1 aN)))))
def f_are_whole : List Val → M Val := runF 4 b_are_whole
def is_move_C1 : E := (eLc (iSeq (eV 0)) (gN 2) tTr (eB (fixN 3 f_are_whole) (aC (eV 2) (aC (eV 1) (aC (eC (.int 9)) aN)))) [2])
theorem is_move_C1_eq (loc : Loc) : is_move_C1 loc = (eLc (iSeq (eV 0)) (gN 2) tTr (eB (fixN 3 f_are_whole) (aC (eV 2) (aC (eV 1) (aC (eC (.int 9)) aN)))) [2]) loc := rfl
def b_is_move : S := (sRet (eAn (eU (bIsi "tuple") (eV 0)) (eAn (eO bEq (eB bLen (aC (eV 0) aN)) (eC (.int 2))) (eB bAll (aC is_move_C1 aN)))))
def f_is_move : List Val → M Val := runF 3 b_is_move
def b_heaps_in : S := (sSeq (sIf (tOrr (tNo (tV (eU (bIsi "tuple") (eV 0)))) (tOrr (tV (eO bNe (eB bLen (aC (eV 0) aN)) (eC (.int 2)))) (tNo (tV (eU (bIsi "tuple") (eO bIx (eV 0) (eC (.int 0)))))))) (sRet (eC (.int 0))) sNil)
    (sRet (eB bLen (aC (eO bIx (eV 0) (eC (.int 0))) aN))))
def f_heaps_in : List Val → M Val := runF 1 b_heaps_in
def is_moves_C1 : E := (eLc (iSeq (eV 0)) (gN 2) tTr (eB (fixN 2 f_is_move) (aC (eV 2) (aC (eV 1) aN))) [2])
theorem is_moves_C1_eq (loc : Loc) : is_moves_C1 loc = (eLc (iSeq (eV 0)) (gN 2) tTr (eB (fixN 2 f_is_move) (aC (eV 2) (aC (eV 1) aN))) [2]) loc := rfl
def b_is_moves : S := (sSeq (sIf (tOrr (tNo (tV (eU (bIsi "tuple") (eV 0)))) (tNo (tV (eCh bLe bLe (eC (.int 1)) (eB bLen (aC (eV 0) aN)) (eC (.int 6)))))) (sRet (eC (.bool false))) sNil)
    (sSeq (sAsg (eB (fixN 1 f_heaps_in) (aC (eO bIx (eV 0) (eC (.int 0))) aN)) (gN 1))
    (sRet (eAn (eCh bLe bLe (eC (.int 1)) (eV 1) (eC (.int 4))) (eB bAll (aC is_moves_C1 aN))))))
def f_is_moves : List Val → M Val := runF 3 b_is_moves
def b_need_moves : S := (sIf (tNo (tV (eB (fixN 1 f_is_moves) (aC (eV 0) aN)))) (sRaise 1) sNil)
def f_need_moves : List Val → M Val := runF 1 b_need_moves
def need_row_C1 : E := (eLc (iSeq (eV 1)) (gN 2) tTr (eB (fixN 3 f_is_whole) (aC (eV 2) (aC (eC (.int 0)) (aC (eO bSub (eB bLen (aC (eV 0) aN)) (eC (.int 1))) aN)))) [2])
theorem need_row_C1_eq (loc : Loc) : need_row_C1 loc = (eLc (iSeq (eV 1)) (gN 2) tTr (eB (fixN 3 f_is_whole) (aC (eV 2) (aC (eC (.int 0)) (aC (eO bSub (eB bLen (aC (eV 0) aN)) (eC (.int 1))) aN)))) [2]) loc := rfl
def b_need_row : S := (sSeq (sIf (tOrr (tNo (tV (eU (bIsi "list") (eV 1)))) (tV (eO bGt (eB bLen (aC (eV 1) aN)) (eC (.int 200))))) (sRaise 4) sNil)
    (sIf (tNo (tV (eB bAll (aC need_row_C1 aN)))) (sRaise 4) sNil))
def f_need_row : List Val → M Val := runF 3 b_need_row
def heaps_text_C1 : E := (eLc (iCall kEnumS (aC (eV 0) aN)) (gT 2 (gsC (gN 2) (gsC (gN 3) gsN))) (tV (eO bGt (eV 3) (eC (.int 0)))) (eJl [(eFmt (eV 3)), (eFmt (eO bIxT (eC (.str (tx [97, 98, 99, 100]))) (eV 2)))] (tx [])) [2, 3])
theorem heaps_text_C1_eq (loc : Loc) : heaps_text_C1 loc = (eLc (iCall kEnumS (aC (eV 0) aN)) (gT 2 (gsC (gN 2) (gsC (gN 3) gsN))) (tV (eO bGt (eV 3) (eC (.int 0)))) (eJl [(eFmt (eV 3)), (eFmt (eO bIxT (eC (.str (tx [97, 98, 99, 100]))) (eV 2)))] (tx [])) [2, 3]) loc := rfl
def b_heaps_text : S := (sSeq (sAsg heaps_text_C1 (gN 1))
    (sRet (eIf (tV (eO bNe (eV 1) (eB bLst aN))) (eJoin (eC (.str (tx [32]))) (eV 1)) (eC (.str (tx [45]))))))
def f_heaps_text : List Val → M Val := runF 4 b_heaps_text
def b_one_text : S := (sRet (eO bAdd (eO bAdd (eB (fixN 1 f_heaps_text) (aC (eO bIx (eV 0) (eC (.int 0))) aN)) (eC (.str (tx [32, 62, 32])))) (eB (fixN 1 f_heaps_text) (aC (eO bIx (eV 0) (eC (.int 1))) aN))))
def f_one_text : List Val → M Val := runF 1 b_one_text
def b_move_text : S := (sSeq (sIf (tOrr (tNo (tV (eCh bLe bLe (eC (.int 1)) (eB (fixN 1 f_heaps_in) (aC (eV 0) aN)) (eC (.int 4))))) (tNo (tV (eB (fixN 2 f_is_move) (aC (eV 0) (aC (eB (fixN 1 f_heaps_in) (aC (eV 0) aN)) aN)))))) (sRaise 1) sNil)
    (sRet (eB (fixN 1 f_one_text) (aC (eV 0) aN))))
def f_move_text : List Val → M Val := runF 1 b_move_text
def moves_text_C1 : E := (eLc (iSeq (eV 0)) (gN 1) tTr (eB (fixN 1 f_one_text) (aC (eV 1) aN)) [1])
theorem moves_text_C1_eq (loc : Loc) : moves_text_C1 loc = (eLc (iSeq (eV 0)) (gN 1) tTr (eB (fixN 1 f_one_text) (aC (eV 1) aN)) [1]) loc := rfl
def b_moves_text : S := (sSeq (sExp (eB (fixN 1 f_need_moves) (aC (eV 0) aN)))
    (sRet (eJoin (eC (.str (tx [10]))) (eO bAdd (eB bLst (aC (eB bStrI (aC (eB bLen (aC (eO bIx (eO bIx (eV 0) (eC (.int 0))) (eC (.int 0))) aN)) aN)) aN)) moves_text_C1))))
def f_moves_text : List Val → M Val := runF 2 b_moves_text
def number_in_C1 : E := (eLc (iTxt (eV 0)) (gN 1) tTr (eO (bInT false) (eV 1) (eC (.str (tx [48, 49, 50, 51, 52, 53, 54, 55, 56, 57])))) [1])
theorem number_in_C1_eq (loc : Loc) : number_in_C1 loc = (eLc (iTxt (eV 0)) (gN 1) tTr (eO (bInT false) (eV 1) (eC (.str (tx [48, 49, 50, 51, 52, 53, 54, 55, 56, 57])))) [1]) loc := rfl
def b_number_in : S := (sSeq (sIf (tOrr (tNo (tV (eCh bLe bLe (eC (.int 1)) (eB bLenT (aC (eV 0) aN)) (eC (.int 3))))) (tOrr (tNo (tV (eB bAll (aC number_in_C1 aN)))) (tV (eO bNe (eB bStrI (aC (eB bIntT (aC (eV 0) aN)) aN)) (eV 0))))) (sRaise 10) sNil)
    (sRet (eB bIntT (aC (eV 0) aN))))
def f_number_in : List Val → M Val := runF 2 b_number_in
def heaps_read_L1 : S := (sSeq (sIf (tOrr (tV (eO bEq (eV 3) (eC (.str (tx []))))) (tV (eO (bInT true) (eO bIxT (eV 3) (eU bNeg (eC (.int 1)))) (eSlT (eC (.str (tx [97, 98, 99, 100]))) oN (oS (eV 1)))))) (sRaise 10) sNil)
    (sAsg (eB (fixN 1 f_number_in) (aC (eSlT (eV 3) oN (oS (eU bNeg (eC (.int 1))))) aN)) (gSub (eV 2) (eIdx (eC (.str (tx [97, 98, 99, 100]))) (eO bIxT (eV 3) (eU bNeg (eC (.int 1))))))))
theorem heaps_read_L1_eq (loc : Loc) : heaps_read_L1 loc = (sSeq (sIf (tOrr (tV (eO bEq (eV 3) (eC (.str (tx []))))) (tV (eO (bInT true) (eO bIxT (eV 3) (eU bNeg (eC (.int 1)))) (eSlT (eC (.str (tx [97, 98, 99, 100]))) oN (oS (eV 1)))))) (sRaise 10) sNil)
    (sAsg (eB (fixN 1 f_number_in) (aC (eSlT (eV 3) oN (oS (eU bNeg (eC (.int 1))))) aN)) (gSub (eV 2) (eIdx (eC (.str (tx [97, 98, 99, 100]))) (eO bIxT (eV 3) (eU bNeg (eC (.int 1)))))))) loc := rfl
def b_heaps_read : S := (sSeq (sAsg (eO bMulN (eB bLst (aC (eC (.int 0)) aN)) (eV 1)) (gN 2))
    (sSeq (sFor (iSeq (eIf (tV (eO bNe (eV 0) (eC (.str (tx [45]))))) (eSplit (eV 0) (eC (.str (tx [32])))) (eB bLst aN))) (gN 3)
    heaps_read_L1)
    (sRet (eB bTuple (aC (eV 2) aN)))))
def f_heaps_read : List Val → M Val := runF 4 b_heaps_read
def b_move_read : S := (sSeq (sAsg (eSplit (eV 0) (eC (.str (tx [32, 62, 32])))) (gN 2))
    (sSeq (sIf (tV (eO bNe (eB bLen (aC (eV 2) aN)) (eC (.int 2)))) (sRaise 10) sNil)
    (sRet (eB bTup (aC (eB (fixN 2 f_heaps_read) (aC (eO bIx (eV 2) (eC (.int 0))) (aC (eV 1) aN))) (aC (eB (fixN 2 f_heaps_read) (aC (eO bIx (eV 2) (eC (.int 1))) (aC (eV 1) aN))) aN))))))
def f_move_read : List Val → M Val := runF 3 b_move_read
def read_moves_C1 : E := (eLcX (iSeq (eSl (eV 1) (oS (eC (.int 1))) oN)) (gN 4) tTr (eB (fixN 2 f_move_read) (aC (eV 4) (aC (eV 2) aN))) [4])
theorem read_moves_C1_eq (loc : Loc) : read_moves_C1 loc = (eLcX (iSeq (eSl (eV 1) (oS (eC (.int 1))) oN)) (gN 4) tTr (eB (fixN 2 f_move_read) (aC (eV 4) (aC (eV 2) aN))) [4]) loc := rfl
def b_read_moves : S := (sSeq (sIf (tNo (tV (eU (bIsi "str") (eV 0)))) (sRaise 10) sNil)
    (sSeq (sAsg (eSplit (eV 0) (eC (.str (tx [10])))) (gN 1))
    (sSeq (sAsg (eB (fixN 1 f_number_in) (aC (eO bIx (eV 1) (eC (.int 0))) aN)) (gN 2))
    (sSeq (sIf (tNo (tV (eCh bLe bLe (eC (.int 1)) (eV 2) (eC (.int 4))))) (sRaise 10) sNil)
    (sSeq (sAsg (eB bTuple (aC read_moves_C1 aN)) (gN 3))
    (sSeq (sIf (tOrr (tNo (tV (eB (fixN 1 f_is_moves) (aC (eV 3) aN)))) (tV (eO bNe (eB (fixN 1 f_moves_text) (aC (eV 3) aN)) (eV 0)))) (sRaise 10) sNil)
    (sRet (eV 3))))))))
def f_read_moves : List Val → M Val := runF 5 b_read_moves
noncomputable def row_text_L1 : S := (sIf (tAn (tV (eO bNeE (eV 2) (eB bLst aN))) (tV (eO bEq (eO bIx (eO bIx (eV 2) (eU bNeg (eC (.int 1)))) (eC (.int 0))) (eV 3)))) (sAsg (eO bAdd (eO bIx (eO bIx (eV 2) (eU bNeg (eC (.int 1)))) (eC (.int 1))) (eC (.int 1))) (gSub (eO bIx (eV 2) (eU bNeg (eC (.int 1)))) (eC (.int 1)))) (sExp (eApp (eV 2) (eB bNew (aC (eV 3) (aC (eC (.int 1)) aN))))))
theorem row_text_L1_eq (loc : Loc) : row_text_L1 loc = (sIf (tAn (tV (eO bNeE (eV 2) (eB bLst aN))) (tV (eO bEq (eO bIx (eO bIx (eV 2) (eU bNeg (eC (.int 1)))) (eC (.int 0))) (eV 3)))) (sAsg (eO bAdd (eO bIx (eO bIx (eV 2) (eU bNeg (eC (.int 1)))) (eC (.int 1))) (eC (.int 1))) (gSub (eO bIx (eV 2) (eU bNeg (eC (.int 1)))) (eC (.int 1)))) (sExp (eApp (eV 2) (eB bNew (aC (eV 3) (aC (eC (.int 1)) aN)))))) loc := rfl
noncomputable def row_text_C1 : E := (eLcO (eV 2) (gLO 2 (gsC (gN 3) (gsC (gN 4) gsN))) tTr (eJl [(eFmt (eV 3)), (eC (.str (tx [42]))), (eFmt (eV 4))] (tx [])) [3, 4])
theorem row_text_C1_eq (loc : Loc) : row_text_C1 loc = (eLcO (eV 2) (gLO 2 (gsC (gN 3) (gsC (gN 4) gsN))) tTr (eJl [(eFmt (eV 3)), (eC (.str (tx [42]))), (eFmt (eV 4))] (tx [])) [3, 4]) loc := rfl
noncomputable def b_row_text : S := (sSeq (sExp (eB (fixN 1 f_need_moves) (aC (eV 0) aN)))
    (sSeq (sExp (eB (fixN 2 f_need_row) (aC (eV 0) (aC (eV 1) aN))))
    (sSeq (sAsg (eB bNew aN) (gN 2))
    (sSeq (sFor (iSeq (eV 1)) (gN 3)
    row_text_L1)
    (sRet (eIf (tV (eO bNeE (eV 2) (eB bLst aN))) (eJoin (eC (.str (tx [32]))) row_text_C1) (eC (.str (tx [45])))))))))
noncomputable def f_row_text : List Val → M Val := runF 5 b_row_text
noncomputable def read_row_L1 : S := (sSeq (sAsg (eSplit (eV 3) (eC (.str (tx [42])))) (gN 4))
    (sSeq (sIf (tV (eO bNe (eB bLen (aC (eV 4) aN)) (eC (.int 2)))) (sRaise 10) sNil)
    (sSeq (sPar 5 6 (eB (fixN 1 f_number_in) (aC (eO bIx (eV 4) (eC (.int 0))) aN)) (eB (fixN 1 f_number_in) (aC (eO bIx (eV 4) (eC (.int 1))) aN)))
    (sSeq (sIf (tOrr (tV (eO bGe (eV 5) (eB bLen (aC (eV 0) aN)))) (tV (eO bGt (eV 6) (eC (.int 200))))) (sRaise 10) sNil)
    (sAsg (eO bAdd (eV 2) (eO bMul (eB bLst (aC (eV 5) aN)) (eV 6))) (gN 2))))))
theorem read_row_L1_eq (loc : Loc) : read_row_L1 loc = (sSeq (sAsg (eSplit (eV 3) (eC (.str (tx [42])))) (gN 4))
    (sSeq (sIf (tV (eO bNe (eB bLen (aC (eV 4) aN)) (eC (.int 2)))) (sRaise 10) sNil)
    (sSeq (sPar 5 6 (eB (fixN 1 f_number_in) (aC (eO bIx (eV 4) (eC (.int 0))) aN)) (eB (fixN 1 f_number_in) (aC (eO bIx (eV 4) (eC (.int 1))) aN)))
    (sSeq (sIf (tOrr (tV (eO bGe (eV 5) (eB bLen (aC (eV 0) aN)))) (tV (eO bGt (eV 6) (eC (.int 200))))) (sRaise 10) sNil)
    (sAsg (eO bAdd (eV 2) (eO bMul (eB bLst (aC (eV 5) aN)) (eV 6))) (gN 2)))))) loc := rfl
noncomputable def b_read_row : S := (sSeq (sExp (eB (fixN 1 f_need_moves) (aC (eV 0) aN)))
    (sSeq (sIf (tNo (tV (eU (bIsi "str") (eV 1)))) (sRaise 10) sNil)
    (sSeq (sAsg (eB bLst aN) (gN 2))
    (sSeq (sFor (iSeq (eIf (tV (eO bNe (eV 1) (eC (.str (tx [45]))))) (eSplit (eV 1) (eC (.str (tx [32])))) (eB bLst aN))) (gN 3)
    read_row_L1)
    (sSeq (sIf (tOrr (tV (eO bGt (eB bLen (aC (eV 2) aN)) (eC (.int 200)))) (tV (eO bNe (eB (fixN 2 f_row_text) (aC (eV 0) (aC (eV 2) aN))) (eV 1)))) (sRaise 10) sNil)
    (sRet (eV 2)))))))
noncomputable def f_read_row : List Val → M Val := runF 7 b_read_row
def b_law_cell : S := (sSeq (sIf (tV (eO bEq (eV 0) (eB bLst aN))) (sRet (eO bMul (eV 1) (eC (.int 7919)))) sNil)
    (sRet (eO bAdd (eO bIx (eV 0) (eO bMod (eV 1) (eB bLen (aC (eV 0) aN)))) (eO bMul (eO bDiv (eV 1) (eB bLen (aC (eV 0) aN))) (eC (.int 104729))))))
def f_law_cell : List Val → M Val := runF 2 b_law_cell
def b_law_drawn : S := (sSeq (sAsg (eO bMod (eO bAdd (eO bMul (eV 0) (eC (.int 6364136223846793005))) (eO bMul (eO bAdd (eV 1) (eC (.int 1))) (eC (.int 1442695040888963407)))) (eC (.int 340282366920938463463374607431768211507))) (gN 2))
    (sSeq (sAsg (eO bMod (eO bMul (eV 2) (eV 2)) (eC (.int 340282366920938463463374607431768211297))) (gN 2))
    (sSeq (sAsg (eO bMul (eO bMul (eO bAdd (eO bMod (eV 2) (eC (.int 18446744073709551557))) (eC (.int 1))) (eO bAdd (eO bDiv (eV 2) (eC (.int 18446744073709551557))) (eC (.int 1)))) (eV 2)) (gN 2))
    (sRet (eO bMod (eV 2) (eC (.int 340282366920938463463374607431768211507)))))))
def f_law_drawn : List Val → M Val := runF 3 b_law_drawn
def b_law_roll : S := (sSeq (sIf (tV (eO bGe (eO bIx (eV 0) (eC (.int 0))) (eO bPow (eC (.int 10)) (eC (.int 18))))) (sSeq (sAsg (eO bMod (eO bIx (eV 0) (eC (.int 0))) (eV 1)) (gN 2))
    (sSeq (sAsg (eO bDiv (eO bIx (eV 0) (eC (.int 0))) (eV 1)) (gSub (eV 0) (eC (.int 0))))
    (sRet (eV 2)))) sNil)
    (sSeq (sAsg (eO bAdd (eO bIx (eV 0) (eC (.int 1))) (eC (.int 1))) (gSub (eV 0) (eC (.int 1))))
    (sRet (eO bMod (eO bDiv (eB (fixN 2 f_law_drawn) (aC (eO bIx (eV 0) (eC (.int 0))) (aC (eO bIx (eV 0) (eC (.int 1))) aN))) (eC (.int 8))) (eV 1)))))
def f_law_roll : List Val → M Val := runF 3 b_law_roll
def law_rounds_C1 : E := (eLcN (iCall kRg1 (aC (eB bMax2 (aC (eC (.int 1)) (aC (eB bMin2 (aC (eV 1) (aC (eB bLen (aC (eV 0) aN)) aN))) aN))) aN)) (gN 2) tTr (eB bNew (aC (eB (fixN 2 f_law_cell) (aC (eV 0) (aC (eV 2) aN))) (aC (eC (.int 0)) aN))) [2])
theorem law_rounds_C1_eq (loc : Loc) : law_rounds_C1 loc = (eLcN (iCall kRg1 (aC (eB bMax2 (aC (eC (.int 1)) (aC (eB bMin2 (aC (eV 1) (aC (eB bLen (aC (eV 0) aN)) aN))) aN))) aN)) (gN 2) tTr (eB bNew (aC (eB (fixN 2 f_law_cell) (aC (eV 0) (aC (eV 2) aN))) (aC (eC (.int 0)) aN))) [2]) loc := rfl
def b_law_rounds : S := (sRet law_rounds_C1)
def f_law_rounds : List Val → M Val := runF 3 b_law_rounds
def law_any_move_C1 : E := (eLc (iCall kRg1 (aC (eV 1) aN)) (gN 3) tTr (eO bIx (eB bLst (aC (eC (.int 0)) (aC (eC (.int 0)) (aC (eC (.int 1)) (aC (eC (.int 1)) (aC (eC (.int 2)) aN)))))) (eB (fixN 2 f_law_roll) (aC (eV 0) (aC (eC (.int 5)) aN)))) [3])
theorem law_any_move_C1_eq (loc : Loc) : law_any_move_C1 loc = (eLc (iCall kRg1 (aC (eV 1) aN)) (gN 3) tTr (eO bIx (eB bLst (aC (eC (.int 0)) (aC (eC (.int 0)) (aC (eC (.int 1)) (aC (eC (.int 1)) (aC (eC (.int 2)) aN)))))) (eB (fixN 2 f_law_roll) (aC (eV 0) (aC (eC (.int 5)) aN)))) [3]) loc := rfl
def law_any_move_C2 : E := (eLc (iCall kRg1 (aC (eV 1) aN)) (gN 3) tTr (eO bIx (eB bLst (aC (eC (.int 0)) (aC (eC (.int 0)) (aC (eC (.int 0)) (aC (eC (.int 1)) (aC (eC (.int 2)) aN)))))) (eB (fixN 2 f_law_roll) (aC (eV 0) (aC (eC (.int 5)) aN)))) [3])
theorem law_any_move_C2_eq (loc : Loc) : law_any_move_C2 loc = (eLc (iCall kRg1 (aC (eV 1) aN)) (gN 3) tTr (eO bIx (eB bLst (aC (eC (.int 0)) (aC (eC (.int 0)) (aC (eC (.int 0)) (aC (eC (.int 1)) (aC (eC (.int 2)) aN)))))) (eB (fixN 2 f_law_roll) (aC (eV 0) (aC (eC (.int 5)) aN)))) [3]) loc := rfl
def b_law_any_move : S := (sSeq (sAsg (eB bTuple (aC law_any_move_C1 aN)) (gN 2))
    (sRet (eB bTup (aC (eV 2) (aC (eB bTuple (aC law_any_move_C2 aN)) aN)))))
def f_law_any_move : List Val → M Val := runF 4 b_law_any_move
def law_any_moves_C1 : E := (eLc (iCall kRg1 (aC (eO bAdd (eC (.int 1)) (eB (fixN 2 f_law_roll) (aC (eV 0) (aC (eV 1) aN)))) aN)) (gN 3) tTr (eB (fixN 2 f_law_any_move) (aC (eV 0) (aC (eV 2) aN))) [3])
theorem law_any_moves_C1_eq (loc : Loc) : law_any_moves_C1 loc = (eLc (iCall kRg1 (aC (eO bAdd (eC (.int 1)) (eB (fixN 2 f_law_roll) (aC (eV 0) (aC (eV 1) aN)))) aN)) (gN 3) tTr (eB (fixN 2 f_law_any_move) (aC (eV 0) (aC (eV 2) aN))) [3]) loc := rfl
def b_law_any_moves : S := (sSeq (sAsg (eO bAdd (eC (.int 1)) (eB (fixN 2 f_law_roll) (aC (eV 0) (aC (eC (.int 3)) aN)))) (gN 2))
    (sRet (eB bTuple (aC law_any_moves_C1 aN))))
def f_law_any_moves : List Val → M Val := runF 4 b_law_any_moves
def law_heaps_text_C1 : E := (eLc (iCall kEnumS (aC (eV 0) aN)) (gT 2 (gsC (gN 2) (gsC (gN 3) gsN))) (tV (eO bGt (eV 3) (eC (.int 0)))) (eO bAdd (eB bStrI (aC (eV 3) aN)) (eO bIxT (eC (.str (tx [97, 98, 99, 100]))) (eV 2))) [2, 3])
theorem law_heaps_text_C1_eq (loc : Loc) : law_heaps_text_C1 loc = (eLc (iCall kEnumS (aC (eV 0) aN)) (gT 2 (gsC (gN 2) (gsC (gN 3) gsN))) (tV (eO bGt (eV 3) (eC (.int 0)))) (eO bAdd (eB bStrI (aC (eV 3) aN)) (eO bIxT (eC (.str (tx [97, 98, 99, 100]))) (eV 2))) [2, 3]) loc := rfl
def b_law_heaps_text : S := (sSeq (sAsg law_heaps_text_C1 (gN 1))
    (sRet (eIf (tV (eO bNe (eV 1) (eB bLst aN))) (eJoin (eC (.str (tx [32]))) (eV 1)) (eC (.str (tx [45]))))))
def f_law_heaps_text : List Val → M Val := runF 4 b_law_heaps_text
def b_law_spoilt : S := (sSeq (sPar 3 4 (eB (fixN 2 f_law_roll) (aC (eV 0) (aC (eO bAdd (eB bLenT (aC (eV 1) aN)) (eC (.int 1))) aN))) (eB (fixN 2 f_law_roll) (aC (eV 0) (aC (eC (.int 3)) aN))))
    (sSeq (sAsg (eIf (tV (eO bLt (eV 4) (eC (.int 2)))) (eO bIxT (eV 2) (eB (fixN 2 f_law_roll) (aC (eV 0) (aC (eB bLenT (aC (eV 2) aN)) aN)))) (eC (.str (tx [])))) (gN 5))
    (sRet (eO bAdd (eO bAdd (eSlT (eV 1) oN (oS (eV 3))) (eV 5)) (eSlT (eV 1) (oS (eO bAdd (eV 3) (eB bInt1 (aC (eO bGt (eV 4) (eC (.int 0))) aN)))) oN)))))
def f_law_spoilt : List Val → M Val := runF 6 b_law_spoilt
noncomputable def law_L1 : S := (sAsg (eO bAdd (eV 3) (eO bMul (eB bLst (aC (eB (fixN 2 f_law_roll) (aC (eV 1) (aC (eB bLen (aC (eV 2) aN)) aN))) aN)) (eO bAdd (eC (.int 1)) (eB (fixN 2 f_law_roll) (aC (eV 1) (aC (eC (.int 4)) aN)))))) (gN 3))
theorem law_L1_eq (loc : Loc) : law_L1 loc = (sAsg (eO bAdd (eV 3) (eO bMul (eB bLst (aC (eB (fixN 2 f_law_roll) (aC (eV 1) (aC (eB bLen (aC (eV 2) aN)) aN))) aN)) (eO bAdd (eC (.int 1)) (eB (fixN 2 f_law_roll) (aC (eV 1) (aC (eC (.int 4)) aN)))))) (gN 3)) loc := rfl
noncomputable def law_C1 : E := (eLc (iSeq (eV 2)) (gN 6) tTr (eO bAdd (eO bAdd (eB (fixN 1 f_law_heaps_text) (aC (eO bIx (eV 6) (eC (.int 0))) aN)) (eC (.str (tx [32, 62, 32])))) (eB (fixN 1 f_law_heaps_text) (aC (eO bIx (eV 6) (eC (.int 1))) aN))) [6])
theorem law_C1_eq (loc : Loc) : law_C1 loc = (eLc (iSeq (eV 2)) (gN 6) tTr (eO bAdd (eO bAdd (eB (fixN 1 f_law_heaps_text) (aC (eO bIx (eV 6) (eC (.int 0))) aN)) (eC (.str (tx [32, 62, 32])))) (eB (fixN 1 f_law_heaps_text) (aC (eO bIx (eV 6) (eC (.int 1))) aN))) [6]) loc := rfl
noncomputable def law_C2 : E := (eLc (iSeq (eV 2)) (gN 6) tTr (eB (fixN 1 f_move_text) (aC (eV 6) aN)) [6])
theorem law_C2_eq (loc : Loc) : law_C2 loc = (eLc (iSeq (eV 2)) (gN 6) tTr (eB (fixN 1 f_move_text) (aC (eV 6) aN)) [6]) loc := rfl
noncomputable def law_L2 : S := (sAsg (eO bAdd (eV 10) (eC (.int 1))) (gN 10))
theorem law_L2_eq (loc : Loc) : law_L2 loc = (sAsg (eO bAdd (eV 10) (eC (.int 1))) (gN 10)) loc := rfl
noncomputable def law_L3 : S := (sSeq (sAsg (eC (.int 1)) (gN 10))
    (sSeq (sWhile (tAn (tV (eO bLt (eO bAdd (eV 9) (eV 10)) (eB bLen (aC (eV 3) aN)))) (tV (eO bEq (eO bIx (eV 3) (eO bAdd (eV 9) (eV 10))) (eO bIx (eV 3) (eV 9))))) law_L2)
    (sSeq (sExp (eApp (eV 8) (eO bAdd (eO bAdd (eB bStrI (aC (eO bIx (eV 3) (eV 9)) aN)) (eC (.str (tx [42])))) (eB bStrI (aC (eV 10) aN)))))
    (sAsg (eO bAdd (eV 9) (eV 10)) (gN 9)))))
theorem law_L3_eq (loc : Loc) : law_L3 loc = (sSeq (sAsg (eC (.int 1)) (gN 10))
    (sSeq (sWhile (tAn (tV (eO bLt (eO bAdd (eV 9) (eV 10)) (eB bLen (aC (eV 3) aN)))) (tV (eO bEq (eO bIx (eV 3) (eO bAdd (eV 9) (eV 10))) (eO bIx (eV 3) (eV 9))))) law_L2)
    (sSeq (sExp (eApp (eV 8) (eO bAdd (eO bAdd (eB bStrI (aC (eO bIx (eV 3) (eV 9)) aN)) (eC (.str (tx [42])))) (eB bStrI (aC (eV 10) aN)))))
    (sAsg (eO bAdd (eV 9) (eV 10)) (gN 9))))) loc := rfl
noncomputable def law_L4 : S := (sSeq (sAsg (eB (fixN 3 f_law_spoilt) (aC (eV 1) (aC (eV 7) (aC (eC (.str (tx [48, 32, 49, 97, 98, 62, 45, 10, 57]))) aN)))) (gN 12))
    (sSeq (sAsg (eTold CS (eB (fixN 1 f_read_moves) (aC (eV 12) aN))) (gN 13))
    (sSeq (sIf (tAn (tV (eO bNe (eV 13) (eB bTup (aC (eC (.str "refused")) (aC (eC (.str "BadText")) aN))))) (tOrr (tNo (tV (eB (fixN 1 f_is_moves) (aC (eV 13) aN)))) (tV (eO bNe (eB (fixN 1 f_moves_text) (aC (eV 13) aN)) (eV 12))))) (sRet (eC (.bool false))) sNil)
    (sSeq (sAsg (eB (fixN 3 f_law_spoilt) (aC (eV 1) (aC (eV 11) (aC (eC (.str (tx [48, 32, 49, 42, 45, 50, 57]))) aN)))) (gN 14))
    (sSeq (sAsg (eTold CS (eB (fixN 2 f_read_row) (aC (eV 2) (aC (eV 14) aN)))) (gN 13))
    (sIf (tAn (tV (eO bNe (eV 13) (eB bTup (aC (eC (.str "refused")) (aC (eC (.str "BadText")) aN))))) (tV (eO bNe (eB (fixN 2 f_row_text) (aC (eV 2) (aC (eV 13) aN))) (eV 14)))) (sRet (eC (.bool false))) sNil))))))
theorem law_L4_eq (loc : Loc) : law_L4 loc = (sSeq (sAsg (eB (fixN 3 f_law_spoilt) (aC (eV 1) (aC (eV 7) (aC (eC (.str (tx [48, 32, 49, 97, 98, 62, 45, 10, 57]))) aN)))) (gN 12))
    (sSeq (sAsg (eTold CS (eB (fixN 1 f_read_moves) (aC (eV 12) aN))) (gN 13))
    (sSeq (sIf (tAn (tV (eO bNe (eV 13) (eB bTup (aC (eC (.str "refused")) (aC (eC (.str "BadText")) aN))))) (tOrr (tNo (tV (eB (fixN 1 f_is_moves) (aC (eV 13) aN)))) (tV (eO bNe (eB (fixN 1 f_moves_text) (aC (eV 13) aN)) (eV 12))))) (sRet (eC (.bool false))) sNil)
    (sSeq (sAsg (eB (fixN 3 f_law_spoilt) (aC (eV 1) (aC (eV 11) (aC (eC (.str (tx [48, 32, 49, 42, 45, 50, 57]))) aN)))) (gN 14))
    (sSeq (sAsg (eTold CS (eB (fixN 2 f_read_row) (aC (eV 2) (aC (eV 14) aN)))) (gN 13))
    (sIf (tAn (tV (eO bNe (eV 13) (eB bTup (aC (eC (.str "refused")) (aC (eC (.str "BadText")) aN))))) (tV (eO bNe (eB (fixN 2 f_row_text) (aC (eV 2) (aC (eV 13) aN))) (eV 14)))) (sRet (eC (.bool false))) sNil)))))) loc := rfl
noncomputable def law_L5 : S := (sSeq (sAsg (eB bTup (aC (eB (fixN 2 f_law_any_moves) (aC (eV 1) (aC (eC (.int 5)) aN))) (aC (eB bLst aN) aN))) (gT 2 (gsC (gN 2) (gsC (gN 3) gsN))))
    (sSeq (sFor (iCall kRg1 (aC (eB (fixN 2 f_law_roll) (aC (eV 1) (aC (eC (.int 7)) aN))) aN)) (gN 4)
    law_L1)
    (sSeq (sAsg law_C1 (gN 5))
    (sSeq (sIf (tV (eO bNe law_C2 (eV 5))) (sRet (eC (.bool false))) sNil)
    (sSeq (sAsg (eB (fixN 1 f_moves_text) (aC (eV 2) aN)) (gN 7))
    (sSeq (sIf (tOrr (tV (eO bNe (eV 7) (eJoin (eC (.str (tx [10]))) (eO bAdd (eB bLst (aC (eB bStrI (aC (eB bLen (aC (eO bIx (eO bIx (eV 2) (eC (.int 0))) (eC (.int 0))) aN)) aN)) aN)) (eV 5))))) (tV (eO bNe (eB (fixN 1 f_read_moves) (aC (eV 7) aN)) (eV 2)))) (sRet (eC (.bool false))) sNil)
    (sSeq (sPar 8 9 (eB bNew aN) (eC (.int 0)))
    (sSeq (sWhile (tV (eO bLt (eV 9) (eB bLen (aC (eV 3) aN)))) law_L3)
    (sSeq (sAsg (eB (fixN 2 f_row_text) (aC (eV 2) (aC (eV 3) aN))) (gN 11))
    (sSeq (sIf (tOrr (tV (eO bNe (eV 11) (eIf (tV (eO bNe (eV 8) (eB bLst aN))) (eJoin (eC (.str (tx [32]))) (eV 8)) (eC (.str (tx [45])))))) (tV (eO bNe (eB (fixN 2 f_read_row) (aC (eV 2) (aC (eV 11) aN))) (eV 3)))) (sRet (eC (.bool false))) sNil)
    (sFor (iCall kRg1 (aC (eC (.int 10)) aN)) (gN 4)
    law_L4)))))))))))
theorem law_L5_eq (loc : Loc) : law_L5 loc = (sSeq (sAsg (eB bTup (aC (eB (fixN 2 f_law_any_moves) (aC (eV 1) (aC (eC (.int 5)) aN))) (aC (eB bLst aN) aN))) (gT 2 (gsC (gN 2) (gsC (gN 3) gsN))))
    (sSeq (sFor (iCall kRg1 (aC (eB (fixN 2 f_law_roll) (aC (eV 1) (aC (eC (.int 7)) aN))) aN)) (gN 4)
    law_L1)
    (sSeq (sAsg law_C1 (gN 5))
    (sSeq (sIf (tV (eO bNe law_C2 (eV 5))) (sRet (eC (.bool false))) sNil)
    (sSeq (sAsg (eB (fixN 1 f_moves_text) (aC (eV 2) aN)) (gN 7))
    (sSeq (sIf (tOrr (tV (eO bNe (eV 7) (eJoin (eC (.str (tx [10]))) (eO bAdd (eB bLst (aC (eB bStrI (aC (eB bLen (aC (eO bIx (eO bIx (eV 2) (eC (.int 0))) (eC (.int 0))) aN)) aN)) aN)) (eV 5))))) (tV (eO bNe (eB (fixN 1 f_read_moves) (aC (eV 7) aN)) (eV 2)))) (sRet (eC (.bool false))) sNil)
    (sSeq (sPar 8 9 (eB bNew aN) (eC (.int 0)))
    (sSeq (sWhile (tV (eO bLt (eV 9) (eB bLen (aC (eV 3) aN)))) law_L3)
    (sSeq (sAsg (eB (fixN 2 f_row_text) (aC (eV 2) (aC (eV 3) aN))) (gN 11))
    (sSeq (sIf (tOrr (tV (eO bNe (eV 11) (eIf (tV (eO bNe (eV 8) (eB bLst aN))) (eJoin (eC (.str (tx [32]))) (eV 8)) (eC (.str (tx [45])))))) (tV (eO bNe (eB (fixN 2 f_read_row) (aC (eV 2) (aC (eV 11) aN))) (eV 3)))) (sRet (eC (.bool false))) sNil)
    (sFor (iCall kRg1 (aC (eC (.int 10)) aN)) (gN 4)
    law_L4))))))))))) loc := rfl
noncomputable def b_law : S := (sSeq (sForO (eB (fixN 2 f_law_rounds) (aC (eV 0) (aC (eC (.int 5)) aN))) (gN 1)
    law_L5)
    (sRet (eC (.bool true))))
noncomputable def f_law : List Val → M Val := runF 15 b_law
end Y
end
section
set_option Elab.async false
set_option Elab.async false
set_option linter.all false
set_option maxRecDepth 100000
set_option maxHeartbeats 2000000
namespace Y
open PySem PySem.Spec PyProof.Rows L2
def topS (i : Nat) : Stmt := PySem.Challenge.pw_spentheaps_k22_whole_texts.main.body.getD i (.Pass ⟨0, 0, 0, 0⟩)
structure Blt (mg : Str → Option Value) : Prop where
  ValueError : mg "ValueError" = none
  all : mg "all" = none
  bool : mg "bool" = none
  enumerate : mg "enumerate" = none
  int : mg "int" = none
  isinstance : mg "isinstance" = none
  len : mg "len" = none
  list : mg "list" = none
  max : mg "max" = none
  min : mg "min" = none
  range : mg "range" = none
  str : mg "str" = none
  sum : mg "sum" = none
  tuple : mg "tuple" = none
section
variable {P : Program} {w : World} {mg : Str → Option Value} {base : Heap} {G : Glo}
def s_law_term : Stmt := topS 42
theorem sc_law_term : FnScope ["e", "flags", "kinds"] ["e"] (defScope s_law_term) := ⟨rfl, rfl, rfl, by decide +kernel, rfl, by decide +kernel, by decide +kernel⟩
section
variable {P : Program} {w : World} {K : PySem.W.Frag} {mg : Str → Option Value} {base : Heap} {f : Addr} {cdv : Value} {A : Around} {outer : List Env} {s : Shared} {H0 : Hp} {E : XK} {a : Addr} {oe : Obj} {c : Nat} {cl : Nat → Addr}
theorem term_body (hot : L2H.Hot1 A (a, oe)) (F : TermF mg K cl) (C : TermC K cl c) (hz : oe.cls = .ref (cl c) ∧ oe.dict = none) (hf : ∃ vs, oe.data = .fields vs) :
    PSs (L2H.cxH (L2N.CX P w) P w K mg base ["e", "flags", "kinds"] "_law_term" (defScope s_law_term) f cdv A outer s H0 E (a, oe)) (defBody s_law_term) (tTerm a c) := by
  have sc := sc_law_term
  have hc : L2H.HotC (L2H.cxH (L2N.CX P w) P w K mg base ["e", "flags", "kinds"] "_law_term" (defScope s_law_term) f cdv A outer s H0 E (a, oe)) := ⟨(a, oe), hot, List.mem_singleton.mpr rfl⟩
  have Ea : ExcAt (L2H.cxH (L2N.CX P w) P w K mg base ["e", "flags", "kinds"] "_law_term" (defScope s_law_term) f cdv A outer s H0 E (a, oe)) a (cl c) := ⟨⟨oe, List.mem_singleton.mpr rfl, hz, hf⟩, C.e⟩
  have k := C.k
  refine PSs.imp (pss_cons (ps_set (i := 1) sc.nd rfl (Or.inl rfl) (pe_lst (pa_cons (pe_isE Ea F.g1 (k 1 (by decide) (by decide)) F.bi) (pa_cons (pe_isE Ea F.g2 (k 2 (by decide) (by decide)) F.bi) (pa_cons (pe_isE Ea F.g3 (k 3 (by decide) (by decide)) F.bi) (pa_cons (pe_isE Ea F.g4 (k 4 (by decide) (by decide)) F.bi) pa_nil))))))
    (pss_cons (ps_set (i := 1) sc.nd rfl (Or.inl rfl) (pe_op op_cat (pv 1) (pe_lst (pa_cons (pe_isE Ea F.g5 (k 5 (by decide) (by decide)) F.bi) (pa_cons (pe_isE Ea F.g6 (k 6 (by decide) (by decide)) F.bi) pa_nil)))))
    (pss_cons (ps_set (i := 1) sc.nd rfl (Or.inl rfl) (pe_op op_cat (pv 1) (pe_lst (pa_cons (pe_isE Ea F.g7 (k 7 (by decide) (by decide)) F.bi) (pa_cons (pe_isE Ea F.g8 (k 8 (by decide) (by decide)) F.bi) (pa_cons (pe_isE Ea F.g9 (k 9 (by decide) (by decide)) F.bi) (pa_cons (pe_isE Ea F.g10 (k 10 (by decide) (by decide)) F.bi) pa_nil)))))))
    (pss_cons (ps_set (i := 2) sc.nd rfl (Or.inl rfl) (pe_lst (pa_cons pe_str (pa_cons pe_str (pa_cons pe_str (pa_cons pe_str (pa_cons pe_str (pa_cons pe_str pa_nil))))))))
    (pss_cons (ps_set (i := 2) sc.nd rfl (Or.inl rfl) (pe_op op_cat (pv 2) (pe_lst (pa_cons pe_str (pa_cons pe_str (pa_cons pe_str (pa_cons pe_str pa_nil)))))))
    (pss_cons (ps_if (PW.pt (pw_or (pt_cmpR op_ne (pe_sumH (i := 1) (y := "flags") hc (by rfl) (by decide +kernel) (by decide +kernel) (by decide +kernel) (by rfl) (by rfl) (by rfl) F.bs F.bn rfl (Or.inl rfl) (by decide) (by decide) (by decide)) pe_int (nomark _)) (pw_or1 (pt_not (pt_val (pe_isV (T := "ValueError") Ea F.bv (by decide +kernel) C.v F.bi)))))) (pss_one (ps_ret (pe_tup (pa_cons pe_str (pa_cons pe_str pa_nil))))) pss_nil)
    (pss_one (ps_ret (pe_tup (pa_cons pe_str (pa_cons (pe_ix ix_list (pv 2) (pe_bm PySem.F.plainAttrs_list PySem.F.slot_list_index PySem.F.type_list_index mt_index (pv 1) (pa_cons pe_bl pa_nil)) (fun _ _ => rfl)) pa_nil)))))))))))
    fun D σ H ⟨hσ, q⟩ => ?_
  subst hσ
  have sm : ∀ {n : Nat}, n ≤ 1000 → n ≤ sizeLine := fun h => Nat.le_of_lt (small1000 h)
  have ne : ∀ {H : Hp} {p q : Addr} {o : HO}, upd H p o q = none → p ≠ q ∧ H q = none := fun {H p q o} h => by
    have n : p ≠ q := fun z => by rw [z, upd_same] at h; cases h
    exact ⟨n, by rw [upd_ne n.symm] at h; exact h⟩
  refine ⟨rfl, rfl, rfl, rfl, sm (by simp), fun p1 n1 => ?_⟩
  refine ⟨_, rfl, rfl, rfl, sm (by simp), fun p2 n2 => ⟨p1, p2, [V.bl (decide (1 = c)), V.bl (decide (2 = c)), V.bl (decide (3 = c)), V.bl (decide (4 = c))], [V.bl (decide (5 = c)), V.bl (decide (6 = c))], rfl, rfl, ?_, upd_same, sm (by simp), fun p3 n3 => ?_⟩⟩
  · rw [upd_ne (ne n2).1]; exact upd_same
  refine ⟨_, rfl, rfl, rfl, rfl, rfl, sm (by simp), fun p4 n4 => ⟨p3, p4, [V.bl (decide (1 = c)), V.bl (decide (2 = c)), V.bl (decide (3 = c)), V.bl (decide (4 = c))] ++ [V.bl (decide (5 = c)), V.bl (decide (6 = c))], [V.bl (decide (7 = c)), V.bl (decide (8 = c)), V.bl (decide (9 = c)), V.bl (decide (10 = c))], rfl, rfl, ?_, upd_same, sm (by simp), fun p5 n5 => ?_⟩⟩
  · rw [upd_ne (ne n4).1]; exact upd_same
  refine ⟨sm (by simp), fun p6 n6 => ?_⟩
  refine ⟨_, rfl, sm (by simp), fun p7 n7 => ⟨p6, p7, [V.str "BadMoves", V.str "BadStanding", V.str "BadNumber", V.str "BadRow", V.str "BadWeights", V.str "BadRound"], [V.str "Endless", V.str "Nothing", V.str "Full", V.str "BadText"], rfl, rfl, ?_, upd_same, sm (by simp), fun p8 n8 => ?_⟩⟩
  · rw [upd_ne (ne n7).1]; exact upd_same
  have d2 := ne n2
  have d3 := ne n3
  have d4 := ne n4
  have d5 := ne n5
  have d6 := ne n6
  have d7 := ne n7
  have d8 := ne n8
  have f3 := ne d3.2
  have f4 := ne d4.2
  have f5 := ne d5.2
  have f6 := ne d6.2
  have f7 := ne d7.2
  have f8 := ne d8.2
  have at8 : ∀ {o6 o7 o8 : HO} {H5 : Hp} {L : HO}, upd (upd (upd (upd H5 p5 L) p6 o6) p7 o7) p8 o8 p5 = some L := by
    intro o6 o7 o8 H5 L
    rw [upd_ne (ne f8.2).1, upd_ne f7.1, upd_ne d6.1, upd_same]
  refine ⟨p5, [decide (1 = c), decide (2 = c), decide (3 = c), decide (4 = c), decide (5 = c), decide (6 = c), decide (7 = c), decide (8 = c), decide (9 = c), decide (10 = c)], rfl, .inl (.inl at8), rfl, false, ?_, ?_⟩
  · rw [show numB [decide (1 = c), decide (2 = c), decide (3 = c), decide (4 = c), decide (5 = c), decide (6 = c), decide (7 = c), decide (8 = c), decide (9 = c), decide (10 = c)] = 1 from term_num C.lo C.hi]; rfl
  refine ⟨rfl, true, rfl, ?_⟩
  refine ⟨_, rfl, _, rfl, .inl ⟨rfl, _, .inl (.inl at8)⟩, ?_⟩
  obtain ⟨t1, t2, t3⟩ := term_ix (c := c) C.lo C.hi
  refine ⟨p5, _, V.bl true, c - 1, V.bl true, rfl, rfl, .inl (.inl at8), rfl, rfl, t1, rfl, t2, p8, _, _, V.str (kindN c), rfl, rfl, .inl (.inl upd_same), t3, sm (by simp), fun p n => q p _ (fun b o e => ?_) ?_ upd_same⟩
  · have keep : ∀ {H : Hp} {r : Addr} {o' : HO}, H r = none → H b = some o → upd H r o' b = some o := fun {H r o'} h h' => by
      rw [upd_ne (fun z => by rw [z, h] at h'; cases h')]; exact h'
    exact keep n (keep n8 (keep n7 (keep n6 (keep n5 (keep n4 (keep n3 (keep n2 (keep n1 e))))))))
  · exact (ne (ne (ne (ne (ne (ne (ne (ne n).2).2).2).2).2).2).2).2
end
def s_law_told : Stmt := topS 43
theorem sc_law_told : FnScope ["deed", "e"] ["deed"] (defScope s_law_told) := ⟨rfl, rfl, rfl, by decide +kernel, rfl, by decide +kernel, by decide +kernel⟩
theorem told_mk {mg : Str → Option Value} {K : PySem.W.Frag} {cl : Nat → Addr} {cs : List Nat} {g f M : Addr} {fdT fdM : FuncData} (Ft : Fun K "_law_told" "_law_told" s_law_told g fdT) (mT : mg "_law_told" = some (.ref g)) (Fm : Fun K "_law_term" "_law_term" s_law_term f fdM) (mM : mg "_law_term" = some (.ref f))
    (bT : Binds K fdT ["deed"] []) (bM : Binds K fdM ["e"] []) (F : TermF mg K cl) (C : ∀ c ∈ cs, TermC K cl c) (gM : mg "MoveError" = some (.ref M)) (ex : ∀ c ∈ cs, PySem.W.exmOne K (.ref (cl c)) (.ref M) = some true) : ToldF mg K cl cs s_law_told s_law_term where
  t := ⟨g, fdT, Ft, mT, bT⟩
  m := ⟨f, fdM, Fm, mM, bM⟩
  st := sc_law_told
  sm := sc_law_term
  le := rfl
  ld := Or.inl rfl
  gm := rfl
  gt := rfl
  bt := ⟨_, _, _, _, _, _, _, _, _, _, rfl⟩
  bm := fun P w base f cdv A outer s H0 E a oe c hc hot hz hf => term_body hot F (C c hc) hz hf
  ex := ⟨M, gM, ex⟩

def s_is_whole : Stmt := topS 15
theorem sc_is_whole : FnScope ["thing", "low", "high"] ["thing", "low", "high"] (defScope s_is_whole) := ⟨rfl, rfl, rfl, by decide +kernel, rfl, by decide +kernel, by decide +kernel⟩
theorem ok_is_whole (At : DefAt mg G.K "is_whole" s_is_whole ["thing", "low", "high"]) (B : Blt mg) : DefOk P w mg base G 1 "is_whole" 3 f_is_whole := by
  have sc := sc_is_whole
  have z := @def_ok P w mg base G "is_whole" s_is_whole ["thing", "low", "high"] ["thing", "low", "high"] 0 3 b_is_whole At sc rfl (by decide) fun f cdv A outer s H E hr => by
    have tk : L2N.Takes (cxOf (L2N.CX P w) P w G.K mg base ["thing", "low", "high"] "is_whole" (defScope s_is_whole) f cdv A outer s H E) (fun cls d _ H => E cls d H) := L2N.takes_of rfl rfl rfl rfl
    unfold b_is_whole
    exact (qss_one (qs_ret (qe_and (qe_isi (T := "int") (by decide) (by rfl) B.isinstance (by rfl) B.int (by decide +kernel) (qe_var 0)) (qe_and (qe_not (qe_isi (T := "bool") (by decide) (by rfl) B.isinstance (by rfl) B.bool (by decide +kernel) (qe_var 0))) (qe_one (qe_chain op_le bCmp_snd op_le bCmp_snd (qe_var 1) (qe_var 0) (qe_var 2)))))))
  exact z
def s_are_whole : Stmt := topS 16
theorem sc_are_whole : FnScope ["thing", "many", "high", "one"] ["thing", "many", "high"] (defScope s_are_whole) := ⟨rfl, rfl, rfl, by decide +kernel, rfl, by decide +kernel, by decide +kernel⟩
theorem ok_are_whole (At : DefAt mg G.K "are_whole" s_are_whole ["thing", "many", "high"]) (B : Blt mg) (D_is_whole : DefOk P w mg base G 1 "is_whole" 3 f_is_whole) : DefOk P w mg base G 2 "are_whole" 3 f_are_whole := by
  have sc := sc_are_whole
  have z := @def_ok P w mg base G "are_whole" s_are_whole ["thing", "many", "high", "one"] ["thing", "many", "high"] 1 3 b_are_whole At sc rfl (by decide) fun f cdv A outer s H E hr => by
    have tk : L2N.Takes (cxOf (L2N.CX P w) P w G.K mg base ["thing", "many", "high", "one"] "are_whole" (defScope s_are_whole) f cdv A outer s H E) (fun cls d _ H => E cls d H) := L2N.takes_of rfl rfl rfl rfl
    unfold b_are_whole are_whole_C1
    exact (qss_one (qs_ret (qe_and (qe_isi (T := "tuple") (by decide) (by rfl) B.isinstance (by rfl) B.tuple (by decide +kernel) (qe_var 0)) (qe_and (qe_cmp (op_eqD hr.units) bEq_snd (qe_callB call_len_seq bLen_snd (by rfl) B.len (by decide +kernel) (qa_cons (qe_var 0) qa_nil)) (qe_var 1) (nomark _)) (qe_one (qe_callB (cr_all rfl) bAll_snd (by rfl) B.all (by decide +kernel) (qa_cons (qe_lc (own := [("one", 3)]) rfl sc.nd (qi_seq (qe_var 0)) (blkOk_by (own := [("one", 3)]) (by kernel_rfl)) (fun _ _ _ _ _ => (qg_name 3 sc.nd rfl (by first | exact Or.inl rfl | exact Or.inr rfl))) (fun _ _ _ _ _ => qts_nil) (fun _ _ _ _ _ => (qe_callD D_is_whole hr (by decide) (by rfl) pasF (qa_cons (qe_var 3) (qa_cons qe_int (qa_cons (qe_var 2) qa_nil)))))) qa_nil)))))))
  exact z
def s_is_move : Stmt := topS 17
theorem sc_is_move : FnScope ["thing", "heaps", "part"] ["thing", "heaps"] (defScope s_is_move) := ⟨rfl, rfl, rfl, by decide +kernel, rfl, by decide +kernel, by decide +kernel⟩
theorem ok_is_move (At : DefAt mg G.K "is_move" s_is_move ["thing", "heaps"]) (B : Blt mg) (D_are_whole : DefOk P w mg base G 2 "are_whole" 3 f_are_whole) : DefOk P w mg base G 3 "is_move" 2 f_is_move := by
  have sc := sc_is_move
  have z := @def_ok P w mg base G "is_move" s_is_move ["thing", "heaps", "part"] ["thing", "heaps"] 2 2 b_is_move At sc rfl (by decide) fun f cdv A outer s H E hr => by
    have tk : L2N.Takes (cxOf (L2N.CX P w) P w G.K mg base ["thing", "heaps", "part"] "is_move" (defScope s_is_move) f cdv A outer s H E) (fun cls d _ H => E cls d H) := L2N.takes_of rfl rfl rfl rfl
    unfold b_is_move is_move_C1
    exact (qss_one (qs_ret (qe_and (qe_isi (T := "tuple") (by decide) (by rfl) B.isinstance (by rfl) B.tuple (by decide +kernel) (qe_var 0)) (qe_and (qe_cmp (op_eqD hr.units) bEq_snd (qe_callB call_len_seq bLen_snd (by rfl) B.len (by decide +kernel) (qa_cons (qe_var 0) qa_nil)) qe_int (nomark _)) (qe_one (qe_callB (cr_all rfl) bAll_snd (by rfl) B.all (by decide +kernel) (qa_cons (qe_lc (own := [("part", 2)]) rfl sc.nd (qi_seq (qe_var 0)) (blkOk_by (own := [("part", 2)]) (by kernel_rfl)) (fun _ _ _ _ _ => (qg_name 2 sc.nd rfl (by first | exact Or.inl rfl | exact Or.inr rfl))) (fun _ _ _ _ _ => qts_nil) (fun _ _ _ _ _ => (qe_callD D_are_whole hr (by decide) (by rfl) pasF (qa_cons (qe_var 2) (qa_cons (qe_var 1) (qa_cons qe_int qa_nil)))))) qa_nil)))))))
  exact z
def s_heaps_in : Stmt := topS 18
theorem sc_heaps_in : FnScope ["thing"] ["thing"] (defScope s_heaps_in) := ⟨rfl, rfl, rfl, by decide +kernel, rfl, by decide +kernel, by decide +kernel⟩
theorem ok_heaps_in (At : DefAt mg G.K "heaps_in" s_heaps_in ["thing"]) (B : Blt mg) : DefOk P w mg base G 1 "heaps_in" 1 f_heaps_in := by
  have sc := sc_heaps_in
  have z := @def_ok P w mg base G "heaps_in" s_heaps_in ["thing"] ["thing"] 0 1 b_heaps_in At sc rfl (by decide) fun f cdv A outer s H E hr => by
    have tk : L2N.Takes (cxOf (L2N.CX P w) P w G.K mg base ["thing"] "heaps_in" (defScope s_heaps_in) f cdv A outer s H E) (fun cls d _ H => E cls d H) := L2N.takes_of rfl rfl rfl rfl
    unfold b_heaps_in
    exact (qss_cons (qs_if (PW.pt (qw_or (qt_not (qt_val (qe_isi (T := "tuple") (by decide) (by rfl) B.isinstance (by rfl) B.tuple (by decide +kernel) (qe_var 0)))) (qw_or (qt_cmp (op_neD hr.units) bNe_snd (qe_callB call_len_seq bLen_snd (by rfl) B.len (by decide +kernel) (qa_cons (qe_var 0) qa_nil)) qe_int (nomark _)) (qw_or1 (qt_not (qt_val (qe_isi (T := "tuple") (by decide) (by rfl) B.isinstance (by rfl) B.tuple (by decide +kernel) (qe_ix ix_seq bIx_snd (qe_var 0) qe_int (fun _ _ => rfl))))))))) (qss_one (qs_ret qe_int)) qss_nil)
    (qss_one (qs_ret (qe_callB call_len_seq bLen_snd (by rfl) B.len (by decide +kernel) (qa_cons (qe_ix ix_seq bIx_snd (qe_var 0) qe_int (fun _ _ => rfl)) qa_nil)))))
  exact z
def s_is_moves : Stmt := topS 19
theorem sc_is_moves : FnScope ["thing", "heaps", "one"] ["thing"] (defScope s_is_moves) := ⟨rfl, rfl, rfl, by decide +kernel, rfl, by decide +kernel, by decide +kernel⟩
theorem ok_is_moves (At : DefAt mg G.K "is_moves" s_is_moves ["thing"]) (B : Blt mg) (D_heaps_in : DefOk P w mg base G 1 "heaps_in" 1 f_heaps_in) (D_is_move : DefOk P w mg base G 3 "is_move" 2 f_is_move) (c_MOST_HEAPS : ∃ t, mg "MOST_HEAPS" = some (.int 4 t)) (c_MOST_MOVES : ∃ t, mg "MOST_MOVES" = some (.int 6 t)) : DefOk P w mg base G 4 "is_moves" 1 f_is_moves := by
  have sc := sc_is_moves
  have z := @def_ok P w mg base G "is_moves" s_is_moves ["thing", "heaps", "one"] ["thing"] 3 1 b_is_moves At sc rfl (by decide) fun f cdv A outer s H E hr => by
    have tk : L2N.Takes (cxOf (L2N.CX P w) P w G.K mg base ["thing", "heaps", "one"] "is_moves" (defScope s_is_moves) f cdv A outer s H E) (fun cls d _ H => E cls d H) := L2N.takes_of rfl rfl rfl rfl
    unfold b_is_moves is_moves_C1
    exact (qss_cons (qs_if (PW.pt (qw_or (qt_not (qt_val (qe_isi (T := "tuple") (by decide) (by rfl) B.isinstance (by rfl) B.tuple (by decide +kernel) (qe_var 0)))) (qw_or1 (qt_not (qt_chain op_le bCmp_snd op_le bCmp_snd qe_int (qe_callB call_len_seq bLen_snd (by rfl) B.len (by decide +kernel) (qa_cons (qe_var 0) qa_nil)) (qe_gI c_MOST_MOVES rfl)))))) (qss_one (qs_ret qe_bl)) qss_nil)
    (qss_cons (qs_set 1 sc.nd rfl (by first | exact Or.inl rfl | exact Or.inr rfl) (qe_callD D_heaps_in hr (by decide) (by rfl) (pasE tk) (qa_cons (qe_ix ix_seq bIx_snd (qe_var 0) qe_int (fun _ _ => rfl)) qa_nil)))
    (qss_one (qs_ret (qe_and (qe_chain op_le bCmp_snd op_le bCmp_snd qe_int (qe_var 1) (qe_gI c_MOST_HEAPS rfl)) (qe_one (qe_callB (cr_all rfl) bAll_snd (by rfl) B.all (by decide +kernel) (qa_cons (qe_lc (own := [("one", 2)]) rfl sc.nd (qi_seq (qe_var 0)) (blkOk_by (own := [("one", 2)]) (by kernel_rfl)) (fun _ _ _ _ _ => (qg_name 2 sc.nd rfl (by first | exact Or.inl rfl | exact Or.inr rfl))) (fun _ _ _ _ _ => qts_nil) (fun _ _ _ _ _ => (qe_callD D_is_move hr (by decide) (by rfl) pasF (qa_cons (qe_var 2) (qa_cons (qe_var 1) qa_nil))))) qa_nil))))))))
  exact z
def s_need_moves : Stmt := topS 20
theorem sc_need_moves : FnScope ["thing"] ["thing"] (defScope s_need_moves) := ⟨rfl, rfl, rfl, by decide +kernel, rfl, by decide +kernel, by decide +kernel⟩
theorem ok_need_moves (At : DefAt mg G.K "need_moves" s_need_moves ["thing"]) (B : Blt mg) (D_is_moves : DefOk P w mg base G 4 "is_moves" 1 f_is_moves) (X_BadMoves : ExcF mg G.K "BadMoves" (G.cl 1)) : DefOk P w mg base G 5 "need_moves" 1 f_need_moves := by
  have sc := sc_need_moves
  have z := @def_ok P w mg base G "need_moves" s_need_moves ["thing"] ["thing"] 4 1 b_need_moves At sc rfl (by decide) fun f cdv A outer s H E hr => by
    have tk : L2N.Takes (cxOf (L2N.CX P w) P w G.K mg base ["thing"] "need_moves" (defScope s_need_moves) f cdv A outer s H E) (fun cls d _ H => E cls d H) := L2N.takes_of rfl rfl rfl rfl
    unfold b_need_moves
    exact (qss_one (qs_if (qt_not (qt_val (qe_callD D_is_moves hr (by decide) (by rfl) (pasE tk) (qa_cons (qe_var 0) qa_nil)))) (qss_one (qs_raiseX X_BadMoves rfl tk (fun _ _ _ _ h => h) (by rfl))) qss_nil))
  exact z
def s_need_row : Stmt := topS 23
theorem sc_need_row : FnScope ["moves", "row", "number"] ["moves", "row"] (defScope s_need_row) := ⟨rfl, rfl, rfl, by decide +kernel, rfl, by decide +kernel, by decide +kernel⟩
theorem ok_need_row (At : DefAt mg G.K "need_row" s_need_row ["moves", "row"]) (B : Blt mg) (D_is_whole : DefOk P w mg base G 1 "is_whole" 3 f_is_whole) (c_LONGEST : ∃ t, mg "LONGEST" = some (.int 200 t)) (X_BadRow : ExcF mg G.K "BadRow" (G.cl 4)) : DefOk P w mg base G 2 "need_row" 2 f_need_row := by
  have sc := sc_need_row
  have z := @def_ok P w mg base G "need_row" s_need_row ["moves", "row", "number"] ["moves", "row"] 1 2 b_need_row At sc rfl (by decide) fun f cdv A outer s H E hr => by
    have tk : L2N.Takes (cxOf (L2N.CX P w) P w G.K mg base ["moves", "row", "number"] "need_row" (defScope s_need_row) f cdv A outer s H E) (fun cls d _ H => E cls d H) := L2N.takes_of rfl rfl rfl rfl
    unfold b_need_row need_row_C1
    exact (qss_cons (qs_if (PW.pt (qw_or (qt_not (qt_val (qe_isi (T := "list") (by decide) (by rfl) B.isinstance (by rfl) B.list (by decide +kernel) (qe_var 1)))) (qw_or1 (qt_cmp op_gt bCmp_snd (qe_callB call_len_seq bLen_snd (by rfl) B.len (by decide +kernel) (qa_cons (qe_var 1) qa_nil)) (qe_gI c_LONGEST rfl) (nomark _))))) (qss_one (qs_raiseX X_BadRow rfl tk (fun _ _ _ _ h => h) (by rfl))) qss_nil)
    (qss_one (qs_if (qt_not (qt_val (qe_callB (cr_all rfl) bAll_snd (by rfl) B.all (by decide +kernel) (qa_cons (qe_lc (own := [("number", 2)]) rfl sc.nd (qi_seq (qe_var 1)) (blkOk_by (own := [("number", 2)]) (by kernel_rfl)) (fun _ _ _ _ _ => (qg_name 2 sc.nd rfl (by first | exact Or.inl rfl | exact Or.inr rfl))) (fun _ _ _ _ _ => qts_nil) (fun _ _ _ _ _ => (qe_callD D_is_whole hr (by decide) (by rfl) pasF (qa_cons (qe_var 2) (qa_cons qe_int (qa_cons (qe_op op_sub bSub_snd (qe_callB call_len_seq bLen_snd (by rfl) B.len (by decide +kernel) (qa_cons (qe_var 0) qa_nil)) qe_int) qa_nil)))))) qa_nil)))) (qss_one (qs_raiseX X_BadRow rfl tk (fun _ _ _ _ h => h) (by rfl))) qss_nil)))
  exact z
def s_heaps_text : Stmt := topS 27
theorem sc_heaps_text : FnScope ["numbers", "some", "heap", "many"] ["numbers"] (defScope s_heaps_text) := ⟨rfl, rfl, rfl, by decide +kernel, rfl, by decide +kernel, by decide +kernel⟩
theorem ok_heaps_text (At : DefAt mg G.K "heaps_text" s_heaps_text ["numbers"]) (B : Blt mg) (c_HEAPS : ∃ t, mg "HEAPS" = some (.str "abcd" t)) : DefOk P w mg base G 1 "heaps_text" 1 f_heaps_text := by
  have sc := sc_heaps_text
  have z := @def_ok P w mg base G "heaps_text" s_heaps_text ["numbers", "some", "heap", "many"] ["numbers"] 0 1 b_heaps_text At sc rfl (by decide) fun f cdv A outer s H E hr => by
    have tk : L2N.Takes (cxOf (L2N.CX P w) P w G.K mg base ["numbers", "some", "heap", "many"] "heaps_text" (defScope s_heaps_text) f cdv A outer s H E) (fun cls d _ H => E cls d H) := L2N.takes_of rfl rfl rfl rfl
    unfold b_heaps_text heaps_text_C1
    exact (qss_cons (qs_setLc 1 (own := [("heap", 2), ("many", 3)]) rfl sc.nd rfl rfl (sw_true rfl rfl rfl (by decide +kernel)) (qi_enumS (by rfl) B.enumerate (qa_cons (qe_var 0) qa_nil)) (blkOk_by (own := [("heap", 2), ("many", 3)]) (by kernel_rfl)) (fun _ _ _ _ _ => (qg_tup rfl (qgs_cons (qg_name 2 sc.nd rfl (by first | exact Or.inl rfl | exact Or.inr rfl)) (qgs_cons (qg_name 3 sc.nd rfl (by first | exact Or.inl rfl | exact Or.inr rfl)) qgs_nil)))) (fun _ _ _ _ _ => (qts_one (qt_cmp op_gt bCmp_snd (qe_var 3) qe_int (nomark _)))) (fun _ _ _ _ _ => (qe_joined (qj_cons (qe_fmt (qe_var 3)) (qj_cons (qe_fmt (qe_ix ix_seq bIxT_snd (qe_gT c_HEAPS rfl) (qe_var 2) (fun _ _ => rfl))) qj_nil)))))
    (qss_one (qs_ret (qe_if (qt_cmp (op_neD hr.units) bNe_snd (qe_var 1) (qe_lst qa_nil) (nomark _)) (qe_join qe_txt (qe_var 1)) qe_txt))))
  exact z
def s_one_text : Stmt := topS 28
theorem sc_one_text : FnScope ["move"] ["move"] (defScope s_one_text) := ⟨rfl, rfl, rfl, by decide +kernel, rfl, by decide +kernel, by decide +kernel⟩
theorem ok_one_text (At : DefAt mg G.K "one_text" s_one_text ["move"]) (B : Blt mg) (D_heaps_text : DefOk P w mg base G 1 "heaps_text" 1 f_heaps_text) : DefOk P w mg base G 2 "one_text" 1 f_one_text := by
  have sc := sc_one_text
  have z := @def_ok P w mg base G "one_text" s_one_text ["move"] ["move"] 1 1 b_one_text At sc rfl (by decide) fun f cdv A outer s H E hr => by
    have tk : L2N.Takes (cxOf (L2N.CX P w) P w G.K mg base ["move"] "one_text" (defScope s_one_text) f cdv A outer s H E) (fun cls d _ H => E cls d H) := L2N.takes_of rfl rfl rfl rfl
    unfold b_one_text
    exact (qss_one (qs_ret (qe_op op_addA bAdd_snd (qe_op op_addA bAdd_snd (qe_callD D_heaps_text hr (by decide) (by rfl) (pasE tk) (qa_cons (qe_ix ix_seq bIx_snd (qe_var 0) qe_int (fun _ _ => rfl)) qa_nil)) qe_txt) (qe_callD D_heaps_text hr (by decide) (by rfl) (pasE tk) (qa_cons (qe_ix ix_seq bIx_snd (qe_var 0) qe_int (fun _ _ => rfl)) qa_nil)))))
  exact z
def s_move_text : Stmt := topS 29
theorem sc_move_text : FnScope ["move"] ["move"] (defScope s_move_text) := ⟨rfl, rfl, rfl, by decide +kernel, rfl, by decide +kernel, by decide +kernel⟩
theorem ok_move_text (At : DefAt mg G.K "move_text" s_move_text ["move"]) (B : Blt mg) (D_heaps_in : DefOk P w mg base G 1 "heaps_in" 1 f_heaps_in) (D_is_move : DefOk P w mg base G 3 "is_move" 2 f_is_move) (D_one_text : DefOk P w mg base G 2 "one_text" 1 f_one_text) (X_BadMoves : ExcF mg G.K "BadMoves" (G.cl 1)) : DefOk P w mg base G 4 "move_text" 1 f_move_text := by
  have sc := sc_move_text
  have z := @def_ok P w mg base G "move_text" s_move_text ["move"] ["move"] 3 1 b_move_text At sc rfl (by decide) fun f cdv A outer s H E hr => by
    have tk : L2N.Takes (cxOf (L2N.CX P w) P w G.K mg base ["move"] "move_text" (defScope s_move_text) f cdv A outer s H E) (fun cls d _ H => E cls d H) := L2N.takes_of rfl rfl rfl rfl
    unfold b_move_text
    exact (qss_cons (qs_if (PW.pt (qw_or (qt_not (qt_chain op_le bCmp_snd op_le bCmp_snd qe_int (qe_callD D_heaps_in hr (by decide) (by rfl) (pasE tk) (qa_cons (qe_var 0) qa_nil)) qe_int)) (qw_or1 (qt_not (qt_val (qe_callD D_is_move hr (by decide) (by rfl) (pasE tk) (qa_cons (qe_var 0) (qa_cons (qe_callD D_heaps_in hr (by decide) (by rfl) (pasE tk) (qa_cons (qe_var 0) qa_nil)) qa_nil)))))))) (qss_one (qs_raiseX X_BadMoves rfl tk (fun _ _ _ _ h => h) (by rfl))) qss_nil)
    (qss_one (qs_ret (qe_callD D_one_text hr (by decide) (by rfl) (pasE tk) (qa_cons (qe_var 0) qa_nil)))))
  exact z
def s_moves_text : Stmt := topS 30
theorem sc_moves_text : FnScope ["moves", "move"] ["moves"] (defScope s_moves_text) := ⟨rfl, rfl, rfl, by decide +kernel, rfl, by decide +kernel, by decide +kernel⟩
theorem ok_moves_text (At : DefAt mg G.K "moves_text" s_moves_text ["moves"]) (B : Blt mg) (D_need_moves : DefOk P w mg base G 5 "need_moves" 1 f_need_moves) (D_one_text : DefOk P w mg base G 2 "one_text" 1 f_one_text) : DefOk P w mg base G 6 "moves_text" 1 f_moves_text := by
  have sc := sc_moves_text
  have z := @def_ok P w mg base G "moves_text" s_moves_text ["moves", "move"] ["moves"] 5 1 b_moves_text At sc rfl (by decide) fun f cdv A outer s H E hr => by
    have tk : L2N.Takes (cxOf (L2N.CX P w) P w G.K mg base ["moves", "move"] "moves_text" (defScope s_moves_text) f cdv A outer s H E) (fun cls d _ H => E cls d H) := L2N.takes_of rfl rfl rfl rfl
    unfold b_moves_text moves_text_C1
    exact (qss_cons (qs_expr (qe_callD D_need_moves hr (by decide) (by rfl) (pasE tk) (qa_cons (qe_var 0) qa_nil)))
    (qss_one (qs_ret (qe_join qe_txt (qe_op op_addA bAdd_snd (qe_lst (qa_cons (qe_callTy call_str_int bStrI_snd (by rfl) B.str (by decide +kernel) (qa_cons (qe_callB call_len_seq bLen_snd (by rfl) B.len (by decide +kernel) (qa_cons (qe_ix ix_seq bIx_snd (qe_ix ix_seq bIx_snd (qe_var 0) qe_int (fun _ _ => rfl)) qe_int (fun _ _ => rfl)) qa_nil)) qa_nil)) qa_nil)) (qe_lc (own := [("move", 1)]) rfl sc.nd (qi_seq (qe_var 0)) (blkOk_by (own := [("move", 1)]) (by kernel_rfl)) (fun _ _ _ _ _ => (qg_name 1 sc.nd rfl (by first | exact Or.inl rfl | exact Or.inr rfl))) (fun _ _ _ _ _ => qts_nil) (fun _ _ _ _ _ => (qe_callD D_one_text hr (by decide) (by rfl) pasF (qa_cons (qe_var 1) qa_nil)))))))))
  exact z
def s_number_in : Stmt := topS 31
theorem sc_number_in : FnScope ["text", "sign"] ["text"] (defScope s_number_in) := ⟨rfl, rfl, rfl, by decide +kernel, rfl, by decide +kernel, by decide +kernel⟩
theorem ok_number_in (At : DefAt mg G.K "number_in" s_number_in ["text"]) (B : Blt mg) (c_FIGURES : ∃ t, mg "FIGURES" = some (.str "0123456789" t)) (X_BadText : ExcF mg G.K "BadText" (G.cl 10)) : DefOk P w mg base G 1 "number_in" 1 f_number_in := by
  have sc := sc_number_in
  have z := @def_ok P w mg base G "number_in" s_number_in ["text", "sign"] ["text"] 0 1 b_number_in At sc rfl (by decide) fun f cdv A outer s H E hr => by
    have tk : L2N.Takes (cxOf (L2N.CX P w) P w G.K mg base ["text", "sign"] "number_in" (defScope s_number_in) f cdv A outer s H E) (fun cls d _ H => E cls d H) := L2N.takes_of rfl rfl rfl rfl
    unfold b_number_in number_in_C1
    exact (qss_cons (qs_if (PW.pt (qw_or (qt_not (qt_chain op_le bCmp_snd op_le bCmp_snd qe_int (qe_callB call_len_str bLenT_snd (by rfl) B.len (by decide +kernel) (qa_cons (qe_var 0) qa_nil)) qe_int)) (qw_or (qt_not (qt_val (qe_callB (cr_all rfl) bAll_snd (by rfl) B.all (by decide +kernel) (qa_cons (qe_lc (own := [("sign", 1)]) rfl sc.nd (qi_txt (qe_var 0)) (blkOk_by (own := [("sign", 1)]) (by kernel_rfl)) (fun _ _ _ _ _ => (qg_name 1 sc.nd rfl (by first | exact Or.inl rfl | exact Or.inr rfl))) (fun _ _ _ _ _ => qts_nil) (fun _ _ _ _ _ => (qe_cmp op_in_sign bInT_snd (qe_var 1) (qe_gT c_FIGURES rfl) (by rfl)))) qa_nil)))) (qw_or1 (qt_cmp (op_neD hr.units) bNe_snd (qe_callTy call_str_int bStrI_snd (by rfl) B.str (by decide +kernel) (qa_cons (qe_callTy call_int_str bIntT_snd (by rfl) B.int (by decide +kernel) (qa_cons (qe_var 0) qa_nil)) qa_nil)) (qe_var 0) (nomark _)))))) (qss_one (qs_raiseX X_BadText rfl tk (fun _ _ _ _ h => h) (by rfl))) qss_nil)
    (qss_one (qs_ret (qe_callTy call_int_str bIntT_snd (by rfl) B.int (by decide +kernel) (qa_cons (qe_var 0) qa_nil)))))
  exact z
def s_heaps_read : Stmt := topS 32
theorem sc_heaps_read : FnScope ["text", "heaps", "found", "word"] ["text", "heaps"] (defScope s_heaps_read) := ⟨rfl, rfl, rfl, by decide +kernel, rfl, by decide +kernel, by decide +kernel⟩
theorem ok_heaps_read (At : DefAt mg G.K "heaps_read" s_heaps_read ["text", "heaps"]) (B : Blt mg) (D_number_in : DefOk P w mg base G 1 "number_in" 1 f_number_in) (c_HEAPS : ∃ t, mg "HEAPS" = some (.str "abcd" t)) (X_BadText : ExcF mg G.K "BadText" (G.cl 10)) : DefOk P w mg base G 2 "heaps_read" 2 f_heaps_read := by
  have sc := sc_heaps_read
  have z := @def_ok P w mg base G "heaps_read" s_heaps_read ["text", "heaps", "found", "word"] ["text", "heaps"] 1 2 b_heaps_read At sc rfl (by decide) fun f cdv A outer s H E hr => by
    have tk : L2N.Takes (cxOf (L2N.CX P w) P w G.K mg base ["text", "heaps", "found", "word"] "heaps_read" (defScope s_heaps_read) f cdv A outer s H E) (fun cls d _ H => E cls d H) := L2N.takes_of rfl rfl rfl rfl
    unfold b_heaps_read heaps_read_L1
    exact (qss_cons (qs_set 2 sc.nd rfl (by first | exact Or.inl rfl | exact Or.inr rfl) (qe_op op_mulAll bMulN_snd (qe_lst (qa_cons qe_int qa_nil)) (qe_var 1)))
    (qss_cons (qs_for (vs := [3]) (passes_of rfl) rfl (qi_seq (qe_if (qt_cmp (op_neD hr.units) bNe_snd (qe_var 0) qe_txt (nomark _)) (qe_split (qe_var 0) qe_txt) (qe_lst qa_nil))) (qg_name 3 sc.nd rfl (by first | exact Or.inl rfl | exact Or.inr rfl))
    (qss_cons (qs_if (PW.pt (qw_or (qt_cmp (op_eqD hr.units) bEq_snd (qe_var 3) qe_txt (nomark _)) (qw_or1 (qt_cmp op_notIn_sign bNInT_snd (qe_ix ix_seq bIxT_snd (qe_var 3) (qe_un un_neg bNeg_snd qe_int) (fun _ _ => rfl)) (qe_sliceT (qe_gT c_HEAPS rfl) qo_none (qo_some (qe_var 1))) (by rfl))))) (qss_one (qs_raiseX X_BadText rfl tk (fun _ _ _ _ h => h) (by rfl))) qss_nil)
    (qss_one (qs_asg (vs := [2, 3]) (qe_callD D_number_in hr (by decide) (by rfl) (pasE tk) (qa_cons (qe_sliceT (qe_var 3) qo_none (qo_some (qe_un un_neg bNeg_snd qe_int))) qa_nil)) (qg_sub (qe_var 2) (qe_idx (qe_gT c_HEAPS rfl) (qe_ix ix_seq bIxT_snd (qe_var 3) (qe_un un_neg bNeg_snd qe_int) (fun _ _ => rfl))))))))
    (qss_one (qs_ret (qe_callTy call_tuple_of bTuple_snd (by rfl) B.tuple (by decide +kernel) (qa_cons (qe_var 2) qa_nil))))))
  exact z
def s_move_read : Stmt := topS 33
theorem sc_move_read : FnScope ["line", "heaps", "parts"] ["line", "heaps"] (defScope s_move_read) := ⟨rfl, rfl, rfl, by decide +kernel, rfl, by decide +kernel, by decide +kernel⟩
theorem ok_move_read (At : DefAt mg G.K "move_read" s_move_read ["line", "heaps"]) (B : Blt mg) (D_heaps_read : DefOk P w mg base G 2 "heaps_read" 2 f_heaps_read) (X_BadText : ExcF mg G.K "BadText" (G.cl 10)) : DefOk P w mg base G 3 "move_read" 2 f_move_read := by
  have sc := sc_move_read
  have z := @def_ok P w mg base G "move_read" s_move_read ["line", "heaps", "parts"] ["line", "heaps"] 2 2 b_move_read At sc rfl (by decide) fun f cdv A outer s H E hr => by
    have tk : L2N.Takes (cxOf (L2N.CX P w) P w G.K mg base ["line", "heaps", "parts"] "move_read" (defScope s_move_read) f cdv A outer s H E) (fun cls d _ H => E cls d H) := L2N.takes_of rfl rfl rfl rfl
    unfold b_move_read
    exact (qss_cons (qs_set 2 sc.nd rfl (by first | exact Or.inl rfl | exact Or.inr rfl) (qe_split (qe_var 0) qe_txt))
    (qss_cons (qs_if (qt_cmp (op_neD hr.units) bNe_snd (qe_callB call_len_seq bLen_snd (by rfl) B.len (by decide +kernel) (qa_cons (qe_var 2) qa_nil)) qe_int (nomark _)) (qss_one (qs_raiseX X_BadText rfl tk (fun _ _ _ _ h => h) (by rfl))) qss_nil)
    (qss_one (qs_ret (qe_tup (qa_cons (qe_callD D_heaps_read hr (by decide) (by rfl) (pasE tk) (qa_cons (qe_ix ix_seq bIx_snd (qe_var 2) qe_int (fun _ _ => rfl)) (qa_cons (qe_var 1) qa_nil))) (qa_cons (qe_callD D_heaps_read hr (by decide) (by rfl) (pasE tk) (qa_cons (qe_ix ix_seq bIx_snd (qe_var 2) qe_int (fun _ _ => rfl)) (qa_cons (qe_var 1) qa_nil))) qa_nil)))))))
  exact z
def s_read_moves : Stmt := topS 34
theorem sc_read_moves : FnScope ["text", "lines", "heaps", "found", "line"] ["text"] (defScope s_read_moves) := ⟨rfl, rfl, rfl, by decide +kernel, rfl, by decide +kernel, by decide +kernel⟩
theorem ok_read_moves (At : DefAt mg G.K "read_moves" s_read_moves ["text"]) (B : Blt mg) (D_is_moves : DefOk P w mg base G 4 "is_moves" 1 f_is_moves) (D_move_read : DefOk P w mg base G 3 "move_read" 2 f_move_read) (D_moves_text : DefOk P w mg base G 6 "moves_text" 1 f_moves_text) (D_number_in : DefOk P w mg base G 1 "number_in" 1 f_number_in) (X_BadText : ExcF mg G.K "BadText" (G.cl 10)) : DefOk P w mg base G 7 "read_moves" 1 f_read_moves := by
  have sc := sc_read_moves
  have z := @def_ok P w mg base G "read_moves" s_read_moves ["text", "lines", "heaps", "found", "line"] ["text"] 6 1 b_read_moves At sc rfl (by decide) fun f cdv A outer s H E hr => by
    have tk : L2N.Takes (cxOf (L2N.CX P w) P w G.K mg base ["text", "lines", "heaps", "found", "line"] "read_moves" (defScope s_read_moves) f cdv A outer s H E) (fun cls d _ H => E cls d H) := L2N.takes_of rfl rfl rfl rfl
    unfold b_read_moves read_moves_C1
    exact (qss_cons (qs_if (qt_not (qt_val (qe_isi (T := "str") (by decide) (by rfl) B.isinstance (by rfl) B.str (by decide +kernel) (qe_var 0)))) (qss_one (qs_raiseX X_BadText rfl tk (fun _ _ _ _ h => h) (by rfl))) qss_nil)
    (qss_cons (qs_set 1 sc.nd rfl (by first | exact Or.inl rfl | exact Or.inr rfl) (qe_split (qe_var 0) qe_txt))
    (qss_cons (qs_set 2 sc.nd rfl (by first | exact Or.inl rfl | exact Or.inr rfl) (qe_callD D_number_in hr (by decide) (by rfl) (pasE tk) (qa_cons (qe_ix ix_seq bIx_snd (qe_var 1) qe_int (fun _ _ => rfl)) qa_nil)))
    (qss_cons (qs_if (qt_not (qt_chain op_le bCmp_snd op_le bCmp_snd qe_int (qe_var 2) qe_int)) (qss_one (qs_raiseX X_BadText rfl tk (fun _ _ _ _ h => h) (by rfl))) qss_nil)
    (qss_cons (qs_set 3 sc.nd rfl (by first | exact Or.inl rfl | exact Or.inr rfl) (qe_callTy call_tuple_of bTuple_snd (by rfl) B.tuple (by decide +kernel) (qa_cons (qe_lcX (own := [("line", 4)]) rfl sc.nd rfl rfl tk (qi_seq (qe_slice sl_all bSl_snd (qe_var 1) (qo_some qe_int) qo_none)) (blkOk_by (own := [("line", 4)]) (by kernel_rfl)) (fun _ _ _ _ _ _ => (qg_name 4 sc.nd rfl (by first | exact Or.inl rfl | exact Or.inr rfl))) (fun _ _ _ _ _ _ => qts_nil) (fun _ _ _ _ _ _ hx => (qe_callD D_move_read hr (by decide) (by rfl) hx (qa_cons (qe_var 4) (qa_cons (qe_var 2) qa_nil))))) qa_nil)))
    (qss_cons (qs_if (PW.pt (qw_or (qt_not (qt_val (qe_callD D_is_moves hr (by decide) (by rfl) (pasE tk) (qa_cons (qe_var 3) qa_nil)))) (qw_or1 (qt_cmp (op_neD hr.units) bNe_snd (qe_callD D_moves_text hr (by decide) (by rfl) (pasE tk) (qa_cons (qe_var 3) qa_nil)) (qe_var 0) (nomark _))))) (qss_one (qs_raiseX X_BadText rfl tk (fun _ _ _ _ h => h) (by rfl))) qss_nil)
    (qss_one (qs_ret (qe_var 3)))))))))
  exact z
def s_row_text : Stmt := topS 35
theorem sc_row_text : FnScope ["moves", "row", "found", "number", "many"] ["moves", "row"] (defScope s_row_text) := ⟨rfl, rfl, rfl, by decide +kernel, rfl, by decide +kernel, by decide +kernel⟩
theorem ok_row_text (At : DefAt mg G.K "row_text" s_row_text ["moves", "row"]) (B : Blt mg) (D_need_moves : DefOk P w mg base G 5 "need_moves" 1 f_need_moves) (D_need_row : DefOk P w mg base G 2 "need_row" 2 f_need_row) : DefOk P w mg base G 6 "row_text" 2 f_row_text := by
  have sc := sc_row_text
  have z := @def_ok P w mg base G "row_text" s_row_text ["moves", "row", "found", "number", "many"] ["moves", "row"] 5 2 b_row_text At sc rfl (by decide) fun f cdv A outer s H E hr => by
    have tk : L2N.Takes (cxOf (L2N.CX P w) P w G.K mg base ["moves", "row", "found", "number", "many"] "row_text" (defScope s_row_text) f cdv A outer s H E) (fun cls d _ H => E cls d H) := L2N.takes_of rfl rfl rfl rfl
    unfold b_row_text row_text_C1 row_text_L1
    exact (qss_cons (qs_expr (qe_callD D_need_moves hr (by decide) (by rfl) (pasE tk) (qa_cons (qe_var 0) qa_nil)))
    (qss_cons (qs_expr (qe_callD D_need_row hr (by decide) (by rfl) (pasE tk) (qa_cons (qe_var 0) (qa_cons (qe_var 1) qa_nil))))
    (qss_cons (qs_set 2 sc.nd rfl (by first | exact Or.inl rfl | exact Or.inr rfl) (qe_new qa_nil))
    (qss_cons (qs_for (vs := [3]) (passes_of rfl) rfl (qi_seq (qe_var 1)) (qg_name 3 sc.nd rfl (by first | exact Or.inl rfl | exact Or.inr rfl))
    (qss_one (qs_if (PW.pt (qw_and (qt_cmp (op_neE hr.units) bNeE_snd (qe_var 2) (qe_lst qa_nil) (nomark _)) (qw_and1 (qt_cmp (op_eqD hr.units) bEq_snd (qe_ix ix_seq bIx_snd (qe_ix ix_seq bIx_snd (qe_var 2) (qe_un un_neg bNeg_snd qe_int) (fun _ _ => rfl)) qe_int (fun _ _ => rfl)) (qe_var 3) (nomark _))))) (qss_one (qs_asg (vs := [2]) (qe_op op_addA bAdd_snd (qe_ix ix_seq bIx_snd (qe_ix ix_seq bIx_snd (qe_var 2) (qe_un un_neg bNeg_snd qe_int) (fun _ _ => rfl)) qe_int (fun _ _ => rfl)) qe_int) (qg_sub (qe_ix ix_seq bIx_snd (qe_var 2) (qe_un un_neg bNeg_snd qe_int) (fun _ _ => rfl)) qe_int))) (qss_one (qs_expr (qe_app (qe_var 2) (qe_new (qa_cons (qe_var 3) (qa_cons qe_int qa_nil)))))))))
    (qss_one (qs_ret (qe_if (qt_cmp (op_neE hr.units) bNeE_snd (qe_var 2) (qe_lst qa_nil) (nomark _)) (qe_join qe_txt (qe_lcO (own := [("number", 3), ("many", 4)]) rfl sc.nd (qe_var 2) (blkOk_by (own := [("number", 3), ("many", 4)]) (by kernel_rfl)) (fun _ _ _ _ _ => (qg_lstO rfl (qgs_cons (qg_name 3 sc.nd rfl (by first | exact Or.inl rfl | exact Or.inr rfl)) (qgs_cons (qg_name 4 sc.nd rfl (by first | exact Or.inl rfl | exact Or.inr rfl)) qgs_nil)))) (fun _ _ _ _ _ => qts_nil) (fun _ _ _ _ _ => (qe_joined (qj_cons (qe_fmt (qe_var 3)) (qj_cons qe_txt (qj_cons (qe_fmt (qe_var 4)) qj_nil))))))) qe_txt)))))))
  exact z
def s_read_row : Stmt := topS 36
theorem sc_read_row : FnScope ["moves", "text", "found", "word", "parts", "number", "many"] ["moves", "text"] (defScope s_read_row) := ⟨rfl, rfl, rfl, by decide +kernel, rfl, by decide +kernel, by decide +kernel⟩
theorem ok_read_row (At : DefAt mg G.K "read_row" s_read_row ["moves", "text"]) (B : Blt mg) (D_need_moves : DefOk P w mg base G 5 "need_moves" 1 f_need_moves) (D_number_in : DefOk P w mg base G 1 "number_in" 1 f_number_in) (D_row_text : DefOk P w mg base G 6 "row_text" 2 f_row_text) (c_LONGEST : ∃ t, mg "LONGEST" = some (.int 200 t)) (X_BadText : ExcF mg G.K "BadText" (G.cl 10)) : DefOk P w mg base G 7 "read_row" 2 f_read_row := by
  have sc := sc_read_row
  have z := @def_ok P w mg base G "read_row" s_read_row ["moves", "text", "found", "word", "parts", "number", "many"] ["moves", "text"] 6 2 b_read_row At sc rfl (by decide) fun f cdv A outer s H E hr => by
    have tk : L2N.Takes (cxOf (L2N.CX P w) P w G.K mg base ["moves", "text", "found", "word", "parts", "number", "many"] "read_row" (defScope s_read_row) f cdv A outer s H E) (fun cls d _ H => E cls d H) := L2N.takes_of rfl rfl rfl rfl
    unfold b_read_row read_row_L1
    exact (qss_cons (qs_expr (qe_callD D_need_moves hr (by decide) (by rfl) (pasE tk) (qa_cons (qe_var 0) qa_nil)))
    (qss_cons (qs_if (qt_not (qt_val (qe_isi (T := "str") (by decide) (by rfl) B.isinstance (by rfl) B.str (by decide +kernel) (qe_var 1)))) (qss_one (qs_raiseX X_BadText rfl tk (fun _ _ _ _ h => h) (by rfl))) qss_nil)
    (qss_cons (qs_set 2 sc.nd rfl (by first | exact Or.inl rfl | exact Or.inr rfl) (qe_lst qa_nil))
    (qss_cons (qs_for (vs := [3]) (passes_of rfl) rfl (qi_seq (qe_if (qt_cmp (op_neD hr.units) bNe_snd (qe_var 1) qe_txt (nomark _)) (qe_split (qe_var 1) qe_txt) (qe_lst qa_nil))) (qg_name 3 sc.nd rfl (by first | exact Or.inl rfl | exact Or.inr rfl))
    (qss_cons (qs_set 4 sc.nd rfl (by first | exact Or.inl rfl | exact Or.inr rfl) (qe_split (qe_var 3) qe_txt))
    (qss_cons (qs_if (qt_cmp (op_neD hr.units) bNe_snd (qe_callB call_len_seq bLen_snd (by rfl) B.len (by decide +kernel) (qa_cons (qe_var 4) qa_nil)) qe_int (nomark _)) (qss_one (qs_raiseX X_BadText rfl tk (fun _ _ _ _ h => h) (by rfl))) qss_nil)
    (qss_cons (qs_par 5 6 rfl sc.nd rfl rfl (by decide) rfl rfl (qa_cons (qe_callD D_number_in hr (by decide) (by rfl) (pasE tk) (qa_cons (qe_ix ix_seq bIx_snd (qe_var 4) qe_int (fun _ _ => rfl)) qa_nil)) (qa_cons (qe_callD D_number_in hr (by decide) (by rfl) (pasE tk) (qa_cons (qe_ix ix_seq bIx_snd (qe_var 4) qe_int (fun _ _ => rfl)) qa_nil)) qa_nil)) (by rfl))
    (qss_cons (qs_if (PW.pt (qw_or (qt_cmp op_ge bCmp_snd (qe_var 5) (qe_callB call_len_seq bLen_snd (by rfl) B.len (by decide +kernel) (qa_cons (qe_var 0) qa_nil)) (nomark _)) (qw_or1 (qt_cmp op_gt bCmp_snd (qe_var 6) (qe_gI c_LONGEST rfl) (nomark _))))) (qss_one (qs_raiseX X_BadText rfl tk (fun _ _ _ _ h => h) (by rfl))) qss_nil)
    (qss_one (qs_set 2 sc.nd rfl (by first | exact Or.inl rfl | exact Or.inr rfl) (qe_op op_addA bAdd_snd (qe_var 2) (qe_op op_mulAll bMul_snd (qe_lst (qa_cons (qe_var 5) qa_nil)) (qe_var 6))))))))))
    (qss_cons (qs_if (PW.pt (qw_or (qt_cmp op_gt bCmp_snd (qe_callB call_len_seq bLen_snd (by rfl) B.len (by decide +kernel) (qa_cons (qe_var 2) qa_nil)) (qe_gI c_LONGEST rfl) (nomark _)) (qw_or1 (qt_cmp (op_neD hr.units) bNe_snd (qe_callD D_row_text hr (by decide) (by rfl) (pasE tk) (qa_cons (qe_var 0) (qa_cons (qe_var 2) qa_nil))) (qe_var 1) (nomark _))))) (qss_one (qs_raiseX X_BadText rfl tk (fun _ _ _ _ h => h) (by rfl))) qss_nil)
    (qss_one (qs_ret (qe_var 2))))))))
  exact z
def s_law_cell : Stmt := topS 38
theorem sc_law_cell : FnScope ["script", "k"] ["script", "k"] (defScope s_law_cell) := ⟨rfl, rfl, rfl, by decide +kernel, rfl, by decide +kernel, by decide +kernel⟩
theorem ok_law_cell (At : DefAt mg G.K "_law_cell" s_law_cell ["script", "k"]) (B : Blt mg) : DefOk P w mg base G 1 "_law_cell" 2 f_law_cell := by
  have sc := sc_law_cell
  have z := @def_ok P w mg base G "_law_cell" s_law_cell ["script", "k"] ["script", "k"] 0 2 b_law_cell At sc rfl (by decide) fun f cdv A outer s H E hr => by
    have tk : L2N.Takes (cxOf (L2N.CX P w) P w G.K mg base ["script", "k"] "_law_cell" (defScope s_law_cell) f cdv A outer s H E) (fun cls d _ H => E cls d H) := L2N.takes_of rfl rfl rfl rfl
    unfold b_law_cell
    exact (qss_cons (qs_if (qt_cmp (op_eqD hr.units) bEq_snd (qe_var 0) (qe_lst qa_nil) (nomark _)) (qss_one (qs_ret (qe_op op_mulAll bMul_snd (qe_var 1) qe_int))) qss_nil)
    (qss_one (qs_ret (qe_op op_addA bAdd_snd (qe_ix ix_seq bIx_snd (qe_var 0) (qe_op op_mod bMod_snd (qe_var 1) (qe_callB call_len_seq bLen_snd (by rfl) B.len (by decide +kernel) (qa_cons (qe_var 0) qa_nil))) (fun _ _ => rfl)) (qe_op op_mulAll bMul_snd (qe_op op_fdivW bDiv_snd (qe_var 1) (qe_callB call_len_seq bLen_snd (by rfl) B.len (by decide +kernel) (qa_cons (qe_var 0) qa_nil))) qe_int)))))
  exact z
def s_law_drawn : Stmt := topS 39
theorem sc_law_drawn : FnScope ["cell", "k", "more"] ["cell", "k"] (defScope s_law_drawn) := ⟨rfl, rfl, rfl, by decide +kernel, rfl, by decide +kernel, by decide +kernel⟩
theorem ok_law_drawn (At : DefAt mg G.K "_law_drawn" s_law_drawn ["cell", "k"]) (B : Blt mg) : DefOk P w mg base G 1 "_law_drawn" 2 f_law_drawn := by
  have sc := sc_law_drawn
  have z := @def_ok P w mg base G "_law_drawn" s_law_drawn ["cell", "k", "more"] ["cell", "k"] 0 2 b_law_drawn At sc rfl (by decide) fun f cdv A outer s H E hr => by
    have tk : L2N.Takes (cxOf (L2N.CX P w) P w G.K mg base ["cell", "k", "more"] "_law_drawn" (defScope s_law_drawn) f cdv A outer s H E) (fun cls d _ H => E cls d H) := L2N.takes_of rfl rfl rfl rfl
    unfold b_law_drawn
    exact (qss_cons (qs_set 2 sc.nd rfl (by first | exact Or.inl rfl | exact Or.inr rfl) (qe_op op_mod bMod_snd (qe_op op_addA bAdd_snd (qe_op op_mulAll bMul_snd (qe_var 0) qe_int) (qe_op op_mulAll bMul_snd (qe_op op_addA bAdd_snd (qe_var 1) qe_int) qe_int)) qe_int))
    (qss_cons (qs_set 2 sc.nd rfl (by first | exact Or.inl rfl | exact Or.inr rfl) (qe_op op_mod bMod_snd (qe_op op_mulAll bMul_snd (qe_var 2) (qe_var 2)) qe_int))
    (qss_cons (qs_set 2 sc.nd rfl (by first | exact Or.inl rfl | exact Or.inr rfl) (qe_op op_mulAll bMul_snd (qe_op op_mulAll bMul_snd (qe_op op_addA bAdd_snd (qe_op op_mod bMod_snd (qe_var 2) qe_int) qe_int) (qe_op op_addA bAdd_snd (qe_op op_fdivW bDiv_snd (qe_var 2) qe_int) qe_int)) (qe_var 2)))
    (qss_one (qs_ret (qe_op op_mod bMod_snd (qe_var 2) qe_int))))))
  exact z
def s_law_roll : Stmt := topS 40
theorem sc_law_roll : FnScope ["dice", "many", "told"] ["dice", "many"] (defScope s_law_roll) := ⟨rfl, rfl, rfl, by decide +kernel, rfl, by decide +kernel, by decide +kernel⟩
theorem ok_law_roll (At : DefAt mg G.K "_law_roll" s_law_roll ["dice", "many"]) (B : Blt mg) (D__law_drawn : DefOk P w mg base G 1 "_law_drawn" 2 f_law_drawn) : DefOk P w mg base G 2 "_law_roll" 2 f_law_roll := by
  have sc := sc_law_roll
  have z := @def_ok P w mg base G "_law_roll" s_law_roll ["dice", "many", "told"] ["dice", "many"] 1 2 b_law_roll At sc rfl (by decide) fun f cdv A outer s H E hr => by
    have tk : L2N.Takes (cxOf (L2N.CX P w) P w G.K mg base ["dice", "many", "told"] "_law_roll" (defScope s_law_roll) f cdv A outer s H E) (fun cls d _ H => E cls d H) := L2N.takes_of rfl rfl rfl rfl
    unfold b_law_roll
    exact (qss_cons (qs_if (qt_cmp op_ge bCmp_snd (qe_ix ix_seq bIx_snd (qe_var 0) qe_int (fun _ _ => rfl)) (qe_op op_pow bPow_snd qe_int qe_int) (nomark _)) (qss_cons (qs_set 2 sc.nd rfl (by first | exact Or.inl rfl | exact Or.inr rfl) (qe_op op_mod bMod_snd (qe_ix ix_seq bIx_snd (qe_var 0) qe_int (fun _ _ => rfl)) (qe_var 1)))
    (qss_cons (qs_asg (vs := [0]) (qe_op op_fdivW bDiv_snd (qe_ix ix_seq bIx_snd (qe_var 0) qe_int (fun _ _ => rfl)) (qe_var 1)) (qg_sub (qe_var 0) qe_int))
    (qss_one (qs_ret (qe_var 2))))) qss_nil)
    (qss_cons (qs_asg (vs := [0]) (qe_op op_addA bAdd_snd (qe_ix ix_seq bIx_snd (qe_var 0) qe_int (fun _ _ => rfl)) qe_int) (qg_sub (qe_var 0) qe_int))
    (qss_one (qs_ret (qe_op op_mod bMod_snd (qe_op op_fdivW bDiv_snd (qe_callD D__law_drawn hr (by decide) (by rfl) (pasE tk) (qa_cons (qe_ix ix_seq bIx_snd (qe_var 0) qe_int (fun _ _ => rfl)) (qa_cons (qe_ix ix_seq bIx_snd (qe_var 0) qe_int (fun _ _ => rfl)) qa_nil))) qe_int) (qe_var 1))))))
  exact z
def s_law_rounds : Stmt := topS 41
theorem sc_law_rounds : FnScope ["script", "high", "k"] ["script", "high"] (defScope s_law_rounds) := ⟨rfl, rfl, rfl, by decide +kernel, rfl, by decide +kernel, by decide +kernel⟩
theorem ok_law_rounds (At : DefAt mg G.K "_law_rounds" s_law_rounds ["script", "high"]) (B : Blt mg) (D__law_cell : DefOk P w mg base G 1 "_law_cell" 2 f_law_cell) : DefOk P w mg base G 2 "_law_rounds" 2 f_law_rounds := by
  have sc := sc_law_rounds
  have z := @def_ok P w mg base G "_law_rounds" s_law_rounds ["script", "high", "k"] ["script", "high"] 1 2 b_law_rounds At sc rfl (by decide) fun f cdv A outer s H E hr => by
    have tk : L2N.Takes (cxOf (L2N.CX P w) P w G.K mg base ["script", "high", "k"] "_law_rounds" (defScope s_law_rounds) f cdv A outer s H E) (fun cls d _ H => E cls d H) := L2N.takes_of rfl rfl rfl rfl
    unfold b_law_rounds law_rounds_C1
    exact (qss_one (qs_ret (qe_lcN (own := [("k", 2)]) rfl sc.nd (qi_rng1 (by rfl) B.range (qa_cons (qe_callB (call_max2 rfl) bMax2_snd (by rfl) B.max (by decide +kernel) (qa_cons qe_int (qa_cons (qe_callB (call_min2 rfl) bMin2_snd (by rfl) B.min (by decide +kernel) (qa_cons (qe_var 1) (qa_cons (qe_callB call_len_seq bLen_snd (by rfl) B.len (by decide +kernel) (qa_cons (qe_var 0) qa_nil)) qa_nil))) qa_nil))) qa_nil)) (blkOk_by (own := [("k", 2)]) (by kernel_rfl)) (fun _ _ _ _ _ => (qg_name 2 sc.nd rfl (by first | exact Or.inl rfl | exact Or.inr rfl))) (fun _ _ _ _ _ => qts_nil) (fun _ _ _ _ _ => (qe_new (qa_cons (qe_callD D__law_cell hr (by decide) (by rfl) pasF (qa_cons (qe_var 0) (qa_cons (qe_var 2) qa_nil))) (qa_cons qe_int qa_nil)))))))
  exact z
def s_law_any_move : Stmt := topS 44
theorem sc_law_any_move : FnScope ["dice", "heaps", "needs", "heap"] ["dice", "heaps"] (defScope s_law_any_move) := ⟨rfl, rfl, rfl, by decide +kernel, rfl, by decide +kernel, by decide +kernel⟩
theorem ok_law_any_move (At : DefAt mg G.K "_law_any_move" s_law_any_move ["dice", "heaps"]) (B : Blt mg) (D__law_roll : DefOk P w mg base G 2 "_law_roll" 2 f_law_roll) : DefOk P w mg base G 3 "_law_any_move" 2 f_law_any_move := by
  have sc := sc_law_any_move
  have z := @def_ok P w mg base G "_law_any_move" s_law_any_move ["dice", "heaps", "needs", "heap"] ["dice", "heaps"] 2 2 b_law_any_move At sc rfl (by decide) fun f cdv A outer s H E hr => by
    have tk : L2N.Takes (cxOf (L2N.CX P w) P w G.K mg base ["dice", "heaps", "needs", "heap"] "_law_any_move" (defScope s_law_any_move) f cdv A outer s H E) (fun cls d _ H => E cls d H) := L2N.takes_of rfl rfl rfl rfl
    unfold b_law_any_move law_any_move_C2 law_any_move_C1
    exact (qss_cons (qs_set 2 sc.nd rfl (by first | exact Or.inl rfl | exact Or.inr rfl) (qe_callTy call_tuple_of bTuple_snd (by rfl) B.tuple (by decide +kernel) (qa_cons (qe_lc (own := [("heap", 3)]) rfl sc.nd (qi_rng1 (by rfl) B.range (qa_cons (qe_var 1) qa_nil)) (blkOk_by (own := [("heap", 3)]) (by kernel_rfl)) (fun _ _ _ _ _ => (qg_name 3 sc.nd rfl (by first | exact Or.inl rfl | exact Or.inr rfl))) (fun _ _ _ _ _ => qts_nil) (fun _ _ _ _ _ => (qe_ix ix_seq bIx_snd (qe_lst (qa_cons qe_int (qa_cons qe_int (qa_cons qe_int (qa_cons qe_int (qa_cons qe_int qa_nil)))))) (qe_callD D__law_roll hr (by decide) (by rfl) pasF (qa_cons (qe_var 0) (qa_cons qe_int qa_nil))) (fun _ _ => rfl)))) qa_nil)))
    (qss_one (qs_ret (qe_tup (qa_cons (qe_var 2) (qa_cons (qe_callTy call_tuple_of bTuple_snd (by rfl) B.tuple (by decide +kernel) (qa_cons (qe_lc (own := [("heap", 3)]) rfl sc.nd (qi_rng1 (by rfl) B.range (qa_cons (qe_var 1) qa_nil)) (blkOk_by (own := [("heap", 3)]) (by kernel_rfl)) (fun _ _ _ _ _ => (qg_name 3 sc.nd rfl (by first | exact Or.inl rfl | exact Or.inr rfl))) (fun _ _ _ _ _ => qts_nil) (fun _ _ _ _ _ => (qe_ix ix_seq bIx_snd (qe_lst (qa_cons qe_int (qa_cons qe_int (qa_cons qe_int (qa_cons qe_int (qa_cons qe_int qa_nil)))))) (qe_callD D__law_roll hr (by decide) (by rfl) pasF (qa_cons (qe_var 0) (qa_cons qe_int qa_nil))) (fun _ _ => rfl)))) qa_nil)) qa_nil))))))
  exact z
def s_law_any_moves : Stmt := topS 45
theorem sc_law_any_moves : FnScope ["dice", "high", "heaps", "turn"] ["dice", "high"] (defScope s_law_any_moves) := ⟨rfl, rfl, rfl, by decide +kernel, rfl, by decide +kernel, by decide +kernel⟩
theorem ok_law_any_moves (At : DefAt mg G.K "_law_any_moves" s_law_any_moves ["dice", "high"]) (B : Blt mg) (D__law_any_move : DefOk P w mg base G 3 "_law_any_move" 2 f_law_any_move) (D__law_roll : DefOk P w mg base G 2 "_law_roll" 2 f_law_roll) : DefOk P w mg base G 4 "_law_any_moves" 2 f_law_any_moves := by
  have sc := sc_law_any_moves
  have z := @def_ok P w mg base G "_law_any_moves" s_law_any_moves ["dice", "high", "heaps", "turn"] ["dice", "high"] 3 2 b_law_any_moves At sc rfl (by decide) fun f cdv A outer s H E hr => by
    have tk : L2N.Takes (cxOf (L2N.CX P w) P w G.K mg base ["dice", "high", "heaps", "turn"] "_law_any_moves" (defScope s_law_any_moves) f cdv A outer s H E) (fun cls d _ H => E cls d H) := L2N.takes_of rfl rfl rfl rfl
    unfold b_law_any_moves law_any_moves_C1
    exact (qss_cons (qs_set 2 sc.nd rfl (by first | exact Or.inl rfl | exact Or.inr rfl) (qe_op op_addA bAdd_snd qe_int (qe_callD D__law_roll hr (by decide) (by rfl) (pasE tk) (qa_cons (qe_var 0) (qa_cons qe_int qa_nil)))))
    (qss_one (qs_ret (qe_callTy call_tuple_of bTuple_snd (by rfl) B.tuple (by decide +kernel) (qa_cons (qe_lc (own := [("turn", 3)]) rfl sc.nd (qi_rng1 (by rfl) B.range (qa_cons (qe_op op_addA bAdd_snd qe_int (qe_callD D__law_roll hr (by decide) (by rfl) (pasE tk) (qa_cons (qe_var 0) (qa_cons (qe_var 1) qa_nil)))) qa_nil)) (blkOk_by (own := [("turn", 3)]) (by kernel_rfl)) (fun _ _ _ _ _ => (qg_name 3 sc.nd rfl (by first | exact Or.inl rfl | exact Or.inr rfl))) (fun _ _ _ _ _ => qts_nil) (fun _ _ _ _ _ => (qe_callD D__law_any_move hr (by decide) (by rfl) pasF (qa_cons (qe_var 0) (qa_cons (qe_var 2) qa_nil))))) qa_nil)))))
  exact z
def s_law_heaps_text : Stmt := topS 46
theorem sc_law_heaps_text : FnScope ["numbers", "some", "heap", "many"] ["numbers"] (defScope s_law_heaps_text) := ⟨rfl, rfl, rfl, by decide +kernel, rfl, by decide +kernel, by decide +kernel⟩
theorem ok_law_heaps_text (At : DefAt mg G.K "_law_heaps_text" s_law_heaps_text ["numbers"]) (B : Blt mg) : DefOk P w mg base G 1 "_law_heaps_text" 1 f_law_heaps_text := by
  have sc := sc_law_heaps_text
  have z := @def_ok P w mg base G "_law_heaps_text" s_law_heaps_text ["numbers", "some", "heap", "many"] ["numbers"] 0 1 b_law_heaps_text At sc rfl (by decide) fun f cdv A outer s H E hr => by
    have tk : L2N.Takes (cxOf (L2N.CX P w) P w G.K mg base ["numbers", "some", "heap", "many"] "_law_heaps_text" (defScope s_law_heaps_text) f cdv A outer s H E) (fun cls d _ H => E cls d H) := L2N.takes_of rfl rfl rfl rfl
    unfold b_law_heaps_text law_heaps_text_C1
    exact (qss_cons (qs_setLc 1 (own := [("heap", 2), ("many", 3)]) rfl sc.nd rfl rfl (sw_true rfl rfl rfl (by decide +kernel)) (qi_enumS (by rfl) B.enumerate (qa_cons (qe_var 0) qa_nil)) (blkOk_by (own := [("heap", 2), ("many", 3)]) (by kernel_rfl)) (fun _ _ _ _ _ => (qg_tup rfl (qgs_cons (qg_name 2 sc.nd rfl (by first | exact Or.inl rfl | exact Or.inr rfl)) (qgs_cons (qg_name 3 sc.nd rfl (by first | exact Or.inl rfl | exact Or.inr rfl)) qgs_nil)))) (fun _ _ _ _ _ => (qts_one (qt_cmp op_gt bCmp_snd (qe_var 3) qe_int (nomark _)))) (fun _ _ _ _ _ => (qe_op op_addA bAdd_snd (qe_callTy call_str_int bStrI_snd (by rfl) B.str (by decide +kernel) (qa_cons (qe_var 3) qa_nil)) (qe_ix ix_seq bIxT_snd qe_txt (qe_var 2) (fun _ _ => rfl)))))
    (qss_one (qs_ret (qe_if (qt_cmp (op_neD hr.units) bNe_snd (qe_var 1) (qe_lst qa_nil) (nomark _)) (qe_join qe_txt (qe_var 1)) qe_txt))))
  exact z
def s_law_spoilt : Stmt := topS 47
theorem sc_law_spoilt : FnScope ["dice", "text", "signs", "at", "act", "sign"] ["dice", "text", "signs"] (defScope s_law_spoilt) := ⟨rfl, rfl, rfl, by decide +kernel, rfl, by decide +kernel, by decide +kernel⟩
theorem ok_law_spoilt (At : DefAt mg G.K "_law_spoilt" s_law_spoilt ["dice", "text", "signs"]) (B : Blt mg) (D__law_roll : DefOk P w mg base G 2 "_law_roll" 2 f_law_roll) : DefOk P w mg base G 3 "_law_spoilt" 3 f_law_spoilt := by
  have sc := sc_law_spoilt
  have z := @def_ok P w mg base G "_law_spoilt" s_law_spoilt ["dice", "text", "signs", "at", "act", "sign"] ["dice", "text", "signs"] 2 3 b_law_spoilt At sc rfl (by decide) fun f cdv A outer s H E hr => by
    have tk : L2N.Takes (cxOf (L2N.CX P w) P w G.K mg base ["dice", "text", "signs", "at", "act", "sign"] "_law_spoilt" (defScope s_law_spoilt) f cdv A outer s H E) (fun cls d _ H => E cls d H) := L2N.takes_of rfl rfl rfl rfl
    unfold b_law_spoilt
    exact (qss_cons (qs_par 3 4 rfl sc.nd rfl rfl (by decide) rfl rfl (qa_cons (qe_callD D__law_roll hr (by decide) (by rfl) (pasE tk) (qa_cons (qe_var 0) (qa_cons (qe_op op_addA bAdd_snd (qe_callB call_len_str bLenT_snd (by rfl) B.len (by decide +kernel) (qa_cons (qe_var 1) qa_nil)) qe_int) qa_nil))) (qa_cons (qe_callD D__law_roll hr (by decide) (by rfl) (pasE tk) (qa_cons (qe_var 0) (qa_cons qe_int qa_nil))) qa_nil)) (by rfl))
    (qss_cons (qs_set 5 sc.nd rfl (by first | exact Or.inl rfl | exact Or.inr rfl) (qe_if (qt_cmp op_lt bCmp_snd (qe_var 4) qe_int (nomark _)) (qe_ix ix_seq bIxT_snd (qe_var 2) (qe_callD D__law_roll hr (by decide) (by rfl) (pasE tk) (qa_cons (qe_var 0) (qa_cons (qe_callB call_len_str bLenT_snd (by rfl) B.len (by decide +kernel) (qa_cons (qe_var 2) qa_nil)) qa_nil))) (fun _ _ => rfl)) qe_txt))
    (qss_one (qs_ret (qe_op op_addA bAdd_snd (qe_op op_addA bAdd_snd (qe_sliceT (qe_var 1) qo_none (qo_some (qe_var 3))) (qe_var 5)) (qe_sliceT (qe_var 1) (qo_some (qe_op op_addA bAdd_snd (qe_var 3) (qe_callTy call_int1 bInt1_snd (by rfl) B.int (by decide +kernel) (qa_cons (qe_cmp op_gt bCmp_snd (qe_var 4) qe_int (nomark _)) qa_nil)))) qo_none))))))
  exact z
def s_law : Stmt := topS 48
theorem sc_law : FnScope ["script", "dice", "moves", "row", "turn", "lines", "move", "text", "words", "at", "many", "short", "bent", "told", "more"] ["script"] (defScope s_law) := ⟨rfl, rfl, rfl, by decide +kernel, rfl, by decide +kernel, by decide +kernel⟩
theorem ok_law {f cL PL : Addr} {od an : Option Addr} {osl : Array (Option Value)} {oc kV doc pm ct : Value} (lk : G.K.lookup f = some ⟨oc, od, .func (PySem.W.fnOf "law" "law" (defArgs s_law) (defBody s_law) (defScope s_law) .none kV doc pm an (.ref cL) ct), osl⟩) (hcd : PySem.W.codeIn G.K (.ref cL) "law" = true) (TF : ToldF mg G.K G.cl CS s_law_told s_law_term) (TB : LamX.TabB base mg cL PL) (hmT : (PL, (Str.ofString "law" ++ Str.ofString ".<locals>.") ++ Str.ofString "<lambda>") ∈ G.T) (hu : ∀ p ∈ G.T, p.1 = PL → p.2 = (Str.ofString "law" ++ Str.ofString ".<locals>.") ++ Str.ofString "<lambda>") (B : Blt mg) (D__law_any_moves : DefOk P w mg base G 4 "_law_any_moves" 2 f_law_any_moves) (D__law_heaps_text : DefOk P w mg base G 1 "_law_heaps_text" 1 f_law_heaps_text) (D__law_roll : DefOk P w mg base G 2 "_law_roll" 2 f_law_roll) (D__law_rounds : DefOk P w mg base G 2 "_law_rounds" 2 f_law_rounds) (D__law_spoilt : DefOk P w mg base G 3 "_law_spoilt" 3 f_law_spoilt) (D_is_moves : DefOk P w mg base G 4 "is_moves" 1 f_is_moves) (D_move_text : DefOk P w mg base G 4 "move_text" 1 f_move_text) (D_moves_text : DefOk P w mg base G 6 "moves_text" 1 f_moves_text) (D_read_moves : DefOk P w mg base G 7 "read_moves" 1 f_read_moves) (D_read_row : DefOk P w mg base G 7 "read_row" 2 f_read_row) (D_row_text : DefOk P w mg base G 6 "row_text" 2 f_row_text) : FnOk P w G.K mg base (L2N.CX P w) 11 f (PySem.W.fnOf "law" "law" (defArgs s_law) (defBody s_law) (defScope s_law) .none kV doc pm an (.ref cL) ct) ["script"] (spF G 1 f_law) := by
  have sc := sc_law
  have z := @law_okT P w mg base G "law" s_law ["script", "dice", "moves", "row", "turn", "lines", "move", "text", "words", "at", "many", "short", "bent", "told", "more"] ["script"] 10 1 b_law f (.ref cL) oc kV doc pm ct od an osl lk hcd sc rfl (by decide) fun A outer s H E hr => by
    have tk : L2N.Takes (cxOf (L2N.CX P w) P w G.K mg base ["script", "dice", "moves", "row", "turn", "lines", "move", "text", "words", "at", "many", "short", "bent", "told", "more"] "law" (defScope s_law) f (.ref cL) A outer s H E) (fun cls d _ H => E cls d H) := L2N.takes_of rfl rfl rfl rfl
    unfold b_law law_L5 law_L4 law_L3 law_L2 law_C2 law_C1 law_L1
    exact (qss_cons (qs_forO (vs := [1]) (passes_of rfl) rfl (qe_callD D__law_rounds hr (by decide) (by rfl) (pasE tk) (qa_cons (qe_var 0) (qa_cons qe_int qa_nil))) (qg_name 1 sc.nd rfl (by first | exact Or.inl rfl | exact Or.inr rfl))
    (qss_cons (qs_asg (vs := [2, 3]) (qe_tup (qa_cons (qe_callD D__law_any_moves hr (by decide) (by rfl) (pasE tk) (qa_cons (qe_var 1) (qa_cons qe_int qa_nil))) (qa_cons (qe_lst qa_nil) qa_nil))) (qg_tup rfl (qgs_cons (qg_name 2 sc.nd rfl (by first | exact Or.inl rfl | exact Or.inr rfl)) (qgs_cons (qg_name 3 sc.nd rfl (by first | exact Or.inl rfl | exact Or.inr rfl)) qgs_nil))))
    (qss_cons (qs_for (vs := [4]) (passes_of rfl) rfl (qi_rng1 (by rfl) B.range (qa_cons (qe_callD D__law_roll hr (by decide) (by rfl) (pasE tk) (qa_cons (qe_var 1) (qa_cons qe_int qa_nil))) qa_nil)) (qg_name 4 sc.nd rfl (by first | exact Or.inl rfl | exact Or.inr rfl))
    (qss_one (qs_set 3 sc.nd rfl (by first | exact Or.inl rfl | exact Or.inr rfl) (qe_op op_addA bAdd_snd (qe_var 3) (qe_op op_mulAll bMul_snd (qe_lst (qa_cons (qe_callD D__law_roll hr (by decide) (by rfl) (pasE tk) (qa_cons (qe_var 1) (qa_cons (qe_callB call_len_seq bLen_snd (by rfl) B.len (by decide +kernel) (qa_cons (qe_var 2) qa_nil)) qa_nil))) qa_nil)) (qe_op op_addA bAdd_snd qe_int (qe_callD D__law_roll hr (by decide) (by rfl) (pasE tk) (qa_cons (qe_var 1) (qa_cons qe_int qa_nil)))))))))
    (qss_cons (qs_setLc 5 (own := [("move", 6)]) rfl sc.nd rfl rfl (sw_true rfl rfl rfl (by decide +kernel)) (qi_seq (qe_var 2)) (blkOk_by (own := [("move", 6)]) (by kernel_rfl)) (fun _ _ _ _ _ => (qg_name 6 sc.nd rfl (by first | exact Or.inl rfl | exact Or.inr rfl))) (fun _ _ _ _ _ => qts_nil) (fun _ _ _ _ _ => (qe_op op_addA bAdd_snd (qe_op op_addA bAdd_snd (qe_callD D__law_heaps_text hr (by decide) (by rfl) pasF (qa_cons (qe_ix ix_seq bIx_snd (qe_var 6) qe_int (fun _ _ => rfl)) qa_nil)) qe_txt) (qe_callD D__law_heaps_text hr (by decide) (by rfl) pasF (qa_cons (qe_ix ix_seq bIx_snd (qe_var 6) qe_int (fun _ _ => rfl)) qa_nil)))))
    (qss_cons (qs_if (qt_cmp (op_neD hr.units) bNe_snd (qe_lc (own := [("move", 6)]) rfl sc.nd (qi_seq (qe_var 2)) (blkOk_by (own := [("move", 6)]) (by kernel_rfl)) (fun _ _ _ _ _ => (qg_name 6 sc.nd rfl (by first | exact Or.inl rfl | exact Or.inr rfl))) (fun _ _ _ _ _ => qts_nil) (fun _ _ _ _ _ => (qe_callD D_move_text hr (by decide) (by rfl) pasF (qa_cons (qe_var 6) qa_nil)))) (qe_var 5) (nomark _)) (qss_one (qs_ret qe_bl)) qss_nil)
    (qss_cons (qs_set 7 sc.nd rfl (by first | exact Or.inl rfl | exact Or.inr rfl) (qe_callD D_moves_text hr (by decide) (by rfl) (pasE tk) (qa_cons (qe_var 2) qa_nil)))
    (qss_cons (qs_if (PW.pt (qw_or (qt_cmp (op_neD hr.units) bNe_snd (qe_var 7) (qe_join qe_txt (qe_op op_addA bAdd_snd (qe_lst (qa_cons (qe_callTy call_str_int bStrI_snd (by rfl) B.str (by decide +kernel) (qa_cons (qe_callB call_len_seq bLen_snd (by rfl) B.len (by decide +kernel) (qa_cons (qe_ix ix_seq bIx_snd (qe_ix ix_seq bIx_snd (qe_var 2) qe_int (fun _ _ => rfl)) qe_int (fun _ _ => rfl)) qa_nil)) qa_nil)) qa_nil)) (qe_var 5))) (nomark _)) (qw_or1 (qt_cmp (op_neD hr.units) bNe_snd (qe_callD D_read_moves hr (by decide) (by rfl) (pasE tk) (qa_cons (qe_var 7) qa_nil)) (qe_var 2) (nomark _))))) (qss_one (qs_ret qe_bl)) qss_nil)
    (qss_cons (qs_par 8 9 rfl sc.nd rfl rfl (by decide) rfl rfl (qa_cons (qe_new qa_nil) (qa_cons qe_int qa_nil)) (by rfl))
    (qss_cons (qs_while (passes_of rfl) (qt_cmp op_lt bCmp_snd (qe_var 9) (qe_callB call_len_seq bLen_snd (by rfl) B.len (by decide +kernel) (qa_cons (qe_var 3) qa_nil)) (nomark _)) (qss_cons (qs_set 10 sc.nd rfl (by first | exact Or.inl rfl | exact Or.inr rfl) qe_int)
    (qss_cons (qs_while (passes_of rfl) (PW.pt (qw_and (qt_cmp op_lt bCmp_snd (qe_op op_addA bAdd_snd (qe_var 9) (qe_var 10)) (qe_callB call_len_seq bLen_snd (by rfl) B.len (by decide +kernel) (qa_cons (qe_var 3) qa_nil)) (nomark _)) (qw_and1 (qt_cmp (op_eqD hr.units) bEq_snd (qe_ix ix_seq bIx_snd (qe_var 3) (qe_op op_addA bAdd_snd (qe_var 9) (qe_var 10)) (fun _ _ => rfl)) (qe_ix ix_seq bIx_snd (qe_var 3) (qe_var 9) (fun _ _ => rfl)) (nomark _))))) (qss_one (qs_set 10 sc.nd rfl (by first | exact Or.inl rfl | exact Or.inr rfl) (qe_op op_addA bAdd_snd (qe_var 10) qe_int))))
    (qss_cons (qs_expr (qe_app (qe_var 8) (qe_op op_addA bAdd_snd (qe_op op_addA bAdd_snd (qe_callTy call_str_int bStrI_snd (by rfl) B.str (by decide +kernel) (qa_cons (qe_ix ix_seq bIx_snd (qe_var 3) (qe_var 9) (fun _ _ => rfl)) qa_nil)) qe_txt) (qe_callTy call_str_int bStrI_snd (by rfl) B.str (by decide +kernel) (qa_cons (qe_var 10) qa_nil)))))
    (qss_one (qs_set 9 sc.nd rfl (by first | exact Or.inl rfl | exact Or.inr rfl) (qe_op op_addA bAdd_snd (qe_var 9) (qe_var 10))))))))
    (qss_cons (qs_set 11 sc.nd rfl (by first | exact Or.inl rfl | exact Or.inr rfl) (qe_callD D_row_text hr (by decide) (by rfl) (pasE tk) (qa_cons (qe_var 2) (qa_cons (qe_var 3) qa_nil))))
    (qss_cons (qs_if (PW.pt (qw_or (qt_cmp (op_neD hr.units) bNe_snd (qe_var 11) (qe_if (qt_cmp (op_neD hr.units) bNe_snd (qe_var 8) (qe_lst qa_nil) (nomark _)) (qe_join qe_txt (qe_var 8)) qe_txt) (nomark _)) (qw_or1 (qt_cmp (op_neD hr.units) bNe_snd (qe_callD D_read_row hr (by decide) (by rfl) (pasE tk) (qa_cons (qe_var 2) (qa_cons (qe_var 11) qa_nil))) (qe_var 3) (nomark _))))) (qss_one (qs_ret qe_bl)) qss_nil)
    (qss_one (qs_for (vs := [4]) (passes_of rfl) rfl (qi_rng1 (by rfl) B.range (qa_cons qe_int qa_nil)) (qg_name 4 sc.nd rfl (by first | exact Or.inl rfl | exact Or.inr rfl))
    (qss_cons (qs_set 12 sc.nd rfl (by first | exact Or.inl rfl | exact Or.inr rfl) (qe_callD D__law_spoilt hr (by decide) (by rfl) (pasE tk) (qa_cons (qe_var 1) (qa_cons (qe_var 7) (qa_cons qe_txt qa_nil)))))
    (qss_cons (qs_set 13 sc.nd rfl (by first | exact Or.inl rfl | exact Or.inr rfl) (qe_told (k := 7) TF (by rfl) TB rfl hmT hu (hr.mono (by decide)) (LamX.lamS_by (by kernel_rfl)) rfl (fun _ _ _ _ _ => rfl) (fun _ _ _ _ _ _ _ hr => (qe_callD D_read_moves hr (by decide) (by rfl) (pasE takesLam) (qa_cons (qe_var 12) qa_nil)))))
    (qss_cons (qs_if (PW.pt (qw_and (qt_cmp (op_neD hr.units) bNe_snd (qe_var 13) (qe_tup (qa_cons qe_str (qa_cons qe_str qa_nil))) (nomark _)) (qw_and1 (PW.pt (qw_or (qt_not (qt_val (qe_callD D_is_moves hr (by decide) (by rfl) (pasE tk) (qa_cons (qe_var 13) qa_nil)))) (qw_or1 (qt_cmp (op_neD hr.units) bNe_snd (qe_callD D_moves_text hr (by decide) (by rfl) (pasE tk) (qa_cons (qe_var 13) qa_nil)) (qe_var 12) (nomark _)))))))) (qss_one (qs_ret qe_bl)) qss_nil)
    (qss_cons (qs_set 14 sc.nd rfl (by first | exact Or.inl rfl | exact Or.inr rfl) (qe_callD D__law_spoilt hr (by decide) (by rfl) (pasE tk) (qa_cons (qe_var 1) (qa_cons (qe_var 11) (qa_cons qe_txt qa_nil)))))
    (qss_cons (qs_set 13 sc.nd rfl (by first | exact Or.inl rfl | exact Or.inr rfl) (qe_told (k := 7) TF (by rfl) TB rfl hmT hu (hr.mono (by decide)) (LamX.lamS_by (by kernel_rfl)) rfl (fun _ _ _ _ _ => rfl) (fun _ _ _ _ _ _ _ hr => (qe_callD D_read_row hr (by decide) (by rfl) (pasE takesLam) (qa_cons (qe_var 2) (qa_cons (qe_var 14) qa_nil))))))
    (qss_one (qs_if (PW.pt (qw_and (qt_cmp (op_neD hr.units) bNe_snd (qe_var 13) (qe_tup (qa_cons qe_str (qa_cons qe_str qa_nil))) (nomark _)) (qw_and1 (qt_cmp (op_neD hr.units) bNe_snd (qe_callD D_row_text hr (by decide) (by rfl) (pasE tk) (qa_cons (qe_var 2) (qa_cons (qe_var 13) qa_nil))) (qe_var 14) (nomark _))))) (qss_one (qs_ret qe_bl)) qss_nil))))))))))))))))))))
    (qss_one (qs_ret qe_bl)))
  exact z
end
end Y
end
section
set_option Elab.async false
set_option linter.all false
/-! Mth: how the combinators compute; moves, standings, rows as plain lists. -/
namespace Y
open PySem (PyData Str)
/-! ### rules for simp: all as equations of functions -/
section
variable {α β γ : Type} {loc : Loc} {st : Store}
@[simp] theorem ret_ap (a : α) : ret a st = .ok a st := rfl
@[simp] theorem bd_ret (a : α) (f : α → M β) : bd (ret a) f = f a := rfl
@[simp] theorem bd_die (f : α → M β) : bd die f = die := rfl
@[simp] theorem bd_thr (c : Nat) (f : α → M β) : bd (thr c) f = thr c := rfl
@[simp] theorem bd_bd (m : M α) (f : α → M β) (g : β → M γ) : bd (bd m f) g = bd m fun x => bd (f x) g := by
  funext st
  unfold bd
  cases m st <;> rfl
@[simp] theorem noex_ret (a : α) : noex (ret a) = ret a := rfl
theorem bd_eq {m : M α} {f : α → M β} {st s : Store} {a : α} (h : m st = .ok a s) : bd m f st = f a s := by
  unfold bd
  rw [h]
theorem bd_ex {m : M α} {f : α → M β} {st s : Store} {c : Nat} (h : m st = .ex c s) : bd m f st = .ex c s := by
  unfold bd
  rw [h]
theorem noex_eq {m : M α} {st s : Store} {a : α} (h : m st = .ok a s) : noex m st = .ok a s := by
  unfold noex
  rw [h]
@[simp] theorem eV_zero (v : Val) (l : Loc) : eV 0 (some v :: l) = ret v := rfl
@[simp] theorem eV_succ (i : Nat) (x : Option Val) (l : Loc) : eV (i + 1) (x :: l) = eV i l := rfl
@[simp] theorem eC_eq (x : D) : eC x loc = ret (.d x) := rfl
@[simp] theorem eO_eq (op : Val → Val → M Val) (a b : E) : eO op a b loc = bd (a loc) fun x => bd (b loc) fun y => op x y := rfl
@[simp] theorem eU_eq (op : Val → M Val) (a : E) : eU op a loc = bd (a loc) op := rfl
@[simp] theorem aN_eq : aN loc = ret [] := rfl
@[simp] theorem aC_eq (e : E) (as : A) : aC e as loc = bd (e loc) fun x => bd (as loc) fun xs => ret (x :: xs) := rfl
@[simp] theorem eB_eq (b : List Val → M Val) (as : A) : eB b as loc = bd (as loc) b := rfl
@[simp] theorem tV_eq (e : E) : tV e loc = bd (e loc) asB := rfl
@[simp] theorem tAn_eq (t u : Tst) : tAn t u loc = bd (t loc) fun b => if b = true then u loc else ret false := rfl
@[simp] theorem tOrr_eq (t u : Tst) : tOrr t u loc = bd (t loc) fun b => if b = true then ret true else u loc := rfl
@[simp] theorem tNo_eq (t : Tst) : tNo t loc = bd (t loc) fun b => ret (!b) := rfl
@[simp] theorem tTr_eq : tTr loc = ret true := rfl
@[simp] theorem eAn_eq (a b : E) : eAn a b loc = bd (a loc) fun v => bd (asB v) fun c => if c = true then b loc else ret (vB false) := rfl
@[simp] theorem eOr_eq (a b : E) : eOr a b loc = bd (a loc) fun v => bd (asB v) fun c => if c = true then ret (vB true) else b loc := rfl
@[simp] theorem eNo_eq (a : E) : eNo a loc = bd (a loc) fun v => bd (asB v) fun c => ret (vB (!c)) := rfl
@[simp] theorem eIf_eq (t : Tst) (a b : E) : eIf t a b loc = bd (t loc) fun c => if c = true then a loc else b loc := rfl
@[simp] theorem eCh_eq (o1 o2 : Val → Val → M Val) (a b c : E) : eCh o1 o2 a b c loc = bd (a loc) fun x => bd (b loc) fun y => bd (o1 x y) fun r => bd (asB r) fun k => if k = true then bd (c loc) fun z => o2 y z else ret (vB false) := rfl
@[simp] theorem asB_eq (b : Bool) : asB (.d (.bool b)) = ret b := rfl
@[simp] theorem asI_eq (b : Int) : asI (.d (.int b)) = ret b := rfl
@[simp] theorem vB_eq (b : Bool) : vB b = .d (.bool b) := rfl
@[simp] theorem vI_eq (b : Int) : vI b = .d (.int b) := rfl
@[simp] theorem sNil_eq : sNil loc = ret (.nx, loc) := rfl
@[simp] theorem sSeq_eq (a b : S) : sSeq a b loc = bd (a loc) fun r => match r.1 with
  | .nx => b r.2
  | _ => ret r := rfl
@[simp] theorem sRet_eq (e : E) : sRet e loc = bd (e loc) fun v => ret (.rt v, loc) := rfl
@[simp] theorem sAsg_eq (e : E) (g : G) : sAsg e g loc = bd (e loc) fun v => bd (g v loc) fun l => ret (.nx, l) := rfl
@[simp] theorem sExp_eq (e : E) : sExp e loc = bd (e loc) fun _ => ret (.nx, loc) := rfl
@[simp] theorem sIf_eq (t : Tst) (a b : S) : sIf t a b loc = bd (t loc) fun c => if c = true then a loc else b loc := rfl
@[simp] theorem sRaise_eq (c : Nat) : sRaise c loc = thr c := rfl
@[simp] theorem sPar_eq (i j : Nat) (a b : E) : sPar i j a b loc = bd (a loc) fun v => bd (b loc) fun w => ret (.nx, (loc.set i (some v)).set j (some w)) := rfl
@[simp] theorem sFor_eq (it : I) (g : G) (b : S) : sFor it g b loc = bd (it loc) fun xs => forL (fBody g b) xs loc := rfl
@[simp] theorem gN_eq (i : Nat) (v : Val) : gN i v loc = ret (loc.set i (some v)) := rfl
@[simp] theorem gT_eq (n : Nat) (gs : Gs) (ds : List D) : gT n gs (.d (.tuple ds)) loc = if ds.length = n then gs (ds.map .d) loc else die := rfl
@[simp] theorem gsN_eq : gsN [] loc = ret loc := rfl
@[simp] theorem gsC_eq (g : G) (gs : Gs) (v : Val) (r : List Val) : gsC g gs (v :: r) loc = bd (g v loc) fun l => gs r l := rfl
@[simp] theorem cBody_eq (g : G) (t : Tst) (e : E) (x : Val) : cBody g t e loc x = bd (g x loc) fun l => bd (t l) fun b => if b = true then bd (e l) fun y => ret (some y) else ret none := rfl
@[simp] theorem fBody_eq (g : G) (b : S) (x : Val) : fBody g b x loc = bd (g x loc) b := rfl
@[simp] theorem fix1 (f : List Val → M Val) (a : Val) : fixN 1 f [a] = f [a] := rfl
@[simp] theorem fix2 (f : List Val → M Val) (a b : Val) : fixN 2 f [a, b] = f [a, b] := rfl
@[simp] theorem fix3 (f : List Val → M Val) (a b c : Val) : fixN 3 f [a, b, c] = f [a, b, c] := rfl
@[simp] theorem fix4 (f : List Val → M Val) (a b c d : Val) : fixN 4 f [a, b, c, d] = f [a, b, c, d] := rfl
@[simp] theorem wip_nil : wip loc [] = loc := rfl
@[simp] theorem wip_cons (v : Nat) (vs : List Nat) : wip loc (v :: vs) = (wip loc vs).set v none := rfl
theorem runF_eq (n : Nat) (b : S) (as : List Val) : runF n b as = bd (b (as.map some ++ List.replicate (n - as.length) none)) fun r => match r.1 with
    | .rt v => ret v
    | .nx => ret (.d .none)
    | _ => die := rfl
/-! operators -/
@[simp] theorem bAdd_int (i j : Int) : bAdd (.d (.int i)) (.d (.int j)) = ret (.d (.int (i + j))) := rfl
@[simp] theorem bSub_int (i j : Int) : bSub (.d (.int i)) (.d (.int j)) = ret (.d (.int (i - j))) := rfl
@[simp] theorem bNeg_int (i : Int) : bNeg (.d (.int i)) = ret (.d (.int (-i))) := rfl
@[simp] theorem bLt_int (i j : Int) : bLt (.d (.int i)) (.d (.int j)) = ret (.d (.bool (decide (i < j)))) := rfl
@[simp] theorem bLe_int (i j : Int) : bLe (.d (.int i)) (.d (.int j)) = ret (.d (.bool (decide (i ≤ j)))) := rfl
@[simp] theorem bGt_int (i j : Int) : bGt (.d (.int i)) (.d (.int j)) = ret (.d (.bool (decide (j < i)))) := rfl
@[simp] theorem bGe_int (i j : Int) : bGe (.d (.int i)) (.d (.int j)) = ret (.d (.bool (decide (j ≤ i)))) := rfl
@[simp] theorem bLen_tup (xs : List D) : bLen [.d (.tuple xs)] = ret (.d (.int xs.length)) := rfl
@[simp] theorem bLen_lst (xs : List D) : bLen [.d (.list xs)] = ret (.d (.int xs.length)) := rfl
@[simp] theorem bLen_s (xs : List Int) : bLen [.s xs] = ret (.d (.int xs.length)) := rfl
@[simp] theorem bTuple_lst (xs : List D) : bTuple [.d (.list xs)] = ret (.d (.tuple xs)) := rfl
@[simp] theorem bTuple_tup (xs : List D) : bTuple [.d (.tuple xs)] = ret (.d (.tuple xs)) := rfl
@[simp] theorem bIsN_eq (v : Val) : bIsN v = ret (.d (.bool (isN v))) := rfl
@[simp] theorem bNotN_eq (v : Val) : bNotN v = ret (.d (.bool (!isN v))) := rfl
@[simp] theorem bMax2_eq (i j : Int) : bMax2 [.d (.int i), .d (.int j)] = ret (.d (.int (if j > i then j else i))) := rfl
@[simp] theorem bMin2_eq (i j : Int) : bMin2 [.d (.int i), .d (.int j)] = ret (.d (.int (if j < i then j else i))) := rfl
@[simp] theorem bMod_int (i j : Int) : bMod (.d (.int i)) (.d (.int j)) = if 0 < j then ret (.d (.int (i % j))) else die := rfl
@[simp] theorem bDiv_int (i j : Int) : bDiv (.d (.int i)) (.d (.int j)) = if 0 < j ∧ j.natAbs.log2 < 9000 then ret (.d (.int (i / j))) else die := rfl
@[simp] theorem bMul_int (i j : Int) : bMul (.d (.int i)) (.d (.int j)) = if mulOk i j = true then ret (.d (.int (i * j))) else die := rfl
@[simp] theorem bMul_tup (xs : List D) (k : Int) : bMul (.d (.tuple xs)) (.d (.int k)) = if 1 ≤ k ∧ k ≤ 1000 ∧ 1 ≤ xs.length ∧ xs.length ≤ 1000 then ret (.d (.tuple (repD k xs))) else die := rfl
@[simp] theorem bAdd_lst (xs ys : List D) : bAdd (.d (.list xs)) (.d (.list ys)) = if xs.length + ys.length ≤ lim then ret (.d (.list (xs ++ ys))) else die := rfl
@[simp] theorem bAdd_tup (xs ys : List D) : bAdd (.d (.tuple xs)) (.d (.tuple ys)) = if xs.length + ys.length ≤ lim then ret (.d (.tuple (xs ++ ys))) else die := rfl
@[simp] theorem bIx_tup (xs : List D) (i : Int) : bIx (.d (.tuple xs)) (.d (.int i)) = bd (oget (atI xs i)) fun x => ret (.d x) := rfl
@[simp] theorem bIx_lst (xs : List D) (i : Int) : bIx (.d (.list xs)) (.d (.int i)) = bd (oget (atI xs i)) fun x => ret (.d x) := rfl
@[simp] theorem oget_some (a : α) : oget (some a) = ret a := rfl
@[simp] theorem oget_none : oget (none : Option α) = die := rfl
@[simp] theorem snap_d (x : D) : snap (.d x) = ret x := rfl
@[simp] theorem seqOf_tup (ds : List D) : seqOf (.d (.tuple ds)) = ret ds := rfl
@[simp] theorem seqOf_lst (ds : List D) : seqOf (.d (.list ds)) = ret ds := rfl
theorem eqD_eq {x y : D} (h : PySem.SeqAt.shaped x = true) (h' : PySem.SeqAt.shaped y = true) : eqD x y = ret (PyData.eqv x y) := by
  unfold eqD
  rw [if_pos ⟨h, h'⟩]
@[simp] theorem shaped_int (i : Int) : PySem.SeqAt.shaped (.int i) = true := rfl
@[simp] theorem shaped_bool (i : Bool) : PySem.SeqAt.shaped (.bool i) = true := rfl
@[simp] theorem shaped_none : PySem.SeqAt.shaped .none = true := rfl
@[simp] theorem bEq_d (x y : D) : bEq (.d x) (.d y) = bd (eqD x y) fun r => ret (.d (.bool r)) := rfl
@[simp] theorem bNe_d (x y : D) : bNe (.d x) (.d y) = bd (eqD x y) fun r => ret (.d (.bool (!r))) := rfl
@[simp] theorem eqD_int (i j : Int) : eqD (.int i) (.int j) = ret (i == j) := by
  rw [eqD_eq rfl rfl]
  rfl
@[simp] theorem eqD_bool (i j : Bool) : eqD (.bool i) (.bool j) = ret (i == j) := by
  rw [eqD_eq rfl rfl]
  rfl
@[simp] theorem iSeq_eq (e : E) : iSeq e loc = bd (e loc) fun v => bd (seqOf v) fun ds => ret (ds.map .d) := rfl
@[simp] theorem iCall_eq (k : List Val → M (List Val)) (as : A) : iCall k as loc = bd (as loc) k := rfl
@[simp] theorem kZip2_eq (v w : Val) : kZip2 [v, w] = bd (seqOf v) fun xs => bd (seqOf w) fun ys => ret (zip2 xs ys) := rfl
@[simp] theorem kZip3_eq (v w u : Val) : kZip3 [v, w, u] = bd (seqOf v) fun xs => bd (seqOf w) fun ys => bd (seqOf u) fun zs => ret (zip3 xs ys zs) := rfl
@[simp] theorem kEnumL_eq (ds : List D) : kEnumL [.d (.list ds)] = ret (enumF 0 ds) := rfl
@[simp] theorem kEnumS_lst (ds : List D) : kEnumS [.d (.list ds)] = ret (enumF 0 ds) := rfl
@[simp] theorem kEnumS_tup (ds : List D) : kEnumS [.d (.tuple ds)] = ret (enumF 0 ds) := rfl
@[simp] theorem bIsB_eq (b c : Bool) : bIsB b (.d (.bool c)) = ret (.d (.bool (c == b))) := rfl
@[simp] theorem bNotB_eq (b c : Bool) : bNotB b (.d (.bool c)) = ret (.d (.bool (!(c == b)))) := rfl
@[simp] theorem kRg1_eq (n : Int) : kRg1 [.d (.int n)] = if -1000000 ≤ n ∧ n ≤ 1000000 then ret (rng 0 n.toNat) else die := rfl
@[simp] theorem eSl_eq (e : E) (lo hi : Oe) : eSl e lo hi loc = bd (e loc) fun v => bd (lo loc) fun l => bd (hi loc) fun h => bSl v l h := rfl
@[simp] theorem oN_eq : oN loc = ret none := rfl
@[simp] theorem oS_eq (e : E) : oS e loc = bd (e loc) fun v => bd (asI v) fun i => ret (some i) := rfl
@[simp] theorem bSl_tup (xs : List D) (lo hi : Option Int) : bSl (.d (.tuple xs)) lo hi = ret (.d (.tuple (cutD xs lo hi))) := rfl
@[simp] theorem bSl_lst (xs : List D) (lo hi : Option Int) : bSl (.d (.list xs)) lo hi = ret (.d (.list (cutD xs lo hi))) := rfl
@[simp] theorem bIsi_none (T : String) : bIsi T (.d .none) = ret (.d (.bool false)) := rfl
@[simp] theorem bIsi_bool (T : String) (b : Bool) : bIsi T (.d (.bool b)) = ret (.d (.bool (T == "int" || T == "bool"))) := rfl
@[simp] theorem bIsi_int (T : String) (b : Int) : bIsi T (.d (.int b)) = ret (.d (.bool (T == "int"))) := rfl
@[simp] theorem bIsi_str (T : String) (b : Str) : bIsi T (.d (.str b)) = ret (.d (.bool (T == "str"))) := rfl
@[simp] theorem bIsi_list (T : String) (b : List D) : bIsi T (.d (.list b)) = ret (.d (.bool (T == "list"))) := rfl
@[simp] theorem bIsi_tuple (T : String) (b : List D) : bIsi T (.d (.tuple b)) = ret (.d (.bool (T == "tuple"))) := rfl
@[simp] theorem bTup_eq1 (a : D) : bTup [.d a] = ret (.d (.tuple [a])) := rfl
@[simp] theorem bTup_eq2 (a b : D) : bTup [.d a, .d b] = ret (.d (.tuple [a, b])) := rfl
@[simp] theorem bTup_eq0 : bTup [] = ret (.d (.tuple [])) := rfl
@[simp] theorem bLst_eq0 : bLst [] = ret (.d (.list [])) := rfl
@[simp] theorem bLst_eq1 (a : D) : bLst [.d a] = ret (.d (.list [a])) := rfl
@[simp] theorem bLst_eq5 (a b c d e : D) : bLst [.d a, .d b, .d c, .d d, .d e] = ret (.d (.list [a, b, c, d, e])) := rfl
end
/-! ### comprehensions -/
theorem compL_pure {α : Type} {body : Val → M (Option Val)} (enc : α → Val) (h : α → Option Val) : ∀ (L : List α), (∀ p ∈ L, body (enc p) = ret (h p)) → compL body (L.map enc) = ret (L.filterMap h)
  | [], _ => rfl
  | p :: L, hp => by
    show bd (body (enc p)) _ = _
    rw [hp p List.mem_cons_self, bd_ret, compL_pure enc h L fun q hq => hp q (List.mem_cons_of_mem _ hq), bd_ret]
    show ret (consO (h p) (L.filterMap h)) = _
    cases e : h p with
    | none => rw [List.filterMap_cons_none e]; rfl
    | some y => rw [List.filterMap_cons_some e]; rfl
theorem toDs_map {α : Type} (h : α → D) : ∀ L : List α, toDs (L.map fun p => .d (h p)) = some (L.map h)
  | [] => rfl
  | p :: L => by
    show (toDs (L.map fun p => .d (h p))).map (h p :: ·) = _
    rw [toDs_map h L]
    rfl
theorem filterMap_some {α β : Type} (h : α → β) : ∀ L : List α, L.filterMap (fun p => some (h p)) = L.map h
  | [] => rfl
  | p :: L => by
    rw [List.filterMap_cons_some (f := fun p => some (h p)) (b := h p) rfl, filterMap_some h L]
    rfl
theorem bLst_map {α : Type} (h : α → D) (L : List α) (hl : L.length ≤ lim) : bLst (L.map fun p => .d (h p)) = ret (.d (.list (L.map h))) := by
  unfold bLst
  rw [toDs_map]
  dsimp only
  rw [if_pos (by rw [List.length_map]; exact hl)]
/-- every item gives one -/
theorem eLc_map {α : Type} {it : I} {g : G} {t : Tst} {e : E} {vs : List Nat} {loc : Loc} (L : List α) (enc : α → Val) (h : α → D) (hi : it loc = ret (L.map enc)) (hl : L.length ≤ lim)
    (hb : ∀ p ∈ L, cBody g t e (wip loc vs) (enc p) = ret (some (.d (h p)))) : eLc it g t e vs loc = ret (.d (.list (L.map h))) := by
  unfold eLc
  rw [hi, bd_ret, if_pos (by rw [List.length_map]; exact hl), compL_pure enc (fun p => some (.d (h p))) L hb, noex_ret, bd_ret, filterMap_some, bLst_map h L hl]
theorem filterMap_if {α β : Type} (p : α → Bool) (h : α → β) : ∀ L : List α, L.filterMap (fun x => if p x = true then some (h x) else none) = (L.filter p).map h
  | [] => rfl
  | x :: L => by
    by_cases e : p x = true
    · rw [List.filterMap_cons_some (by rw [if_pos e]), List.filter_cons_of_pos e, filterMap_if p h L]; rfl
    · rw [List.filterMap_cons_none (by rw [if_neg e]), List.filter_cons_of_neg e, filterMap_if p h L]
/-- some items give one -/
theorem eLc_filter {α : Type} {it : I} {g : G} {t : Tst} {e : E} {vs : List Nat} {loc : Loc} (L : List α) (enc : α → Val) (p : α → Bool) (h : α → D) (hi : it loc = ret (L.map enc)) (hl : L.length ≤ lim)
    (hb : ∀ x ∈ L, cBody g t e (wip loc vs) (enc x) = ret (if p x = true then some (.d (h x)) else none)) : eLc it g t e vs loc = ret (.d (.list ((L.filter p).map h))) := by
  have := List.length_filter_le p L
  unfold eLc
  rw [hi, bd_ret, if_pos (by rw [List.length_map]; exact hl), compL_pure enc (fun x => if p x = true then some (.d (h x)) else none) L hb, noex_ret, bd_ret, filterMap_if p (fun x => Val.d (h x)), bLst_map h (L.filter p) (by omega)]
/-! ### bools and ints within data -/
theorem toBs_map {α : Type} (h : α → Bool) : ∀ L : List α, toBs (L.map fun p => .bool (h p)) = some (L.map h)
  | [] => rfl
  | p :: L => by
    show (toBs (L.map fun p => .bool (h p))).map (h p :: ·) = _
    rw [toBs_map h L]
    rfl
theorem toIs_map {α : Type} (h : α → Int) : ∀ L : List α, toIs (L.map fun p => .int (h p)) = some (L.map h)
  | [] => rfl
  | p :: L => by
    show (toIs (L.map fun p => .int (h p))).map (h p :: ·) = _
    rw [toIs_map h L]
    rfl
theorem bAll_map {α : Type} (h : α → Bool) (L : List α) : bAll [.d (.list (L.map fun p => .bool (h p)))] = ret (.d (.bool (L.all h))) := by
  show bd (oget (toBs (L.map fun p => .bool (h p)))) (fun bs => ret (vB (bs.all id))) = _
  rw [toBs_map]
  show ret (vB ((L.map h).all id)) = _
  rw [List.all_map]
  rfl
theorem bAny_map {α : Type} (h : α → Bool) (L : List α) : bAny [.d (.list (L.map fun p => .bool (h p)))] = ret (.d (.bool (L.any h))) := by
  show bd (oget (toBs (L.map fun p => .bool (h p)))) (fun bs => ret (vB (bs.any id))) = _
  rw [toBs_map]
  show ret (vB ((L.map h).any id)) = _
  rw [List.any_map]
  rfl
/-! ### tuples of ints, moves -/
def tI (a : List Int) : D := .tuple (intsD a)
abbrev Mv := List Int × List Int
def eMv (m : Mv) : D := .tuple [tI m.1, tI m.2]
def eMs (ms : List Mv) : D := .tuple (ms.map eMv)
theorem zip2_ints : ∀ a b : List Int, zip2 (intsD a) (intsD b) = (a.zip b).map fun p => Val.d (.tuple [.int p.1, .int p.2])
  | [], b => by simp [intsD, zip2]
  | _ :: _, [] => by simp [intsD, zip2]
  | x :: a, y :: b => by
    show Val.d (.tuple [.int x, .int y]) :: zip2 (intsD a) (intsD b) = _
    rw [zip2_ints a b]
    rfl
theorem zip3_ints : ∀ a b c : List Int, zip3 (intsD a) (intsD b) (intsD c) = (a.zip (b.zip c)).map fun p => Val.d (.tuple [.int p.1, .int p.2.1, .int p.2.2])
  | [], b, c => by simp [intsD, zip3]
  | _ :: _, [], c => by simp [intsD, zip3]
  | _ :: _, _ :: _, [] => by simp [intsD, zip3]
  | x :: a, y :: b, z :: c => by
    show Val.d (.tuple [.int x, .int y, .int z]) :: zip3 (intsD a) (intsD b) (intsD c) = _
    rw [zip3_ints a b c]
    rfl
@[simp] theorem intsD_len (a : List Int) : (intsD a).length = a.length := by unfold intsD; rw [List.length_map]
/-! ### loops whose body leaves the store and goes on -/
theorem forL_fold {α σ : Type} {body : Val → S} (enc : α → Val) (env : σ → Loc) (f : σ → α → σ) : ∀ (L : List α) (s : σ), (∀ p ∈ L, ∀ s, body (enc p) (env s) = ret (.nx, env (f s p))) → forL body (L.map enc) (env s) = ret (.nx, env (L.foldl f s))
  | [], s, _ => rfl
  | p :: L, s, h => by
    show bd (body (enc p) (env s)) _ = _
    rw [h p List.mem_cons_self s]
    exact forL_fold enc env f L (f s p) fun q hq s => h q (List.mem_cons_of_mem _ hq) s
end Y
end
section
set_option Elab.async false
set_option linter.all false
set_option maxRecDepth 10000
set_option exponentiation.threshold 5000
namespace Y
open PySem (PyData Str)
/-! ### data without dicts, of sizes that stay small -/
mutual
def cl : D → Bool
  | .dict _ => false
  | .tuple ds => clA ds && decide (ds.length ≤ lim)
  | .list ds => clA ds && decide (ds.length ≤ lim)
  | _ => true
def clA : List D → Bool
  | [] => true
  | x :: xs => cl x && clA xs
end
theorem clA_iff : ∀ ds : List D, clA ds = true ↔ ∀ x ∈ ds, cl x = true
  | [] => by simp [clA]
  | x :: xs => by simp [clA, clA_iff xs]
theorem cl_tup {ds : List D} (h : cl (.tuple ds) = true) : (∀ x ∈ ds, cl x = true) ∧ ds.length ≤ lim := by
  simp [cl, clA_iff] at h
  exact h
theorem cl_ints (a : List Int) (h : a.length ≤ lim) : cl (tI a) = true := by
  simp [tI, cl, clA_iff, h, intsD]
/-! ### wholes -/
def whB (lo hi : Int) : D → Bool
  | .int i => decide (lo ≤ i) && decide (i ≤ hi)
  | _ => false
theorem r_is_whole {x : D} (h : cl x = true) (lo hi : Int) : f_is_whole [.d x, .d (.int lo), .d (.int hi)] = ret (.d (.bool (whB lo hi x))) := by
  cases x with
  | dict _ => simp [cl] at h
  | int i =>
    by_cases h1 : lo ≤ i <;> simp [f_is_whole, b_is_whole, runF_eq, whB, h1]
  | _ => simp [f_is_whole, b_is_whole, runF_eq, whB]
def awB (n : Nat) (hi : Int) : D → Bool
  | .tuple ds => decide (ds.length = n) && ds.all (whB 0 hi)
  | _ => false
theorem r_are_whole {x : D} (h : cl x = true) (n : Nat) (hi : Int) : f_are_whole [.d x, .d (.int n), .d (.int hi)] = ret (.d (.bool (awB n hi x))) := by
  cases x with
  | dict _ => simp [cl] at h
  | tuple ds =>
    obtain ⟨h1, h2⟩ := cl_tup h
    have e : are_whole_C1 [some (Val.d (PyData.tuple ds)), some (Val.d (PyData.int n)), some (Val.d (PyData.int hi)), none] = ret (.d (.list (ds.map fun x => .bool (whB 0 hi x)))) :=
      eLc_map ds .d _ (by simp) h2 fun p hp => by
        simp [r_is_whole (h1 p hp)]
    by_cases hn : ds.length = n
    · simp [f_are_whole, b_are_whole, runF_eq, awB, hn, e, bAll_map]
    · have : ¬ ((ds.length : Int) = (n : Int)) := by omega
      simp [f_are_whole, b_are_whole, runF_eq, awB, hn, this]
  | _ => simp [f_are_whole, b_are_whole, runF_eq, awB]
def mvB (h : Nat) : D → Bool
  | .tuple ds => decide (ds.length = 2) && ds.all (awB h 9)
  | _ => false
theorem r_is_move {x : D} (h : cl x = true) (n : Nat) : f_is_move [.d x, .d (.int n)] = ret (.d (.bool (mvB n x))) := by
  cases x with
  | dict _ => simp [cl] at h
  | tuple ds =>
    obtain ⟨h1, h2⟩ := cl_tup h
    have e : is_move_C1 [some (Val.d (PyData.tuple ds)), some (Val.d (PyData.int n)), none] = ret (.d (.list (ds.map fun x => .bool (awB n 9 x)))) :=
      eLc_map ds .d _ (by simp) h2 fun p hp => by
        simp [r_are_whole (h1 p hp)]
    by_cases hn : ds.length = 2
    · simp [f_is_move, b_is_move, runF_eq, mvB, hn, e, bAll_map]
    · have : ¬ ((ds.length : Int) = 2) := by omega
      simp [f_is_move, b_is_move, runF_eq, mvB, hn, this]
  | _ => simp [f_is_move, b_is_move, runF_eq, mvB]
def hiB : D → Nat
  | .tuple [.tuple xs, _] => xs.length
  | _ => 0
theorem atI_zero {α : Type} (x : α) (r : List α) : atI (x :: r) 0 = some x := by
  unfold atI ixN
  rw [if_pos (by decide), if_pos (by simp)]
  rfl
theorem atI_one {α : Type} (x y : α) (r : List α) : atI (x :: y :: r) 1 = some y := by
  unfold atI ixN
  rw [if_pos (by decide), if_pos (by simp; omega)]
  rfl
theorem r_heaps_in {x : D} (h : cl x = true) : f_heaps_in [.d x] = ret (.d (.int (hiB x))) := by
  cases x with
  | dict _ => simp [cl] at h
  | tuple ds =>
    obtain ⟨h1, h2⟩ := cl_tup h
    match ds with
    | [] => simp [f_heaps_in, b_heaps_in, runF_eq, hiB]
    | [a] => simp [f_heaps_in, b_heaps_in, runF_eq, hiB]
    | [a, b] =>
      have ha : cl a = true := h1 a (by simp)
      cases a with
      | dict _ => simp [cl] at ha
      | _ => simp [f_heaps_in, b_heaps_in, runF_eq, hiB, atI_zero]
    | a :: b :: c :: r =>
      have : ¬ ((r.length : Int) + 1 + 1 + 1 = 2) := by omega
      simp [f_heaps_in, b_heaps_in, runF_eq, hiB, this]
  | _ => simp [f_heaps_in, b_heaps_in, runF_eq, hiB]
def msB : D → Bool
  | .tuple [] => false
  | .tuple (x :: r) => decide (r.length ≤ 5) && (decide (1 ≤ hiB x) && decide (hiB x ≤ 4) && (x :: r).all (mvB (hiB x)))
  | _ => false
theorem r_is_moves {x : D} (h : cl x = true) : f_is_moves [.d x] = ret (.d (.bool (msB x))) := by
  cases x with
  | dict _ => simp [cl] at h
  | tuple ds =>
    obtain ⟨h1, h2⟩ := cl_tup h
    cases ds with
    | nil => simp [f_is_moves, b_is_moves, runF_eq, msB]
    | cons a r =>
      by_cases hr : r.length ≤ 5
      · have c1 : (1 : Int) ≤ (r.length : Int) + 1 := by omega
        have c2 : (r.length : Int) + 1 ≤ 6 := by omega
        have e : is_moves_C1 [some (Val.d (PyData.tuple (a :: r))), some (Val.d (PyData.int (hiB a))), none] = ret (.d (.list ((a :: r).map fun x => .bool (mvB (hiB a) x)))) :=
          eLc_map (a :: r) .d _ (by simp) h2 fun p hp => by
            simp [r_is_move (h1 p hp)]
        have ha := r_heaps_in (h1 a (by simp))
        by_cases g1 : (1 : Int) ≤ (hiB a : Int)
        · by_cases g2 : (hiB a : Int) ≤ 4
          · have g1' : 1 ≤ hiB a := by omega
            have g2' : hiB a ≤ 4 := by omega
            have ea := bAll_map (mvB (hiB a)) (a :: r)
            simp only [List.map_cons] at e ea
            simp [f_is_moves, b_is_moves, runF_eq, msB, hr, c1, c2, atI_zero, ha, e, ea, g1, g2, g1', g2']
          · have g2' : ¬ hiB a ≤ 4 := by omega
            simp [f_is_moves, b_is_moves, runF_eq, msB, hr, c1, c2, atI_zero, ha, g1, g2, g2']
        · have g1' : ¬ 1 ≤ hiB a := by omega
          simp [f_is_moves, b_is_moves, runF_eq, msB, hr, c1, c2, atI_zero, ha, g1, g1']
      · have c1 : (1 : Int) ≤ (r.length : Int) + 1 := by omega
        have c2 : ¬ ((r.length : Int) + 1 ≤ 6) := by omega
        simp [f_is_moves, b_is_moves, runF_eq, msB, hr, c1, c2]
  | _ => simp [f_is_moves, b_is_moves, runF_eq, msB]
theorem r_need_moves {x : D} (h : cl x = true) : f_need_moves [.d x] = if msB x = true then ret (.d .none) else thr 1 := by
  by_cases hm : msB x = true <;> simp [f_need_moves, b_need_moves, runF_eq, r_is_moves h, hm]
/-! ### moves as they are -/
structure WF (ms : List Mv) (h : Nat) : Prop where
  n1 : 1 ≤ ms.length
  n6 : ms.length ≤ 6
  h1 : 1 ≤ h
  h4 : h ≤ 4
  l1 : ∀ m ∈ ms, m.1.length = h
  l2 : ∀ m ∈ ms, m.2.length = h
  b1 : ∀ m ∈ ms, ∀ x ∈ m.1, 0 ≤ x ∧ x ≤ 9
  b2 : ∀ m ∈ ms, ∀ x ∈ m.2, 0 ≤ x ∧ x ≤ 9
theorem lim_eq : lim = 100000 := rfl
theorem cl_mv {m : Mv} (h1 : m.1.length ≤ lim) (h2 : m.2.length ≤ lim) : cl (eMv m) = true := by
  simp [eMv, cl, clA, lim]
  exact ⟨cl_ints _ h1, cl_ints _ h2⟩
theorem WF.cl {ms : List Mv} {h : Nat} (w : WF ms h) : cl (eMs ms) = true := by
  have := w.n6
  have := w.h4
  simp only [eMs, Y.cl, Bool.and_eq_true, clA_iff, decide_eq_true_eq, List.length_map]
  refine ⟨fun x hx => ?_, by rw [lim_eq]; omega⟩
  obtain ⟨m, hm, rfl⟩ := List.mem_map.mp hx
  exact cl_mv (by rw [w.l1 m hm, lim_eq]; omega) (by rw [w.l2 m hm, lim_eq]; omega)
theorem aw_ints {a : List Int} {h : Nat} {hi : Int} : awB h hi (tI a) = (decide (a.length = h) && a.all fun x => decide (0 ≤ x) && decide (x ≤ hi)) := by
  simp [awB, tI, intsD, List.all_map]
  rfl
theorem mv_eMv {m : Mv} {h : Nat} (h1 : m.1.length = h) (h2 : m.2.length = h) (b1 : ∀ x ∈ m.1, 0 ≤ x ∧ x ≤ 9) (b2 : ∀ x ∈ m.2, 0 ≤ x ∧ x ≤ 9) : mvB h (eMv m) = true := by
  simp only [mvB, eMv, List.length_cons, List.length_nil, List.all_cons, List.all_nil, aw_ints, h1, h2]
  simp
  exact ⟨b1, b2⟩
theorem hi_eMv (m : Mv) : hiB (eMv m) = m.1.length := by
  show (intsD m.1).length = _
  simp
theorem WF.ms {ms : List Mv} {h : Nat} (w : WF ms h) : msB (eMs ms) = true := by
  cases ms with
  | nil => have := w.n1; simp at this
  | cons m r =>
    have hh : hiB (eMv m) = h := by rw [hi_eMv, w.l1 m (by simp)]
    have e : eMs (m :: r) = .tuple (eMv m :: r.map eMv) := rfl
    rw [e]
    have n6 := w.n6
    simp only [List.length_cons] at n6
    simp only [msB, hh, Bool.and_eq_true, decide_eq_true_eq, List.length_map, List.all_eq_true]
    refine ⟨by omega, ⟨w.h1, w.h4⟩, fun x hx => ?_⟩
    have : x ∈ (m :: r).map eMv := by simpa using hx
    obtain ⟨y, hy, rfl⟩ := List.mem_map.mp this
    exact mv_eMv (w.l1 y hy) (w.l2 y hy) (w.b1 y hy) (w.b2 y hy)
theorem WF.need {ms : List Mv} {h : Nat} (w : WF ms h) : f_need_moves [.d (eMs ms)] = ret (.d .none) := by
  rw [r_need_moves w.cl, if_pos w.ms]
theorem atI_nat {α : Type} {xs : List α} {i : Int} {j : Nat} {x : α} (hi : i = (j : Int)) (h : xs[j]? = some x) : atI xs i = some x := by
  have hj : j < xs.length := (List.getElem?_eq_some_iff.mp h).1
  unfold atI ixN
  rw [if_pos (by omega), if_pos (by omega), hi]
  simpa using h

def chg (m : Mv) : List Int := (m.1.zip m.2).map fun p => p.2 - p.1
theorem intsD_map {α : Type} (f : α → Int) (L : List α) : intsD (L.map f) = L.map fun p => .int (f p) := by
  simp [intsD]
/-! ### rows -/
structure Rw (ms : List Mv) (row : List Nat) : Prop where
  l : row.length ≤ 200
  b : ∀ i ∈ row, i < ms.length
def nI (row : List Nat) : List Int := row.map fun (i : Nat) => (i : Int)
def lI' (row : List Nat) : D := .list (intsD (nI row))

theorem WF.row {ms : List Mv} {h : Nat} (w : WF ms h) {row : List Nat} (hr : Rw ms row) : f_need_row [.d (eMs ms), .d (lI' row)] = ret (.d .none) := by
  have n6 := w.n6
  have c1 : ¬ ((200 : Int) < (row.length : Int)) := by have := hr.l; omega
  have hl : row.length ≤ lim := by have := hr.l; rw [lim_eq]; omega
  have e : need_row_C1 [some (Val.d (eMs ms)), some (Val.d (lI' row)), none] = ret (.d (.list (row.map fun i => .bool true))) := by
    refine eLc_map row (fun (i : Nat) => Val.d (.int (i : Int))) _ ?_ hl fun p hp => ?_
    · simp [lI', nI, intsD]
      rfl
    · have hb := hr.b p hp
      have : (p : Int) ≤ (ms.length : Int) - 1 := by omega
      simp [r_is_whole (x := .int (p : Int)) rfl, eMs, whB, this]
  have ea := bAll_map (fun _ : Nat => true) row
  have et : (row.all fun _ => true) = true := by simp
  rw [et] at ea
  have ll : bLen [.d (lI' row)] = ret (.d (.int row.length)) := by simp [lI', nI]
  have li : bIsi "list" (.d (lI' row)) = ret (.d (.bool true)) := rfl
  simp [f_need_row, b_need_row, runF_eq, e, ea, ll, li, c1]

/-! ### refusals told -/
theorem eTold_thr {cs : List Nat} {f : E} {loc : Loc} {c : Nat} (h : f loc = thr c) (hc : c ∈ cs) : eTold cs f loc = ret (.d (.tuple [.str "refused", .str (kindN c)])) := by
  funext st
  unfold eTold
  rw [h]
  show (if c ∈ cs then _ else _) = _
  rw [if_pos hc]
  rfl
theorem eTold_ret {cs : List Nat} {f : E} {loc : Loc} {v : Val} (h : f loc = ret v) : eTold cs f loc = ret v := by
  funext st
  unfold eTold
  rw [h]
  rfl
theorem ne_told {a b : Str} (h : PySem.SeqAt.shaped (.tuple [.str "refused", .str a]) = true) (h' : PySem.SeqAt.shaped (.tuple [.str "refused", .str b]) = true) (e : a = b) : bNe (.d (.tuple [.str "refused", .str a])) (.d (.tuple [.str "refused", .str b])) = ret (.d (.bool false)) := by
  subst e
  rw [bNe_d, eqD_eq h h']
  have : PyData.eqv (.tuple [.str "refused", .str a]) (.tuple [.str "refused", .str a]) = true := by
    simp [PyData.eqv, PyData.eqvAll]
  rw [this]
  rfl

/-! ### like data -/
def Sh (n : Nat) (x : D) : Prop := x.canLay0 = true ∧ x.depth ≤ n
theorem Sh.int (i : Int) : Sh 1 (.int i) := ⟨rfl, by simp [PyData.depth]⟩
theorem Sh.none : Sh 1 .none := ⟨rfl, by simp [PyData.depth]⟩
theorem Sh.bool (b : Bool) : Sh 1 (.bool b) := ⟨rfl, by simp [PyData.depth]⟩
theorem Sh.mono {n m : Nat} {x : D} (h : Sh n x) (hl : n ≤ m) : Sh m x := ⟨h.1, Nat.le_trans h.2 hl⟩
theorem canAll : ∀ {ds : List D}, (∀ x ∈ ds, x.canLay0 = true) → PyData.canLayAll0 ds = true
  | [], _ => rfl
  | x :: r, h => by
    simp only [PyData.canLayAll0, Bool.and_eq_true]
    exact ⟨h x (by simp), canAll fun y hy => h y (by simp [hy])⟩
theorem depAll {n : Nat} : ∀ {ds : List D}, (∀ x ∈ ds, x.depth ≤ n) → PyData.depthAll ds ≤ n
  | [], _ => by simp [PyData.depthAll]
  | x :: r, h => by
    have a := h x (by simp)
    have b := depAll (ds := r) fun y hy => h y (by simp [hy])
    simp only [PyData.depthAll]
    omega
theorem Sh.list {n : Nat} {ds : List D} (h : ∀ x ∈ ds, Sh n x) : Sh (n + 1) (.list ds) := by
  refine ⟨?_, ?_⟩
  · simp only [PyData.canLay0]
    exact canAll fun x hx => (h x hx).1
  · have := depAll (n := n) fun x hx => (h x hx).2
    simp only [PyData.depth]
    omega
theorem Sh.tuple {n : Nat} {ds : List D} (h : ∀ x ∈ ds, Sh n x) : Sh (n + 1) (.tuple ds) := by
  refine ⟨?_, ?_⟩
  · simp only [PyData.canLay0]
    exact canAll fun x hx => (h x hx).1
  · have := depAll (n := n) fun x hx => (h x hx).2
    simp only [PyData.depth]
    omega
theorem Sh.tI (a : List Int) : Sh 2 (tI a) := Sh.tuple fun x hx => by
  obtain ⟨i, _, rfl⟩ := List.mem_map.mp hx
  exact Sh.int i
theorem Sh.lI (a : List Int) : Sh 2 (.list (intsD a)) := Sh.list fun x hx => by
  obtain ⟨i, _, rfl⟩ := List.mem_map.mp hx
  exact Sh.int i
theorem Sh.shaped {n : Nat} {x : D} (h : Sh n x) (hn : n ≤ 64) : PySem.SeqAt.shaped x = true := by
  simp only [PySem.SeqAt.shaped, Bool.and_eq_true, decide_eq_true_eq]
  exact ⟨h.1, Nat.le_trans h.2 hn⟩
mutual
theorem eqv_self : ∀ x : D, x.canLay0 = true → PyData.eqv x x = true
  | .none, _ => by simp [PyData.eqv]
  | .bool _, _ => by simp [PyData.eqv]
  | .int _, _ => by simp [PyData.eqv]
  | .str _, _ => by simp [PyData.eqv]
  | .list xs, h => by
    simp only [PyData.eqv]
    exact eqv_selfA xs (by simpa [PyData.canLay0] using h)
  | .tuple xs, h => by
    simp only [PyData.eqv]
    exact eqv_selfA xs (by simpa [PyData.canLay0] using h)
  | .dict _, h => by simp [PyData.canLay0] at h
theorem eqv_selfA : ∀ xs : List D, PyData.canLayAll0 xs = true → PyData.eqvAll xs xs = true
  | [], _ => by simp [PyData.eqvAll]
  | x :: r, h => by
    simp only [PyData.canLayAll0, Bool.and_eq_true] at h
    simp only [PyData.eqvAll, Bool.and_eq_true]
    exact ⟨eqv_self x h.1, eqv_selfA r h.2⟩
end
theorem eqD_self {n : Nat} {x : D} (h : Sh n x) (hn : n ≤ 64) : eqD x x = ret true := by
  rw [eqD_eq (h.shaped hn) (h.shaped hn), eqv_self x h.1]
theorem ne_self {n : Nat} {x : D} (h : Sh n x) (hn : n ≤ 64) : bNe (.d x) (.d x) = ret (.d (.bool false)) := by
  rw [bNe_d, eqD_self h hn]
  rfl
theorem eq_self {n : Nat} {x : D} (h : Sh n x) (hn : n ≤ 64) : bEq (.d x) (.d x) = ret (.d (.bool true)) := by
  rw [bEq_d, eqD_self h hn]
  rfl
def RfT (c : Nat) : D := .tuple [.str "refused", .str (kindN c)]
theorem Sh.rft {c : Nat} (h : PySem.SeqAt.shaped (RfT c) = true) : Sh 64 (RfT c) := by
  simp only [PySem.SeqAt.shaped, Bool.and_eq_true, decide_eq_true_eq] at h
  exact h

/-! ### rows and what is none -/
def rwB (n : Nat) : D → Bool
  | .list ds => decide (ds.length ≤ 200) && ds.all (whB 0 ((n : Int) - 1))
  | _ => false
theorem cl_lst {ds : List D} (h : cl (.list ds) = true) : (∀ x ∈ ds, cl x = true) ∧ ds.length ≤ lim := by
  simp [cl, clA_iff] at h
  exact h
theorem r_need_row {ms : List Mv} {x : D} (hx : cl x = true) : f_need_row [.d (eMs ms), .d x] = if rwB ms.length x = true then ret (.d .none) else thr 4 := by
  have hlen : bLen [.d (eMs ms)] = ret (.d (.int (ms.length : Int))) := by simp [eMs]
  cases x with
  | dict _ => simp [cl] at hx
  | list ds =>
    obtain ⟨h1, h2⟩ := cl_lst hx
    have e : need_row_C1 [some (Val.d (eMs ms)), some (Val.d (PyData.list ds)), none] = ret (.d (.list (ds.map fun x => .bool (whB 0 ((ms.length : Int) - 1) x)))) :=
      eLc_map ds .d _ (by simp) h2 fun p hp => by
        simp [r_is_whole (h1 p hp), hlen]
    by_cases hn : ds.length ≤ 200
    · have c1 : ¬ ((200 : Int) < (ds.length : Int)) := by omega
      cases ha : ds.all (whB 0 ((ms.length : Int) - 1)) <;> simp [f_need_row, b_need_row, runF_eq, rwB, hn, e, bAll_map, c1, ha]
    · have c1 : (200 : Int) < (ds.length : Int) := by omega
      simp [f_need_row, b_need_row, runF_eq, rwB, hn, c1]
  | _ => simp [f_need_row, b_need_row, runF_eq, rwB]

/-! ### moves that fall under drawn weights -/
theorem forL_ix {body : Val → S} (P : Nat → Loc → Store → Prop) : ∀ (xs : List Val) (n : Nat) (loc : Loc) (st : Store), P n loc st → (∀ i v, v ∈ xs → i < n + xs.length → ∀ loc st, P i loc st → ∃ loc' st', body v loc st = .ok (.nx, loc') st' ∧ P (i + 1) loc' st') → ∃ loc' st', forL body xs loc st = .ok (.nx, loc') st' ∧ P (n + xs.length) loc' st'
  | [], n, loc, st, p, _ => ⟨loc, st, rfl, p⟩
  | x :: xs, n, loc, st, p, h => by
    obtain ⟨l1, s1, e1, p1⟩ := h n x List.mem_cons_self (by simp) loc st p
    obtain ⟨l2, s2, e2, p2⟩ := forL_ix P xs (n + 1) l1 s1 p1 fun i v hv hi => h i v (List.mem_cons_of_mem _ hv) (by simp only [List.length_cons]; omega)
    refine ⟨l2, s2, ?_, ?_⟩
    · show bd (body x loc) _ st = _
      rw [bd_eq e1]
      exact e2
    · have : n + (x :: xs).length = n + 1 + xs.length := by simp; omega
      rw [this]
      exact p2
theorem app_last' {o e : E} {loc : Loc} {st : Store} {xs : List Val} {v : Val} (ho : o loc = ret (.o st.length)) (he : e loc = ret v) (hl : xs.length < lim) : eApp o e loc (st ++ [.lst xs]) = .ok (.d .none) (st ++ [.lst (xs ++ [v])]) := by
  unfold eApp
  rw [ho, bd_ret]
  have g : (st ++ [Ob.lst xs])[st.length]? = some (.lst xs) := by simp
  have hc : chkL (.o st.length) (st ++ [.lst xs]) = .ok st.length (st ++ [.lst xs]) := by
    show (match (st ++ [Ob.lst xs])[st.length]? with | some (.lst _) => R.ok st.length (st ++ [Ob.lst xs]) | _ => .bad) = _
    rw [g]
  rw [bd_eq hc, he, bd_ret]
  unfold appS
  rw [g]
  dsimp only
  rw [if_pos hl]
  simp
theorem app_at {o e : E} {loc : Loc} {st st1 : Store} {k : Nat} {xs : List Val} {v : Val} (ho : o loc = ret (.o k)) (hk : st[k]? = some (.lst xs)) (he : e loc st = .ok v st1) (hk1 : st1[k]? = some (.lst xs)) (hl : xs.length < lim) : eApp o e loc st = .ok (.d .none) (st1.set k (.lst (xs ++ [v]))) := by
  unfold eApp
  rw [ho, bd_ret]
  have hc : chkL (.o k) st = .ok k st := by
    show (match st[k]? with | some (.lst _) => R.ok k st | _ => .bad) = _
    rw [hk]
  rw [bd_eq hc, bd_eq he]
  unfold appS
  rw [hk1]
  dsimp only
  rw [if_pos hl]

def ovB (a b : List Int) : Bool := (a.zip b).all fun p => decide (p.2 ≤ p.1)

def addL (a b : List Int) : List Int := (a.zip b).map fun p => p.1 + p.2

def mxL (f n g : List Int) : List Int := (f.zip (n.zip g)).map fun p => if p.2.1 - p.2.2 > p.1 then p.2.1 - p.2.2 else p.1
theorem mxL_len {f n g : List Int} (h1 : f.length = n.length) (h2 : n.length = g.length) : (mxL f n g).length = f.length := by
  unfold mxL
  rw [List.length_map, List.length_zip, List.length_zip]
  omega

theorem addL_len {a b : List Int} (h : a.length = b.length) : (addL a b).length = a.length := by
  unfold addL
  rw [List.length_map, List.length_zip]
  omega
theorem chg_len {m : Mv} (h : m.1.length = m.2.length) : (chg m).length = m.1.length := by
  unfold chg
  rw [List.length_map, List.length_zip]
  omega

theorem WF.at {ms : List Mv} {h : Nat} (w : WF ms h) {i : Nat} (hi : i < ms.length) : ∃ m, ms[i]? = some m ∧ m.1.length = h ∧ m.2.length = h ∧ (∀ x ∈ m.1, 0 ≤ x ∧ x ≤ 9) ∧ ∀ x ∈ m.2, 0 ≤ x ∧ x ≤ 9 :=
  have hm := List.getElem_mem hi
  ⟨ms[i], List.getElem?_eq_getElem hi, w.l1 _ hm, w.l2 _ hm, w.b1 _ hm, w.b2 _ hm⟩
theorem ix_ms {ms : List Mv} {i : Nat} {m : Mv} (h : ms[i]? = some m) : bIx (.d (eMs ms)) (.d (.int (i : Int))) = ret (.d (eMv m)) := by
  have e : atI (ms.map eMv) (i : Int) = some (eMv m) := atI_nat rfl (by rw [List.getElem?_map, h]; rfl)
  show bd (oget (atI (ms.map eMv) (i : Int))) _ = _
  rw [e]
  rfl
theorem ix_mv0 (m : Mv) : bIx (.d (eMv m)) (.d (.int 0)) = ret (.d (tI m.1)) := by simp [eMv, atI_zero]
theorem ix_mv1 (m : Mv) : bIx (.d (eMv m)) (.d (.int 1)) = ret (.d (tI m.2)) := by simp [eMv, atI_one]

def dO (c j : Int) : Ob := .lst [.d (.int c), .d (.int j)]
/-- the k-th object is a dice -/
def DS (k : Nat) (st : Store) : Prop := ∃ c j, st[k]? = some (dO c j)
/-- of what stood there the dice alone changed -/
def Dc (k : Nat) (st st' : Store) : Prop := st.length ≤ st'.length ∧ DS k st' ∧ ∀ i, i < st.length → i ≠ k → st'[i]? = st[i]?
theorem DS.lt {k : Nat} {st : Store} (h : DS k st) : k < st.length := by
  obtain ⟨c, j, e⟩ := h
  exact (List.getElem?_eq_some_iff.mp e).1
theorem Dc.ds {k : Nat} {st st' : Store} (h : Dc k st st') (d : DS k st) : DS k st' := h.2.1
theorem Dc.trans {k : Nat} {st st' st'' : Store} (h : Dc k st st') (h' : Dc k st' st'') : Dc k st st'' := ⟨Nat.le_trans h.1 h'.1, h'.2.1, fun i hi hk => by rw [h'.2.2 i (Nat.lt_of_lt_of_le hi h.1) hk, h.2.2 i hi hk]⟩
theorem Dc.refl {k : Nat} {st : Store} (d : DS k st) : Dc k st st := ⟨Nat.le_refl _, d, fun _ _ _ => rfl⟩
theorem Dc.set {k : Nat} {st : Store} (d : DS k st) (c j : Int) : Dc k st (st.set k (dO c j)) := ⟨by rw [List.length_set]; exact Nat.le_refl _, ⟨c, j, List.getElem?_set_self d.lt⟩, fun i _ hk => List.getElem?_set_ne (Ne.symm hk)⟩
theorem Dc.app {k : Nat} {st : Store} (d : DS k st) (xs : List Ob) : Dc k st (st ++ xs) := ⟨by simp, by
  obtain ⟨c, j, e⟩ := d
  exact ⟨c, j, by rw [List.getElem?_append_left (List.getElem?_eq_some_iff.mp e).1]; exact e⟩, fun i hi _ => List.getElem?_append_left hi⟩
theorem Dc.other {k i : Nat} {st st' : Store} (h : Dc k st st') (hi : k ≠ i) (hl : i < st.length) : st'[i]? = st[i]? := h.2.2 i hl (Ne.symm hi)
/-! ### one draw -/
theorem bIx_o {k : Nat} {i : Int} {st : Store} {xs : List Val} {v : Val} (h : st[k]? = some (.lst xs)) (e : atI xs i = some v) : bIx (.o k) (.d (.int i)) st = .ok v st := by
  show (match st[k]? with | some (.lst xs) => (bd (oget (atI xs i)) ret) st | _ => .bad) = _
  rw [h]
  dsimp only
  rw [e]
  rfl
theorem pow18 : bPow (.d (.int 10)) (.d (.int 18)) = ret (.d (.int 1000000000000000000)) := by
  show (if (0 : Int) ≤ 18 ∧ (18 : Int) ≤ 1000000 ∧ (10 : Int).natAbs < 2 ^ 64 then ret (vI (10 ^ (18 : Int).toNat)) else die) = _
  rw [if_pos (by decide)]
  rfl
theorem mulOk_r {i j : Int} (h : j.natAbs < 2 ^ 64) : mulOk i j = true := by
  unfold mulOk
  rw [decide_eq_true h]
  simp
theorem mulOk_b {i j : Int} (h : i.natAbs < 2 ^ 400) (h' : j.natAbs < 2 ^ 400) : mulOk i j = true := by
  unfold mulOk
  have a : i.natAbs.log2 ≤ 400 := by
    by_cases e : i.natAbs = 0
    · rw [e]; decide
    · have := (Nat.log2_lt e).mpr h
      omega
  have b : j.natAbs.log2 ≤ 400 := by
    by_cases e : j.natAbs = 0
    · rw [e]; decide
    · have := (Nat.log2_lt e).mpr h'
      omega
  rw [decide_eq_true (show i.natAbs.log2 + j.natAbs.log2 < 1000000 by omega)]
  simp
theorem drawn_ex (c j : Int) : ∃ x : Int, f_law_drawn [.d (.int c), .d (.int j)] = ret (.d (.int x)) ∧ 0 ≤ x := by
  have m1 : mulOk c 6364136223846793005 = true := mulOk_r (by decide)
  have m2 : mulOk (j + 1) 1442695040888963407 = true := mulOk_r (by decide)
  generalize hp : (340282366920938463463374607431768211507 : Int) = P
  generalize hq : (340282366920938463463374607431768211297 : Int) = Q
  generalize hr : (18446744073709551557 : Int) = Rr
  have p0 : 0 < P := by omega
  have q0 : 0 < Q := by omega
  have r0 : 0 < Rr := by omega
  have dv : Rr.natAbs.log2 < 9000 := by rw [← hr]; decide
  generalize hx : (c * 6364136223846793005 + (j + 1) * 1442695040888963407) % P = x
  have x0 : 0 ≤ x := by rw [← hx]; exact Int.emod_nonneg _ (by omega)
  have x1 : x < P := by rw [← hx]; exact Int.emod_lt_of_pos _ p0
  have bP : P < 2 ^ 129 := by rw [← hp]; decide
  have bQ : Q < 2 ^ 129 := by rw [← hq]; decide
  have bR : Rr < 2 ^ 129 := by rw [← hr]; decide
  have big : (2 : Int) ^ 129 ≤ 2 ^ 400 := by decide
  have m3 : mulOk x x = true := mulOk_b (by omega) (by omega)
  generalize hy : (x * x) % Q = y
  have y0 : 0 ≤ y := by rw [← hy]; exact Int.emod_nonneg _ (by omega)
  have y1 : y < Q := by rw [← hy]; exact Int.emod_lt_of_pos _ q0
  generalize ha : y % Rr + 1 = a
  generalize hb : y / Rr + 1 = b
  have a0 : 0 ≤ a ∧ a ≤ Rr := by
    have := Int.emod_nonneg y (show Rr ≠ 0 by omega)
    have := Int.emod_lt_of_pos y r0
    omega
  have b0 : 0 ≤ b ∧ b ≤ y + 1 := by
    have h1 := Int.ediv_nonneg y0 (show 0 ≤ Rr by omega)
    have h2 := Int.ediv_le_self Rr y0
    omega
  have m4 : mulOk a b = true := mulOk_b (by omega) (by omega)
  have ab : a * b ≤ 2 ^ 130 * 2 ^ 130 := by
    refine Int.le_trans (Int.mul_le_mul_of_nonneg_left (show b ≤ 2 ^ 130 by omega) a0.1) (Int.mul_le_mul_of_nonneg_right (show a ≤ 2 ^ 130 by omega) (by decide))
  have ab0 : 0 ≤ a * b := Int.mul_nonneg a0.1 b0.1
  have big2 : (2 : Int) ^ 130 * 2 ^ 130 < 2 ^ 400 := by decide
  have m5 : mulOk (a * b) y = true := mulOk_b (by omega) (by omega)
  refine ⟨(a * b * y) % P, ?_, Int.emod_nonneg _ (by omega)⟩
  simp [f_law_drawn, b_law_drawn, runF_eq, hp, hq, hr, m1, m2, p0, hx, m3, q0, hy, r0, dv, ha, hb, m4, m5]
theorem gSub_o {k : Nat} {i : Int} {j : Nat} {st : Store} {xs : List Val} {v : Val} {loc : Loc} {o e : E} (ho : o loc = ret (.o k)) (he : e loc = ret (.d (.int i))) (h : st[k]? = some (.lst xs)) (hj : ixN xs.length i = some j) : gSub o e v loc st = .ok loc (st.set k (.lst (xs.set j v))) := by
  show (bd (o loc) fun x => bd (e loc) fun y => match x, y with
    | .o k, .d (.int j) => fun st => match st[k]? with
      | some (.lst xs) => (match ixN xs.length j with
        | some m => .ok loc (st.set k (.lst (xs.set m v)))
        | none => .bad)
      | _ => .bad
    | _, _ => die) st = _
  rw [ho, he, bd_ret, bd_ret]
  dsimp only
  rw [h]
  dsimp only
  rw [hj]
theorem roll_ex {k : Nat} {st : Store} (d : DS k st) {many : Int} (h0 : 0 < many) (h1 : many ≤ 1000000) : ∃ r st', f_law_roll [.o k, .d (.int many)] st = .ok (.d (.int r)) st' ∧ 0 ≤ r ∧ r < many ∧ Dc k st st' := by
  obtain ⟨c, j, e⟩ := d
  have hk : k < st.length := (List.getElem?_eq_some_iff.mp e).1
  have lg : many.natAbs.log2 < 9000 := by
    by_cases z : many.natAbs = 0
    · rw [z]; decide
    · have : many.natAbs < 2 ^ 21 := by omega
      have := (Nat.log2_lt z).mpr this
      omega
  have i0 : ∀ {st : Store} {c j : Int}, st[k]? = some (dO c j) → bIx (.o k) (.d (.int 0)) st = .ok (.d (.int c)) st := fun h => bIx_o h (atI_zero _ _)
  have i1 : ∀ {st : Store} {c j : Int}, st[k]? = some (dO c j) → bIx (.o k) (.d (.int 1)) st = .ok (.d (.int j)) st := fun h => bIx_o h (atI_one _ _ _)
  by_cases hc : (1000000000000000000 : Int) ≤ c
  · refine ⟨c % many, st.set k (dO (c / many) j), ?_, Int.emod_nonneg _ (by omega), Int.emod_lt_of_pos _ h0, Dc.set ⟨c, j, e⟩ _ _⟩
    simp only [f_law_roll, b_law_roll, runF_eq]
    simp [pow18, h0, lg]
    rw [bd_eq (i0 e)]
    simp [hc]
    rw [bd_eq (i0 e)]
    simp [h0]
    rw [bd_eq (i0 e)]
    simp [h0, lg]
    rw [bd_eq (gSub_o (k := k) (i := 0) (j := 0) (xs := [.d (.int c), .d (.int j)]) (by simp) (by simp) e rfl)]
    rfl
  · have e' : (st.set k (dO c (j + 1)))[k]? = some (dO c (j + 1)) := List.getElem?_set_self hk
    obtain ⟨x, hx, x0⟩ := drawn_ex c (j + 1)
    refine ⟨(x / 8) % many, st.set k (dO c (j + 1)), ?_, Int.emod_nonneg _ (by omega), Int.emod_lt_of_pos _ h0, Dc.set ⟨c, j, e⟩ _ _⟩
    simp only [f_law_roll, b_law_roll, runF_eq]
    simp [pow18, h0, lg]
    rw [bd_eq (i0 e)]
    simp [hc]
    rw [bd_eq (i1 e)]
    simp
    rw [bd_eq (gSub_o (k := k) (i := 1) (j := 1) (xs := [.d (.int c), .d (.int j)]) (by simp) (by simp) e rfl)]
    simp
    show bd _ _ (List.set st k (dO c (j + 1))) = _
    rw [bd_eq (i0 e')]
    rw [bd_eq (i1 e')]
    rw [hx]
    have l8 : Nat.log2 8 < 9000 := by decide
    simp [h0, l8]
/-! ### comprehensions that draw -/
theorem compL_st {α β : Type} {k : Nat} {body : Val → M (Option Val)} (enc : α → Val) (dec : β → D) (P : β → Prop) : ∀ (L : List α) (st : Store), DS k st → (∀ p ∈ L, ∀ st, DS k st → ∃ (y : β) (st' : Store), body (enc p) st = .ok (some (.d (dec y))) st' ∧ P y ∧ Dc k st st') →
    ∃ (ys : List β) (st' : Store), compL body (L.map enc) st = .ok (ys.map fun y => .d (dec y)) st' ∧ ys.length = L.length ∧ (∀ y ∈ ys, P y) ∧ Dc k st st'
  | [], st, d, _ => ⟨[], st, rfl, rfl, (fun _ h => nomatch h), Dc.refl d⟩
  | p :: L, st, d, hp => by
    obtain ⟨y, st1, e1, p1, d1⟩ := hp p List.mem_cons_self st d
    obtain ⟨ys, st2, e2, l2, p2, d2⟩ := compL_st enc dec P L st1 (d1.ds d) fun q hq => hp q (List.mem_cons_of_mem _ hq)
    refine ⟨y :: ys, st2, ?_, by simp [l2], fun z hz => ?_, d1.trans d2⟩
    · show bd (body (enc p)) _ st = _
      rw [bd_eq e1, bd_eq e2]
      rfl
    · rcases List.mem_cons.mp hz with rfl | h
      · exact p1
      · exact p2 z h
theorem eLc_st {α β : Type} {k : Nat} {it : I} {g : G} {t : Tst} {e : E} {vs : List Nat} {loc : Loc} {st st0 : Store} (L : List α) (enc : α → Val) (dec : β → D) (P : β → Prop) (hi : it loc st = .ok (L.map enc) st0) (hl : L.length ≤ lim) (d : DS k st0)
    (hb : ∀ p ∈ L, ∀ st, DS k st → ∃ (y : β) (st' : Store), cBody g t e (wip loc vs) (enc p) st = .ok (some (.d (dec y))) st' ∧ P y ∧ Dc k st st') :
    ∃ (ys : List β) (st' : Store), eLc it g t e vs loc st = .ok (.d (.list (ys.map dec))) st' ∧ ys.length = L.length ∧ (∀ y ∈ ys, P y) ∧ Dc k st0 st' := by
  obtain ⟨ys, st', e1, l1, p1, d1⟩ := compL_st (k := k) enc dec P L st0 d hb
  refine ⟨ys, st', ?_, l1, p1, d1⟩
  unfold eLc
  rw [bd_eq hi, if_pos (by rw [List.length_map]; exact hl), bd_eq (noex_eq e1), bLst_map dec ys (by rw [l1]; exact hl)]
  rfl
theorem rng_eq (lo : Int) (n : Nat) : rng lo n = (List.range n).map fun (i : Nat) => Val.d (.int (lo + (i : Int))) := rfl
theorem kRg1_nat {z : Int} {n : Nat} (e : z = (n : Int)) (h : n ≤ 1000) : kRg1 [.d (.int z)] = ret ((List.range n).map fun (i : Nat) => Val.d (.int (0 + (i : Int)))) := by
  subst e
  rw [kRg1_eq, if_pos (by omega), Int.toNat_natCast]
  rfl
theorem five {a b c d e : Int} {r : Int} (h0 : 0 ≤ r) (h1 : r < 5) : ∃ x, atI [PyData.int a, .int b, .int c, .int d, .int e] r = some (.int x) ∧ (x = a ∨ x = b ∨ x = c ∨ x = d ∨ x = e) := by
  have : r = 0 ∨ r = 1 ∨ r = 2 ∨ r = 3 ∨ r = 4 := by omega
  rcases this with rfl | rfl | rfl | rfl | rfl
  · exact ⟨a, rfl, by simp⟩
  · exact ⟨b, rfl, by simp⟩
  · exact ⟨c, rfl, by simp⟩
  · exact ⟨d, rfl, by simp⟩
  · exact ⟨e, rfl, by simp⟩
theorem ints_map (ys : List Int) : ys.map PyData.int = intsD ys := rfl

theorem any_move_ex {k : Nat} {st : Store} (d : DS k st) {h : Nat} (hh : h ≤ 4) : ∃ m st', f_law_any_move [.o k, .d (.int h)] st = .ok (.d (eMv m)) st' ∧ m.1.length = h ∧ m.2.length = h ∧ (∀ x ∈ m.1, 0 ≤ x ∧ x ≤ 2) ∧ (∀ x ∈ m.2, 0 ≤ x ∧ x ≤ 2) ∧ Dc k st st' := by
  have hr : ∀ {st : Store} {x : Option Val}, iCall kRg1 (aC (eV 1) aN) [some (.o k), some (.d (.int h)), x, none] st = .ok ((List.range h).map fun (i : Nat) => Val.d (.int (0 + (i : Int)))) st := fun {st x} => by
    have e := kRg1_nat (z := (h : Int)) rfl (by omega)
    simp only [iCall_eq, aC_eq, eV_succ, eV_zero, aN_eq, bd_ret, e, ret_ap]
  obtain ⟨n1, st1, e1, l1, p1, d1⟩ := eLc_st (k := k) (g := gN 3) (t := tTr) (e := eO bIx (eB bLst (aC (eC (.int 0)) (aC (eC (.int 0)) (aC (eC (.int 1)) (aC (eC (.int 1)) (aC (eC (.int 2)) aN)))))) (eB (fixN 2 f_law_roll) (aC (eV 0) (aC (eC (.int 5)) aN)))) (vs := [3]) (List.range h) (fun (i : Nat) => Val.d (.int (0 + (i : Int)))) PyData.int (fun x => 0 ≤ x ∧ x ≤ 2) (hr (st := st) (x := none)) (by rw [List.length_range, lim_eq]; omega) d (fun p hp st d => by
    obtain ⟨r, st', er, r0, r1, dr⟩ := roll_ex d (many := 5) (by decide) (by decide)
    obtain ⟨x, ex, hx⟩ := five (a := 0) (b := 0) (c := 1) (d := 1) (e := 2) r0 r1
    refine ⟨x, st', ?_, by omega, dr⟩
    simp
    rw [bd_eq er]
    simp [ex])
  obtain ⟨n2, st2, e2, l2, p2, d2⟩ := eLc_st (k := k) (g := gN 3) (t := tTr) (e := eO bIx (eB bLst (aC (eC (.int 0)) (aC (eC (.int 0)) (aC (eC (.int 0)) (aC (eC (.int 1)) (aC (eC (.int 2)) aN)))))) (eB (fixN 2 f_law_roll) (aC (eV 0) (aC (eC (.int 5)) aN)))) (vs := [3]) (List.range h) (fun (i : Nat) => Val.d (.int (0 + (i : Int)))) PyData.int (fun x => 0 ≤ x ∧ x ≤ 2) (hr (st := st1) (x := some (.d (tI n1)))) (by rw [List.length_range, lim_eq]; omega) (d1.ds d) (fun p hp st d => by
    obtain ⟨r, st', er, r0, r1, dr⟩ := roll_ex d (many := 5) (by decide) (by decide)
    obtain ⟨x, ex, hx⟩ := five (a := 0) (b := 0) (c := 0) (d := 1) (e := 2) r0 r1
    refine ⟨x, st', ?_, by omega, dr⟩
    simp
    rw [bd_eq er]
    simp [ex])
  refine ⟨(n1, n2), st2, ?_, by simpa using l1, by simpa using l2, p1, p2, d1.trans d2⟩
  simp only [f_law_any_move, b_law_any_move, runF_eq]
  simp [law_any_move_C1_eq, law_any_move_C2_eq]
  rw [bd_eq e1]
  simp
  rw [ints_map]
  rw [show PyData.tuple (intsD n1) = tI n1 from rfl, bd_eq e2]
  simp
  rfl
theorem any_move_ex' {k : Nat} {st : Store} (d : DS k st) {h : Nat} (hh : h ≤ 4) {z : Int} (hz : z = (h : Int)) : ∃ m st', f_law_any_move [.o k, .d (.int z)] st = .ok (.d (eMv m)) st' ∧ (m.1.length = h ∧ m.2.length = h ∧ (∀ x ∈ m.1, 0 ≤ x ∧ x ≤ 2) ∧ (∀ x ∈ m.2, 0 ≤ x ∧ x ≤ 2)) ∧ Dc k st st' := by
  subst hz
  obtain ⟨m, st', em, a1, a2, a3, a4, dm⟩ := any_move_ex d hh
  exact ⟨m, st', em, ⟨a1, a2, a3, a4⟩, dm⟩
theorem any_moves_ex {k : Nat} {st : Store} (d : DS k st) {high : Nat} (h0 : 1 ≤ high) (h6 : high ≤ 6) : ∃ ms h st', f_law_any_moves [.o k, .d (.int high)] st = .ok (.d (eMs ms)) st' ∧ WF ms h ∧ h ≤ 3 ∧ ms.length ≤ high ∧ (∀ m ∈ ms, (∀ x ∈ m.1, 0 ≤ x ∧ x ≤ 2) ∧ ∀ x ∈ m.2, 0 ≤ x ∧ x ≤ 2) ∧ Dc k st st' := by
  obtain ⟨r, st1, e1, r0, r1, d1⟩ := roll_ex d (many := 3) (by decide) (by decide)
  obtain ⟨q, st2, e2, q0, q1, d2⟩ := roll_ex (d1.ds d) (many := high) (by omega) (by omega)
  obtain ⟨n, rfl⟩ : ∃ n : Nat, q = (n : Int) := ⟨q.toNat, by omega⟩
  obtain ⟨h, hz⟩ : ∃ h : Nat, 1 + r = (h : Int) := ⟨(1 + r).toNat, by omega⟩
  have h4 : h ≤ 4 := by omega
  generalize hz' : 1 + r = z at hz
  have hi : iCall kRg1 (aC (eO bAdd (eC (.int 1)) (eB (fixN 2 f_law_roll) (aC (eV 0) (aC (eV 1) aN)))) aN) [some (.o k), some (.d (.int high)), some (.d (.int z)), none] st1 = .ok ((List.range (n + 1)).map fun (i : Nat) => Val.d (.int (0 + (i : Int)))) st2 := by
    have e := kRg1_nat (z := 1 + (n : Int)) (n := n + 1) (by omega) (by omega)
    simp only [iCall_eq, aC_eq, eO_eq, eC_eq, eB_eq, eV_succ, eV_zero, aN_eq, bd_ret, bd_bd, fix2]
    rw [bd_eq e2]
    simp only [bAdd_int, bd_ret, e, ret_ap]
  obtain ⟨ms, st3, e3, l3, p3, d3⟩ := eLc_st (k := k) (g := gN 3) (t := tTr) (e := eB (fixN 2 f_law_any_move) (aC (eV 0) (aC (eV 2) aN))) (vs := [3]) (List.range (n + 1)) (fun (i : Nat) => Val.d (.int (0 + (i : Int)))) eMv (fun m => m.1.length = h ∧ m.2.length = h ∧ (∀ x ∈ m.1, 0 ≤ x ∧ x ≤ 2) ∧ ∀ x ∈ m.2, 0 ≤ x ∧ x ≤ 2) hi (by rw [List.length_range, lim_eq]; omega) (d2.ds (d1.ds d)) (fun p hp st d => by
    obtain ⟨m, st', em, a1, dm⟩ := any_move_ex' d h4 hz
    refine ⟨m, st', ?_, a1, dm⟩
    simp only [cBody_eq, wip_cons, wip_nil, gN_eq, bd_ret, tTr_eq, eB_eq, aC_eq, aN_eq, eV_zero, eV_succ, List.set_cons_succ, List.set_cons_zero, if_true, bd_bd, fix2]
    rw [bd_eq em]
    rfl)
  have ln : ms.length = n + 1 := by simpa using l3
  refine ⟨ms, h, st3, ?_, ⟨by omega, by omega, by omega, by omega, fun m hm => (p3 m hm).1, fun m hm => (p3 m hm).2.1, fun m hm x hx => ?_, fun m hm x hx => ?_⟩, by omega, by omega, fun m hm => ⟨(p3 m hm).2.2.1, (p3 m hm).2.2.2⟩, d1.trans (d2.trans d3)⟩
  · simp only [f_law_any_moves, b_law_any_moves, runF_eq]
    simp
    rw [bd_eq e1]
    simp [law_any_moves_C1_eq, hz']
    rw [bd_eq e3]
    simp
    rfl
  · have := (p3 m hm).2.2.1 x hx
    omega
  · have := (p3 m hm).2.2.2 x hx
    omega

/-! ### the law's own look at two standings -/
theorem shaped_ints (a : List Int) : PySem.SeqAt.shaped (.list (intsD a)) = true := by
  have h1 : ∀ a : List Int, PyData.canLayAll0 (intsD a) = true := fun a => by
    induction a with
    | nil => rfl
    | cons x a ih => simpa [intsD, PyData.canLayAll0, PyData.canLay0] using ih
  have h2 : ∀ a : List Int, PyData.depthAll (intsD a) ≤ 1 := fun a => by
    induction a with
    | nil => simp [intsD, PyData.depthAll]
    | cons x a ih => simpa [intsD, PyData.depthAll, PyData.depth] using ih
  have := h2 a
  simp [PySem.SeqAt.shaped, PyData.canLay0, h1 a, PyData.depth]
  omega

theorem cell_ex (ns : List Int) (hl : ns.length ≤ 1000) (k : Nat) : ∃ c : Int, f_law_cell [.s ns, .d (.int (k : Int))] = ret (.d (.int c)) := by
  have e0 : bEq (.s ns) (.d (.list [])) = ret (.d (.bool ns.isEmpty)) := by
    show bd (eqD (.list (intsD ns)) (.list [])) (fun r => ret (vB r)) = _
    rw [eqD_eq (shaped_ints ns) (show PySem.SeqAt.shaped (.list []) = true from shaped_ints [])]
    cases ns <;> rfl
  cases ns with
  | nil =>
    refine ⟨(k : Int) * 7919, ?_⟩
    have m : mulOk (k : Int) 7919 = true := mulOk_r (by decide)
    simp [f_law_cell, b_law_cell, runF_eq, e0, m]
  | cons a r =>
    have hp : (0 : Int) < ((a :: r).length : Int) := by simp only [List.length_cons]; omega
    have lg : ((a :: r).length : Int).natAbs.log2 < 9000 := by
      have : ((a :: r).length : Int).natAbs ≠ 0 := by omega
      have h2 : ((a :: r).length : Int).natAbs < 2 ^ 11 := by omega
      have := (Nat.log2_lt this).mpr h2
      omega
    generalize hL : ((a :: r).length : Int) = L at hp lg
    have hm0 := Int.emod_nonneg (k : Int) (show L ≠ 0 by omega)
    have hm1 := Int.emod_lt_of_pos (k : Int) hp
    obtain ⟨j, hj⟩ : ∃ j : Nat, (k : Int) % L = (j : Int) := ⟨((k : Int) % L).toNat, by omega⟩
    have hj' : j < (a :: r).length := by omega
    have ex : bIx (.s (a :: r)) (.d (.int (j : Int))) = ret (.d (.int (a :: r)[j])) := by
      have : atI (a :: r) (j : Int) = some (a :: r)[j] := atI_nat rfl (List.getElem?_eq_getElem hj')
      show bd (oget (atI (a :: r) (j : Int))) _ = _
      rw [this]; rfl
    have el : bLen [.s (a :: r)] = ret (.d (.int L)) := by rw [← hL]; rfl
    have m : mulOk ((k : Int) / L) 104729 = true := mulOk_r (by decide)
    refine ⟨(a :: r)[j] + (k : Int) / L * 104729, ?_⟩
    simp only [f_law_cell, b_law_cell, runF_eq]
    simp [e0, el, hp, lg, hj, ex, m, -bLen_s]
theorem rounds_comp {e : E} {vs : List Nat} {loc : Loc} (hb : ∀ (i : Nat) (st : Store), ∃ c : Int, cBody (gN 2) tTr e loc (.d (.int (0 + (i : Int)))) st = .ok (some (.o st.length)) (st ++ [dO c 0])) : ∀ (L : List Nat) (st : Store), ∃ cs : List Int,
    compL (cBody (gN 2) tTr e loc) (L.map fun (i : Nat) => Val.d (.int (0 + (i : Int)))) st = .ok ((List.range L.length).map fun i => Val.o (st.length + i)) (st ++ cs.map fun c => dO c 0) ∧ cs.length = L.length
  | [], st => ⟨[], by simp [compL], rfl⟩
  | p :: L, st => by
    obtain ⟨c, e1⟩ := hb p st
    obtain ⟨cs, e2, l2⟩ := rounds_comp (vs := vs) hb L (st ++ [dO c 0])
    refine ⟨c :: cs, ?_, by simp [l2]⟩
    show bd (cBody (gN 2) tTr e loc (.d (.int (0 + (p : Int))))) _ st = _
    rw [bd_eq e1, bd_eq e2]
    show R.ok (Val.o st.length :: (List.range L.length).map fun i => Val.o ((st ++ [dO c 0]).length + i)) ((st ++ [dO c 0]) ++ cs.map fun c => dO c 0) = _
    rw [List.length_cons, List.range_succ_eq_map, List.map_cons, List.map_map, List.append_assoc]
    congr 1
    simp
    intro i _
    omega
theorem rounds_ex (ns : List Int) (hl : ns.length ≤ 1000) (high : Nat) (hh : high ≤ 1000) : ∃ (n : Nat) (st : Store), f_law_rounds [.s ns, .d (.int (high : Int))] [] = .ok (.o n) st ∧ st[n]? = some (.lst ((List.range n).map .o)) ∧ ∀ i < n, DS i st := by
  obtain ⟨n, hn⟩ : ∃ n : Nat, (if (if (ns.length : Int) < (high : Int) then (ns.length : Int) else (high : Int)) > 1 then (if (ns.length : Int) < (high : Int) then (ns.length : Int) else (high : Int)) else 1) = (n : Int) := ⟨Int.toNat _, (Int.toNat_of_nonneg (by repeat' split <;> omega)).symm⟩
  have hn' : n ≤ 1000 := by
    revert hn
    repeat' split <;> omega
  have hi : iCall kRg1 (aC (eB bMax2 (aC (eC (.int 1)) (aC (eB bMin2 (aC (eV 1) (aC (eB bLen (aC (eV 0) aN)) aN))) aN))) aN) [some (.s ns), some (.d (.int high)), none] = ret ((List.range n).map fun (i : Nat) => Val.d (.int (0 + (i : Int)))) := by
    have e := kRg1_nat hn hn'
    simp only [iCall_eq, aC_eq, eB_eq, eC_eq, eV_zero, eV_succ, aN_eq, bd_ret, bd_bd, bLen_s, bMin2_eq, bMax2_eq, e]
  obtain ⟨cs, e2, l2⟩ := rounds_comp (vs := [2]) (loc := [some (.s ns), some (.d (.int high)), none]) (e := eB bNew (aC (eB (fixN 2 f_law_cell) (aC (eV 0) (aC (eV 2) aN))) (aC (eC (.int 0)) aN))) (fun i st => by
    obtain ⟨c, hc⟩ := cell_ex ns hl i
    refine ⟨c, ?_⟩
    have hz : (0 : Int) + (i : Int) = (i : Int) := by omega
    rw [hz]
    simp only [cBody_eq, gN_eq, bd_ret, tTr_eq, eB_eq, aC_eq, aN_eq, eC_eq, eV_zero, eV_succ, List.set_cons_succ, List.set_cons_zero, if_true, bd_bd, fix2, hc]
    rw [bd_eq (show bNew [.d (.int c), .d (.int 0)] st = .ok (.o st.length) (st ++ [dO c 0]) from rfl)]
    rfl) (List.range n) []
  simp only [List.length_range] at e2 l2
  refine ⟨n, (cs.map fun c => dO c 0) ++ [.lst ((List.range n).map .o)], ?_, ?_, fun i hi => ?_⟩
  · simp only [f_law_rounds, b_law_rounds, runF_eq]
    simp only [List.map_cons, List.map_nil, List.length_cons, List.length_nil, List.replicate, List.cons_append, List.nil_append, sRet_eq, law_rounds_C1_eq, bd_bd, bd_ret]
    have ew : eLcN (iCall kRg1 (aC (eB bMax2 (aC (eC (.int 1)) (aC (eB bMin2 (aC (eV 1) (aC (eB bLen (aC (eV 0) aN)) aN))) aN))) aN)) (gN 2) tTr (eB bNew (aC (eB (fixN 2 f_law_cell) (aC (eV 0) (aC (eV 2) aN))) (aC (eC (.int 0)) aN))) [2] [some (.s ns), some (.d (.int high)), none] [] = .ok (.o n) ((cs.map fun c => dO c 0) ++ [.lst ((List.range n).map .o)]) := by
      unfold eLcN
      rw [hi, bd_ret, if_pos (by rw [List.length_map, List.length_range, lim_eq]; omega)]
      have : wip [some (Val.s ns), some (.d (.int high)), none] [2] = [some (Val.s ns), some (.d (.int high)), none] := rfl
      rw [this, bd_eq (noex_eq e2)]
      unfold bNew
      rw [if_pos (by rw [List.length_map, List.length_range, lim_eq]; omega)]
      simp [l2]
    rw [bd_eq ew]
    rfl
  · rw [List.getElem?_append_right (by rw [List.length_map]; omega), List.length_map, l2]
    simp
  · have hi' : i < cs.length := by omega
    refine ⟨cs[i], 0, ?_⟩
    rw [List.getElem?_append_left (by rw [List.length_map]; omega), List.getElem?_map, List.getElem?_eq_getElem hi']
    rfl
/-! ### loops that keep something -/
theorem forL_inv {body : Val → S} (P : Loc → Store → Prop) : ∀ (xs : List Val) (loc : Loc) (st : Store), P loc st → (∀ v ∈ xs, ∀ loc st, P loc st → ∃ loc' st', body v loc st = .ok (.nx, loc') st' ∧ P loc' st') → ∃ loc' st', forL body xs loc st = .ok (.nx, loc') st' ∧ P loc' st'
  | [], loc, st, p, _ => ⟨loc, st, rfl, p⟩
  | x :: xs, loc, st, p, h => by
    obtain ⟨l1, s1, e1, p1⟩ := h x List.mem_cons_self loc st p
    obtain ⟨l2, s2, e2, p2⟩ := forL_inv P xs l1 s1 p1 fun v hv => h v (List.mem_cons_of_mem _ hv)
    refine ⟨l2, s2, ?_, p2⟩
    show bd (body x loc) _ st = _
    rw [bd_eq e1]
    exact e2
theorem forO_inv {k : Nat} {xs0 : List Val} {body : Val → S} (P : Loc → Store → Prop) (hk : ∀ loc st, P loc st → st[k]? = some (.lst xs0)) : ∀ (xs : List Val) (loc : Loc) (st : Store), P loc st → (∀ v ∈ xs, ∀ loc st, P loc st → ∃ loc' st', body v loc st = .ok (.nx, loc') st' ∧ P loc' st') → ∃ loc' st', forO k xs0 body xs loc st = .ok (.nx, loc') st' ∧ P loc' st'
  | [], loc, st, p, _ => ⟨loc, st, by unfold forO; rw [if_pos (hk _ _ p)], p⟩
  | x :: xs, loc, st, p, h => by
    obtain ⟨l1, s1, e1, p1⟩ := h x List.mem_cons_self loc st p
    obtain ⟨l2, s2, e2, p2⟩ := forO_inv P hk xs l1 s1 p1 fun v hv => h v (List.mem_cons_of_mem _ hv)
    refine ⟨l2, s2, ?_, p2⟩
    unfold forO
    rw [if_pos (hk _ _ p), bd_eq e1]
    exact e2
theorem getL_o {k : Nat} {st : Store} {xs : List Val} (h : st[k]? = some (.lst xs)) : getL (.o k) st = .ok (k, xs) st := by
  show (match st[k]? with | some (.lst xs) => R.ok (k, xs) st | _ => .bad) = _
  rw [h]
/-- the frame of a law: one round for each dice -/
theorem law_frame {ns : List Int} {B : S} {G1 : G} {high : Nat} {m : Nat} (hl : ns.length ≤ 1000) (hh : high ≤ 1000) (P : Loc → Prop) (p0 : P (some (.s ns) :: List.replicate m none))
    (hB : ∀ (i : Nat) (loc : Loc) (st : Store), P loc → DS i st → ∃ loc' st', fBody G1 B (.o i) loc st = .ok (.nx, loc') st' ∧ P loc' ∧ Dc i st st') :
    ∃ st', runF (m + 1) (sSeq (sForO (eB (fixN 2 f_law_rounds) (aC (eV 0) (aC (eC (.int (high : Int))) aN))) G1 B) (sRet (eC (.bool true)))) [.s ns] [] = .ok (.d (.bool true)) st' := by
  obtain ⟨n, st, e1, hk, hd⟩ := rounds_ex ns hl high hh
  obtain ⟨loc', st', e2, _⟩ := forO_inv (k := n) (xs0 := (List.range n).map .o) (body := fBody G1 B) (fun loc st => P loc ∧ st[n]? = some (.lst ((List.range n).map .o)) ∧ ∀ i < n, DS i st) (fun _ _ p => p.2.1) ((List.range n).map .o) (some (.s ns) :: List.replicate m none) st ⟨p0, hk, hd⟩ (fun v hv loc st p => by
    obtain ⟨i, hi, rfl⟩ := List.mem_map.mp hv
    have hi' : i < n := List.mem_range.mp hi
    obtain ⟨loc', st', e, p', d⟩ := hB i loc st p.1 (p.2.2 i hi')
    refine ⟨loc', st', e, p', ?_, fun j hj => ?_⟩
    · rw [d.other (by omega) (List.getElem?_eq_some_iff.mp p.2.1).1]; exact p.2.1
    · by_cases hij : i = j
      · subst hij; exact d.ds (p.2.2 i hi')
      · obtain ⟨c, k, e⟩ := p.2.2 j hj
        exact ⟨c, k, by rw [d.other hij (List.getElem?_eq_some_iff.mp e).1]; exact e⟩)
  refine ⟨st', ?_⟩
  rw [runF_eq]
  have el : List.map some [Val.s ns] ++ List.replicate (m + 1 - [Val.s ns].length) none = some (.s ns) :: List.replicate m none := rfl
  rw [el, sSeq_eq, bd_bd]
  have es : sForO (eB (fixN 2 f_law_rounds) (aC (eV 0) (aC (eC (.int (high : Int))) aN))) G1 B (some (.s ns) :: List.replicate m none) [] = .ok (.nx, loc') st' := by
    unfold sForO
    simp only [eB_eq, aC_eq, eV_zero, eC_eq, aN_eq, bd_ret, bd_bd, fix2]
    rw [bd_eq e1, bd_eq (getL_o hk)]
    exact e2
  rw [bd_eq es]
  rfl

/-! ### texts: how the combinators compute -/
section
variable {loc : Loc}
@[simp] theorem eFmt_eq (f : E) : eFmt f loc = bd (f loc) fmt1 := rfl
@[simp] theorem eJl_nil (acc : Str) : eJl [] acc loc = ret (.d (.str acc)) := rfl
@[simp] theorem eJl_cons (f : E) (fs : List E) (acc : Str) : eJl (f :: fs) acc loc = bd (f loc) fun v => bd (strOf v) fun y => if (acc ++ y).length ≤ lim then eJl fs (acc ++ y) loc else die := rfl
@[simp] theorem eJoin_eq (o e : E) : eJoin o e loc = bd (o loc) fun x => bd (strOf x) fun a => bd (e loc) (bJoin a) := rfl
@[simp] theorem eSplit_eq (o e : E) : eSplit o e loc = bd (o loc) fun x => bd (strOf x) fun a => bd (e loc) (bSplit a) := rfl
@[simp] theorem eIdx_eq (o e : E) : eIdx o e loc = bd (o loc) fun x => bd (strOf x) fun a => bd (e loc) (bIdx a) := rfl
@[simp] theorem eSlT_eq (e : E) (lo hi : Oe) : eSlT e lo hi loc = bd (e loc) fun x => bd (lo loc) fun a => bd (hi loc) fun b => bSlT x a b := rfl
@[simp] theorem iTxt_eq (e : E) : iTxt e loc = bd (e loc) fun v => bd (strOf v) fun x => ret ((TL.tl x).map fun c => vS [c]) := rfl
@[simp] theorem strOf_eq (x : Str) : strOf (.d (.str x)) = ret x := rfl
@[simp] theorem gLO_o (n : Nat) (gs : Gs) (k : Nat) : gLO n gs (.o k) loc = fun st => match st[k]? with
    | some (.lst xs) => if xs.length = n then gs xs loc st else .bad
    | _ => .bad := rfl
end
@[simp] theorem tl_tx' (l : List Nat) : TL.tl (tx l) = l := rfl
theorem fmt_txt {l : List Nat} (h : l.length ≤ lim) : fmt1 (vS l) = ret (vS l) := by
  unfold fmt1 vS
  dsimp only
  rw [if_pos (by rw [len_tx]; exact h)]
theorem log_small {i : Int} (h : i.natAbs < 2 ^ 1000) : i.natAbs.log2 < 1900 := by
  by_cases h0 : i.natAbs = 0
  · rw [h0]; simp
  · have := (Nat.log2_lt h0).mpr h
    omega
theorem fmt_int {i : Int} (h0 : 0 ≤ i) (h : i.natAbs < 2 ^ 1000) : fmt1 (.d (.int i)) = ret (vS (TL.numL i.toNat)) := by
  unfold fmt1
  dsimp only
  rw [if_pos ⟨h0, log_small h⟩]
theorem str_int {i : Int} (h0 : 0 ≤ i) (h : i.natAbs < 2 ^ 1000) : bStrI [.d (.int i)] = ret (vS (TL.numL i.toNat)) := by
  unfold bStrI
  dsimp only
  rw [if_pos ⟨h0, log_small h⟩]
theorem len_txt {l : List Nat} (h : l.length ≤ lim) : bLenT [vS l] = ret (.d (.int (l.length : Int))) := by
  unfold bLenT vS
  dsimp only
  rw [len_tx, if_pos h]
  try rfl
theorem ix_txt {l : List Nat} (h : l.length ≤ lim) (i : Int) : bIxT (vS l) (.d (.int i)) = bd (oget (atI l i)) fun c => ret (vS [c]) := by
  unfold bIxT vS
  dsimp only
  rw [len_tx, if_pos h]
  try rfl
theorem sl_txt {l : List Nat} (h : l.length ≤ lim) (lo hi : Option Int) : bSlT (vS l) lo hi = ret (vS ((l.drop (sIx l.length 0 lo)).take (sIx l.length l.length hi - sIx l.length 0 lo))) := by
  unfold bSlT vS
  dsimp only
  rw [len_tx, if_pos h]
  all_goals rfl
theorem in_txt (neg : Bool) (c : Nat) (l : List Nat) : bInT neg (vS [c]) (vS l) = ret (.d (.bool (if neg then !decide (c ∈ l) else decide (c ∈ l)))) := rfl
theorem add_txt {a b : List Nat} (h : a.length + b.length ≤ lim) : bAdd (vS a) (vS b) = ret (vS (a ++ b)) := by
  show (if (tx a).length + (tx b).length ≤ lim then ret (Val.d (.str (tx a ++ tx b))) else die) = _
  rw [len_tx, len_tx, if_pos h, tx_app]
  try rfl
theorem split_txt {a b : List Nat} (hb : b ≠ []) (hk : b.all (fun c => decide (c < 256)) = true) (ha : a.length ≤ lim) : bSplit (tx a) (vS b) = ret (.d (.list ((TL.spl b 0 [] a).map fun l => .str (tx l)))) := by
  unfold bSplit vS
  dsimp only
  have hk2 : (tx b).cps.all (fun x => decide (x < 256)) = true := by
    rw [← Array.all_toList]
    exact hk
  rw [if_pos ⟨hb, hk2, by rw [len_tx]; exact ha⟩]
  rfl
theorem toSs_map : ∀ ls : List (List Nat), toSs (ls.map fun l => PyData.str (tx l)) = some (ls.map tx)
  | [] => rfl
  | l :: ls => by
    show (toSs (ls.map fun l => PyData.str (tx l))).map (tx l :: ·) = _
    rw [toSs_map ls]
    rfl
theorem join_tx (s : List Nat) (ls : List (List Nat)) : Str.join (tx s) (ls.map tx) = tx (TL.joinL s ls) := by
  refine TL.ext_tl ?_
  rw [TL.tl_join, List.map_map]
  show TL.joinL s (ls.map (TL.tl ∘ tx)) = TL.joinL s ls
  congr 1
  exact List.map_id _
theorem join_txt {s : List Nat} {ls : List (List Nat)} (h : (ls.map (·.length)).sum + ls.length * s.length ≤ lim) : bJoin (tx s) (.d (.list (ls.map fun l => .str (tx l)))) = ret (vS (TL.joinL s ls)) := by
  show bd (oget (toSs (ls.map fun l => PyData.str (tx l)))) _ = _
  rw [toSs_map, oget_some, bd_ret]
  have e : ((ls.map tx).map (·.length)).sum + (ls.map tx).length * (tx s).length = (ls.map (·.length)).sum + ls.length * s.length := by
    rw [List.map_map, List.length_map, len_tx]
    have : ls.map ((fun x : Str => x.length) ∘ tx) = ls.map (·.length) := List.map_congr_left fun l _ => len_tx l
    rw [this]
  rw [e, if_pos h, join_tx]
  try rfl
theorem str_beq (a b : List Nat) : (tx a == tx b) = decide (a = b) := by
  by_cases h : a = b
  · subst h
    simp
  · have : tx a ≠ tx b := fun e => h (congrArg TL.tl e)
    simp [h, this]
def okL (l : List Nat) : Bool := l.all fun c => decide (c < 1114112)
theorem sh_str {l : List Nat} (h : okL l = true) : PySem.SeqAt.shaped (.str (tx l)) = true := by
  have : PyData.strOk (tx l) = true := by
    unfold PyData.strOk
    rw [← Array.all_toList]
    exact h
  simp [PySem.SeqAt.shaped, PyData.canLay0, PyData.depth, this]
theorem eq_txt {a b : List Nat} (ha : okL a = true) (hb : okL b = true) : bEq (vS a) (vS b) = ret (.d (.bool (decide (a = b)))) := by
  show bEq (.d (.str (tx a))) (.d (.str (tx b))) = _
  rw [bEq_d, eqD_eq (sh_str ha) (sh_str hb), bd_ret]
  simp only [PyData.eqv]
  rw [str_beq]
theorem ne_txt {a b : List Nat} (ha : okL a = true) (hb : okL b = true) : bNe (vS a) (vS b) = ret (.d (.bool (!decide (a = b)))) := by
  show bNe (.d (.str (tx a))) (.d (.str (tx b))) = _
  rw [bNe_d, eqD_eq (sh_str ha) (sh_str hb), bd_ret]
  simp only [PyData.eqv]
  rw [str_beq]
/-! ### numbers in texts -/
def isDg (c : Nat) : Bool := decide (48 ≤ c) && decide (c ≤ 57)
theorem mem_figs (c : Nat) : decide (c ∈ [48, 49, 50, 51, 52, 53, 54, 55, 56, 57]) = isDg c := by
  unfold isDg
  rw [Bool.eq_iff_iff]
  simp
  omega
theorem int_txt {l : List Nat} (h1 : l ≠ []) (h2 : l.all isDg = true) (h3 : l.length ≤ 600) : bIntT [vS l] = ret (.d (.int (valL l : Int))) := by
  unfold bIntT vS
  dsimp only
  have hd : digs (TL.tl (tx l)) = true := by
    unfold digs
    rw [Bool.and_eq_true]
    exact ⟨decide_eq_true h1, h2⟩
  rw [if_pos ⟨hd, by rw [len_tx]; exact h3⟩]
  rfl
def numIn (l : List Nat) : Option Nat := if 1 ≤ l.length ∧ l.length ≤ 3 ∧ l.all isDg = true ∧ TL.numL (valL l) = l then some (valL l) else none
theorem valL_lt : ∀ (l : List Nat) (a : Nat), l.all isDg = true → l.foldl (fun a c => a * 10 + (c - 48)) a < (a + 1) * 10 ^ l.length
  | [], a, _ => by simp
  | c :: r, a, h => by
    rw [List.all_cons, Bool.and_eq_true] at h
    have hc := h.1
    unfold isDg at hc
    simp only [Bool.and_eq_true, decide_eq_true_eq] at hc
    have ih := valL_lt r (a * 10 + (c - 48)) h.2
    rw [List.foldl_cons, List.length_cons, Nat.pow_succ]
    have h2 : (a * 10 + (c - 48) + 1) * 10 ^ r.length ≤ ((a + 1) * 10) * 10 ^ r.length := Nat.mul_le_mul_right _ (by omega)
    have h3 : (a + 1) * (10 ^ r.length * 10) = ((a + 1) * 10) * 10 ^ r.length := by
      rw [Nat.mul_comm (10 ^ r.length) 10, Nat.mul_assoc]
    omega
theorem valL_999 {l : List Nat} (h : l.all isDg = true) (h3 : l.length ≤ 3) : valL l < 1000 := by
  have := valL_lt l 0 h
  have h2 : 10 ^ l.length ≤ 10 ^ 3 := Nat.pow_le_pow_right (by decide) h3
  unfold valL
  omega
theorem dg_ok {l : List Nat} (h : l.all isDg = true) : okL l = true := by
  unfold okL
  rw [List.all_eq_true] at h ⊢
  intro c hc
  have := h c hc
  simp [isDg] at this ⊢
  omega
theorem num_dg (n : Nat) : (TL.numL n).all isDg = true := by
  rw [List.all_eq_true]
  intro c hc
  have := TL.numL_digits n c hc
  simp [isDg, this]
theorem r_number_in {l : List Nat} (hl : l.length ≤ lim) : f_number_in [vS l] = match numIn l with
    | some n => ret (.d (.int (n : Int)))
    | none => thr 10 := by
  have e : number_in_C1 [some (vS l), none] = ret (.d (.list (l.map fun c => .bool (isDg c)))) :=
    eLc_map l (fun c => vS [c]) _ (by simp) hl fun c hc => by
      have := in_txt false c [48, 49, 50, 51, 52, 53, 54, 55, 56, 57]
      rw [if_neg (by decide), mem_figs] at this
      simp [this]
  have e2 := bAll_map isDg l
  unfold numIn
  by_cases h1 : 1 ≤ l.length
  · have c1 : (1 : Int) ≤ (l.length : Int) := by omega
    by_cases h3 : l.length ≤ 3
    · have c3 : (l.length : Int) ≤ 3 := by omega
      cases ha : l.all isDg with
      | false =>
        rw [ha] at e2
        rw [if_neg (by simp)]
        simp [f_number_in, b_number_in, runF_eq, len_txt hl, e, e2, c1, c3]
      | true =>
        rw [ha] at e2
        have hne : l ≠ [] := fun z => by rw [z] at h1; simp at h1
        have hi := int_txt hne ha (by omega)
        have hv := valL_999 ha h3
        have hs : bStrI [.d (.int (valL l : Int))] = ret (vS (TL.numL (valL l))) := str_int (by omega) (by
          have : ((valL l : Int)).natAbs = valL l := by omega
          rw [this]
          exact Nat.lt_of_lt_of_le hv (by decide))
        have hn := ne_txt (a := TL.numL (valL l)) (b := l) (dg_ok (num_dg _)) (dg_ok ha)
        by_cases hq : TL.numL (valL l) = l
        · rw [if_pos ⟨h1, h3, rfl, hq⟩]
          have hn : bNe (vS (TL.numL (valL l))) (vS l) = ret (.d (.bool false)) := by rw [hn]; simp [hq]
          simp [f_number_in, b_number_in, runF_eq, len_txt hl, e, e2, c1, c3, hi, hs, hn]
        · rw [if_neg (fun z => hq z.2.2.2)]
          have hn : bNe (vS (TL.numL (valL l))) (vS l) = ret (.d (.bool true)) := by rw [hn]; simp [hq]
          simp [f_number_in, b_number_in, runF_eq, len_txt hl, e, e2, c1, c3, hi, hs, hn]
    · rw [if_neg (fun z => h3 z.2.1)]
      have c3 : ¬ (l.length : Int) ≤ 3 := by omega
      simp [f_number_in, b_number_in, runF_eq, len_txt hl, c1, c3]
  · rw [if_neg (fun z => h1 z.1)]
    have c1 : ¬ (1 : Int) ≤ (l.length : Int) := by omega
    simp [f_number_in, b_number_in, runF_eq, len_txt hl, c1]
theorem numIn_num {n : Nat} (h : n < 1000) : numIn (TL.numL n) = some n := by
  have hv : valL (TL.numL n) = n := TL.numL_val n
  unfold numIn
  rw [hv, if_pos]
  refine ⟨?_, TL.numL_len (by decide) h, num_dg n, rfl⟩
  have := TL.numL_ne n
  cases q : TL.numL n with
  | nil => exact absurd q this
  | cons _ _ => simp

end Y
end
section
set_option Elab.async false
set_option linter.all false
set_option maxRecDepth 10000
set_option exponentiation.threshold 5000
namespace Y
open PySem (PyData Str)
/-! ### moves as texts -/
theorem enumF_ints : ∀ (a : List Int) (n : Nat), enumF n (intsD a) = (a.zipIdx n).map fun p => Val.d (.tuple [.int (p.2 : Int), .int p.1])
  | [], n => rfl
  | x :: a, n => by
    show Val.d (.tuple [.int (n : Int), .int x]) :: enumF (n + 1) (intsD a) = _
    rw [enumF_ints a (n + 1)]
    rfl
theorem Sh.tx {l : List Nat} (h : okL l = true) : Sh 1 (.str (Y.tx l)) := by
  refine ⟨?_, by simp [PyData.depth]⟩
  show PyData.strOk (Y.tx l) = true
  unfold PyData.strOk
  rw [← Array.all_toList]
  exact h
theorem Sh.txs {ls : List (List Nat)} (h : ∀ l ∈ ls, okL l = true) : Sh 2 (.list (ls.map fun l => .str (Y.tx l))) := Sh.list fun x hx => by
  obtain ⟨l, hl, rfl⟩ := List.mem_map.mp hx
  exact Sh.tx (h l hl)
theorem ne_nil_txt {ls : List (List Nat)} (h : ∀ l ∈ ls, okL l = true) : bNe (.d (.list (ls.map fun l => .str (tx l)))) (.d (.list [])) = ret (.d (.bool (!ls.isEmpty))) := by
  rw [bNe_d, eqD_eq ((Sh.txs h).shaped (by decide)) ((Sh.list (n := 1) (ds := []) fun x hx => by cases hx).shaped (by decide)), bd_ret]
  cases ls with
  | nil => simp [PyData.eqv, PyData.eqvAll]
  | cons l ls => simp [PyData.eqv, PyData.eqvAll]
def hWord (x : Int × Nat) : List Nat := TL.numL x.1.toNat ++ [97 + x.2]
def hWords (a : List Int) (n : Nat) : List (List Nat) := ((a.zipIdx n).filter fun x => decide (0 < x.1)).map hWord
def hText (a : List Int) : List Nat := if hWords a 0 = [] then [45] else TL.joinL [32] (hWords a 0)
theorem num_len9 {i : Int} (h : i ≤ 9) (h0 : 0 ≤ i) : (TL.numL i.toNat).length = 1 := by
  rw [TL.numL_lt (by omega)]
  rfl
theorem hWord_len {x : Int × Nat} (h0 : 0 ≤ x.1) (h9 : x.1 ≤ 9) : (hWord x).length = 2 := by
  unfold hWord
  rw [List.length_append, num_len9 h9 h0]
  rfl
theorem hWord_ok {x : Int × Nat} (h : x.2 < 1000) : okL (hWord x) = true := by
  unfold hWord okL
  rw [List.all_append, Bool.and_eq_true]
  refine ⟨dg_ok (num_dg _), ?_⟩
  simp
  omega
structure Hp9 (a : List Int) : Prop where
  l : a.length ≤ 4
  b : ∀ x ∈ a, 0 ≤ x ∧ x ≤ 9
theorem zipIdx_b {a : List Int} {n : Nat} {x : Int × Nat} (h : x ∈ a.zipIdx n) : x.1 ∈ a ∧ x.2 < n + a.length := by
  obtain ⟨v, i⟩ := x
  have := List.mem_zipIdx h
  refine ⟨?_, by omega⟩
  rw [this.2.2]
  exact List.getElem_mem _
theorem hWords_len (a : List Int) (n : Nat) : (hWords a n).length ≤ a.length := by
  unfold hWords
  rw [List.length_map]
  refine Nat.le_trans (List.length_filter_le _ _) ?_
  rw [List.length_zipIdx]
  exact Nat.le_refl _
theorem Hp9.word {a : List Int} (w : Hp9 a) {n : Nat} : ∀ l ∈ hWords a n, l.length = 2 ∧ (n ≤ 4 → okL l = true) := fun l hl => by
  obtain ⟨x, hx, rfl⟩ := List.mem_map.mp hl
  obtain ⟨h1, h2⟩ := zipIdx_b (List.mem_filter.mp hx).1
  have hb := w.b _ h1
  have := w.l
  exact ⟨hWord_len hb.1 hb.2, fun _ => hWord_ok (by omega)⟩
theorem sum_two : ∀ ls : List (List Nat), (∀ l ∈ ls, l.length = 2) → (ls.map (·.length)).sum = 2 * ls.length
  | [], _ => rfl
  | l :: ls, h => by
    rw [List.map_cons, List.sum_cons, h l (by simp), sum_two ls fun m hm => h m (by simp [hm]), List.length_cons]
    omega
theorem abcd_at {j : Nat} (h : j < 4) : atI [97, 98, 99, 100] (j : Int) = some (97 + j) := by
  have : j = 0 ∨ j = 1 ∨ j = 2 ∨ j = 3 := by omega
  rcases this with rfl | rfl | rfl | rfl <;> rfl
theorem r_heaps_text {a : List Int} (w : Hp9 a) : f_heaps_text [.d (tI a)] = ret (vS (hText a)) := by
  have hl := w.l
  have e : heaps_text_C1 [some (Val.d (tI a)), none, none, none] = ret (.d (.list ((hWords a 0).map fun l => .str (tx l)))) := by
    have z := eLc_filter (it := iCall kEnumS (aC (eV 0) aN)) (g := gT 2 (gsC (gN 2) (gsC (gN 3) gsN))) (t := tV (eO bGt (eV 3) (eC (.int 0)))) (e := eJl [(eFmt (eV 3)), (eFmt (eO bIxT (eC (.str (tx [97, 98, 99, 100]))) (eV 2)))] (tx [])) (vs := [2, 3])
      (loc := [some (Val.d (tI a)), none, none, none]) (a.zipIdx 0) (fun p => Val.d (.tuple [.int (p.2 : Int), .int p.1])) (fun x => decide (0 < x.1)) (fun x => .str (tx (hWord x))) (by simp [tI]; rw [enumF_ints]) (by rw [List.length_zipIdx, lim_eq]; omega) fun x hx => by
        obtain ⟨h1, h2⟩ := zipIdx_b hx
        have hb := w.b _ h1
        have hf : fmt1 (.d (.int x.1)) = ret (vS (TL.numL x.1.toNat)) := fmt_int hb.1 (Nat.lt_of_lt_of_le (show x.1.natAbs < 10 by omega) (by decide))
        have hi : bIxT (vS [97, 98, 99, 100]) (.d (.int (x.2 : Int))) = ret (vS [97 + x.2]) := by rw [ix_txt (by decide), abcd_at (by omega)]; rfl
        have hf2 : fmt1 (vS [97 + x.2]) = ret (vS [97 + x.2]) := fmt_txt (by simp [lim_eq])
        have n1 := num_len9 hb.2 hb.1
        have l1 : (tx ([] : List Nat) ++ tx (TL.numL x.1.toNat)).length ≤ lim := by rw [tx_app, len_tx, List.nil_append, n1]; decide
        have l2 : (tx ([] : List Nat) ++ tx (TL.numL x.1.toNat) ++ tx [97 + x.2]).length ≤ lim := by rw [tx_app, tx_app, len_tx, List.nil_append, List.length_append, n1]; simp [lim_eq]
        by_cases hp : 0 < x.1
        · simp [hp, hf, hi, hf2, l1, l2]
          rw [tx_app, tx_app]
          rfl
        · simp [hp]
    rw [heaps_text_C1_eq, z]
    unfold hWords
    rw [List.map_map]
    rfl
  have hne := ne_nil_txt (ls := hWords a 0) fun l hl => (w.word l hl).2 (by decide)
  have hj : bJoin (tx [32]) (.d (.list ((hWords a 0).map fun l => .str (tx l)))) = ret (vS (TL.joinL [32] (hWords a 0))) := join_txt (by
    rw [sum_two _ fun l hl => (w.word l hl).1]
    have := hWords_len a 0
    simp only [List.length_cons, List.length_nil, lim_eq]
    omega)
  unfold hText
  cases q : hWords a 0 with
  | nil =>
    rw [q] at hne hj e
    have hne : bNe (.d (.list [])) (.d (.list [])) = ret (.d (.bool false)) := hne
    simp only [List.map_nil] at e
    simp only [if_true, f_heaps_text, b_heaps_text, runF_eq, List.map_cons, List.map_nil, List.cons_append, List.nil_append, List.length_cons, List.length_nil, List.replicate, sSeq_eq, sAsg_eq, e, bd_ret, gN_eq, List.set_cons_succ, List.set_cons_zero, sRet_eq, eIf_eq, tV_eq, eO_eq, eV_succ, eV_zero, eB_eq, aN_eq, bLst_eq0, bd_bd, hne, asB_eq, eC_eq, Bool.false_eq_true, if_false]
  | cons l ls =>
    rw [q] at hne hj e
    rw [if_neg (by simp)]
    have hne : bNe (.d (.list ((l :: ls).map fun l => .str (tx l)))) (.d (.list [])) = ret (.d (.bool true)) := hne
    simp only [List.map_cons] at e hne hj
    simp [f_heaps_text, b_heaps_text, runF_eq, e, hne, hj]
theorem joinL_len (s : List Nat) : ∀ ls : List (List Nat), (TL.joinL s ls).length ≤ (ls.map (·.length)).sum + ls.length * s.length
  | [] => by simp [TL.joinL]
  | [p] => by simp [TL.joinL]
  | p :: q :: r => by
    have ih := joinL_len s (q :: r)
    simp only [TL.joinL, List.length_append, List.map_cons, List.sum_cons, List.length_cons, Nat.add_mul] at ih ⊢
    omega
theorem hText_len {a : List Int} (w : Hp9 a) : (hText a).length ≤ 12 := by
  unfold hText
  split
  · simp
  · have := joinL_len [32] (hWords a 0)
    rw [sum_two _ fun l hl => (w.word l hl).1] at this
    have h2 := hWords_len a 0
    have := w.l
    simp only [List.length_cons, List.length_nil] at *
    omega
def oText (m : Mv) : List Nat := hText m.1 ++ [32, 62, 32] ++ hText m.2
theorem oText_len {m : Mv} (h1 : Hp9 m.1) (h2 : Hp9 m.2) : (oText m).length ≤ 27 := by
  have a := hText_len h1
  have b := hText_len h2
  unfold oText
  simp only [List.length_append, List.length_cons, List.length_nil]
  omega
theorem r_one_text {m : Mv} (h1 : Hp9 m.1) (h2 : Hp9 m.2) : f_one_text [.d (eMv m)] = ret (vS (oText m)) := by
  have a := hText_len h1
  have b := hText_len h2
  have e1 : bAdd (vS (hText m.1)) (vS [32, 62, 32]) = ret (vS (hText m.1 ++ [32, 62, 32])) := add_txt (by simp [lim_eq]; omega)
  have e2 : bAdd (vS (hText m.1 ++ [32, 62, 32])) (vS (hText m.2)) = ret (vS (oText m)) := add_txt (by simp [lim_eq]; omega)
  simp [f_one_text, b_one_text, runF_eq, eMv, atI_zero, atI_one, r_heaps_text h1, r_heaps_text h2, e1, e2]
theorem WF.hp {ms : List Mv} {h : Nat} (w : WF ms h) {m : Mv} (hm : m ∈ ms) : Hp9 m.1 ∧ Hp9 m.2 := by
  have := w.h4
  exact ⟨⟨by rw [w.l1 m hm]; omega, w.b1 m hm⟩, ⟨by rw [w.l2 m hm]; omega, w.b2 m hm⟩⟩
def mText (h : Nat) (ms : List Mv) : List Nat := TL.joinL [10] (TL.numL h :: ms.map oText)
theorem sum_le {c : Nat} : ∀ ls : List (List Nat), (∀ l ∈ ls, l.length ≤ c) → (ls.map (·.length)).sum ≤ ls.length * c
  | [], _ => by simp
  | l :: ls, h => by
    have h1 := h l (by simp)
    have h2 := sum_le ls fun m hm => h m (by simp [hm])
    rw [List.map_cons, List.sum_cons, List.length_cons, Nat.add_mul]
    omega
theorem WF.mt_len {ms : List Mv} {h : Nat} (w : WF ms h) : ((TL.numL h :: ms.map oText).map (·.length)).sum + (TL.numL h :: ms.map oText).length * 1 ≤ 200 := by
  have n6 := w.n6
  have h4 := w.h4
  have n1 := num_len9 (i := (h : Int)) (by omega) (by omega)
  have e : ((h : Int)).toNat = h := by omega
  rw [e] at n1
  have s := sum_le (c := 27) (ms.map oText) fun l hl => by
    obtain ⟨m, hm, rfl⟩ := List.mem_map.mp hl
    exact oText_len (w.hp hm).1 (w.hp hm).2
  rw [List.length_map] at s
  simp only [List.map_cons, List.sum_cons, List.length_cons, n1, List.length_map] at s ⊢
  omega
theorem WF.mt_len' {ms : List Mv} {h : Nat} (w : WF ms h) : (mText h ms).length ≤ 200 := Nat.le_trans (joinL_len [10] _) w.mt_len
theorem WF.moves_text {ms : List Mv} {h : Nat} (w : WF ms h) : f_moves_text [.d (eMs ms)] = ret (vS (mText h ms)) := by
  have n6 := w.n6
  have h4 := w.h4
  have e : moves_text_C1 [some (Val.d (eMs ms)), none] = ret (.d (.list (ms.map fun m => .str (tx (oText m))))) :=
    eLc_map ms (fun m => .d (eMv m)) _ (by simp [eMs]; rfl) (by rw [lim_eq]; omega) fun m hm => by
      simp [r_one_text (w.hp hm).1 (w.hp hm).2]
  have hs : bStrI [.d (.int (h : Int))] = ret (vS (TL.numL h)) := str_int (by omega) (by
    have : ((h : Int)).natAbs = h := by omega
    rw [this]
    exact Nat.lt_of_le_of_lt h4 (by decide))
  have hj : bJoin (tx [10]) (.d (.list (.str (tx (TL.numL h)) :: ms.map fun m => .str (tx (oText m))))) = ret (vS (mText h ms)) := by
    have z := join_txt (s := [10]) (ls := TL.numL h :: ms.map oText) (Nat.le_trans w.mt_len (by decide))
    rw [List.map_cons, List.map_map] at z
    exact z
  have hh : bLen [.d (tI (ms.headD ([], [])).1)] = ret (.d (.int (h : Int))) := by
    cases ms with
    | nil => have := w.n1; simp at this
    | cons m r => simp [tI, w.l1 m (by simp)]
  cases ms with
  | nil => have := w.n1; simp at this
  | cons m r =>
    have nd := w.need
    have hl : 1 + (r.length + 1) ≤ lim := by simp only [List.length_cons] at n6; rw [lim_eq]; omega
    simp only [List.headD_cons] at hh
    simp only [eMs, List.map_cons] at nd e hj
    simp [f_moves_text, b_moves_text, runF_eq, nd, eMs, atI_zero, eMv]
    simp only [eMv] at e nd hj
    simp [nd, hh, hs, e, hl, hj]

/-! ### texts read -/
theorem spl_mem {S : List Nat} : ∀ (l : List Nat) (k : Nat) (acc p : List Nat), p ∈ TL.spl S k acc l → ∀ c ∈ p, c ∈ acc ∨ c ∈ l
  | [], k, acc, p, hp, c, hc => by
    rw [TL.spl_nil] at hp
    have e := List.mem_singleton.mp hp
    rw [e] at hc
    exact .inl hc
  | x :: r, 0, acc, p, hp, c, hc => by
    unfold TL.spl at hp
    split at hp
    · rcases List.mem_cons.mp hp with rfl | hp
      · exact .inl hc
      · rcases spl_mem r _ _ p hp c hc with h | h
        · cases h
        · exact .inr (List.mem_cons_of_mem _ h)
    · rcases spl_mem r _ _ p hp c hc with h | h
      · rcases List.mem_append.mp h with h | h
        · exact .inl h
        · exact .inr (by rw [List.mem_singleton.mp h]; exact List.mem_cons_self)
      · exact .inr (List.mem_cons_of_mem _ h)
  | x :: r, k + 1, acc, p, hp, c, hc => by
    unfold TL.spl at hp
    rcases spl_mem r _ _ p hp c hc with h | h
    · exact .inl h
    · exact .inr (List.mem_cons_of_mem _ h)
theorem spl_plen {S : List Nat} : ∀ (l : List Nat) (k : Nat) (acc p : List Nat), p ∈ TL.spl S k acc l → p.length ≤ acc.length + l.length
  | [], k, acc, p, hp => by
    rw [TL.spl_nil] at hp
    rw [List.mem_singleton.mp hp]
    simp
  | x :: r, 0, acc, p, hp => by
    unfold TL.spl at hp
    split at hp
    · rcases List.mem_cons.mp hp with rfl | hp
      · simp only [List.length_cons]; omega
      · have := spl_plen r _ _ p hp
        simp only [List.length_cons, List.length_nil] at *; omega
    · have := spl_plen r _ _ p hp
      simp only [List.length_cons, List.length_append, List.length_nil] at *; omega
  | x :: r, k + 1, acc, p, hp => by
    unfold TL.spl at hp
    have := spl_plen r _ _ p hp
    simp only [List.length_cons] at *; omega
theorem spl_count {S : List Nat} : ∀ (l : List Nat) (k : Nat) (acc : List Nat), (TL.spl S k acc l).length ≤ l.length + 1
  | [], k, acc => by rw [TL.spl_nil]; simp
  | c :: r, 0, acc => by
    unfold TL.spl
    split
    · have := spl_count (S := S) r (S.length - 1) []
      simp only [List.length_cons]; omega
    · have := spl_count (S := S) r 0 (acc ++ [c])
      simp only [List.length_cons]; omega
  | c :: r, k + 1, acc => by
    unfold TL.spl
    have := spl_count (S := S) r k acc
    simp only [List.length_cons]; omega
structure Tx (l : List Nat) : Prop where
  o : okL l = true
  n : l.length ≤ 1000
theorem Tx.sub {l p : List Nat} (h : Tx l) (hc : ∀ c ∈ p, c ∈ l) (hl : p.length ≤ l.length) : Tx p := by
  refine ⟨?_, Nat.le_trans hl h.n⟩
  have := h.o
  unfold okL at this ⊢
  rw [List.all_eq_true] at this ⊢
  exact fun c z => this c (hc c z)
theorem Tx.spl {l : List Nat} (h : Tx l) {S p : List Nat} (hp : p ∈ TL.spl S 0 [] l) : Tx p :=
  h.sub (fun c hc => (spl_mem l 0 [] p hp c hc).resolve_left (by simp)) (by have := spl_plen l 0 [] p hp; simpa using this)
theorem Tx.lim {l : List Nat} (h : Tx l) : l.length ≤ lim := Nat.le_trans h.n (by decide)
def hrW (h : Nat) (w : List Nat) : Option (Nat × Nat) := match w.getLast? with
  | none => none
  | some c => if 97 ≤ c ∧ c < 97 + h then (numIn w.dropLast).map fun n => (c - 97, n) else none
def hrL (h : Nat) : List (List Nat) → List Int → Option (List Int)
  | [], acc => some acc
  | w :: ws, acc => match hrW h w with
    | none => none
    | some p => hrL h ws (acc.set p.1 (p.2 : Int))
def hRead (h : Nat) (t : List Nat) : Option (List Int) := hrL h (if t = [45] then [] else TL.spl [32] 0 [] t) (List.replicate h 0)
theorem sub_last {st : Store} {xs : List Val} {o i : E} {loc : Loc} {v : Val} {j : Nat} (ho : o loc = ret (.o st.length)) (hi : i loc = ret (.d (.int (j : Int)))) (hj : j < xs.length) : gSub o i v loc (st ++ [.lst xs]) = .ok loc (st ++ [.lst (xs.set j v)]) := by
  unfold gSub
  rw [ho, bd_ret, hi, bd_ret]
  have g : (st ++ [Ob.lst xs])[st.length]? = some (.lst xs) := by simp
  dsimp only
  rw [g]
  dsimp only
  have e : ixN xs.length (j : Int) = some j := by
    unfold ixN
    rw [if_pos (by omega), if_pos (by omega)]
    simp
  rw [e]
  simp
theorem mem_heaps {h c : Nat} (h4 : h ≤ 4) : (c ∈ ([97, 98, 99, 100] : List Nat).take h) ↔ (97 ≤ c ∧ c < 97 + h) := by
  have : h = 0 ∨ h = 1 ∨ h = 2 ∨ h = 3 ∨ h = 4 := by omega
  rcases this with rfl | rfl | rfl | rfl | rfl <;> simp <;> omega
theorem getLast_at {w : List Nat} {c : Nat} (h : w.getLast? = some c) : atI w (-1) = some c := by
  have hne : w ≠ [] := fun z => by rw [z] at h; simp at h
  have hl : 0 < w.length := List.length_pos_iff.mpr hne
  unfold atI ixN
  rw [if_neg (by decide), if_pos (by omega)]
  have e : ((-1 : Int) + (w.length : Int)).toNat = w.length - 1 := by omega
  rw [e]
  show w[w.length - 1]? = some c
  rw [← h, List.getLast?_eq_getElem?]
theorem hr_step {t : Val} {h : Nat} (h1 : 1 ≤ h) (h4 : h ≤ 4) {st : Store} {w : List Nat} (hw : Tx w) {acc : List Int} (ha : acc.length = h) : heaps_read_L1 [some t, some (.d (.int (h : Int))), some (.o st.length), some (vS w)] (st ++ [.lst (acc.map fun i => .d (.int i))]) = match hrW h w with
    | some p => .ok (.nx, [some t, some (.d (.int (h : Int))), some (.o st.length), some (vS w)]) (st ++ [.lst ((acc.set p.1 (p.2 : Int)).map fun i => .d (.int i))])
    | none => .ex 10 (st ++ [.lst (acc.map fun i => .d (.int i))]) := by
  have e0 := eq_txt (a := w) (b := []) hw.o rfl
  rw [heaps_read_L1_eq]
  unfold hrW
  cases q : w.getLast? with
  | none =>
    have hw0 : w = [] := by simpa using q
    subst hw0
    have e0 : bEq (vS []) (vS []) = ret (.d (.bool true)) := e0
    simp [e0]
    rfl
  | some c =>
    have hne : w ≠ [] := fun z => by rw [z] at q; simp at q
    have e0 : bEq (vS w) (vS []) = ret (.d (.bool false)) := by rw [e0]; simp [hne]
    have e1 : bIxT (vS w) (.d (.int (-1))) = ret (vS [c]) := by rw [ix_txt hw.lim, getLast_at q]; rfl
    have e2 : bSlT (vS [97, 98, 99, 100]) none (some (h : Int)) = ret (vS (([97, 98, 99, 100] : List Nat).take h)) := by
      rw [sl_txt (l := [97, 98, 99, 100]) (by decide)]
      have : sIx ([97, 98, 99, 100] : List Nat).length ([97, 98, 99, 100] : List Nat).length (some (h : Int)) = h := by
        show (if (h : Int) < 0 then ((h : Int) + ((4 : Nat) : Int)).toNat else min ((h : Int)).toNat 4) = h
        rw [if_neg (by omega)]
        omega
      rw [this]
      rfl
    have e3 := in_txt true c (([97, 98, 99, 100] : List Nat).take h)
    rw [if_pos rfl] at e3
    have e4 : bSlT (vS w) none (some (-1)) = ret (vS w.dropLast) := by
      rw [sl_txt hw.lim]
      have hl : 0 < w.length := List.length_pos_iff.mpr hne
      have e : sIx w.length w.length (some (-1)) = w.length - 1 := by
        show (if (-1 : Int) < 0 then ((-1 : Int) + (w.length : Int)).toNat else min ((-1 : Int)).toNat w.length) = _
        rw [if_pos (by decide)]
        omega
      rw [e, List.dropLast_eq_take]
      rfl
    have hd : w.dropLast.length ≤ lim := by
      have := hw.lim
      rw [List.length_dropLast]
      omega
    have e5 := r_number_in hd
    dsimp only
    by_cases hc : 97 ≤ c ∧ c < 97 + h
    · rw [if_pos hc]
      have e3 : bInT true (vS [c]) (vS (([97, 98, 99, 100] : List Nat).take h)) = ret (.d (.bool false)) := by
        rw [e3, decide_eq_true ((mem_heaps h4).mpr hc)]; rfl
      cases q2 : numIn w.dropLast with
      | none =>
        rw [q2] at e5
        simp [e0, e1, e2, e3, e4, e5]
        rfl
      | some n =>
        rw [q2] at e5
        have e6 : bIdx (tx [97, 98, 99, 100]) (vS [c]) = ret (.d (.int ((c - 97 : Nat) : Int))) := by
          unfold bIdx
          dsimp only
          rw [show sg (TL.tl (tx [c])) = some c from rfl, oget_some, bd_ret, if_pos ⟨rfl, hc.1, by omega⟩]
          rfl
        have e7 := sub_last (st := st) (xs := acc.map fun i => Val.d (.int i)) (o := eV 2) (i := eIdx (eC (.str (tx [97, 98, 99, 100]))) (eO bIxT (eV 3) (eU bNeg (eC (.int 1))))) (loc := [some t, some (.d (.int (h : Int))), some (.o st.length), some (vS w)]) (v := .d (.int (n : Int))) (j := c - 97) (by simp) (by simp [e1, e6]) (by rw [List.length_map]; omega)
        have e8 : (acc.map fun i => Val.d (.int i)).set (c - 97) (.d (.int (n : Int))) = (acc.set (c - 97) (n : Int)).map fun i => Val.d (.int i) := by
          rw [List.map_set]
        rw [e8] at e7
        simp [e0, e1, e2, e3, e4, e5]
        rw [bd_eq e7]
        try rw [e8]
        rfl
    · rw [if_neg hc]
      have e3 : bInT true (vS [c]) (vS (([97, 98, 99, 100] : List Nat).take h)) = ret (.d (.bool true)) := by
        rw [e3, decide_eq_false (fun z => hc ((mem_heaps h4).mp z))]; rfl
      simp [e0, e1, e2, e3]
      rfl
theorem hr_loop {t : Val} {h : Nat} (h1 : 1 ≤ h) (h4 : h ≤ 4) {st : Store} : ∀ (ws : List (List Nat)) (acc : List Int) (x : Option Val), (∀ w ∈ ws, Tx w) → acc.length = h →
    (∀ a, hrL h ws acc = some a → a.length = h ∧ ∃ y, forL (fBody (gN 3) heaps_read_L1) (ws.map vS) [some t, some (.d (.int (h : Int))), some (.o st.length), x] (st ++ [.lst (acc.map fun i => .d (.int i))]) = .ok (.nx, [some t, some (.d (.int (h : Int))), some (.o st.length), y]) (st ++ [.lst (a.map fun i => .d (.int i))])) ∧
    (hrL h ws acc = none → ∃ xs, forL (fBody (gN 3) heaps_read_L1) (ws.map vS) [some t, some (.d (.int (h : Int))), some (.o st.length), x] (st ++ [.lst (acc.map fun i => .d (.int i))]) = .ex 10 (st ++ [.lst xs]))
  | [], acc, x, _, hl => ⟨fun a e => by cases e; exact ⟨hl, x, rfl⟩, fun e => by cases e⟩
  | w :: ws, acc, x, hw, hl => by
    have hs := hr_step (t := t) h1 h4 (st := st) (hw w (by simp)) hl
    have e0 : forL (fBody (gN 3) heaps_read_L1) ((w :: ws).map vS) [some t, some (.d (.int (h : Int))), some (.o st.length), x] (st ++ [.lst (acc.map fun i => .d (.int i))]) =
        bd (heaps_read_L1 [some t, some (.d (.int (h : Int))), some (.o st.length), some (vS w)]) (fun r => match r.1 with
          | .nx => forL (fBody (gN 3) heaps_read_L1) (ws.map vS) r.2
          | .ct => forL (fBody (gN 3) heaps_read_L1) (ws.map vS) r.2
          | .bk => ret (.nx, r.2)
          | .rt v => ret (.rt v, r.2)) (st ++ [.lst (acc.map fun i => .d (.int i))]) := rfl
    rw [e0]
    unfold hrL
    cases q : hrW h w with
    | none =>
      rw [q] at hs
      exact ⟨fun a e => (by cases e), fun _ => ⟨_, bd_ex hs⟩⟩
    | some p =>
      rw [q] at hs
      rw [bd_eq hs]
      exact hr_loop h1 h4 ws (acc.set p.1 (p.2 : Int)) (some (vS w)) (fun w' h' => hw w' (by simp [h'])) (by rw [List.length_set]; exact hl)
theorem rep_zero (h : Nat) : repD (h : Int) [PyData.int 0] = (List.replicate h (0 : Int)).map PyData.int := by
  unfold repD
  have e : ((h : Int)).toNat = h := by omega
  rw [e]
  induction h with
  | zero => rfl
  | succ n ih => rw [List.replicate_succ, List.flatten_cons, ih (by omega), List.replicate_succ]; rfl
theorem toDs_intv (a : List Int) : toDs (a.map fun i => Val.d (.int i)) = some (intsD a) := by
  have := toDs_map (fun i : Int => PyData.int i) a
  exact this
theorem r_heaps_read {t : List Nat} (ht : Tx t) {h : Nat} (h1 : 1 ≤ h) (h4 : h ≤ 4) (st : Store) :
    (∀ a, hRead h t = some a → a.length = h ∧ ∃ s, f_heaps_read [vS t, .d (.int (h : Int))] st = .ok (.d (tI a)) (st ++ [s])) ∧ (hRead h t = none → ∃ s, f_heaps_read [vS t, .d (.int (h : Int))] st = .ex 10 (st ++ [s])) := by
  have e1 : bMulN (.d (.list [.int 0])) (.d (.int (h : Int))) st = .ok (.o st.length) (st ++ [.lst ((List.replicate h (0 : Int)).map fun i => .d (.int i))]) := by
    show (if -1000 ≤ (h : Int) ∧ (h : Int) ≤ 1000 ∧ [PyData.int 0].length ≤ 1000 then R.ok (Val.o st.length) (st ++ [.lst ((repD (h : Int) [PyData.int 0]).map .d)]) else .bad) = _
    rw [if_pos ⟨by omega, by omega, by decide⟩, rep_zero, List.map_map]
    rfl
  have it : iSeq (eIf (tV (eO bNe (eV 0) (eC (.str (tx [45]))))) (eSplit (eV 0) (eC (.str (tx [32])))) (eB bLst aN)) [some (vS t), some (.d (.int (h : Int))), some (.o st.length), none] = ret ((if t = [45] then [] else TL.spl [32] 0 [] t).map vS) := by
    have n := ne_txt (a := t) (b := [45]) ht.o rfl
    have s := split_txt (a := t) (b := [32]) (by simp) rfl ht.lim
    by_cases q : t = [45]
    · subst q
      have n : bNe (vS [45]) (vS [45]) = ret (.d (.bool false)) := by rw [n]; simp
      simp [n]
    · have n : bNe (vS t) (vS [45]) = ret (.d (.bool true)) := by rw [n]; simp [q]
      simp [n, q, s]
      rfl
  have tx' : ∀ w ∈ (if t = [45] then [] else TL.spl [32] 0 [] t), Tx w := fun w hw => by
    split at hw
    · cases hw
    · exact ht.spl hw
  obtain ⟨l1, l2⟩ := hr_loop (t := vS t) h1 h4 (st := st) (if t = [45] then [] else TL.spl [32] 0 [] t) (List.replicate h 0) none tx' (by simp)
  have e2 : ∀ s, f_heaps_read [vS t, .d (.int (h : Int))] st = s ↔ (bd (forL (fBody (gN 3) heaps_read_L1) ((if t = [45] then [] else TL.spl [32] 0 [] t).map vS) [some (vS t), some (.d (.int (h : Int))), some (.o st.length), none]) fun r => bd (match r.1 with | .nx => sRet (eB bTuple (aC (eV 2) aN)) r.2 | _ => ret r) fun r => match r.1 with | .rt v => ret v | .nx => ret (.d .none) | _ => die) (st ++ [.lst ((List.replicate h (0 : Int)).map fun i => .d (.int i))]) = s := by
    intro s
    have : f_heaps_read [vS t, .d (.int (h : Int))] st = (bd (forL (fBody (gN 3) heaps_read_L1) ((if t = [45] then [] else TL.spl [32] 0 [] t).map vS) [some (vS t), some (.d (.int (h : Int))), some (.o st.length), none]) fun r => bd (match r.1 with | .nx => sRet (eB bTuple (aC (eV 2) aN)) r.2 | _ => ret r) fun r => match r.1 with | .rt v => ret v | .nx => ret (.d .none) | _ => die) (st ++ [.lst ((List.replicate h (0 : Int)).map fun i => .d (.int i))]) := by
      unfold f_heaps_read b_heaps_read
      simp only [runF_eq, List.map_cons, List.map_nil, List.cons_append, List.nil_append, List.length_cons, List.length_nil, List.replicate, sSeq_eq, sAsg_eq, eO_eq, eB_eq, aC_eq, eC_eq, aN_eq, bd_ret, bLst_eq1, eV_succ, eV_zero, bd_bd]
      rw [bd_eq e1]
      simp only [gN_eq, bd_ret, List.set_cons_succ, List.set_cons_zero, sFor_eq, it, bd_bd]
      all_goals rfl
    rw [this]
  refine ⟨fun a ha => ?_, fun hn => ?_⟩
  · obtain ⟨la, y, hy⟩ := l1 a ha
    refine ⟨la, .lst (a.map fun i => .d (.int i)), (e2 _).mpr ?_⟩
    rw [bd_eq hy]
    have hb : bTuple [.o st.length] (st ++ [.lst (a.map fun i => .d (.int i))]) = .ok (.d (tI a)) (st ++ [.lst (a.map fun i => .d (.int i))]) := by
      show (match (st ++ [Ob.lst (a.map fun i => Val.d (.int i))])[st.length]? with | some (.lst xs) => (match toDs xs with | some ds => R.ok (Val.d (.tuple ds)) (st ++ [Ob.lst (a.map fun i => Val.d (.int i))]) | none => .bad) | _ => .bad) = _
      rw [show (st ++ [Ob.lst (a.map fun i => Val.d (.int i))])[st.length]? = some (.lst (a.map fun i => Val.d (.int i))) from by simp]
      dsimp only
      rw [toDs_intv]
      rfl
    simp only [sRet_eq, eB_eq, aC_eq, aN_eq, eV_succ, eV_zero, bd_ret, bd_bd]
    rw [bd_eq hb]
    rfl
  · obtain ⟨xs, hx⟩ := l2 hn
    exact ⟨.lst xs, (e2 _).mpr (bd_ex hx)⟩

end Y
end
section
set_option Elab.async false
set_option linter.all false
set_option maxRecDepth 10000
set_option exponentiation.threshold 5000
namespace Y
open PySem (PyData Str)
def mRead (h : Nat) (l : List Nat) : Option Mv := match TL.spl [32, 62, 32] 0 [] l with
  | [a, b] => (match hRead h a with
    | none => none
    | some x => (match hRead h b with
      | none => none
      | some y => some (x, y)))
  | _ => none
theorem r_move_read {l : List Nat} (hl : Tx l) {h : Nat} (h1 : 1 ≤ h) (h4 : h ≤ 4) (st : Store) :
    (∀ m, mRead h l = some m → (m.1.length = h ∧ m.2.length = h) ∧ ∃ j, f_move_read [vS l, .d (.int (h : Int))] st = .ok (.d (eMv m)) (st ++ j)) ∧ (mRead h l = none → ∃ j, f_move_read [vS l, .d (.int (h : Int))] st = .ex 10 (st ++ j)) := by
  have s := split_txt (a := l) (b := [32, 62, 32]) (by simp) rfl hl.lim
  have tp : ∀ p ∈ TL.spl [32, 62, 32] 0 [] l, Tx p := fun p hp => hl.spl hp
  unfold mRead
  generalize TL.spl [32, 62, 32] 0 [] l = parts at s tp
  have bad : parts.length ≠ 2 → f_move_read [vS l, .d (.int (h : Int))] st = .ex 10 st := fun hn => by
    have n : ¬ ((parts.length : Int) = 2) := by omega
    simp [f_move_read, b_move_read, runF_eq, s, n]
    rfl
  match parts, s, tp, bad with
  | [a, b], s, tp, _ =>
    obtain ⟨a1, a2⟩ := r_heaps_read (tp a (by simp)) h1 h4 st
    have e0 : f_move_read [vS l, .d (.int (h : Int))] st = bd (f_heaps_read [vS a, .d (.int (h : Int))]) (fun x => bd (f_heaps_read [vS b, .d (.int (h : Int))]) fun y => bTup [x, y]) st := by
      simp [f_move_read, b_move_read, runF_eq, s, atI_zero, atI_one]
      congr 1
      funext x
      congr 1
      funext y
      show bd (bTup [x, y]) ret = _
      funext st
      unfold bd
      cases bTup [x, y] st <;> rfl
    rw [e0]
    dsimp only
    cases qa : hRead h a with
    | none =>
      obtain ⟨s1, hs⟩ := a2 qa
      exact ⟨fun m hm => by (cases hm), fun _ => ⟨[s1], bd_ex hs⟩⟩
    | some x =>
      obtain ⟨lx, s1, hs⟩ := a1 x qa
      rw [bd_eq hs]
      obtain ⟨b1, b2⟩ := r_heaps_read (tp b (by simp)) h1 h4 (st ++ [s1])
      dsimp only
      cases qb : hRead h b with
      | none =>
        obtain ⟨s2, hs2⟩ := b2 qb
        refine ⟨fun m hm => by (cases hm), fun _ => ⟨[s1, s2], ?_⟩⟩
        rw [bd_ex hs2, List.append_assoc]
        rfl
      | some y =>
        obtain ⟨ly, s2, hs2⟩ := b1 y qb
        refine ⟨fun m hm => ?_, fun z => by (cases z)⟩
        cases hm
        refine ⟨⟨lx, ly⟩, [s1, s2], ?_⟩
        rw [bd_eq hs2, List.append_assoc]
        rfl
  | [], s, tp, bad => exact ⟨fun m hm => by (cases hm), fun _ => ⟨[], by rw [bad (by simp)]; simp⟩⟩
  | [a], s, tp, bad => exact ⟨fun m hm => by (cases hm), fun _ => ⟨[], by rw [bad (by simp)]; simp⟩⟩
  | a :: b :: c :: r, s, tp, bad => exact ⟨fun m hm => by (cases hm), fun _ => ⟨[], by rw [bad (by simp)]; simp⟩⟩
def mReadL (h : Nat) : List (List Nat) → Option (List Mv)
  | [] => some []
  | l :: ls => match mRead h l with
    | none => none
    | some m => (mReadL h ls).map (m :: ·)
theorem mReadL_len {h : Nat} : ∀ {ls : List (List Nat)} {ms : List Mv}, mReadL h ls = some ms → ms.length = ls.length
  | [], ms, e => by cases e; rfl
  | l :: ls, ms, e => by
    unfold mReadL at e
    cases q : mRead h l with
    | none => rw [q] at e; cases e
    | some m =>
      rw [q] at e
      cases q2 : mReadL h ls with
      | none => rw [q2] at e; cases e
      | some r =>
        rw [q2] at e
        cases e
        rw [List.length_cons, List.length_cons, mReadL_len q2]
theorem comp_read {h : Nat} (h1 : 1 ≤ h) (h4 : h ≤ 4) {t ls0 : Option Val} : ∀ (ls : List (List Nat)) (st : Store), (∀ l ∈ ls, Tx l) →
    (∀ ms, mReadL h ls = some ms → (∀ m ∈ ms, m.1.length = h ∧ m.2.length = h) ∧ ∃ j, compL (cBody (gN 4) tTr (eB (fixN 2 f_move_read) (aC (eV 4) (aC (eV 2) aN))) [t, ls0, some (.d (.int (h : Int))), none, none]) (ls.map vS) st = .ok (ms.map fun m => .d (eMv m)) (st ++ j)) ∧
    (mReadL h ls = none → ∃ j, compL (cBody (gN 4) tTr (eB (fixN 2 f_move_read) (aC (eV 4) (aC (eV 2) aN))) [t, ls0, some (.d (.int (h : Int))), none, none]) (ls.map vS) st = .ex 10 (st ++ j))
  | [], st, _ => ⟨fun ms e => by cases e; exact ⟨by simp, [], by simp; rfl⟩, fun e => by cases e⟩
  | l :: ls, st, hl => by
    have e0 : compL (cBody (gN 4) tTr (eB (fixN 2 f_move_read) (aC (eV 4) (aC (eV 2) aN))) [t, ls0, some (.d (.int (h : Int))), none, none]) ((l :: ls).map vS) st = bd (f_move_read [vS l, .d (.int (h : Int))]) (fun y => bd (compL (cBody (gN 4) tTr (eB (fixN 2 f_move_read) (aC (eV 4) (aC (eV 2) aN))) [t, ls0, some (.d (.int (h : Int))), none, none]) (ls.map vS)) fun ys => ret (y :: ys)) st := by
      show bd (cBody (gN 4) tTr (eB (fixN 2 f_move_read) (aC (eV 4) (aC (eV 2) aN))) [t, ls0, some (.d (.int (h : Int))), none, none] (vS l)) _ st = _
      simp
      rfl
    rw [e0]
    obtain ⟨a1, a2⟩ := r_move_read (hl l (by simp)) h1 h4 st
    unfold mReadL
    cases q : mRead h l with
    | none =>
      obtain ⟨j, hj⟩ := a2 q
      exact ⟨fun ms hm => by (cases hm), fun _ => ⟨j, bd_ex hj⟩⟩
    | some m =>
      obtain ⟨lm, j, hj⟩ := a1 m q
      rw [bd_eq hj]
      obtain ⟨b1, b2⟩ := comp_read h1 h4 (t := t) (ls0 := ls0) ls (st ++ j) fun l' h' => hl l' (by simp [h'])
      dsimp only
      cases q2 : mReadL h ls with
      | none =>
        obtain ⟨j2, hj2⟩ := b2 q2
        refine ⟨fun ms hm => by (cases hm), fun _ => ⟨j ++ j2, ?_⟩⟩
        rw [bd_ex hj2, List.append_assoc]
      | some r =>
        obtain ⟨lr, j2, hj2⟩ := b1 r q2
        refine ⟨fun ms hm => ?_, fun z => by (cases z)⟩
        cases hm
        refine ⟨fun m' hm' => ?_, j ++ j2, ?_⟩
        · rcases List.mem_cons.mp hm' with rfl | hm'
          · exact lm
          · exact lr m' hm'
        · rw [bd_eq hj2, List.append_assoc]
          rfl
theorem aw_get {a : List Int} {h : Nat} {hi : Int} (e : awB h hi (tI a) = true) : ∀ x ∈ a, 0 ≤ x ∧ x ≤ hi := by
  rw [aw_ints, Bool.and_eq_true, List.all_eq_true] at e
  intro x hx
  have := e.2 x hx
  simpa using this
theorem wf_of {ms : List Mv} {h : Nat} (e : msB (eMs ms) = true) (hl : ∀ m ∈ ms, m.1.length = h ∧ m.2.length = h) : WF ms h := by
  cases ms with
  | nil => simp [eMs, msB] at e
  | cons m r =>
    have e1 : eMs (m :: r) = .tuple (eMv m :: r.map eMv) := rfl
    have hh : hiB (eMv m) = h := by rw [hi_eMv]; exact (hl m (by simp)).1
    rw [e1] at e
    simp only [msB, hh, Bool.and_eq_true, decide_eq_true_eq, List.length_map, List.all_eq_true] at e
    obtain ⟨n5, ⟨g1, g4⟩, all⟩ := e
    have mv : ∀ m' ∈ m :: r, mvB h (eMv m') = true := fun m' hm' => all (eMv m') (by
      have := List.mem_map_of_mem (f := eMv) hm'
      simpa using this)
    have parts : ∀ m' ∈ m :: r, awB h 9 (tI m'.1) = true ∧ awB h 9 (tI m'.2) = true := fun m' hm' => by
      have := mv m' hm'
      simp [mvB, eMv] at this
      exact this
    exact ⟨by simp, by simp; omega, g1, g4, fun m' hm' => (hl m' hm').1, fun m' hm' => (hl m' hm').2, fun m' hm' => aw_get (parts m' hm').1, fun m' hm' => aw_get (parts m' hm').2⟩
def rMoves (t : List Nat) : Option (Nat × List Mv) := match TL.spl [10] 0 [] t with
  | [] => none
  | l0 :: ls => match numIn l0 with
    | none => none
    | some h => if 1 ≤ h ∧ h ≤ 4 then (match mReadL h ls with
      | none => none
      | some ms => if msB (eMs ms) = true ∧ mText h ms = t then some (h, ms) else none) else none
theorem hText_ok {a : List Int} (w : Hp9 a) : okL (hText a) = true := by
  unfold hText
  split
  · rfl
  · have h := fun l hl => (w.word (n := 0) l hl).2 (by decide)
    generalize hWords a 0 = ls at h
    have : ∀ ls : List (List Nat), (∀ l ∈ ls, okL l = true) → okL (TL.joinL [32] ls) = true := by
      intro ls
      induction ls with
      | nil => intro _; rfl
      | cons p ls ih =>
        intro h
        cases ls with
        | nil => exact h p (by simp)
        | cons q r =>
          have i2 := ih fun l hl => h l (by simp [hl])
          have i1 := h p (by simp)
          unfold okL at i1 i2 ⊢
          simp only [TL.joinL, List.all_append, i1, i2, Bool.true_and]
          rfl
    exact this ls h
theorem okL_app {a b : List Nat} (ha : okL a = true) (hb : okL b = true) : okL (a ++ b) = true := by
  unfold okL at ha hb ⊢
  rw [List.all_append, ha, hb]
  rfl
theorem joinL_ok {s : List Nat} (hs : okL s = true) : ∀ ls : List (List Nat), (∀ l ∈ ls, okL l = true) → okL (TL.joinL s ls) = true
  | [], _ => rfl
  | [p], h => h p (by simp)
  | p :: q :: r, h => okL_app (h p (by simp)) (okL_app hs (joinL_ok hs (q :: r) fun l hl => h l (by simp [hl])))
theorem WF.mt_ok {ms : List Mv} {h : Nat} (w : WF ms h) : okL (mText h ms) = true := joinL_ok rfl _ fun l hl => by
  rcases List.mem_cons.mp hl with rfl | hl
  · exact dg_ok (num_dg _)
  · obtain ⟨m, hm, rfl⟩ := List.mem_map.mp hl
    exact okL_app (okL_app (hText_ok (w.hp hm).1) rfl) (hText_ok (w.hp hm).2)
theorem spl_ne {S l : List Nat} : TL.spl S 0 [] l ≠ [] := by
  have : ∀ (l : List Nat) (k : Nat) (acc : List Nat), TL.spl S k acc l ≠ [] := by
    intro l
    induction l with
    | nil => intro k acc; rw [TL.spl_nil]; simp
    | cons c r ih =>
      intro k acc
      cases k with
      | zero =>
        unfold TL.spl
        split
        · simp
        · exact ih _ _
      | succ k => unfold TL.spl; exact ih _ _
  exact this l 0 []
theorem sSeq_go {a b : S} {loc loc' : Loc} (h : a loc = ret (.nx, loc')) : sSeq a b loc = b loc' := by
  rw [sSeq_eq, h, bd_ret]
theorem sSeq_ok {a b : S} {loc loc' : Loc} {st s : Store} (h : a loc st = .ok (.nx, loc') s) : sSeq a b loc st = b loc' s := by
  rw [sSeq_eq, bd_eq h]
theorem sSeq_ex {a b : S} {loc : Loc} {st s : Store} {c : Nat} (h : a loc st = .ex c s) : sSeq a b loc st = .ex c s := by
  rw [sSeq_eq, bd_ex h]
theorem bd_st {α β : Type} {m m' : M α} {f : α → M β} {st st' : Store} (h : m st = m' st') : bd m f st = bd m' f st' := by
  unfold bd
  rw [h]
theorem r_read_moves {t : List Nat} (ht : Tx t) (st : Store) :
    (∀ p, rMoves t = some p → WF p.2 p.1 ∧ mText p.1 p.2 = t ∧ ∃ j, f_read_moves [vS t] st = .ok (.d (eMs p.2)) (st ++ j)) ∧ (rMoves t = none → ∃ j, f_read_moves [vS t] st = .ex 10 (st ++ j)) := by
  have s := split_txt (a := t) (b := [10]) (by simp) rfl ht.lim
  have tp : ∀ p ∈ TL.spl [10] 0 [] t, Tx p := fun p hp => ht.spl hp
  have ne := spl_ne (S := [10]) (l := t)
  have ct := spl_count (S := [10]) t 0 []
  unfold rMoves
  generalize TL.spl [10] 0 [] t = lines at s tp ne ct
  cases lines with
  | nil => exact absurd rfl ne
  | cons l0 ls =>
    have n0 := r_number_in (tp l0 (by simp)).lim
    dsimp only
    cases q : numIn l0 with
    | none =>
      rw [q] at n0
      refine ⟨fun p hp => by (cases hp), fun _ => ⟨[], ?_⟩⟩
      simp [f_read_moves, b_read_moves, runF_eq, s, atI_zero, n0]
      rfl
    | some h =>
      rw [q] at n0
      dsimp only at n0 ⊢
      by_cases hh : 1 ≤ h ∧ h ≤ 4
      · rw [if_pos hh]
        obtain ⟨h1, h4⟩ := hh
        have c1 : (1 : Int) ≤ (h : Int) := by omega
        have c4 : (h : Int) ≤ 4 := by omega
        have hcut : cutD ((.str (tx l0)) :: ls.map fun l => PyData.str (tx l)) (some 1) none = ls.map fun l => PyData.str (tx l) := by
          unfold cutD
          have z : ∀ n : Nat, sIx (n + 1) 0 (some 1) = 1 := fun n => by
            show (if (1 : Int) < 0 then ((1 : Int) + ((n + 1 : Nat) : Int)).toNat else min (1 : Int).toNat (n + 1)) = 1
            rw [if_neg (by decide)]
            show min 1 (n + 1) = 1
            omega
          rw [List.length_cons, z]
          show (ls.map fun l => PyData.str (tx l)).take (((ls.map fun l => PyData.str (tx l)).length + 1) - 1) = _
          rw [Nat.add_sub_cancel, List.take_length]
        have lc : read_moves_C1 [some (vS t), some (.d (.list ((.str (tx l0)) :: ls.map fun l => .str (tx l)))), some (.d (.int (h : Int))), none, none] st = bd (compL (cBody (gN 4) tTr (eB (fixN 2 f_move_read) (aC (eV 4) (aC (eV 2) aN))) [some (vS t), some (.d (.list ((.str (tx l0)) :: ls.map fun l => .str (tx l)))), some (.d (.int (h : Int))), none, none]) (ls.map vS)) bLst st := by
          rw [read_moves_C1_eq]
          unfold eLcX
          have : iSeq (eSl (eV 1) (oS (eC (.int 1))) oN) [some (vS t), some (.d (.list ((.str (tx l0)) :: ls.map fun l => .str (tx l)))), some (.d (.int (h : Int))), none, none] = ret (ls.map vS) := by
            simp [hcut]
            rfl
          rw [this, bd_ret, if_pos (by rw [List.length_map]; simp only [List.length_cons] at ct; have := ht.n; rw [lim_eq]; omega)]
          rfl
        obtain ⟨b1, b2⟩ := comp_read h1 h4 (t := some (vS t)) (ls0 := some (.d (.list ((.str (tx l0)) :: ls.map fun l => .str (tx l))))) ls st fun l hl => tp l (by simp [hl])
        have start : f_read_moves [vS t] st = bd (sSeq (sAsg (eB bTuple (aC read_moves_C1 aN)) (gN 3)) (sSeq (sIf (tOrr (tNo (tV (eB (fixN 1 f_is_moves) (aC (eV 3) aN)))) (tV (eO bNe (eB (fixN 1 f_moves_text) (aC (eV 3) aN)) (eV 0)))) (sRaise 10) sNil) (sRet (eV 3))) [some (vS t), some (.d (.list ((.str (tx l0)) :: ls.map fun l => .str (tx l)))), some (.d (.int (h : Int))), none, none]) (fun r => match r.1 with | .rt v => ret v | .nx => ret (.d .none) | _ => die) st := by
          unfold f_read_moves b_read_moves
          rw [runF_eq]
          show bd (sSeq _ _ [some (vS t), none, none, none, none]) _ st = _
          rw [sSeq_go (loc' := [some (vS t), none, none, none, none]) (by simp)]
          rw [sSeq_go (loc' := [some (vS t), some (.d (.list ((.str (tx l0)) :: ls.map fun l => .str (tx l)))), none, none, none]) (by simp [s])]
          rw [sSeq_go (loc' := [some (vS t), some (.d (.list ((.str (tx l0)) :: ls.map fun l => .str (tx l)))), some (.d (.int (h : Int))), none, none]) (by simp [atI_zero, n0])]
          rw [sSeq_go (loc' := [some (vS t), some (.d (.list ((.str (tx l0)) :: ls.map fun l => .str (tx l)))), some (.d (.int (h : Int))), none, none]) (by simp [c1, c4])]
          all_goals rfl
        cases q2 : mReadL h ls with
        | none =>
          obtain ⟨j, hj⟩ := b2 q2
          refine ⟨fun p hp => by (cases hp), fun _ => ⟨j, ?_⟩⟩
          rw [start]
          refine bd_ex (sSeq_ex ?_)
          rw [sAsg_eq, eB_eq, aC_eq]
          exact bd_ex (bd_ex (bd_ex (by rw [lc]; exact bd_ex hj)))
        | some ms =>
          obtain ⟨lm, j, hj⟩ := b1 ms q2
          have hml : ms.length ≤ 1001 := by
            rw [mReadL_len q2]
            have := ht.n
            simp only [List.length_cons] at ct
            omega
          have e2 : read_moves_C1 [some (vS t), some (.d (.list ((.str (tx l0)) :: ls.map fun l => .str (tx l)))), some (.d (.int (h : Int))), none, none] st = .ok (.d (.list (ms.map eMv))) (st ++ j) := by
            rw [lc, bd_eq hj, bLst_map eMv ms (Nat.le_trans hml (by decide))]
            rfl
          have cl1 : cl (eMs ms) = true := by
            simp only [eMs, Y.cl, Bool.and_eq_true, clA_iff, decide_eq_true_eq, List.length_map]
            refine ⟨fun x hx => ?_, Nat.le_trans hml (by decide)⟩
            obtain ⟨m, hm, rfl⟩ := List.mem_map.mp hx
            exact cl_mv (by rw [(lm m hm).1, lim_eq]; omega) (by rw [(lm m hm).2, lim_eq]; omega)
          have im := r_is_moves cl1
          have im : f_is_moves [.d (.tuple (ms.map eMv))] = ret (.d (.bool (msB (eMs ms)))) := im
          have e3 : (sAsg (eB bTuple (aC read_moves_C1 aN)) (gN 3)) [some (vS t), some (.d (.list ((.str (tx l0)) :: ls.map fun l => .str (tx l)))), some (.d (.int (h : Int))), none, none] st = .ok (.nx, [some (vS t), some (.d (.list ((.str (tx l0)) :: ls.map fun l => .str (tx l)))), some (.d (.int (h : Int))), some (.d (.tuple (ms.map eMv))), none]) (st ++ j) := by
            rw [sAsg_eq, eB_eq, aC_eq]
            simp only [bd_bd]
            rw [bd_eq e2]
            rfl
          rw [start, bd_st (sSeq_ok e3)]
          show (∀ p, (if msB (eMs ms) = true ∧ mText h ms = t then some (h, ms) else none) = some p → _) ∧ ((if msB (eMs ms) = true ∧ mText h ms = t then some (h, ms) else none) = none → _)
          by_cases hb : msB (eMs ms) = true
          · have w := wf_of hb lm
            have mt : f_moves_text [.d (.tuple (ms.map eMv))] = ret (vS (mText h ms)) := w.moves_text
            have n := ne_txt (a := mText h ms) (b := t) w.mt_ok ht.o
            rw [hb] at im
            by_cases he : mText h ms = t
            · have n : bNe (vS (mText h ms)) (vS t) = ret (.d (.bool false)) := by rw [n]; simp [he]
              rw [if_pos ⟨hb, he⟩]
              refine ⟨fun p hp => ?_, fun z => by (cases z)⟩
              cases hp
              refine ⟨w, he, j, ?_⟩
              simp [im, mt, n]
              rfl
            · have n : bNe (vS (mText h ms)) (vS t) = ret (.d (.bool true)) := by rw [n]; simp [he]
              rw [if_neg (fun z => he z.2)]
              refine ⟨fun p hp => by (cases hp), fun _ => ⟨j, ?_⟩⟩
              simp [im, mt, n]
              rfl
          · have hb' : msB (eMs ms) = false := by simpa using hb
            rw [hb'] at im
            rw [if_neg (fun z => hb z.1)]
            refine ⟨fun p hp => by (cases hp), fun _ => ⟨j, ?_⟩⟩
            simp [im]
            rfl
      · rw [if_neg hh]
        refine ⟨fun p hp => by (cases hp), fun _ => ⟨[], ?_⟩⟩
        by_cases h1 : 1 ≤ h
        · have c1 : (1 : Int) ≤ (h : Int) := by omega
          have c4 : ¬ (h : Int) ≤ 4 := by omega
          simp [f_read_moves, b_read_moves, runF_eq, s, atI_zero, n0, c1, c4]
          rfl
        · have c1 : ¬ (1 : Int) ≤ (h : Int) := by omega
          simp [f_read_moves, b_read_moves, runF_eq, s, atI_zero, n0, c1]
          rfl
theorem read_moves_bad {x : D} (hx : cl x = true) (h : ∀ y, x ≠ .str y) : f_read_moves [.d x] = thr 10 := by
  cases x with
  | dict _ => simp [cl] at hx
  | str y => exact absurd rfl (h y)
  | _ => simp [f_read_moves, b_read_moves, runF_eq]

end Y
end
section
set_option Elab.async false
set_option linter.all false
set_option maxRecDepth 10000
set_option exponentiation.threshold 5000
namespace Y
open PySem (PyData Str)
/-! ### rows as texts -/
def rOb (p : Nat × Nat) : Ob := .lst [.d (.int (p.1 : Int)), .d (.int (p.2 : Int))]
def refsOf (n k : Nat) : List Val := (List.range k).map fun i => .o (n + 1 + i)
def rSt (st : Store) (rs : List (Nat × Nat)) : Store := st ++ (Ob.lst (refsOf st.length rs.length) :: rs.map rOb)
theorem rSt_head (st : Store) (rs : List (Nat × Nat)) : (rSt st rs)[st.length]? = some (.lst (refsOf st.length rs.length)) := by
  unfold rSt
  rw [List.getElem?_append_right (Nat.le_refl _)]
  simp
theorem rSt_in (st : Store) {rs : List (Nat × Nat)} {i : Nat} {p : Nat × Nat} (h : rs[i]? = some p) : (rSt st rs)[st.length + 1 + i]? = some (rOb p) := by
  unfold rSt
  rw [List.getElem?_append_right (by omega)]
  have : st.length + 1 + i - st.length = i + 1 := by omega
  rw [this, List.getElem?_cons_succ, List.getElem?_map, h]
  rfl
theorem refs_at {n k i : Nat} (h : i < k) : (refsOf n k)[i]? = some (.o (n + 1 + i)) := by
  unfold refsOf
  rw [List.getElem?_map, List.getElem?_range h]
  rfl
theorem refs_len (n k : Nat) : (refsOf n k).length = k := by
  unfold refsOf
  rw [List.length_map, List.length_range]
theorem atI_last {α : Type} {l : List α} {x : α} (h : l[l.length - 1]? = some x) : atI l (-1) = some x := by
  have hl : l.length - 1 < l.length := (List.getElem?_eq_some_iff.mp h).1
  unfold atI ixN
  rw [if_neg (by decide), if_pos (by omega)]
  have e : ((-1 : Int) + (l.length : Int)).toNat = l.length - 1 := by omega
  rw [e]
  exact h
def rleS (rs : List (Nat × Nat)) (x : Nat) : List (Nat × Nat) := match rs.getLast? with
  | some p => if p.1 = x then rs.dropLast ++ [(p.1, p.2 + 1)] else rs ++ [(x, 1)]
  | none => rs ++ [(x, 1)]
theorem rleS_len (rs : List (Nat × Nat)) (x : Nat) : (rleS rs x).length ≤ rs.length + 1 := by
  unfold rleS
  cases q : rs.getLast? with
  | none => simp
  | some p =>
    dsimp only
    split
    · rw [List.length_append, List.length_dropLast, List.length_cons, List.length_nil]
      omega
    · simp
theorem rSt_set {st : Store} {rs : List (Nat × Nat)} {p q : Nat × Nat} : (rSt st (rs ++ [p])).set (st.length + 1 + rs.length) (rOb q) = rSt st (rs ++ [q]) := by
  unfold rSt
  rw [List.set_append, if_neg (by omega)]
  congr 1
  have : st.length + 1 + rs.length - st.length = rs.length + 1 := by omega
  rw [this, List.set_cons_succ]
  simp
theorem rSt_app {st : Store} {rs : List (Nat × Nat)} {p : Nat × Nat} : (rSt st rs ++ [rOb p]).set st.length (.lst (refsOf st.length rs.length ++ [.o (st.length + 1 + rs.length)])) = rSt st (rs ++ [p]) := by
  unfold rSt
  rw [List.append_assoc, List.set_append, if_neg (by omega), Nat.sub_self]
  congr 1
  rw [List.cons_append, List.set_cons_zero, List.map_append, List.length_append]
  congr 1
  unfold refsOf
  rw [List.length_cons, List.length_nil, List.range_succ, List.map_append]
  rfl
theorem bNeE_o {st : Store} {k : Nat} {xs : List Val} (h : st[k]? = some (.lst xs)) : bNeE (.o k) (.d (.list [])) st = .ok (vB (!xs.isEmpty)) st := by
  show (match st[k]? with | some (.lst xs) => R.ok (vB (!xs.isEmpty)) st | _ => .bad) = _
  rw [h]
theorem bd_run {α β : Type} {m : M α} {f : α → M β} {st s : Store} {a : α} {r : R β} (h : m st = .ok a s) (h2 : f a s = r) : bd m f st = r := by
  rw [bd_eq h]
  exact h2
theorem row_step {mv rw' : Option Val} {y4 : Option Val} {st : Store} {rs : List (Nat × Nat)} {x : Nat} (hl : rs.length ≤ 1000) : row_text_L1 [mv, rw', some (.o st.length), some (.d (.int (x : Int))), y4] (rSt st rs) = .ok (.nx, [mv, rw', some (.o st.length), some (.d (.int (x : Int))), y4]) (rSt st (rleS rs x)) := by
  have hh := rSt_head st rs
  have new : ∀ y4 : Option Val, sExp (eApp (eV 2) (eB bNew (aC (eV 3) (aC (eC (.int 1)) aN)))) [mv, rw', some (.o st.length), some (.d (.int (x : Int))), y4] (rSt st rs) = .ok (.nx, [mv, rw', some (.o st.length), some (.d (.int (x : Int))), y4]) (rSt st (rs ++ [(x, 1)])) := by
    intro y4
    have hn : eB bNew (aC (eV 3) (aC (eC (.int 1)) aN)) [mv, rw', some (.o st.length), some (.d (.int (x : Int))), y4] (rSt st rs) = .ok (.o (st.length + 1 + rs.length)) (rSt st rs ++ [rOb (x, 1)]) := by
      simp only [eB_eq, aC_eq, eV_succ, eV_zero, eC_eq, aN_eq, bd_ret]
      show (if ([Val.d (.int (x : Int)), .d (.int 1)]).length ≤ lim then R.ok (Val.o (rSt st rs).length) (rSt st rs ++ [.lst [.d (.int (x : Int)), .d (.int 1)]]) else .bad) = _
      rw [if_pos (by simp [lim_eq])]
      have : (rSt st rs).length = st.length + 1 + rs.length := by
        unfold rSt
        simp
        omega
      rw [this]
      rfl
    have ha := app_at (o := eV 2) (e := eB bNew (aC (eV 3) (aC (eC (.int 1)) aN))) (loc := [mv, rw', some (.o st.length), some (.d (.int (x : Int))), y4]) (st := rSt st rs) (k := st.length) (by simp) hh hn (by
      rw [List.getElem?_append_left (by unfold rSt; simp)]
      exact hh) (by rw [refs_len, lim_eq]; omega)
    rw [rSt_app] at ha
    rw [sExp_eq]
    exact bd_run ha rfl
  rw [row_text_L1_eq]
  unfold rleS
  cases q : rs.getLast? with
  | none =>
    have hr : rs = [] := by simpa using q
    subst hr
    rw [sIf_eq, tAn_eq, tV_eq, eO_eq]
    simp only [eV_succ, eV_zero, bd_ret, eB_eq, aN_eq, bLst_eq0, bd_bd]
    refine bd_run (bNeE_o hh) ?_
    have e : (refsOf st.length ([] : List (Nat × Nat)).length).isEmpty = true := rfl
    rw [e]
    exact new y4
  | some p =>
    have hp : rs[rs.length - 1]? = some p := by rw [← List.getLast?_eq_getElem?]; exact q
    have hpos : rs.length - 1 < rs.length := (List.getElem?_eq_some_iff.mp hp).1
    have hn1 : (refsOf st.length rs.length).isEmpty = false := by
      cases hq : refsOf st.length rs.length with
      | nil => have := refs_len st.length rs.length; rw [hq] at this; simp at this; omega
      | cons _ _ => rfl
    have i1 : bIx (.o st.length) (.d (.int (-1))) (rSt st rs) = .ok (.o (st.length + 1 + (rs.length - 1))) (rSt st rs) := bIx_o hh (atI_last (by rw [refs_len]; exact refs_at hpos))
    have i2 : bIx (.o (st.length + 1 + (rs.length - 1))) (.d (.int 0)) (rSt st rs) = .ok (.d (.int (p.1 : Int))) (rSt st rs) := bIx_o (rSt_in st hp) rfl
    have i3 : bIx (.o (st.length + 1 + (rs.length - 1))) (.d (.int 1)) (rSt st rs) = .ok (.d (.int (p.2 : Int))) (rSt st rs) := bIx_o (rSt_in st hp) rfl
    have i2' : eO bIx (eO bIx (eV 2) (eU bNeg (eC (.int 1)))) (eC (.int 0)) [mv, rw', some (.o st.length), some (.d (.int (x : Int))), y4] (rSt st rs) = .ok (.d (.int (p.1 : Int))) (rSt st rs) := by
      simp only [eO_eq, eV_succ, eV_zero, eU_eq, eC_eq, bd_ret, bNeg_int, bd_bd]
      exact bd_run i1 i2
    have i3' : eO bIx (eO bIx (eV 2) (eU bNeg (eC (.int 1)))) (eC (.int 1)) [mv, rw', some (.o st.length), some (.d (.int (x : Int))), y4] (rSt st rs) = .ok (.d (.int (p.2 : Int))) (rSt st rs) := by
      simp only [eO_eq, eV_succ, eV_zero, eU_eq, eC_eq, bd_ret, bNeg_int, bd_bd]
      exact bd_run i1 i3
    rw [sIf_eq, tAn_eq]
    have t1 : tV (eO bNeE (eV 2) (eB bLst aN)) [mv, rw', some (.o st.length), some (.d (.int (x : Int))), y4] (rSt st rs) = .ok true (rSt st rs) := by
      rw [tV_eq, eO_eq]
      simp only [eV_succ, eV_zero, bd_ret, eB_eq, aN_eq, bLst_eq0, bd_bd]
      refine bd_run (bNeE_o hh) ?_
      rw [hn1]
      rfl
    have t2 : tV (eO bEq (eO bIx (eO bIx (eV 2) (eU bNeg (eC (.int 1)))) (eC (.int 0))) (eV 3)) [mv, rw', some (.o st.length), some (.d (.int (x : Int))), y4] (rSt st rs) = .ok (decide (p.1 = x)) (rSt st rs) := by
      rw [tV_eq, eO_eq, bd_bd]
      refine bd_run i2' ?_
      simp
      by_cases e : p.1 = x
      · simp [e]
      · have : ¬ ((p.1 : Int) = (x : Int)) := by omega
        simp [e, this]
    refine bd_run (bd_run t1 (by rw [if_pos rfl]; exact t2)) ?_
    dsimp only
    by_cases e : p.1 = x
    · rw [decide_eq_true e, if_pos rfl, if_pos e, sAsg_eq]
      refine bd_run (a := .d (.int ((p.2 : Int) + 1))) (s := rSt st rs) ?_ ?_
      · rw [eO_eq]
        refine bd_run i3' ?_
        simp
      · have g : gSub (eO bIx (eV 2) (eU bNeg (eC (.int 1)))) (eC (.int 1)) (.d (.int ((p.2 : Int) + 1))) [mv, rw', some (.o st.length), some (.d (.int (x : Int))), y4] (rSt st rs) = .ok [mv, rw', some (.o st.length), some (.d (.int (x : Int))), y4] (rSt st (rs.dropLast ++ [(p.1, p.2 + 1)])) := by
          unfold gSub
          simp only [eO_eq, eV_succ, eV_zero, eU_eq, eC_eq, bd_ret, bNeg_int, bd_bd]
          refine bd_run i1 ?_
          dsimp only
          rw [rSt_in st hp]
          show R.ok _ ((rSt st rs).set (st.length + 1 + (rs.length - 1)) (rOb (p.1, p.2 + 1))) = _
          obtain ⟨ys, rfl⟩ := List.getLast?_eq_some_iff.mp q
          have hl' : (ys ++ [p]).length - 1 = ys.length := by simp
          rw [hl', List.dropLast_concat, rSt_set]
        exact bd_run g rfl
    · rw [decide_eq_false e, if_neg (by decide), if_neg e]
      exact new y4
theorem row_loop {mv rw' : Option Val} {st : Store} : ∀ (row : List Nat) (rs : List (Nat × Nat)) (y3 : Option Val), rs.length + row.length ≤ 1000 → ∃ z, forL (fBody (gN 3) row_text_L1) (row.map fun (i : Nat) => Val.d (.int (i : Int))) [mv, rw', some (.o st.length), y3, none] (rSt st rs) = .ok (.nx, [mv, rw', some (.o st.length), z, none]) (rSt st (row.foldl rleS rs))
  | [], rs, y3, _ => ⟨y3, rfl⟩
  | x :: row, rs, y3, h => by
    simp only [List.length_cons] at h
    obtain ⟨z, hz⟩ := row_loop (mv := mv) (rw' := rw') (st := st) row (rleS rs x) (some (.d (.int (x : Int)))) (by have := rleS_len rs x; omega)
    refine ⟨z, ?_⟩
    show bd (row_text_L1 [mv, rw', some (.o st.length), some (.d (.int (x : Int))), none]) _ (rSt st rs) = _
    exact bd_run (row_step (by omega)) hz
def rWord (p : Nat × Nat) : List Nat := TL.numL p.1 ++ [42] ++ TL.numL p.2
def rText (row : List Nat) : List Nat := if row = [] then [45] else TL.joinL [32] ((row.foldl rleS []).map rWord)
structure Rs (rs : List (Nat × Nat)) : Prop where
  l : rs.length ≤ 200
  b : ∀ p ∈ rs, p.1 < 10 ∧ p.2 < 1000
theorem num_len3 {n : Nat} (h : n < 1000) : (TL.numL n).length ≤ 3 := TL.numL_len (by decide) h
theorem fmt_nat {n : Nat} (h : n < 1000) : fmt1 (.d (.int (n : Int))) = ret (vS (TL.numL n)) := by
  have := fmt_int (i := (n : Int)) (by omega) (Nat.lt_of_lt_of_le (show ((n : Int)).natAbs < 1000 by omega) (by decide))
  have e : ((n : Int)).toNat = n := by omega
  rw [e] at this
  exact this
theorem compO_nil {k : Nat} {xs0 : List Val} {body : Val → M (Option Val)} {st : Store} (h : st[k]? = some (.lst xs0)) : compO k xs0 body [] st = .ok [] st := by
  unfold compO
  exact if_pos h
theorem compO_cons {k : Nat} {xs0 xs : List Val} {x : Val} {body : Val → M (Option Val)} {st : Store} (h : st[k]? = some (.lst xs0)) : compO k xs0 body (x :: xs) st = bd (body x) (fun o => bd (compO k xs0 body xs) fun ys => ret (consO o ys)) st := by
  conv => lhs; unfold compO
  exact if_pos h
theorem comp_words {l0 l1 : Option Val} {st : Store} {rs : List (Nat × Nat)} (w : Rs rs) : ∀ is : List Nat, (∀ i ∈ is, i < rs.length) →
    compO st.length (refsOf st.length rs.length) (cBody (gLO 2 (gsC (gN 3) (gsC (gN 4) gsN))) tTr (eJl [(eFmt (eV 3)), (eC (.str (tx [42]))), (eFmt (eV 4))] (tx [])) [l0, l1, some (.o st.length), none, none]) (is.map fun i => .o (st.length + 1 + i)) (rSt st rs) = .ok (is.map fun i => Val.d (.str (tx (rWord (rs.getD i (0, 0)))))) (rSt st rs)
  | [], _ => compO_nil (rSt_head st rs)
  | i :: is, h => by
    have hi := h i (by simp)
    have ih := comp_words (l0 := l0) (l1 := l1) (st := st) w is fun j hj => h j (by simp [hj])
    have hp : rs[i]? = some (rs.getD i (0, 0)) := by
      rw [List.getD_eq_getElem?_getD, List.getElem?_eq_getElem hi]
      rfl
    rw [List.map_cons, List.map_cons]
    generalize rs.getD i (0, 0) = p at hp ⊢
    have hb := w.b p (List.mem_of_getElem? hp)
    have f1 := fmt_nat (n := p.1) (by omega)
    have f2 := fmt_nat hb.2
    have n1 := num_len3 (n := p.1) (by omega)
    have n2 := num_len3 hb.2
    have c1 : (tx ([] : List Nat) ++ tx (TL.numL p.1)).length ≤ lim := by rw [tx_app, len_tx, List.nil_append, lim_eq]; omega
    have c2 : (tx ([] : List Nat) ++ tx (TL.numL p.1) ++ tx [42]).length ≤ lim := by rw [tx_app, tx_app, len_tx, List.nil_append, List.length_append, lim_eq]; simp; omega
    have c3 : (tx ([] : List Nat) ++ tx (TL.numL p.1) ++ tx [42] ++ tx (TL.numL p.2)).length ≤ lim := by rw [tx_app, tx_app, tx_app, len_tx, List.nil_append, List.length_append, List.length_append, lim_eq]; simp; omega
    have body : cBody (gLO 2 (gsC (gN 3) (gsC (gN 4) gsN))) tTr (eJl [(eFmt (eV 3)), (eC (.str (tx [42]))), (eFmt (eV 4))] (tx [])) [l0, l1, some (.o st.length), none, none] (.o (st.length + 1 + i)) (rSt st rs) = .ok (some (.d (.str (tx (rWord p))))) (rSt st rs) := by
      rw [cBody_eq, gLO_o]
      refine bd_run (a := [l0, l1, some (.o st.length), some (.d (.int (p.1 : Int))), some (.d (.int (p.2 : Int)))]) (s := rSt st rs) ?_ ?_
      · show (match (rSt st rs)[st.length + 1 + i]? with | some (.lst xs) => if xs.length = 2 then gsC (gN 3) (gsC (gN 4) gsN) xs [l0, l1, some (.o st.length), none, none] (rSt st rs) else .bad | _ => .bad) = _
        rw [rSt_in st hp]
        rfl
      · simp [f1, f2, c1, c2, c3]
        rw [tx_app, tx_app, tx_app]
        unfold rWord
        simp
    refine (compO_cons (rSt_head st rs)).trans ?_
    exact bd_run body (bd_run ih rfl)
theorem getD_range {α : Type} (l : List α) (d : α) : (List.range l.length).map (fun i => l.getD i d) = l := by
  apply List.ext_getElem
  · simp
  · intro i h1 h2
    simp [List.getD_eq_getElem?_getD, List.getElem?_eq_getElem h2]
theorem rleS_ne (rs : List (Nat × Nat)) (x : Nat) : rleS rs x ≠ [] := by
  unfold rleS
  cases rs.getLast? with
  | none => simp
  | some p =>
    dsimp only
    split <;> simp
theorem rle_b : ∀ (row : List Nat) (rs : List (Nat × Nat)) (N M : Nat), (∀ i ∈ row, i < N) → (∀ p ∈ rs, p.1 < N ∧ p.2 ≤ M) → ∀ p ∈ row.foldl rleS rs, p.1 < N ∧ p.2 ≤ M + row.length
  | [], rs, N, M, _, h => fun p hp => by simpa using h p hp
  | x :: row, rs, N, M, hr, h => fun p hp => by
    have := rle_b row (rleS rs x) N (M + 1) (fun i hi => hr i (by simp [hi])) (fun q hq => by
      unfold rleS at hq
      cases e : rs.getLast? with
      | none =>
        rw [e] at hq
        rcases List.mem_append.mp hq with hq | hq
        · have := h q hq; omega
        · rw [List.mem_singleton.mp hq]
          exact ⟨hr x (by simp), by simp⟩
      | some y =>
        rw [e] at hq
        dsimp only at hq
        have hy := h y (List.mem_of_getLast? e)
        split at hq
        · rcases List.mem_append.mp hq with hq | hq
          · have := h q ((List.dropLast_sublist rs).subset hq); omega
          · rw [List.mem_singleton.mp hq]
            exact ⟨hy.1, by simp; omega⟩
        · rcases List.mem_append.mp hq with hq | hq
          · have := h q hq; omega
          · rw [List.mem_singleton.mp hq]
            exact ⟨hr x (by simp), by simp⟩) p hp
    simp only [List.length_cons]
    omega
theorem rle_len : ∀ (row : List Nat) (rs : List (Nat × Nat)), (row.foldl rleS rs).length ≤ rs.length + row.length
  | [], rs => by simp
  | x :: row, rs => by
    have := rle_len row (rleS rs x)
    have := rleS_len rs x
    simp only [List.foldl_cons, List.length_cons]
    omega
theorem rle_ne : ∀ (row : List Nat) (rs : List (Nat × Nat)), rs ≠ [] → row.foldl rleS rs ≠ []
  | [], rs, h => h
  | x :: row, rs, h => rle_ne row (rleS rs x) (rleS_ne rs x)
theorem Rw.rs {ms : List Mv} {h : Nat} (w : WF ms h) {row : List Nat} (hr : Rw ms row) : Rs (row.foldl rleS []) := by
  have n6 := w.n6
  have hl := hr.l
  refine ⟨by have := rle_len row []; simp at this; omega, fun p hp => ?_⟩
  have := rle_b row [] ms.length 0 hr.b (by simp) p hp
  omega
theorem rWord_len {p : Nat × Nat} (h : p.1 < 10 ∧ p.2 < 1000) : (rWord p).length ≤ 7 := by
  have n1 := num_len3 (n := p.1) (by omega)
  have n2 := num_len3 h.2
  unfold rWord
  simp only [List.length_append, List.length_cons, List.length_nil]
  omega
theorem WF.row_text {ms : List Mv} {h : Nat} (w : WF ms h) {row : List Nat} (hr : Rw ms row) (st : Store) : ∃ j, f_row_text [.d (eMs ms), .d (lI' row)] st = .ok (vS (rText row)) (st ++ j) := by
  have rs := hr.rs w
  have hl := hr.l
  have nd := w.need
  have nr := w.row hr
  obtain ⟨z, hz⟩ := row_loop (mv := some (.d (eMs ms))) (rw' := some (.d (lI' row))) (st := st) row [] none (by simp; omega)
  have it : iSeq (eV 1) [some (Val.d (eMs ms)), some (.d (lI' row)), some (.o st.length), none, none] = ret (row.map fun (i : Nat) => Val.d (.int (i : Int))) := by
    simp [lI', nI, intsD]
    rfl
  have e1 : f_row_text [.d (eMs ms), .d (lI' row)] st = bd (sRet (eIf (tV (eO bNeE (eV 2) (eB bLst aN))) (eJoin (eC (.str (tx [32]))) row_text_C1) (eC (.str (tx [45])))) [some (.d (eMs ms)), some (.d (lI' row)), some (.o st.length), z, none]) (fun r => match r.1 with | .rt v => ret v | .nx => ret (.d .none) | _ => die) (rSt st (row.foldl rleS [])) := by
    unfold f_row_text b_row_text
    rw [runF_eq]
    show bd (sSeq _ _ [some (.d (eMs ms)), some (.d (lI' row)), none, none, none]) _ st = _
    rw [sSeq_go (loc' := [some (.d (eMs ms)), some (.d (lI' row)), none, none, none]) (by simp [nd])]
    rw [sSeq_go (loc' := [some (.d (eMs ms)), some (.d (lI' row)), none, none, none]) (by simp [nr])]
    have a : (sAsg (eB bNew aN) (gN 2)) [some (.d (eMs ms)), some (.d (lI' row)), none, none, none] st = .ok (.nx, [some (.d (eMs ms)), some (.d (lI' row)), some (.o st.length), none, none]) (rSt st []) := by
      simp only [sAsg_eq, eB_eq, aN_eq, bd_ret]
      rfl
    refine (bd_st (sSeq_ok a)).trans ?_
    refine bd_st (sSeq_ok ?_)
    rw [sFor_eq, it, bd_ret]
    exact hz
  have hh := rSt_head st (row.foldl rleS [])
  have hst : ∃ j, rSt st (row.foldl rleS []) = st ++ j := ⟨_, rfl⟩
  obtain ⟨j, hj⟩ := hst
  refine ⟨j, ?_⟩
  rw [e1, ← hj]
  have tv : tV (eO bNeE (eV 2) (eB bLst aN)) [some (.d (eMs ms)), some (.d (lI' row)), some (.o st.length), z, none] (rSt st (row.foldl rleS [])) = .ok (!decide (row = [])) (rSt st (row.foldl rleS [])) := by
    rw [tV_eq, eO_eq]
    simp only [eV_succ, eV_zero, bd_ret, eB_eq, aN_eq, bLst_eq0, bd_bd]
    refine bd_run (bNeE_o hh) ?_
    cases row with
    | nil => rfl
    | cons x row =>
      have ne := rle_ne row (rleS [] x) (rleS_ne _ _)
      rw [List.foldl_cons]
      cases q : row.foldl rleS (rleS [] x) with
      | nil => exact absurd q ne
      | cons p ps =>
        have e : (refsOf st.length (p :: ps).length).isEmpty = false := by
          cases hq : refsOf st.length (p :: ps).length with
          | nil => have := refs_len st.length (p :: ps).length; rw [hq] at this; simp at this
          | cons _ _ => rfl
        rw [e]
        simp
  rw [sRet_eq, eIf_eq, bd_bd, bd_bd]
  refine bd_run tv ?_
  unfold rText
  by_cases hn : row = []
  · rw [if_pos hn, decide_eq_true hn]
    rfl
  · rw [if_neg hn, decide_eq_false hn, if_pos (by rfl)]
    have lc : row_text_C1 [some (.d (eMs ms)), some (.d (lI' row)), some (.o st.length), z, none] (rSt st (row.foldl rleS [])) = .ok (.d (.list (((row.foldl rleS []).map rWord).map fun l => .str (tx l)))) (rSt st (row.foldl rleS [])) := by
      rw [row_text_C1_eq]
      unfold eLcO
      simp only [eV_succ, eV_zero, bd_ret]
      have g : getL (.o st.length) (rSt st (row.foldl rleS [])) = .ok (st.length, refsOf st.length (row.foldl rleS []).length) (rSt st (row.foldl rleS [])) := by
        show (match (rSt st (row.foldl rleS []))[st.length]? with | some (.lst xs) => R.ok (st.length, xs) (rSt st (row.foldl rleS [])) | _ => .bad) = _
        rw [hh]
      refine bd_run g ?_
      dsimp only
      rw [if_pos (by rw [refs_len, lim_eq]; have := rs.l; omega)]
      have cw := comp_words (l0 := some (.d (eMs ms))) (l1 := some (.d (lI' row))) (st := st) rs (List.range (row.foldl rleS []).length) fun i hi => List.mem_range.mp hi
      have e2 : (List.range (row.foldl rleS []).length).map (fun i => Val.d (.str (tx (rWord ((row.foldl rleS []).getD i (0, 0)))))) = ((row.foldl rleS []).map fun p => Val.d (.str (tx (rWord p)))) := by
        have := congrArg (List.map fun p => Val.d (.str (tx (rWord p)))) (getD_range (row.foldl rleS []) (0, 0))
        rw [List.map_map] at this
        exact this
      rw [e2] at cw
      refine bd_run (noex_eq cw) ?_
      rw [bLst_map (fun p => PyData.str (tx (rWord p))) (row.foldl rleS []) (by rw [lim_eq]; have := rs.l; omega), List.map_map]
      rfl
    have hj2 : bJoin (tx [32]) (.d (.list (((row.foldl rleS []).map rWord).map fun l => .str (tx l)))) = ret (vS (TL.joinL [32] ((row.foldl rleS []).map rWord))) := join_txt (by
      have s := sum_le (c := 7) ((row.foldl rleS []).map rWord) fun l hl => by
        obtain ⟨p, hp, rfl⟩ := List.mem_map.mp hl
        exact rWord_len (rs.b p hp)
      have := rs.l
      rw [List.length_map] at s
      simp only [List.length_map, List.length_cons, List.length_nil, lim_eq]
      omega)
    rw [eJoin_eq]
    simp only [eC_eq, bd_ret, strOf_eq, bd_bd]
    refine bd_run lc ?_
    rw [hj2]
    rfl

def rrW (n : Nat) (w : List Nat) : Option (Nat × Nat) := match TL.spl [42] 0 [] w with
  | [a, b] => (match numIn a with
    | none => none
    | some x => (match numIn b with
      | none => none
      | some m => if x < n ∧ m ≤ 200 then some (x, m) else none))
  | _ => none
def rrL (n : Nat) : List (List Nat) → List Nat → Option (List Nat)
  | [], acc => some acc
  | w :: ws, acc => match rrW n w with
    | none => none
    | some p => rrL n ws (acc ++ List.replicate p.2 p.1)
theorem numIn_lt {l : List Nat} {n : Nat} (h : numIn l = some n) : n < 1000 := by
  unfold numIn at h
  split at h
  · rename_i hc
    cases h
    exact valL_999 hc.2.2.1 hc.2.1
  · cases h
theorem rep_nat (m x : Nat) : repD (m : Int) [PyData.int (x : Int)] = intsD (nI (List.replicate m x)) := by
  unfold repD intsD nI
  have e : ((m : Int)).toNat = m := by omega
  rw [e]
  clear e
  induction m with
  | zero => rfl
  | succ n ih => rw [List.replicate_succ, List.flatten_cons, ih, List.replicate_succ]; rfl
theorem lI_app (a b : List Nat) : intsD (nI a) ++ intsD (nI b) = intsD (nI (a ++ b)) := by
  unfold intsD nI
  rw [List.map_append, List.map_append]
theorem rr_step {ms : List Mv} {t x4 x5 x6 : Option Val} {w : List Nat} (hw : Tx w) {acc : List Nat} (ha : acc.length + 200 ≤ lim) :
    (∀ p, rrW ms.length w = some p → p.1 < ms.length ∧ p.2 ≤ 200 ∧ ∃ y4 y5 y6, read_row_L1 [some (.d (eMs ms)), t, some (.d (lI' acc)), some (vS w), x4, x5, x6] = ret (.nx, [some (.d (eMs ms)), t, some (.d (lI' (acc ++ List.replicate p.2 p.1))), some (vS w), y4, y5, y6])) ∧
    (rrW ms.length w = none → read_row_L1 [some (.d (eMs ms)), t, some (.d (lI' acc)), some (vS w), x4, x5, x6] = thr 10) := by
  have s := split_txt (a := w) (b := [42]) (by simp) rfl hw.lim
  have tp : ∀ p ∈ TL.spl [42] 0 [] w, Tx p := fun p hp => hw.spl hp
  rw [read_row_L1_eq]
  unfold rrW
  generalize TL.spl [42] 0 [] w = parts at s tp
  have bad : parts.length ≠ 2 → (sSeq (sAsg (eSplit (eV 3) (eC (.str (tx [42])))) (gN 4))
    (sSeq (sIf (tV (eO bNe (eB bLen (aC (eV 4) aN)) (eC (.int 2)))) (sRaise 10) sNil)
    (sSeq (sPar 5 6 (eB (fixN 1 f_number_in) (aC (eO bIx (eV 4) (eC (.int 0))) aN)) (eB (fixN 1 f_number_in) (aC (eO bIx (eV 4) (eC (.int 1))) aN)))
    (sSeq (sIf (tOrr (tV (eO bGe (eV 5) (eB bLen (aC (eV 0) aN)))) (tV (eO bGt (eV 6) (eC (.int 200))))) (sRaise 10) sNil)
    (sAsg (eO bAdd (eV 2) (eO bMul (eB bLst (aC (eV 5) aN)) (eV 6))) (gN 2)))))) [some (.d (eMs ms)), t, some (.d (lI' acc)), some (vS w), x4, x5, x6] = thr 10 := fun hn => by
    have n : ¬ ((parts.length : Int) = 2) := by omega
    simp [s, n]
  match parts, s, tp, bad with
  | [a, b], s, tp, _ =>
    have na := r_number_in (tp a (by simp)).lim
    have nb := r_number_in (tp b (by simp)).lim
    have len : bLen [.d (eMs ms)] = ret (.d (.int (ms.length : Int))) := by simp [eMs]
    dsimp only
    cases qa : numIn a with
    | none =>
      rw [qa] at na
      refine ⟨fun p hp => by (cases hp), fun _ => ?_⟩
      simp [s, atI_zero, atI_one, na]
    | some x =>
      rw [qa] at na
      dsimp only at na ⊢
      cases qb : numIn b with
      | none =>
        rw [qb] at nb
        refine ⟨fun p hp => by (cases hp), fun _ => ?_⟩
        simp [s, atI_zero, atI_one, na, nb]
      | some m =>
        rw [qb] at nb
        dsimp only at nb ⊢
        have hm := numIn_lt qb
        by_cases hx : x < ms.length
        · have c1 : ¬ ((ms.length : Int) ≤ (x : Int)) := by omega
          by_cases h2 : m ≤ 200
          · have c2 : ¬ ((200 : Int) < (m : Int)) := by omega
            rw [if_pos ⟨hx, h2⟩]
            refine ⟨fun p hp => ?_, fun z => by (cases z)⟩
            cases hp
            refine ⟨hx, h2, some (.d (.list [.str (tx a), .str (tx b)])), some (.d (.int (x : Int))), some (.d (.int (m : Int))), ?_⟩
            have mul : bMul (.d (.list [.int (x : Int)])) (.d (.int (m : Int))) = ret (.d (lI' (List.replicate m x))) := by
              show (if -1000 ≤ (m : Int) ∧ (m : Int) ≤ 1000 ∧ [PyData.int (x : Int)].length ≤ 1000 then ret (Val.d (.list (repD (m : Int) [PyData.int (x : Int)]))) else die) = _
              rw [if_pos ⟨by omega, by omega, by simp⟩, rep_nat]
              rfl
            have add : bAdd (.d (lI' acc)) (.d (lI' (List.replicate m x))) = ret (.d (lI' (acc ++ List.replicate m x))) := by
              show bAdd (.d (.list (intsD (nI acc)))) (.d (.list (intsD (nI (List.replicate m x))))) = _
              rw [bAdd_lst, if_pos (by simp [nI]; omega), lI_app]
              rfl
            simp [s, atI_zero, atI_one, na, nb, len, c1, c2, mul, add]
          · have c2 : (200 : Int) < (m : Int) := by omega
            rw [if_neg (fun z => h2 z.2)]
            refine ⟨fun p hp => by (cases hp), fun _ => ?_⟩
            simp [s, atI_zero, atI_one, na, nb, len, c1, c2]
        · have c1 : (ms.length : Int) ≤ (x : Int) := by omega
          rw [if_neg (fun z => hx z.1)]
          refine ⟨fun p hp => by (cases hp), fun _ => ?_⟩
          simp [s, atI_zero, atI_one, na, nb, len, c1]
  | [], s, tp, bad => exact ⟨fun p hp => by (cases hp), fun _ => bad (by simp)⟩
  | [a], s, tp, bad => exact ⟨fun p hp => by (cases hp), fun _ => bad (by simp)⟩
  | a :: b :: c :: r, s, tp, bad => exact ⟨fun p hp => by (cases hp), fun _ => bad (by simp)⟩
theorem rr_loop {ms : List Mv} {t : Option Val} : ∀ (ws : List (List Nat)) (acc : List Nat) (x3 x4 x5 x6 : Option Val), (∀ w ∈ ws, Tx w) → acc.length + 200 * ws.length ≤ lim → (∀ i ∈ acc, i < ms.length) →
    (∀ row, rrL ms.length ws acc = some row → (∀ i ∈ row, i < ms.length) ∧ row.length ≤ lim ∧ ∃ y3 y4 y5 y6, forL (fBody (gN 3) read_row_L1) (ws.map vS) [some (.d (eMs ms)), t, some (.d (lI' acc)), x3, x4, x5, x6] = ret (.nx, [some (.d (eMs ms)), t, some (.d (lI' row)), y3, y4, y5, y6])) ∧
    (rrL ms.length ws acc = none → forL (fBody (gN 3) read_row_L1) (ws.map vS) [some (.d (eMs ms)), t, some (.d (lI' acc)), x3, x4, x5, x6] = thr 10)
  | [], acc, x3, x4, x5, x6, _, hl, hb => ⟨fun row e => by cases e; exact ⟨hb, by simp at hl; exact hl, x3, x4, x5, x6, rfl⟩, fun e => by cases e⟩
  | w :: ws, acc, x3, x4, x5, x6, hw, hl, hb => by
    simp only [List.length_cons] at hl
    obtain ⟨s1, s2⟩ := rr_step (ms := ms) (t := t) (x4 := x4) (x5 := x5) (x6 := x6) (hw w (by simp)) (acc := acc) (by omega)
    have e0 : forL (fBody (gN 3) read_row_L1) ((w :: ws).map vS) [some (.d (eMs ms)), t, some (.d (lI' acc)), x3, x4, x5, x6] =
        bd (read_row_L1 [some (.d (eMs ms)), t, some (.d (lI' acc)), some (vS w), x4, x5, x6]) (fun r => match r.1 with
          | .nx => forL (fBody (gN 3) read_row_L1) (ws.map vS) r.2
          | .ct => forL (fBody (gN 3) read_row_L1) (ws.map vS) r.2
          | .bk => ret (.nx, r.2)
          | .rt v => ret (.rt v, r.2)) := rfl
    rw [e0]
    unfold rrL
    cases q : rrW ms.length w with
    | none =>
      rw [s2 q]
      exact ⟨fun row e => by (cases e), fun _ => rfl⟩
    | some p =>
      obtain ⟨p1, p2, y4, y5, y6, hy⟩ := s1 p q
      rw [hy]
      exact rr_loop ws (acc ++ List.replicate p.2 p.1) (some (vS w)) y4 y5 y6 (fun w' h' => hw w' (by simp [h'])) (by rw [List.length_append, List.length_replicate]; omega) fun i hi => by
        rcases List.mem_append.mp hi with hi | hi
        · exact hb i hi
        · rw [(List.mem_replicate.mp hi).2]; exact p1
def rRow (n : Nat) (t : List Nat) : Option (List Nat) := match rrL n (if t = [45] then [] else TL.spl [32] 0 [] t) [] with
  | none => none
  | some row => if row.length ≤ 200 ∧ rText row = t then some row else none
theorem rWord_ok (p : Nat × Nat) : okL (rWord p) = true := okL_app (okL_app (dg_ok (num_dg _)) rfl) (dg_ok (num_dg _))
theorem rText_ok (row : List Nat) : okL (rText row) = true := by
  unfold rText
  split
  · rfl
  · refine joinL_ok rfl _ fun l hl => ?_
    obtain ⟨p, _, rfl⟩ := List.mem_map.mp hl
    exact rWord_ok p
theorem r_read_row {ms : List Mv} {h : Nat} (w : WF ms h) {t : List Nat} (ht : Tx t) (hn : t.length ≤ 400) (st : Store) :
    (∀ row, rRow ms.length t = some row → Rw ms row ∧ rText row = t ∧ ∃ j, f_read_row [.d (eMs ms), vS t] st = .ok (.d (lI' row)) (st ++ j)) ∧ (rRow ms.length t = none → ∃ j, f_read_row [.d (eMs ms), vS t] st = .ex 10 (st ++ j)) := by
  have nd := w.need
  have ct := spl_count (S := [32]) t 0 []
  have it : iSeq (eIf (tV (eO bNe (eV 1) (eC (.str (tx [45]))))) (eSplit (eV 1) (eC (.str (tx [32])))) (eB bLst aN)) [some (.d (eMs ms)), some (vS t), some (.d (lI' [])), none, none, none, none] = ret ((if t = [45] then [] else TL.spl [32] 0 [] t).map vS) := by
    have n := ne_txt (a := t) (b := [45]) ht.o rfl
    have s := split_txt (a := t) (b := [32]) (by simp) rfl ht.lim
    by_cases q : t = [45]
    · subst q
      have n : bNe (vS [45]) (vS [45]) = ret (.d (.bool false)) := by rw [n]; simp
      simp [n]
    · have n : bNe (vS t) (vS [45]) = ret (.d (.bool true)) := by rw [n]; simp [q]
      simp [n, q, s]
      rfl
  have tx' : ∀ w ∈ (if t = [45] then [] else TL.spl [32] 0 [] t), Tx w := fun w hw => by
    split at hw
    · cases hw
    · exact ht.spl hw
  have cnt : (if t = [45] then [] else TL.spl [32] 0 [] t).length ≤ 401 := by
    split
    · simp
    · omega
  obtain ⟨l1, l2⟩ := rr_loop (ms := ms) (t := some (vS t)) (if t = [45] then [] else TL.spl [32] 0 [] t) [] none none none none tx' (by simp only [List.length_nil, lim_eq]; omega) (by simp)
  have start : f_read_row [.d (eMs ms), vS t] = bd (sSeq (sFor (iSeq (eIf (tV (eO bNe (eV 1) (eC (.str (tx [45]))))) (eSplit (eV 1) (eC (.str (tx [32])))) (eB bLst aN))) (gN 3) read_row_L1) (sSeq (sIf (tOrr (tV (eO bGt (eB bLen (aC (eV 2) aN)) (eC (.int 200)))) (tV (eO bNe (eB (fixN 2 f_row_text) (aC (eV 0) (aC (eV 2) aN))) (eV 1)))) (sRaise 10) sNil)
    (sRet (eV 2))) [some (.d (eMs ms)), some (vS t), some (.d (lI' [])), none, none, none, none]) fun r => match r.1 with | .rt v => ret v | .nx => ret (.d .none) | _ => die := by
    unfold f_read_row b_read_row
    rw [runF_eq]
    show bd (sSeq _ _ [some (.d (eMs ms)), some (vS t), none, none, none, none, none]) _ = _
    rw [sSeq_go (loc' := [some (.d (eMs ms)), some (vS t), none, none, none, none, none]) (by simp [nd])]
    rw [sSeq_go (loc' := [some (.d (eMs ms)), some (vS t), none, none, none, none, none]) (by simp)]
    rw [sSeq_go (loc' := [some (.d (eMs ms)), some (vS t), some (.d (lI' [])), none, none, none, none]) (by simp; rfl)]
    all_goals rfl
  rw [start]
  unfold rRow
  cases q : rrL ms.length (if t = [45] then [] else TL.spl [32] 0 [] t) [] with
  | none =>
    refine ⟨fun row e => by (cases e), fun _ => ⟨[], ?_⟩⟩
    have e := l2 q
    refine bd_ex (sSeq_ex ?_)
    rw [sFor_eq, it, bd_ret, e]
    simp
    rfl
  | some row =>
    obtain ⟨b, lr, y3, y4, y5, y6, hy⟩ := l1 row q
    have e3 : (sFor (iSeq (eIf (tV (eO bNe (eV 1) (eC (.str (tx [45]))))) (eSplit (eV 1) (eC (.str (tx [32])))) (eB bLst aN))) (gN 3) read_row_L1) [some (.d (eMs ms)), some (vS t), some (.d (lI' [])), none, none, none, none] = ret (.nx, [some (.d (eMs ms)), some (vS t), some (.d (lI' row)), y3, y4, y5, y6]) := by
      rw [sFor_eq, it, bd_ret, hy]
    rw [sSeq_go e3]
    have len : bLen [.d (lI' row)] = ret (.d (.int (row.length : Int))) := by simp [lI', nI]
    show (∀ r, (if row.length ≤ 200 ∧ rText row = t then some row else none) = some r → _) ∧ ((if row.length ≤ 200 ∧ rText row = t then some row else none) = none → _)
    by_cases h2 : row.length ≤ 200
    · have c2 : ¬ ((200 : Int) < (row.length : Int)) := by omega
      have hr : Rw ms row := ⟨h2, b⟩
      obtain ⟨j, hj⟩ := w.row_text hr st
      have n := ne_txt (a := rText row) (b := t) (rText_ok row) ht.o
      have tt : tOrr (tV (eO bGt (eB bLen (aC (eV 2) aN)) (eC (.int 200)))) (tV (eO bNe (eB (fixN 2 f_row_text) (aC (eV 0) (aC (eV 2) aN))) (eV 1))) [some (.d (eMs ms)), some (vS t), some (.d (lI' row)), y3, y4, y5, y6] st = .ok (!decide (rText row = t)) (st ++ j) := by
        have t1 : tV (eO bGt (eB bLen (aC (eV 2) aN)) (eC (.int 200))) [some (.d (eMs ms)), some (vS t), some (.d (lI' row)), y3, y4, y5, y6] = ret false := by simp [len, c2]
        rw [tOrr_eq, t1, bd_ret, if_neg (by decide), tV_eq, eO_eq]
        simp only [eB_eq, aC_eq, aN_eq, eV_succ, eV_zero, fix2, bd_ret, bd_bd]
        refine bd_run hj ?_
        rw [n]
        rfl
      by_cases he : rText row = t
      · rw [decide_eq_true he] at tt
        rw [if_pos ⟨h2, he⟩]
        refine ⟨fun r e => ?_, fun z => by (cases z)⟩
        cases e
        refine ⟨hr, he, j, ?_⟩
        refine (bd_st (sSeq_ok (loc' := [some (.d (eMs ms)), some (vS t), some (.d (lI' row)), y3, y4, y5, y6]) (s := st ++ j) ?_)).trans rfl
        rw [sIf_eq]
        exact bd_run tt rfl
      · rw [decide_eq_false he] at tt
        rw [if_neg (fun z => he z.2)]
        refine ⟨fun r e => by (cases e), fun _ => ⟨j, bd_ex (sSeq_ex ?_)⟩⟩
        rw [sIf_eq]
        exact bd_run tt rfl
    · have c2 : (200 : Int) < (row.length : Int) := by omega
      rw [if_neg (fun z => h2 z.1)]
      refine ⟨fun r e => by (cases e), fun _ => ⟨[], ?_⟩⟩
      simp [len, c2]
      rfl
theorem read_row_bad {ms : List Mv} {h : Nat} (w : WF ms h) {x : D} (hx : cl x = true) (hs : ∀ y, x ≠ .str y) : f_read_row [.d (eMs ms), .d x] = thr 10 := by
  have nd := w.need
  cases x with
  | dict _ => simp [cl] at hx
  | str y => exact absurd rfl (hs y)
  | _ => simp [f_read_row, b_read_row, runF_eq, nd]

theorem eTold_ex {cs : List Nat} {f : E} {loc : Loc} {c : Nat} {st st' : Store} (h : f loc st = .ex c st') (hc : c ∈ cs) : eTold cs f loc st = .ok (.d (.tuple [.str "refused", .str (kindN c)])) st' := by
  unfold eTold
  rw [h]
  exact if_pos hc
theorem eTold_ok {cs : List Nat} {f : E} {loc : Loc} {v : Val} {st st' : Store} (h : f loc st = .ok v st') : eTold cs f loc st = .ok v st' := by
  unfold eTold
  rw [h]
theorem tl10 : bNe (.d (.tuple [.str "refused", .str (kindN 10)])) (.d (.tuple [.str "refused", .str "BadText"])) = ret (.d (.bool false)) := ne_told (by decide +kernel) (by decide +kernel) rfl
theorem tl1 : bNe (.d (.tuple [.str "refused", .str (kindN 1)])) (.d (.tuple [.str "refused", .str "BadMoves"])) = ret (.d (.bool false)) := ne_told (by decide +kernel) (by decide +kernel) rfl
theorem tl4 : bNe (.d (.tuple [.str "refused", .str (kindN 4)])) (.d (.tuple [.str "refused", .str "BadRow"])) = ret (.d (.bool false)) := ne_told (by decide +kernel) (by decide +kernel) rfl
/-! ### a move's text -/
theorem move_text_bad {x : D} (hx : cl x = true) (h : (decide (1 ≤ hiB x) && decide (hiB x ≤ 4) && mvB (hiB x) x) = false) : f_move_text [.d x] = thr 1 := by
  have e1 := r_heaps_in hx
  have e2 := r_is_move hx (hiB x)
  by_cases h1 : 1 ≤ hiB x
  · have c1 : (1 : Int) ≤ (hiB x : Int) := by omega
    by_cases h4 : hiB x ≤ 4
    · have c4 : (hiB x : Int) ≤ 4 := by omega
      have h3 : mvB (hiB x) x = false := by simpa [h1, h4] using h
      simp [f_move_text, b_move_text, runF_eq, e1, e2, c1, c4, h3]
    · have c4 : ¬ (hiB x : Int) ≤ 4 := by omega
      simp [f_move_text, b_move_text, runF_eq, e1, c1, c4]
  · have c1 : ¬ (1 : Int) ≤ (hiB x : Int) := by omega
    simp [f_move_text, b_move_text, runF_eq, e1, c1]
theorem r_move_text {m : Mv} {h : Nat} (h1 : 1 ≤ h) (h4 : h ≤ 4) (l1 : m.1.length = h) (l2 : m.2.length = h) (b1 : ∀ x ∈ m.1, 0 ≤ x ∧ x ≤ 9) (b2 : ∀ x ∈ m.2, 0 ≤ x ∧ x ≤ 9) : f_move_text [.d (eMv m)] = ret (vS (oText m)) := by
  have hx : cl (eMv m) = true := cl_mv (by rw [l1, lim_eq]; omega) (by rw [l2, lim_eq]; omega)
  have e1 := r_heaps_in hx
  have e2 := r_is_move hx h
  have hh : hiB (eMv m) = h := by rw [hi_eMv, l1]
  have e3 := r_one_text (m := m) ⟨by omega, b1⟩ ⟨by omega, b2⟩
  rw [hh] at e1
  rw [mv_eMv l1 l2 b1 b2] at e2
  have c1 : (1 : Int) ≤ (h : Int) := by omega
  have c4 : (h : Int) ≤ 4 := by omega
  simp [f_move_text, b_move_text, runF_eq, e1, e2, c1, c4, e3]

end Y
end
section
set_option Elab.async false
set_option linter.all false
set_option maxRecDepth 10000
set_option exponentiation.threshold 5000
namespace Y
open PySem (PyData Str)
/-! ### texts read back -/
theorem hText_ch {a : List Int} (w : Hp9 a) : ∀ c ∈ hText a, c = 45 ∨ c = 32 ∨ (48 ≤ c ∧ c ≤ 57) ∨ (97 ≤ c ∧ c ≤ 100) := by
  have hw : ∀ p ∈ hWords a 0, ∀ c ∈ p, (48 ≤ c ∧ c ≤ 57) ∨ (97 ≤ c ∧ c ≤ 100) := fun p hp c hc => by
    obtain ⟨x, hx, rfl⟩ := List.mem_map.mp hp
    obtain ⟨h1, h2⟩ := zipIdx_b (List.mem_filter.mp hx).1
    have := w.l
    unfold hWord at hc
    rcases List.mem_append.mp hc with hc | hc
    · exact .inl (TL.numL_digits _ c hc)
    · rw [List.mem_singleton.mp hc]
      exact .inr (by omega)
  intro c hc
  unfold hText at hc
  split at hc
  · exact .inl (List.mem_singleton.mp hc)
  · generalize hWords a 0 = ls at hw hc
    have : ∀ ls : List (List Nat), (∀ p ∈ ls, ∀ c ∈ p, (48 ≤ c ∧ c ≤ 57) ∨ (97 ≤ c ∧ c ≤ 100)) → c ∈ TL.joinL [32] ls → c = 32 ∨ (48 ≤ c ∧ c ≤ 57) ∨ (97 ≤ c ∧ c ≤ 100) := by
      intro ls
      induction ls with
      | nil => intro _ hc; cases hc
      | cons p ls ih =>
        intro h hc
        cases ls with
        | nil => exact .inr (h p (by simp) c hc)
        | cons q r =>
          simp only [TL.joinL, List.mem_append, List.mem_singleton] at hc
          rcases hc with hc | hc | hc
          · exact .inr (h p (by simp) c hc)
          · exact .inl hc
          · exact ih (fun p' hp' => h p' (by simp [hp'])) hc
    exact .inr (this ls hw hc)
theorem pre_62 {l : List Nat} {i : Nat} (h : l[i + 1]? ≠ some 62) : TL.pre [32, 62, 32] (l.drop i) = false := by
  cases q : TL.pre [32, 62, 32] (l.drop i) with
  | false => rfl
  | true =>
    unfold TL.pre at q
    have e : (l.drop i).take 3 = [32, 62, 32] := by simpa using q
    have : ((l.drop i).take 3)[1]? = some 62 := by rw [e]; rfl
    rw [List.getElem?_take, if_pos (by decide), List.getElem?_drop] at this
    exact absurd this h
theorem spl_two {p q : List Nat} (hp : 62 ∉ p) (hq : 62 ∉ q) : TL.spl [32, 62, 32] 0 [] (p ++ [32, 62, 32] ++ q) = [p, q] := by
  rw [List.append_assoc]
  rw [TL.spl_part (by simp) fun i hi => pre_62 ?_]
  · rw [TL.spl_last fun i hi => pre_62 ?_]
    · simp
    · intro e
      exact hq (List.mem_of_getElem? e)
  · intro e
    by_cases h1 : i + 1 < p.length
    · rw [List.getElem?_append_left h1] at e
      exact hp (List.mem_of_getElem? e)
    · have h2 : i + 1 = p.length := by omega
      rw [List.getElem?_append_right (by omega), h2, Nat.sub_self] at e
      simp at e
theorem hWords_cons (x : Int) (r : List Int) (n : Nat) : hWords (x :: r) n = if 0 < x then hWord (x, n) :: hWords r (n + 1) else hWords r (n + 1) := by
  unfold hWords
  rw [List.zipIdx_cons]
  by_cases h : 0 < x
  · rw [List.filter_cons_of_pos (by simpa using h), if_pos h, List.map_cons]
  · rw [List.filter_cons_of_neg (by simpa using h), if_neg h]
theorem hr_words {h : Nat} (h4 : h ≤ 4) : ∀ (r pre : List Int), (∀ x ∈ r, 0 ≤ x ∧ x ≤ 9) → pre.length + r.length = h → hrL h (hWords r pre.length) (pre ++ List.replicate r.length 0) = some (pre ++ r)
  | [], pre, _, _ => by simp [hWords, hrL]
  | x :: r, pre, hb, hl => by
    have b := hb x (by simp)
    simp only [List.length_cons] at hl
    have ih := hr_words h4 r (pre ++ [x]) (fun y hy => hb y (by simp [hy])) (by simp; omega)
    rw [List.length_append, List.length_cons, List.length_nil, List.append_assoc, List.append_assoc, List.singleton_append, List.singleton_append] at ih
    rw [hWords_cons, List.length_cons, List.replicate_succ]
    by_cases h0 : 0 < x
    · rw [if_pos h0]
      have hw : hrW h (hWord (x, pre.length)) = some (pre.length, x.toNat) := by
        unfold hrW hWord
        rw [List.getLast?_concat]
        dsimp only
        rw [if_pos ⟨by omega, by omega⟩, List.dropLast_concat, numIn_num (by omega)]
        simp
      unfold hrL
      rw [hw]
      dsimp only
      have e : (pre ++ 0 :: List.replicate r.length (0 : Int)).set pre.length ((x.toNat : Nat) : Int) = pre ++ x :: List.replicate r.length 0 := by
        rw [List.set_append, if_neg (by omega), Nat.sub_self, List.set_cons_zero]
        congr 2
        omega
      rw [e]
      exact ih
    · rw [if_neg h0]
      have : x = 0 := by omega
      subst this
      exact ih
theorem hRead_back {a : List Int} {h : Nat} (w : Hp9 a) (hl : a.length = h) : hRead h (hText a) = some a := by
  have h4 : h ≤ 4 := by have := w.l; omega
  have key := hr_words h4 a [] w.b (by simpa using hl)
  simp only [List.length_nil, List.nil_append, hl] at key
  unfold hRead hText
  by_cases q : hWords a 0 = []
  · rw [if_pos q, if_pos rfl]
    rw [q] at key
    exact key
  · rw [if_neg q]
    have len : ∀ ls : List (List Nat), ls ≠ [] → (∀ l ∈ ls, l.length = 2) → 2 ≤ (TL.joinL [32] ls).length := by
      intro ls hne hls
      match ls, hne, hls with
      | [p], _, hls => simp [TL.joinL, hls p (by simp)]
      | p :: q :: r, _, hls =>
        simp only [TL.joinL, List.length_append, hls p (by simp)]
        omega
    have l2 := len (hWords a 0) q fun l hl => (w.word l hl).1
    have ne : TL.joinL [32] (hWords a 0) ≠ [45] := fun z => by rw [z] at l2; simp at l2
    rw [if_neg ne, TL.spl_join (s := 32) (S := []) q fun p hp => ?_]
    · exact key
    · obtain ⟨x, hx, rfl⟩ := List.mem_map.mp hp
      obtain ⟨h1, h2⟩ := zipIdx_b (List.mem_filter.mp hx).1
      intro hc
      unfold hWord at hc
      rcases List.mem_append.mp hc with hc | hc
      · exact TL.numL_free (.inl (by decide)) hc
      · have := List.mem_singleton.mp hc
        omega
theorem mRead_back {m : Mv} {h : Nat} (w1 : Hp9 m.1) (w2 : Hp9 m.2) (l1 : m.1.length = h) (l2 : m.2.length = h) : mRead h (oText m) = some m := by
  unfold mRead oText
  rw [spl_two (fun z => by have := hText_ch w1 62 z; omega) (fun z => by have := hText_ch w2 62 z; omega)]
  dsimp only
  rw [hRead_back w1 l1]
  dsimp only
  rw [hRead_back w2 l2]
theorem oText_10 {m : Mv} (w1 : Hp9 m.1) (w2 : Hp9 m.2) : 10 ∉ oText m := fun z => by
  unfold oText at z
  rcases List.mem_append.mp z with z | z
  · rcases List.mem_append.mp z with z | z
    · have := hText_ch w1 10 z; omega
    · simp at z
  · have := hText_ch w2 10 z; omega
theorem mReadL_back {h : Nat} : ∀ ms : List Mv, (∀ m ∈ ms, Hp9 m.1 ∧ Hp9 m.2 ∧ m.1.length = h ∧ m.2.length = h) → mReadL h (ms.map oText) = some ms
  | [], _ => rfl
  | m :: ms, hm => by
    obtain ⟨a, b, c, d⟩ := hm m (by simp)
    rw [List.map_cons]
    unfold mReadL
    rw [mRead_back a b c d]
    dsimp only
    rw [mReadL_back ms fun m' h' => hm m' (by simp [h'])]
    rfl
theorem WF.back {ms : List Mv} {h : Nat} (w : WF ms h) : rMoves (mText h ms) = some (h, ms) := by
  have h4 := w.h4
  unfold rMoves
  have e : TL.spl [10] 0 [] (mText h ms) = TL.numL h :: ms.map oText := by
    unfold mText
    refine TL.spl_join (s := 10) (S := []) (by simp) fun p hp => ?_
    rcases List.mem_cons.mp hp with rfl | hp
    · exact TL.numL_free (.inl (by decide))
    · obtain ⟨m, hm, rfl⟩ := List.mem_map.mp hp
      exact oText_10 (w.hp hm).1 (w.hp hm).2
  rw [e]
  dsimp only
  rw [numIn_num (by omega)]
  dsimp only
  rw [if_pos ⟨w.h1, w.h4⟩, mReadL_back ms fun m hm => ⟨(w.hp hm).1, (w.hp hm).2, w.l1 m hm, w.l2 m hm⟩]
  dsimp only
  rw [if_pos ⟨w.ms, rfl⟩]
/-! ### rows read back -/
def expd (rs : List (Nat × Nat)) : List Nat := rs.flatMap fun p => List.replicate p.2 p.1
theorem expd_step (rs : List (Nat × Nat)) (x : Nat) : expd (rleS rs x) = expd rs ++ [x] := by
  unfold rleS
  cases q : rs.getLast? with
  | none =>
    have : rs = [] := by simpa using q
    subst this
    simp [expd]
  | some p =>
    obtain ⟨ys, rfl⟩ := List.getLast?_eq_some_iff.mp q
    dsimp only
    by_cases e : p.1 = x
    · rw [if_pos e, List.dropLast_concat]
      unfold expd
      rw [List.flatMap_append, List.flatMap_append, List.append_assoc]
      congr 1
      simp only [List.flatMap_cons, List.flatMap_nil, List.append_nil]
      rw [List.replicate_succ', e]
    · rw [if_neg e]
      unfold expd
      rw [List.flatMap_append]
      simp
theorem expd_fold : ∀ (row : List Nat) (rs : List (Nat × Nat)), expd (row.foldl rleS rs) = expd rs ++ row
  | [], rs => by simp
  | x :: row, rs => by
    rw [List.foldl_cons, expd_fold row, expd_step, List.append_assoc]
    rfl
theorem rrW_back {n : Nat} {p : Nat × Nat} (h1 : p.1 < n) (h2 : p.2 ≤ 200) (h3 : p.1 < 1000) : rrW n (rWord p) = some p := by
  unfold rrW rWord
  have e : TL.spl [42] 0 [] (TL.numL p.1 ++ [42] ++ TL.numL p.2) = [TL.numL p.1, TL.numL p.2] := by
    rw [List.append_assoc]
    have a := TL.spl_part1 (s := 42) (S := []) (p := TL.numL p.1) (rest := TL.numL p.2) (acc := []) (TL.numL_free (.inl (by decide)))
    rw [TL.spl_last1 (TL.numL_free (.inl (by decide)))] at a
    simpa using a
  rw [e]
  dsimp only
  rw [numIn_num h3]
  dsimp only
  rw [numIn_num (by omega)]
  dsimp only
  rw [if_pos ⟨h1, h2⟩]
theorem rrL_back {n : Nat} : ∀ (rs : List (Nat × Nat)) (acc : List Nat), (∀ p ∈ rs, p.1 < n ∧ p.2 ≤ 200 ∧ p.1 < 1000) → rrL n (rs.map rWord) acc = some (acc ++ expd rs)
  | [], acc, _ => by simp [rrL, expd]
  | p :: rs, acc, h => by
    obtain ⟨a, b, c⟩ := h p (by simp)
    rw [List.map_cons]
    unfold rrL
    rw [rrW_back a b c]
    dsimp only
    rw [rrL_back rs _ fun q hq => h q (by simp [hq])]
    unfold expd
    rw [List.flatMap_cons, List.append_assoc]
theorem Rw.back {ms : List Mv} {h : Nat} (w : WF ms h) {row : List Nat} (hr : Rw ms row) : rRow ms.length (rText row) = some row := by
  have n6 := w.n6
  have hl := hr.l
  have rb := rle_b row [] ms.length 0 hr.b (by simp)
  unfold rRow
  have e : rrL ms.length (if rText row = [45] then [] else TL.spl [32] 0 [] (rText row)) [] = some row := by
    by_cases hn : row = []
    · subst hn
      have : rText [] = [45] := rfl
      rw [this, if_pos rfl]
      rfl
    · have ne : row.foldl rleS [] ≠ [] := by
        cases row with
        | nil => exact absurd rfl hn
        | cons x row => exact rle_ne row _ (rleS_ne _ _)
      have et : rText row = TL.joinL [32] ((row.foldl rleS []).map rWord) := by
        unfold rText
        rw [if_neg hn]
      have len : ∀ ls : List (List Nat), ls ≠ [] → (∀ l ∈ ls, 2 ≤ l.length) → 2 ≤ (TL.joinL [32] ls).length := by
        intro ls hne hls
        match ls, hne, hls with
        | [p], _, hls => simpa [TL.joinL] using hls p (by simp)
        | p :: q :: r, _, hls =>
          have := hls p (by simp)
          simp only [TL.joinL, List.length_append]
          omega
      have l2 := len ((row.foldl rleS []).map rWord) (by simpa using ne) fun l hl => by
        obtain ⟨p, hp, rfl⟩ := List.mem_map.mp hl
        unfold rWord
        have h1 : 1 ≤ (TL.numL p.1).length := by
          have := TL.numL_ne p.1
          cases q : TL.numL p.1 with
          | nil => exact absurd q this
          | cons _ _ => simp
        simp only [List.length_append, List.length_cons, List.length_nil]
        omega
      rw [et]
      have n45 : TL.joinL [32] ((row.foldl rleS []).map rWord) ≠ [45] := fun z => by rw [z] at l2; simp at l2
      rw [if_neg n45, TL.spl_join (s := 32) (S := []) (by simpa using ne) fun p hp => ?_]
      · rw [rrL_back _ [] fun p hp => by have := rb p hp; omega]
        have := expd_fold row []
        simpa [expd] using this
      · obtain ⟨q, hq, rfl⟩ := List.mem_map.mp hp
        unfold rWord
        intro hc
        rcases List.mem_append.mp hc with hc | hc
        · rcases List.mem_append.mp hc with hc | hc
          · exact TL.numL_free (.inl (by decide)) hc
          · simp at hc
        · exact TL.numL_free (.inl (by decide)) hc
  rw [e]
  dsimp only
  rw [if_pos ⟨hl, rfl⟩]
/-! ### runs, from the front -/
def rnl (x : Nat) (l : List Nat) : Nat := (l.takeWhile fun y => decide (y = x)).length
theorem rnl_le (x : Nat) (l : List Nat) : rnl x l ≤ l.length := (List.takeWhile_prefix _).length_le
theorem rnl_eq (x : Nat) (l : List Nat) : rnl x (x :: l) = 1 + rnl x l := by
  unfold rnl
  rw [List.takeWhile_cons, if_pos (by simp)]
  simp
  omega
theorem rnl_ne {x y : Nat} (l : List Nat) (h : y ≠ x) : rnl x (y :: l) = 0 := by
  unfold rnl
  rw [List.takeWhile_cons, if_neg (by simpa using h)]
  rfl
def fwd : Nat → List Nat → List (Nat × Nat)
  | 0, _ => []
  | _ + 1, [] => []
  | n + 1, x :: r => (x, 1 + rnl x r) :: fwd n (r.drop (rnl x r))
theorem fwd_more : ∀ (n : Nat) (l : List Nat), l.length ≤ n → fwd n l = fwd l.length l
  | 0, [], _ => rfl
  | n + 1, [], _ => rfl
  | n + 1, x :: r, h => by
    simp only [List.length_cons] at h ⊢
    show (x, 1 + rnl x r) :: fwd n (r.drop (rnl x r)) = (x, 1 + rnl x r) :: fwd r.length (r.drop (rnl x r))
    rw [fwd_more n _ (by rw [List.length_drop]; omega)]
    congr 1
    have := fwd_more r.length (r.drop (rnl x r)) (by rw [List.length_drop]; omega)
    exact this.symm
theorem rle_fwd : ∀ (n : Nat) (l : List Nat) (ps : List (Nat × Nat)) (x m : Nat), l.length ≤ n → l.foldl rleS (ps ++ [(x, m)]) = ps ++ (x, m + rnl x l) :: fwd n (l.drop (rnl x l))
  | n, [], ps, x, m, _ => by
    have : ∀ n, fwd n [] = [] := fun n => by cases n <;> rfl
    simp [rnl, this]
  | 0, y :: l, ps, x, m, h => by simp at h
  | n + 1, y :: l, ps, x, m, h => by
    simp only [List.length_cons] at h
    rw [List.foldl_cons]
    have st : rleS (ps ++ [(x, m)]) y = if x = y then ps ++ [(x, m + 1)] else (ps ++ [(x, m)]) ++ [(y, 1)] := by
      unfold rleS
      rw [List.getLast?_concat]
      dsimp only
      rw [List.dropLast_concat]
    rw [st]
    by_cases e : x = y
    · subst e
      rw [if_pos rfl, rle_fwd (n + 1) l ps x (m + 1) (by omega), rnl_eq]
      rw [Nat.add_comm 1 (rnl x l), List.drop_succ_cons]
      congr 2
      congr 1
      omega
    · rw [if_neg e, rle_fwd n l (ps ++ [(x, m)]) y 1 (by omega), rnl_ne l (fun z => e z.symm), List.append_assoc]
      rfl
theorem rle_is_fwd (row : List Nat) : row.foldl rleS [] = fwd row.length row := by
  cases row with
  | nil => rfl
  | cons x r =>
    rw [List.foldl_cons]
    have : rleS [] x = [] ++ [(x, 1)] := rfl
    rw [this, rle_fwd r.length r [] x 1 (Nat.le_refl _)]
    rfl

theorem whl_mono {t : Tst} {b : S} : ∀ (n : Nat) (loc : Loc) (st : Store), whl t b n loc st ≠ .bad → whl t b (n + 1) loc st = whl t b n loc st
  | 0, loc, st, h => absurd rfl h
  | n + 1, loc, st, h => by
    show bd (t loc) _ st = bd (t loc) _ st
    unfold bd
    have h : bd (t loc) (fun c => if c = true then bd (b loc) fun r => match r.1 with | .nx => whl t b n r.2 | .ct => whl t b n r.2 | .bk => ret (.nx, r.2) | .rt v => ret (.rt v, r.2) else ret (.nx, loc)) st ≠ .bad := h
    unfold bd at h
    cases e : t loc st with
    | ex c s => rfl
    | bad => rfl
    | ok c s =>
      rw [e] at h
      dsimp only at h ⊢
      cases c with
      | false => rfl
      | true =>
        simp only [if_true] at h ⊢
        cases e2 : b loc s with
        | ex c s' => rfl
        | bad => rfl
        | ok r s' =>
          rw [e2] at h
          dsimp only at h ⊢
          obtain ⟨fl, l'⟩ := r
          cases fl with
          | nx => exact whl_mono n l' s' h
          | ct => exact whl_mono n l' s' h
          | bk => rfl
          | rt v => rfl
theorem whl_up {t : Tst} {b : S} {loc : Loc} {st : Store} {n : Nat} (h : whl t b n loc st ≠ .bad) : ∀ k, whl t b (n + k) loc st = whl t b n loc st
  | 0 => rfl
  | k + 1 => by
    have := whl_up h k
    rw [← Nat.add_assoc, whl_mono (n + k) loc st (by rw [this]; exact h), this]
theorem sWhile_at {t : Tst} {b : S} {loc : Loc} {st : Store} {n : Nat} (h : whl t b n loc st ≠ .bad) : sWhile t b loc st = whl t b n loc st := by
  unfold sWhile
  have hx : ∃ n, whl t b n loc st ≠ .bad := ⟨n, h⟩
  rw [dif_pos hx]
  have hc := hx.choose_spec
  rcases Nat.le_total n hx.choose with z | z
  · have := whl_up h (hx.choose - n)
    rw [show n + (hx.choose - n) = hx.choose by omega] at this
    exact this
  · have := whl_up hc (n - hx.choose)
    rw [show hx.choose + (n - hx.choose) = n by omega] at this
    exact this.symm
theorem whl_succ (t : Tst) (b : S) (n : Nat) (loc : Loc) : whl t b (n + 1) loc = bd (t loc) fun c => if c = true then bd (b loc) fun r => match r.1 with | .nx => whl t b n r.2 | .ct => whl t b n r.2 | .bk => ret (.nx, r.2) | .rt v => ret (.rt v, r.2) else ret (.nx, loc) := rfl
theorem whl_no {t : Tst} {b : S} {loc : Loc} {st st' : Store} {n : Nat} (h : t loc st = .ok false st') : whl t b (n + 1) loc st = .ok (.nx, loc) st' := by
  unfold whl
  rw [bd_eq h]
  rfl
theorem whl_yes {t : Tst} {b : S} {loc loc' : Loc} {st st1 st2 : Store} {n : Nat} (h : t loc st = .ok true st1) (h2 : b loc st1 = .ok (.nx, loc') st2) : whl t b (n + 1) loc st = whl t b n loc' st2 := by
  rw [whl]
  dsimp only
  rw [bd_eq h]
  simp only [if_true]
  rw [bd_eq h2]

end Y
end
section
set_option Elab.async false
set_option linter.all false
set_option maxRecDepth 10000
set_option exponentiation.threshold 5000
namespace Y
open PySem (PyData Str)
/-! ### law 22 -/
theorem for_run {it : I} {g : G} {b : S} {loc : Loc} {xs : List Val} {st : Store} (h : it loc = ret xs) : sFor it g b loc st = forL (fBody g b) xs loc st := by
  rw [sFor_eq, h, bd_ret]
theorem Sh.mv (m : Mv) : Sh 3 (eMv m) := Sh.tuple fun x hx => by
  simp only [List.mem_cons, List.not_mem_nil, or_false] at hx
  rcases hx with rfl | rfl
  · exact Sh.tI _
  · exact Sh.tI _
theorem Sh.ms (ms : List Mv) : Sh 4 (eMs ms) := Sh.tuple fun x hx => by
  obtain ⟨m, _, rfl⟩ := List.mem_map.mp hx
  exact Sh.mv m
theorem r_law_heaps_text {a : List Int} (w : Hp9 a) : f_law_heaps_text [.d (tI a)] = ret (vS (hText a)) := by
  have hl := w.l
  have e : law_heaps_text_C1 [some (Val.d (tI a)), none, none, none] = ret (.d (.list ((hWords a 0).map fun l => .str (tx l)))) := by
    have z := eLc_filter (it := iCall kEnumS (aC (eV 0) aN)) (g := gT 2 (gsC (gN 2) (gsC (gN 3) gsN))) (t := tV (eO bGt (eV 3) (eC (.int 0)))) (e := eO bAdd (eB bStrI (aC (eV 3) aN)) (eO bIxT (eC (.str (tx [97, 98, 99, 100]))) (eV 2))) (vs := [2, 3])
      (loc := [some (Val.d (tI a)), none, none, none]) (a.zipIdx 0) (fun p => Val.d (.tuple [.int (p.2 : Int), .int p.1])) (fun x => decide (0 < x.1)) (fun x => .str (tx (hWord x))) (by simp [tI]; rw [enumF_ints]) (by rw [List.length_zipIdx, lim_eq]; omega) fun x hx => by
        obtain ⟨h1, h2⟩ := zipIdx_b hx
        have hb := w.b _ h1
        have hf : bStrI [.d (.int x.1)] = ret (vS (TL.numL x.1.toNat)) := str_int hb.1 (Nat.lt_of_lt_of_le (show x.1.natAbs < 10 by omega) (by decide))
        have hi : bIxT (vS [97, 98, 99, 100]) (.d (.int (x.2 : Int))) = ret (vS [97 + x.2]) := by rw [ix_txt (by decide), abcd_at (by omega)]; rfl
        have n1 := num_len9 hb.2 hb.1
        have ha : bAdd (vS (TL.numL x.1.toNat)) (vS [97 + x.2]) = ret (vS (hWord x)) := add_txt (by rw [n1]; simp [lim_eq])
        by_cases hp : 0 < x.1
        · simp [hp, hf, hi, ha]
        · simp [hp]
    rw [law_heaps_text_C1_eq, z]
    unfold hWords
    rw [List.map_map]
    rfl
  have hne := ne_nil_txt (ls := hWords a 0) fun l hl => (w.word l hl).2 (by decide)
  have hj : bJoin (tx [32]) (.d (.list ((hWords a 0).map fun l => .str (tx l)))) = ret (vS (TL.joinL [32] (hWords a 0))) := join_txt (by
    rw [sum_two _ fun l hl => (w.word l hl).1]
    have := hWords_len a 0
    simp only [List.length_cons, List.length_nil, lim_eq]
    omega)
  unfold hText
  cases q : hWords a 0 with
  | nil =>
    rw [q] at hne hj e
    have hne : bNe (.d (.list [])) (.d (.list [])) = ret (.d (.bool false)) := hne
    simp only [List.map_nil] at e
    simp only [if_true, f_law_heaps_text, b_law_heaps_text, runF_eq, List.map_cons, List.map_nil, List.cons_append, List.nil_append, List.length_cons, List.length_nil, List.replicate, sSeq_eq, sAsg_eq, e, bd_ret, gN_eq, List.set_cons_succ, List.set_cons_zero, sRet_eq, eIf_eq, tV_eq, eO_eq, eV_succ, eV_zero, eB_eq, aN_eq, bLst_eq0, bd_bd, hne, asB_eq, eC_eq, Bool.false_eq_true, if_false]
  | cons l ls =>
    rw [q] at hne hj e
    rw [if_neg (by simp)]
    have hne : bNe (.d (.list ((l :: ls).map fun l => .str (tx l)))) (.d (.list [])) = ret (.d (.bool true)) := hne
    simp only [List.map_cons] at e hne hj
    simp [f_law_heaps_text, b_law_heaps_text, runF_eq, e, hne, hj]
theorem sIx_clip {n d : Nat} {i : Int} (h : 0 ≤ i) : sIx n d (some i) = min i.toNat n := by
  show (if i < 0 then (i + (n : Int)).toNat else min i.toNat n) = _
  rw [if_neg (by omega)]
/-- a text with a sign more, less, another -/
theorem spoilt_ex {k : Nat} {st : Store} (d : DS k st) {t sg : List Nat} (ht : Tx t) (hs : okL sg = true) (h0 : 0 < sg.length) (hn : sg.length ≤ 20) : ∃ u st', f_law_spoilt [.o k, vS t, vS sg] st = .ok (vS u) st' ∧ okL u = true ∧ u.length ≤ t.length + 1 ∧ Dc k st st' := by
  have hlim := ht.lim
  have htn := ht.n
  obtain ⟨r1, st1, e1, a1, b1, d1⟩ := roll_ex d (many := (t.length : Int) + 1) (by omega) (by omega)
  obtain ⟨r2, st2, e2, a2, b2, d2⟩ := roll_ex (d1.ds d) (many := 3) (by omega) (by omega)
  have l1 : bLenT [vS t] = ret (.d (.int (t.length : Int))) := len_txt hlim
  have l2 : bLenT [vS sg] = ret (.d (.int (sg.length : Int))) := len_txt (by rw [lim_eq]; omega)
  have p1 : (sPar 3 4 (eB (fixN 2 f_law_roll) (aC (eV 0) (aC (eO bAdd (eB bLenT (aC (eV 1) aN)) (eC (.int 1))) aN))) (eB (fixN 2 f_law_roll) (aC (eV 0) (aC (eC (.int 3)) aN)))) [some (.o k), some (vS t), some (vS sg), none, none, none] st = .ok (.nx, [some (.o k), some (vS t), some (vS sg), some (.d (.int r1)), some (.d (.int r2)), none]) st2 := by
    simp only [sPar_eq, eB_eq, aC_eq, aN_eq, eC_eq, eO_eq, eV_succ, eV_zero, bd_ret, bd_bd, l1, bAdd_int, fix2]
    refine bd_run e1 ?_
    refine bd_run e2 ?_
    rfl
  have fin : ∀ (s : List Nat) (st' : Store), okL s = true → s.length ≤ 1 → Dc k st st' → ∃ u st'', bd (sRet (eO bAdd (eO bAdd (eSlT (eV 1) oN (oS (eV 3))) (eV 5)) (eSlT (eV 1) (oS (eO bAdd (eV 3) (eB bInt1 (aC (eO bGt (eV 4) (eC (.int 0))) aN)))) oN)) [some (.o k), some (vS t), some (vS sg), some (.d (.int r1)), some (.d (.int r2)), some (vS s)]) (fun r => match r.1 with | .rt v => ret v | .nx => ret (.d .none) | _ => die) st' = .ok (vS u) st'' ∧ okL u = true ∧ u.length ≤ t.length + 1 ∧ Dc k st st'' := by
    intro s st' ho hl dd
    have s1 : bSlT (vS t) none (some r1) = ret (vS (t.take r1.toNat)) := by
      rw [sl_txt hlim, sIx_clip a1]
      have : min r1.toNat t.length = r1.toNat := by omega
      rw [this]
      rfl
    have c1 : okL (t.take r1.toNat) = true := (ht.sub (p := t.take r1.toNat) (fun c hc => List.mem_of_mem_take hc) (by rw [List.length_take]; omega)).o
    have ad1 : bAdd (vS (t.take r1.toNat)) (vS s) = ret (vS (t.take r1.toNat ++ s)) := add_txt (by rw [List.length_take, lim_eq]; omega)
    have bi : ∃ z : Int, bInt1 [.d (.bool (decide (0 < r2)))] = ret (.d (.int z)) ∧ 0 ≤ z ∧ z ≤ 1 := by
      cases hb : decide (0 < r2)
      · exact ⟨0, rfl, by omega, by omega⟩
      · exact ⟨1, rfl, by omega, by omega⟩
    obtain ⟨z, bz, z0, z1⟩ := bi
    have s2 : bSlT (vS t) (some (r1 + z)) none = ret (vS (t.drop (r1 + z).toNat)) := by
      rw [sl_txt hlim, sIx_clip (by omega)]
      show ret (vS ((t.drop (min (r1 + z).toNat t.length)).take (t.length - min (r1 + z).toNat t.length))) = _
      rw [List.take_of_length_le (by rw [List.length_drop]; exact Nat.le_refl _)]
      by_cases hc : (r1 + z).toNat ≤ t.length
      · rw [Nat.min_eq_left hc]
      · rw [Nat.min_eq_right (by omega), List.drop_eq_nil_of_le (Nat.le_refl _), List.drop_eq_nil_of_le (by omega)]
    have c2 : okL (t.drop (r1 + z).toNat) = true := (ht.sub (p := t.drop (r1 + z).toNat) (fun c hc => List.mem_of_mem_drop hc) (by rw [List.length_drop]; omega)).o
    have ad2 : bAdd (vS (t.take r1.toNat ++ s)) (vS (t.drop (r1 + z).toNat)) = ret (vS (t.take r1.toNat ++ s ++ t.drop (r1 + z).toNat)) := add_txt (by rw [List.length_append, List.length_take, List.length_drop, lim_eq]; omega)
    refine ⟨t.take r1.toNat ++ s ++ t.drop (r1 + z).toNat, st', ?_, okL_app (okL_app c1 ho) c2, ?_, dd⟩
    · simp [s1, ad1, bz, s2, ad2]
    · rw [List.length_append, List.length_append, List.length_take, List.length_drop]
      omega
  have start : f_law_spoilt [.o k, vS t, vS sg] st = bd (sSeq (sAsg (eIf (tV (eO bLt (eV 4) (eC (.int 2)))) (eO bIxT (eV 2) (eB (fixN 2 f_law_roll) (aC (eV 0) (aC (eB bLenT (aC (eV 2) aN)) aN)))) (eC (.str (tx [])))) (gN 5))
      (sRet (eO bAdd (eO bAdd (eSlT (eV 1) oN (oS (eV 3))) (eV 5)) (eSlT (eV 1) (oS (eO bAdd (eV 3) (eB bInt1 (aC (eO bGt (eV 4) (eC (.int 0))) aN)))) oN))) [some (.o k), some (vS t), some (vS sg), some (.d (.int r1)), some (.d (.int r2)), none]) (fun r => match r.1 with | .rt v => ret v | .nx => ret (.d .none) | _ => die) st2 := by
    unfold f_law_spoilt b_law_spoilt
    rw [runF_eq]
    exact bd_st (sSeq_ok p1)
  by_cases h2 : r2 < 2
  · obtain ⟨r3, st3, e3, a3, b3, d3⟩ := roll_ex (d2.ds (d1.ds d)) (many := (sg.length : Int)) (by omega) (by omega)
    have hc : atI sg r3 = some (sg.getD r3.toNat 0) := atI_nat (j := r3.toNat) (by omega) (by rw [List.getD_eq_getElem?_getD, List.getElem?_eq_getElem (by omega)]; rfl)
    have ix : bIxT (vS sg) (.d (.int r3)) = ret (vS [sg.getD r3.toNat 0]) := by
      rw [ix_txt (by rw [lim_eq]; omega), hc]
      rfl
    have ok1 : okL [sg.getD r3.toNat 0] = true := by
      have hm : sg.getD r3.toNat 0 ∈ sg := by
        rw [List.getD_eq_getElem?_getD, List.getElem?_eq_getElem (by omega)]
        exact List.getElem_mem _
      unfold okL at hs ⊢
      rw [List.all_eq_true] at hs
      simpa using hs _ hm
    have p2 : (sAsg (eIf (tV (eO bLt (eV 4) (eC (.int 2)))) (eO bIxT (eV 2) (eB (fixN 2 f_law_roll) (aC (eV 0) (aC (eB bLenT (aC (eV 2) aN)) aN)))) (eC (.str (tx [])))) (gN 5)) [some (.o k), some (vS t), some (vS sg), some (.d (.int r1)), some (.d (.int r2)), none] st2 = .ok (.nx, [some (.o k), some (vS t), some (vS sg), some (.d (.int r1)), some (.d (.int r2)), some (vS [sg.getD r3.toNat 0])]) st3 := by
      simp only [sAsg_eq, eIf_eq, tV_eq, eO_eq, eB_eq, aC_eq, aN_eq, eC_eq, eV_succ, eV_zero, bd_ret, bd_bd, bLt_int, decide_eq_true h2, asB_eq, if_true, l2, fix2]
      refine bd_run e3 ?_
      rw [ix]
      rfl
    rw [start, bd_st (sSeq_ok p2)]
    exact fin _ _ ok1 (by simp) (d1.trans (d2.trans d3))
  · have p2 : (sAsg (eIf (tV (eO bLt (eV 4) (eC (.int 2)))) (eO bIxT (eV 2) (eB (fixN 2 f_law_roll) (aC (eV 0) (aC (eB bLenT (aC (eV 2) aN)) aN)))) (eC (.str (tx [])))) (gN 5)) [some (.o k), some (vS t), some (vS sg), some (.d (.int r1)), some (.d (.int r2)), none] = ret (.nx, [some (.o k), some (vS t), some (vS sg), some (.d (.int r1)), some (.d (.int r2)), some (vS [])]) := by
      simp [h2]
    rw [start, sSeq_go p2]
    exact fin _ _ rfl (by simp) (d1.trans d2)
theorem ne_rf_tup {ms : List Mv} (h1 : 1 ≤ ms.length) : bNe (.d (eMs ms)) (.d (.tuple [.str "refused", .str "BadText"])) = ret (.d (.bool true)) := by
  rw [bNe_d, eqD_eq ((Sh.ms ms).shaped (by decide)) (by decide +kernel), bd_ret]
  cases ms with
  | nil => simp at h1
  | cons m r => simp [eMs, PyData.eqv, PyData.eqvAll, eMv]
theorem ne_rf_lst (row : List Nat) : bNe (.d (lI' row)) (.d (.tuple [.str "refused", .str "BadText"])) = ret (.d (.bool true)) := by
  rw [bNe_d, eqD_eq (x := lI' row) ((Sh.lI _).shaped (by decide)) (by decide +kernel), bd_ret]
  simp [lI', PyData.eqv]
theorem rText_len {ms : List Mv} {h : Nat} (w : WF ms h) {row : List Nat} (hr : Rw ms row) : (rText row).length ≤ 1 + 8 * row.length := by
  have rs := hr.rs w
  unfold rText
  split
  · simp
  · have a := joinL_len [32] ((row.foldl rleS []).map rWord)
    have s := sum_le (c := 7) ((row.foldl rleS []).map rWord) fun l hl => by
      obtain ⟨p, hp, rfl⟩ := List.mem_map.mp hl
      exact rWord_len (rs.b p hp)
    have l := rle_len row []
    simp only [List.length_map, List.length_cons, List.length_nil] at a s l
    omega
theorem body4 {ms : List Mv} {h : Nat} (w : WF ms h) {row : List Nat} (hr : Rw ms row) (hr30 : row.length ≤ 30) {k : Nat} {st : Store} (d : DS k st) (v : Val) (v0 v3 v4 v5 v6 v8 v9 v10 v12 v13 v14 : Option Val) : ∃ st' y12 y13 y14, fBody (gN 4) law_L4 v [v0, some (.o k), some (.d (eMs ms)), v3, v4, v5, v6, some (vS (mText h ms)), v8, v9, v10, some (vS (rText row)), v12, v13, v14] st = .ok (.nx, [v0, some (.o k), some (.d (eMs ms)), v3, some v, v5, v6, some (vS (mText h ms)), v8, v9, v10, some (vS (rText row)), y12, y13, y14]) st' ∧ Dc k st st' := by
  have tl1 : Tx (mText h ms) := ⟨w.mt_ok, by have := w.mt_len'; omega⟩
  have tl2 : Tx (rText row) := ⟨rText_ok row, by have := rText_len w hr; omega⟩
  obtain ⟨u, st1, e1, o1, n1, d1⟩ := spoilt_ex d (sg := [48, 32, 49, 97, 98, 62, 45, 10, 57]) tl1 rfl (by decide) (by decide)
  have tu : Tx u := ⟨o1, by have := w.mt_len'; omega⟩
  -- moves read
  have m1 : ∃ told st2, eTold CS (eB (fixN 1 f_read_moves) (aC (eV 12) aN)) [v0, some (.o k), some (.d (eMs ms)), v3, some v, v5, v6, some (vS (mText h ms)), v8, v9, v10, some (vS (rText row)), some (vS u), v13, v14] st1 = .ok (.d told) st2 ∧ Dc k st1 st2 ∧
      (sIf (tAn (tV (eO bNe (eV 13) (eB bTup (aC (eC (.str "refused")) (aC (eC (.str "BadText")) aN))))) (tOrr (tNo (tV (eB (fixN 1 f_is_moves) (aC (eV 13) aN)))) (tV (eO bNe (eB (fixN 1 f_moves_text) (aC (eV 13) aN)) (eV 12))))) (sRet (eC (.bool false))) sNil) [v0, some (.o k), some (.d (eMs ms)), v3, some v, v5, v6, some (vS (mText h ms)), v8, v9, v10, some (vS (rText row)), some (vS u), some (.d told), v14] = ret (.nx, [v0, some (.o k), some (.d (eMs ms)), v3, some v, v5, v6, some (vS (mText h ms)), v8, v9, v10, some (vS (rText row)), some (vS u), some (.d told), v14]) := by
    obtain ⟨a, b⟩ := r_read_moves tu st1
    cases q : rMoves u with
    | none =>
      obtain ⟨j, hj⟩ := b q
      refine ⟨.tuple [.str "refused", .str (kindN 10)], st1 ++ j, eTold_ex (c := 10) (by simpa using hj) (by decide), Dc.app (d1.ds d) j, ?_⟩
      simp only [sIf_eq, tAn_eq, tV_eq, eO_eq, eB_eq, aC_eq, aN_eq, eC_eq, eV_succ, eV_zero, bd_ret, bd_bd, bTup_eq2, tl10, asB_eq, Bool.false_eq_true, if_false, sNil_eq]
    | some p =>
      obtain ⟨wp, ep, j, hj⟩ := a p q
      refine ⟨eMs p.2, st1 ++ j, eTold_ok (by simpa using hj), Dc.app (d1.ds d) j, ?_⟩
      have n1 := ne_rf_tup wp.n1
      have im := r_is_moves wp.cl
      rw [wp.ms] at im
      have mt := wp.moves_text
      rw [ep] at mt
      have ne : bNe (vS u) (vS u) = ret (.d (.bool false)) := by rw [ne_txt o1 o1]; simp
      simp only [sIf_eq, tAn_eq, tOrr_eq, tNo_eq, tV_eq, eO_eq, eB_eq, aC_eq, aN_eq, eC_eq, eV_succ, eV_zero, bd_ret, bd_bd, bTup_eq2, n1, asB_eq, if_true, fix1, im, mt, ne, Bool.not_true, Bool.false_eq_true, if_false, sNil_eq]
  obtain ⟨told, st2, t1, d2, t2⟩ := m1
  obtain ⟨z, st3, e3, o3, n3, d3⟩ := spoilt_ex (d2.ds (d1.ds d)) (sg := [48, 32, 49, 42, 45, 50, 57]) tl2 rfl (by decide) (by decide)
  have nz : z.length ≤ 400 := by have := rText_len w hr; omega
  have tz : Tx z := ⟨o3, by omega⟩
  have m2 : ∃ told' st4 st5, eTold CS (eB (fixN 2 f_read_row) (aC (eV 2) (aC (eV 14) aN))) [v0, some (.o k), some (.d (eMs ms)), v3, some v, v5, v6, some (vS (mText h ms)), v8, v9, v10, some (vS (rText row)), some (vS u), some (.d told), some (vS z)] st3 = .ok (.d told') st4 ∧ Dc k st3 st5 ∧
      (sIf (tAn (tV (eO bNe (eV 13) (eB bTup (aC (eC (.str "refused")) (aC (eC (.str "BadText")) aN))))) (tV (eO bNe (eB (fixN 2 f_row_text) (aC (eV 2) (aC (eV 13) aN))) (eV 14)))) (sRet (eC (.bool false))) sNil) [v0, some (.o k), some (.d (eMs ms)), v3, some v, v5, v6, some (vS (mText h ms)), v8, v9, v10, some (vS (rText row)), some (vS u), some (.d told'), some (vS z)] st4 = .ok (.nx, [v0, some (.o k), some (.d (eMs ms)), v3, some v, v5, v6, some (vS (mText h ms)), v8, v9, v10, some (vS (rText row)), some (vS u), some (.d told'), some (vS z)]) st5 := by
    have dd := d3.ds (d2.ds (d1.ds d))
    obtain ⟨a, b⟩ := r_read_row w tz nz st3
    cases q : rRow ms.length z with
    | none =>
      obtain ⟨j, hj⟩ := b q
      refine ⟨.tuple [.str "refused", .str (kindN 10)], st3 ++ j, st3 ++ j, eTold_ex (c := 10) (by simpa using hj) (by decide), Dc.app dd j, ?_⟩
      simp only [sIf_eq, tAn_eq, tV_eq, eO_eq, eB_eq, aC_eq, aN_eq, eC_eq, eV_succ, eV_zero, bd_ret, bd_bd, bTup_eq2, tl10, asB_eq, Bool.false_eq_true, if_false, sNil_eq, ret_ap]
    | some row' =>
      obtain ⟨wp, ep, j, hj⟩ := a row' q
      obtain ⟨j2, hj2⟩ := w.row_text wp (st3 ++ j)
      have da := Dc.app dd j
      refine ⟨lI' row', st3 ++ j, st3 ++ j ++ j2, eTold_ok (by simpa using hj), da.trans (Dc.app (da.ds dd) j2), ?_⟩
      have n1 := ne_rf_lst row'
      rw [ep] at hj2
      have ne : bNe (vS z) (vS z) = ret (.d (.bool false)) := by rw [ne_txt o3 o3]; simp
      simp only [sIf_eq, tAn_eq, tV_eq, eO_eq, eB_eq, aC_eq, aN_eq, eC_eq, eV_succ, eV_zero, bd_ret, bd_bd, bTup_eq2, n1, asB_eq, if_true, fix2]
      refine bd_run hj2 ?_
      simp only [ne, bd_ret, asB_eq, Bool.false_eq_true, if_false, sNil_eq, ret_ap]
  obtain ⟨told', st4, st5, t3, d5, t4⟩ := m2
  refine ⟨st5, some (vS u), some (.d told'), some (vS z), ?_, d1.trans (d2.trans (d3.trans d5))⟩
  show law_L4 [v0, some (.o k), some (.d (eMs ms)), v3, some v, v5, v6, some (vS (mText h ms)), v8, v9, v10, some (vS (rText row)), v12, v13, v14] st = _
  have s1 : (sAsg (eB (fixN 3 f_law_spoilt) (aC (eV 1) (aC (eV 7) (aC (eC (.str (tx [48, 32, 49, 97, 98, 62, 45, 10, 57]))) aN)))) (gN 12)) [v0, some (.o k), some (.d (eMs ms)), v3, some v, v5, v6, some (vS (mText h ms)), v8, v9, v10, some (vS (rText row)), v12, v13, v14] st = .ok (.nx, [v0, some (.o k), some (.d (eMs ms)), v3, some v, v5, v6, some (vS (mText h ms)), v8, v9, v10, some (vS (rText row)), some (vS u), v13, v14]) st1 := by
    simp only [sAsg_eq, eB_eq, aC_eq, aN_eq, eC_eq, eV_succ, eV_zero, bd_ret, bd_bd, fix3]
    exact bd_run e1 rfl
  have s2 : (sAsg (eTold CS (eB (fixN 1 f_read_moves) (aC (eV 12) aN))) (gN 13)) [v0, some (.o k), some (.d (eMs ms)), v3, some v, v5, v6, some (vS (mText h ms)), v8, v9, v10, some (vS (rText row)), some (vS u), v13, v14] st1 = .ok (.nx, [v0, some (.o k), some (.d (eMs ms)), v3, some v, v5, v6, some (vS (mText h ms)), v8, v9, v10, some (vS (rText row)), some (vS u), some (.d told), v14]) st2 := by
    rw [sAsg_eq]
    exact bd_run t1 rfl
  have s3 : (sAsg (eB (fixN 3 f_law_spoilt) (aC (eV 1) (aC (eV 11) (aC (eC (.str (tx [48, 32, 49, 42, 45, 50, 57]))) aN)))) (gN 14)) [v0, some (.o k), some (.d (eMs ms)), v3, some v, v5, v6, some (vS (mText h ms)), v8, v9, v10, some (vS (rText row)), some (vS u), some (.d told), v14] st2 = .ok (.nx, [v0, some (.o k), some (.d (eMs ms)), v3, some v, v5, v6, some (vS (mText h ms)), v8, v9, v10, some (vS (rText row)), some (vS u), some (.d told), some (vS z)]) st3 := by
    simp only [sAsg_eq, eB_eq, aC_eq, aN_eq, eC_eq, eV_succ, eV_zero, bd_ret, bd_bd, fix3]
    exact bd_run e3 rfl
  have s4 : (sAsg (eTold CS (eB (fixN 2 f_read_row) (aC (eV 2) (aC (eV 14) aN)))) (gN 13)) [v0, some (.o k), some (.d (eMs ms)), v3, some v, v5, v6, some (vS (mText h ms)), v8, v9, v10, some (vS (rText row)), some (vS u), some (.d told), some (vS z)] st3 = .ok (.nx, [v0, some (.o k), some (.d (eMs ms)), v3, some v, v5, v6, some (vS (mText h ms)), v8, v9, v10, some (vS (rText row)), some (vS u), some (.d told'), some (vS z)]) st4 := by
    rw [sAsg_eq]
    exact bd_run t3 rfl
  rw [law_L4_eq, sSeq_ok s1, sSeq_ok s2, sSeq_go t2, sSeq_ok s3, sSeq_ok s4, t4]
/-! ### the row, its words -/
theorem row22 {ms : List Mv} {h : Nat} (w : WF ms h) {k : Nat} (v0 : Option Val) (x5 x6 x7 x8 x9 x10 x11 x12 x13 x14 : Option Val) (n : Nat) (row : List Nat) (hb : ∀ i ∈ row, i < ms.length) (hl : row.length ≤ 4 * n) (hn : n ≤ 6) (v : Val) (x4 : Option Val) (st : Store) (d : DS k st) :
    ∃ row' st', fBody (gN 4) law_L1 v [v0, some (.o k), some (.d (eMs ms)), some (.d (lI' row)), x4, x5, x6, x7, x8, x9, x10, x11, x12, x13, x14] st = .ok (.nx, [v0, some (.o k), some (.d (eMs ms)), some (.d (lI' row')), some v, x5, x6, x7, x8, x9, x10, x11, x12, x13, x14]) st' ∧ (∀ i ∈ row', i < ms.length) ∧ row'.length ≤ 4 * (n + 1) ∧ Dc k st st' := by
  have n1 := w.n1
  have n6 := w.n6
  obtain ⟨r1, st1, e1, a1, b1, d1⟩ := roll_ex d (many := (ms.length : Int)) (by omega) (by omega)
  obtain ⟨r2, st2, e2, a2, b2, d2⟩ := roll_ex (d1.ds d) (many := 4) (by omega) (by omega)
  have len : bLen [.d (eMs ms)] = ret (.d (.int (ms.length : Int))) := by simp [eMs]
  obtain ⟨i1, rfl⟩ := Int.eq_ofNat_of_zero_le a1
  obtain ⟨i2, rfl⟩ := Int.eq_ofNat_of_zero_le a2
  have mul : bMul (.d (.list [.int (i1 : Int)])) (.d (.int (1 + (i2 : Int)))) = ret (.d (lI' (List.replicate (1 + i2) i1))) := by
    show (if -1000 ≤ 1 + (i2 : Int) ∧ 1 + (i2 : Int) ≤ 1000 ∧ [PyData.int (i1 : Int)].length ≤ 1000 then ret (Val.d (.list (repD (1 + (i2 : Int)) [PyData.int (i1 : Int)]))) else die) = _
    rw [if_pos ⟨by omega, by omega, by simp⟩]
    have := rep_nat (1 + i2) i1
    rw [show (((1 + i2 : Nat)) : Int) = 1 + (i2 : Int) from by omega] at this
    rw [this]
    rfl
  have add : bAdd (.d (lI' row)) (.d (lI' (List.replicate (1 + i2) i1))) = ret (.d (lI' (row ++ List.replicate (1 + i2) i1))) := by
    show bAdd (.d (.list (intsD (nI row)))) (.d (.list (intsD (nI (List.replicate (1 + i2) i1))))) = _
    rw [bAdd_lst, if_pos (by simp [nI, lim_eq]; omega), lI_app]
    rfl
  refine ⟨row ++ List.replicate (1 + i2) i1, st2, ?_, fun i hi => ?_, ?_, d1.trans d2⟩
  · show law_L1 [v0, some (.o k), some (.d (eMs ms)), some (.d (lI' row)), some v, x5, x6, x7, x8, x9, x10, x11, x12, x13, x14] st = _
    rw [law_L1_eq]
    simp only [sAsg_eq, eO_eq, eB_eq, aC_eq, aN_eq, eC_eq, eV_succ, eV_zero, bd_ret, bd_bd, len, fix2]
    refine bd_run e1 ?_
    simp only [bLst_eq1, bd_ret]
    refine bd_run e2 ?_
    simp only [bAdd_int, bd_ret, mul, add, gN_eq]
    rfl
  · rcases List.mem_append.mp hi with hi | hi
    · exact hb i hi
    · rw [(List.mem_replicate.mp hi).2]; omega
  · rw [List.length_append, List.length_replicate]
    omega
theorem ix_row {row : List Nat} {i : Int} {j x : Nat} (hi : i = (j : Int)) (h : row[j]? = some x) : bIx (.d (lI' row)) (.d (.int i)) = ret (.d (.int (x : Int))) := by
  have : atI (intsD (nI row)) i = some (.int (x : Int)) := atI_nat hi (by simp [intsD, nI, h])
  show bd (oget (atI (intsD (nI row)) i)) _ = _
  rw [this]
  rfl
theorem len_row (row : List Nat) : bLen [.d (lI' row)] = ret (.d (.int (row.length : Int))) := by simp [lI', nI]
/-- the inner loop: how long the run is -/
theorem inner22 {row : List Nat} {at' x : Nat} (hx : row[at']? = some x) (v0 v1 v2 v4 v5 v6 v7 v8 v11 v12 v13 v14 : Option Val) (st : Store) : ∀ (n many : Nat), (row.drop (at' + many)).length < n → 1 ≤ many →
    whl (tAn (tV (eO bLt (eO bAdd (eV 9) (eV 10)) (eB bLen (aC (eV 3) aN)))) (tV (eO bEq (eO bIx (eV 3) (eO bAdd (eV 9) (eV 10))) (eO bIx (eV 3) (eV 9))))) law_L2 n [v0, v1, v2, some (.d (lI' row)), v4, v5, v6, v7, v8, some (.d (.int (at' : Int))), some (.d (.int (many : Int))), v11, v12, v13, v14] st = .ok (.nx, [v0, v1, v2, some (.d (lI' row)), v4, v5, v6, v7, v8, some (.d (.int (at' : Int))), some (.d (.int ((many + rnl x (row.drop (at' + many)) : Nat) : Int))), v11, v12, v13, v14]) st
  | 0, many, h, _ => by omega
  | n + 1, many, h, h1 => by
    by_cases hlt : at' + many < row.length
    · obtain ⟨y, hy⟩ : ∃ y, row[at' + many]? = some y := ⟨_, List.getElem?_eq_getElem hlt⟩
      have hd : row.drop (at' + many) = y :: row.drop (at' + many + 1) := by
        rw [List.drop_eq_getElem_cons hlt]
        congr 1
        rw [List.getElem?_eq_getElem hlt] at hy
        exact Option.some.inj hy
      have c1 : ((at' : Int) + (many : Int) < (row.length : Int)) := by omega
      have i1 : bIx (.d (lI' row)) (.d (.int ((at' : Int) + (many : Int)))) = ret (.d (.int (y : Int))) := ix_row (by omega) hy
      have i2 : bIx (.d (lI' row)) (.d (.int (at' : Int))) = ret (.d (.int (x : Int))) := ix_row rfl hx
      by_cases e : y = x
      · subst e
        have t : (tAn (tV (eO bLt (eO bAdd (eV 9) (eV 10)) (eB bLen (aC (eV 3) aN)))) (tV (eO bEq (eO bIx (eV 3) (eO bAdd (eV 9) (eV 10))) (eO bIx (eV 3) (eV 9))))) [v0, v1, v2, some (.d (lI' row)), v4, v5, v6, v7, v8, some (.d (.int (at' : Int))), some (.d (.int (many : Int))), v11, v12, v13, v14] st = .ok true st := by
          simp [len_row, c1, i1, i2]
        have b : law_L2 [v0, v1, v2, some (.d (lI' row)), v4, v5, v6, v7, v8, some (.d (.int (at' : Int))), some (.d (.int (many : Int))), v11, v12, v13, v14] st = .ok (.nx, [v0, v1, v2, some (.d (lI' row)), v4, v5, v6, v7, v8, some (.d (.int (at' : Int))), some (.d (.int ((many + 1 : Nat) : Int))), v11, v12, v13, v14]) st := by
          rw [law_L2_eq]
          simp
        rw [whl_yes t b]
        have ih := inner22 hx v0 v1 v2 v4 v5 v6 v7 v8 v11 v12 v13 v14 st n (many + 1) (by rw [hd] at h; simp only [List.length_cons] at h; rw [← Nat.add_assoc]; omega) (by omega)
        rw [ih, hd, rnl_eq, ← Nat.add_assoc at' many 1, Nat.add_assoc many 1]
      · have ne : ¬ ((y : Int) = (x : Int)) := by omega
        have t : (tAn (tV (eO bLt (eO bAdd (eV 9) (eV 10)) (eB bLen (aC (eV 3) aN)))) (tV (eO bEq (eO bIx (eV 3) (eO bAdd (eV 9) (eV 10))) (eO bIx (eV 3) (eV 9))))) [v0, v1, v2, some (.d (lI' row)), v4, v5, v6, v7, v8, some (.d (.int (at' : Int))), some (.d (.int (many : Int))), v11, v12, v13, v14] st = .ok false st := by
          simp [len_row, c1, i1, i2, ne]
        rw [whl_no t, hd, rnl_ne _ e]
        rfl
    · have c1 : ¬ ((at' : Int) + (many : Int) < (row.length : Int)) := by omega
      have t : (tAn (tV (eO bLt (eO bAdd (eV 9) (eV 10)) (eB bLen (aC (eV 3) aN)))) (tV (eO bEq (eO bIx (eV 3) (eO bAdd (eV 9) (eV 10))) (eO bIx (eV 3) (eV 9))))) [v0, v1, v2, some (.d (lI' row)), v4, v5, v6, v7, v8, some (.d (.int (at' : Int))), some (.d (.int (many : Int))), v11, v12, v13, v14] st = .ok false st := by
        simp [len_row, c1]
      rw [whl_no t, List.drop_eq_nil_of_le (by omega)]
      rfl
/-- the outer loop: the words -/
theorem outer22 {ms : List Mv} {row : List Nat} (hb : ∀ i ∈ row, i < 10) (hr : row.length ≤ 30) (v0 v1 v2 v4 v5 v6 v7 v11 v12 v13 v14 : Option Val) (sB : Store) : ∀ (n at' : Nat) (ws : List (List Nat)) (x10 : Option Val), (row.drop at').length < n → at' ≤ row.length → ws.length ≤ at' → ∃ y9 y10,
    whl (tV (eO bLt (eV 9) (eB bLen (aC (eV 3) aN)))) law_L3 n [v0, v1, v2, some (.d (lI' row)), v4, v5, v6, v7, some (.o sB.length), some (.d (.int (at' : Int))), x10, v11, v12, v13, v14] (sB ++ [.lst (ws.map vS)]) = .ok (.nx, [v0, v1, v2, some (.d (lI' row)), v4, v5, v6, v7, some (.o sB.length), y9, y10, v11, v12, v13, v14]) (sB ++ [.lst ((ws ++ (fwd row.length (row.drop at')).map rWord).map vS)])
  | 0, at', ws, x10, h, _, _ => by omega
  | n + 1, at', ws, x10, h, hat, hws => by
    by_cases hlt : at' < row.length
    · obtain ⟨x, hx⟩ : ∃ x, row[at']? = some x := ⟨_, List.getElem?_eq_getElem hlt⟩
      have hd : row.drop at' = x :: row.drop (at' + 1) := by
        rw [List.drop_eq_getElem_cons hlt]
        congr 1
        rw [List.getElem?_eq_getElem hlt] at hx
        exact Option.some.inj hx
      have c1 : ((at' : Int) < (row.length : Int)) := by omega
      have t : (tV (eO bLt (eV 9) (eB bLen (aC (eV 3) aN)))) [v0, v1, v2, some (.d (lI' row)), v4, v5, v6, v7, some (.o sB.length), some (.d (.int (at' : Int))), x10, v11, v12, v13, v14] (sB ++ [.lst (ws.map vS)]) = .ok true (sB ++ [.lst (ws.map vS)]) := by
        simp [len_row, c1]
      obtain ⟨q, hq⟩ : ∃ q, q = rnl x (row.drop (at' + 1)) := ⟨_, rfl⟩
      have hql : q ≤ row.length - (at' + 1) := by
        have := rnl_le x (row.drop (at' + 1))
        rw [List.length_drop] at this
        omega
      have inn := inner22 hx v0 v1 v2 v4 v5 v6 v7 (some (.o sB.length)) v11 v12 v13 v14 (sB ++ [.lst (ws.map vS)]) (row.length + 1) 1 (by rw [List.length_drop]; omega) (by omega)
      rw [← hq] at inn
      have wl : (sWhile (tAn (tV (eO bLt (eO bAdd (eV 9) (eV 10)) (eB bLen (aC (eV 3) aN)))) (tV (eO bEq (eO bIx (eV 3) (eO bAdd (eV 9) (eV 10))) (eO bIx (eV 3) (eV 9))))) law_L2) [v0, v1, v2, some (.d (lI' row)), v4, v5, v6, v7, some (.o sB.length), some (.d (.int (at' : Int))), some (.d (.int ((1 : Nat) : Int))), v11, v12, v13, v14] (sB ++ [.lst (ws.map vS)]) = .ok (.nx, [v0, v1, v2, some (.d (lI' row)), v4, v5, v6, v7, some (.o sB.length), some (.d (.int (at' : Int))), some (.d (.int ((1 + q : Nat) : Int))), v11, v12, v13, v14]) (sB ++ [.lst (ws.map vS)]) := by
        rw [sWhile_at (n := row.length + 1) (by rw [inn]; simp), inn]
      have hx10 : x < 10 := hb x (List.mem_of_getElem? hx)
      have i2 : bIx (.d (lI' row)) (.d (.int (at' : Int))) = ret (.d (.int (x : Int))) := ix_row rfl hx
      have s1 : bStrI [.d (.int (x : Int))] = ret (vS (TL.numL x)) := by
        have := str_int (i := (x : Int)) (by omega) (Nat.lt_of_lt_of_le (show ((x : Int)).natAbs < 1000 by omega) (by decide))
        rw [show ((x : Int)).toNat = x from by omega] at this
        exact this
      have s2 : bStrI [.d (.int ((1 + q : Nat) : Int))] = ret (vS (TL.numL (1 + q))) := by
        have := str_int (i := ((1 + q : Nat) : Int)) (by omega) (Nat.lt_of_lt_of_le (show (((1 + q : Nat) : Int)).natAbs < 1000 by omega) (by decide))
        rw [show (((1 + q : Nat) : Int)).toNat = 1 + q from by omega] at this
        exact this
      have k1 := num_len3 (n := x) (by omega)
      have k2 := num_len3 (n := 1 + q) (by omega)
      have a1 : bAdd (vS (TL.numL x)) (vS [42]) = ret (vS (TL.numL x ++ [42])) := add_txt (by simp [lim_eq]; omega)
      have a2 : bAdd (vS (TL.numL x ++ [42])) (vS (TL.numL (1 + q))) = ret (vS (rWord (x, 1 + q))) := add_txt (by simp [lim_eq]; omega)
      have ap := app_last' (o := eV 8) (e := eO bAdd (eO bAdd (eB bStrI (aC (eO bIx (eV 3) (eV 9)) aN)) (eC (.str (tx [42])))) (eB bStrI (aC (eV 10) aN))) (loc := [v0, v1, v2, some (.d (lI' row)), v4, v5, v6, v7, some (.o sB.length), some (.d (.int (at' : Int))), some (.d (.int ((1 + q : Nat) : Int))), v11, v12, v13, v14]) (st := sB) (xs := ws.map vS) (v := vS (rWord (x, 1 + q))) (by simp) (by
        simp only [eO_eq, eB_eq, aC_eq, aN_eq, eC_eq, eV_succ, eV_zero, bd_ret, bd_bd, i2, s1, s2, a1, a2]) (by rw [List.length_map, lim_eq]; omega)
      have b : law_L3 [v0, v1, v2, some (.d (lI' row)), v4, v5, v6, v7, some (.o sB.length), some (.d (.int (at' : Int))), x10, v11, v12, v13, v14] (sB ++ [.lst (ws.map vS)]) = .ok (.nx, [v0, v1, v2, some (.d (lI' row)), v4, v5, v6, v7, some (.o sB.length), some (.d (.int ((at' + (1 + q) : Nat) : Int))), some (.d (.int ((1 + q : Nat) : Int))), v11, v12, v13, v14]) (sB ++ [.lst ((ws ++ [rWord (x, 1 + q)]).map vS)]) := by
        rw [law_L3_eq]
        rw [sSeq_go (loc' := [v0, v1, v2, some (.d (lI' row)), v4, v5, v6, v7, some (.o sB.length), some (.d (.int (at' : Int))), some (.d (.int ((1 : Nat) : Int))), v11, v12, v13, v14]) (by simp)]
        rw [sSeq_ok wl]
        have e8 : (sExp (eApp (eV 8) (eO bAdd (eO bAdd (eB bStrI (aC (eO bIx (eV 3) (eV 9)) aN)) (eC (.str (tx [42])))) (eB bStrI (aC (eV 10) aN))))) [v0, v1, v2, some (.d (lI' row)), v4, v5, v6, v7, some (.o sB.length), some (.d (.int (at' : Int))), some (.d (.int ((1 + q : Nat) : Int))), v11, v12, v13, v14] (sB ++ [.lst (ws.map vS)]) = .ok (.nx, [v0, v1, v2, some (.d (lI' row)), v4, v5, v6, v7, some (.o sB.length), some (.d (.int (at' : Int))), some (.d (.int ((1 + q : Nat) : Int))), v11, v12, v13, v14]) (sB ++ [.lst (ws.map vS ++ [vS (rWord (x, 1 + q))])]) := by
          rw [sExp_eq]
          exact bd_run ap rfl
        rw [sSeq_ok e8]
        simp
      rw [whl_yes t b]
      obtain ⟨y9, y10, ih⟩ := outer22 (ms := ms) hb hr v0 v1 v2 v4 v5 v6 v7 v11 v12 v13 v14 sB n (at' + (1 + q)) (ws ++ [rWord (x, 1 + q)]) (some (.d (.int ((1 + q : Nat) : Int)))) (by
        rw [List.length_drop] at h ⊢
        omega) (by omega) (by rw [List.length_append, List.length_cons, List.length_nil]; omega)
      refine ⟨y9, y10, ?_⟩
      rw [ih, hd]
      have e1 : row.length = (row.length - 1) + 1 := by omega
      have e2 : fwd row.length (x :: row.drop (at' + 1)) = (x, 1 + q) :: fwd row.length (row.drop (at' + (1 + q))) := by
        rw [fwd_more row.length (row.drop (at' + (1 + q))) (by rw [List.length_drop]; omega)]
        rw [e1]
        show (x, 1 + rnl x (row.drop (at' + 1))) :: fwd (row.length - 1) ((row.drop (at' + 1)).drop (rnl x (row.drop (at' + 1)))) = _
        rw [← hq, List.drop_drop, show at' + 1 + q = at' + (1 + q) from by omega]
        rw [fwd_more (row.length - 1) (row.drop (at' + (1 + q))) (by rw [List.length_drop]; omega)]
      rw [e2, List.map_cons, List.append_assoc]
      rfl
    · have c1 : ¬ ((at' : Int) < (row.length : Int)) := by omega
      have t : (tV (eO bLt (eV 9) (eB bLen (aC (eV 3) aN)))) [v0, v1, v2, some (.d (lI' row)), v4, v5, v6, v7, some (.o sB.length), some (.d (.int (at' : Int))), x10, v11, v12, v13, v14] (sB ++ [.lst (ws.map vS)]) = .ok false (sB ++ [.lst (ws.map vS)]) := by
        simp [len_row, c1]
      refine ⟨some (.d (.int (at' : Int))), x10, (whl_no t).trans ?_⟩
      rw [List.drop_eq_nil_of_le (by omega)]
      have : ∀ n, fwd n [] = [] := fun n => by cases n <;> rfl
      rw [this]
      simp

end Y
end
section
set_option Elab.async false
set_option linter.all false
set_option maxRecDepth 10000
set_option exponentiation.threshold 5000
namespace Y
open PySem (PyData Str)
theorem for_run2 {it : I} {g : G} {b : S} {loc : Loc} {xs : List Val} {st st' : Store} (h : it loc st = .ok xs st') : sFor it g b loc st = forL (fBody g b) xs loc st' := by
  rw [sFor_eq, bd_eq h]
theorem toDs_txt (ws : List (List Nat)) : toDs (ws.map vS) = some (ws.map fun l => .str (tx l)) := toDs_map (fun l : List Nat => PyData.str (tx l)) ws
theorem ne_own_nil {st : Store} {k : Nat} {ws : List (List Nat)} (h : st[k]? = some (.lst (ws.map vS))) (ho : ∀ l ∈ ws, okL l = true) : bNe (.o k) (.d (.list [])) st = .ok (.d (.bool (!ws.isEmpty))) st := by
  have s : snap (.o k) st = .ok (.list (ws.map fun l => .str (tx l))) st := by
    show (match st[k]? with | some (.lst xs) => (match toDs xs with | some ds => R.ok (PyData.list ds) st | none => .bad) | _ => .bad) = _
    rw [h]
    dsimp only
    rw [toDs_txt]
  have z := ne_nil_txt ho
  rw [bNe_d] at z
  unfold bNe
  refine bd_run s ?_
  rw [snap_d, bd_ret]
  have : (bd (eqD (.list (ws.map fun l => .str (tx l))) (.list [])) fun r => ret (vB (!r))) st = (ret (.d (.bool (!ws.isEmpty))) : M Val) st := congrFun z st
  exact this
theorem join_own {st : Store} {k : Nat} {s : List Nat} {ws : List (List Nat)} (h : st[k]? = some (.lst (ws.map vS))) (hl : (ws.map (·.length)).sum + ws.length * s.length ≤ lim) : bJoin (tx s) (.o k) st = .ok (vS (TL.joinL s ws)) st := by
  have z := join_txt hl
  unfold bJoin
  dsimp only
  rw [h]
  dsimp only
  rw [toDs_txt]
  exact congrFun z st
theorem fwd_words {row : List Nat} : (fwd row.length row) = [] ↔ row = [] := by
  cases row with
  | nil => simp [fwd]
  | cons x r => simp [fwd]
theorem rows22 {ms : List Mv} {h : Nat} (w : WF ms h) {k : Nat} (v0 : Option Val) (x4 x5 x6 x7 x8 x9 x10 x11 x12 x13 x14 : Option Val) (st : Store) (d : DS k st) : ∃ row st' y4, (sFor (iCall kRg1 (aC (eB (fixN 2 f_law_roll) (aC (eV 1) (aC (eC (.int 7)) aN))) aN)) (gN 4) law_L1) [v0, some (.o k), some (.d (eMs ms)), some (.d (lI' [])), x4, x5, x6, x7, x8, x9, x10, x11, x12, x13, x14] st = .ok (.nx, [v0, some (.o k), some (.d (eMs ms)), some (.d (lI' row)), y4, x5, x6, x7, x8, x9, x10, x11, x12, x13, x14]) st' ∧ (∀ i ∈ row, i < ms.length) ∧ row.length ≤ 30 ∧ Dc k st st' := by
  obtain ⟨r, st1, e1, a1, b1, d1⟩ := roll_ex d (many := 7) (by omega) (by omega)
  obtain ⟨n, rfl⟩ := Int.eq_ofNat_of_zero_le a1
  have rg := kRg1_nat (z := (n : Int)) (n := n) rfl (by omega)
  have it : iCall kRg1 (aC (eB (fixN 2 f_law_roll) (aC (eV 1) (aC (eC (.int 7)) aN))) aN) [v0, some (.o k), some (.d (eMs ms)), some (.d (lI' [])), x4, x5, x6, x7, x8, x9, x10, x11, x12, x13, x14] st = .ok ((List.range n).map fun (i : Nat) => Val.d (.int (0 + (i : Int)))) st1 := by
    simp only [iCall_eq, aC_eq, aN_eq, eB_eq, eC_eq, eV_succ, eV_zero, bd_ret, bd_bd, fix2]
    refine bd_run e1 ?_
    rw [rg]
    rfl
  obtain ⟨loc', st', e, row, y4, rfl, hb, hl, dd⟩ := forL_ix (body := fBody (gN 4) law_L1) (fun i loc st' => ∃ row y4, loc = [v0, some (.o k), some (.d (eMs ms)), some (.d (lI' row)), y4, x5, x6, x7, x8, x9, x10, x11, x12, x13, x14] ∧ (∀ i ∈ row, i < ms.length) ∧ row.length ≤ 4 * i ∧ Dc k st1 st') ((List.range n).map fun (i : Nat) => Val.d (.int (0 + (i : Int)))) 0 [v0, some (.o k), some (.d (eMs ms)), some (.d (lI' [])), x4, x5, x6, x7, x8, x9, x10, x11, x12, x13, x14] st1 ⟨[], x4, rfl, by simp, by simp, Dc.refl (d1.ds d)⟩ (fun i v _ hi loc st' p => by
    obtain ⟨row, y4, rfl, hb, hl, dd⟩ := p
    rw [List.length_map, List.length_range] at hi
    obtain ⟨row', st2, e, hb', hl', d2⟩ := row22 w v0 x5 x6 x7 x8 x9 x10 x11 x12 x13 x14 i row hb hl (by omega) v y4 st' (dd.ds (d1.ds d))
    exact ⟨_, st2, e, row', some v, rfl, hb', hl', dd.trans d2⟩)
  rw [List.length_map, List.length_range] at hl
  refine ⟨row, st', y4, ?_, hb, by omega, d1.trans dd⟩
  rw [for_run2 it, e]
theorem k22_body (ns : List Int) (k : Nat) (loc : Loc) (st : Store) (p : ∃ x1 x2 x3 x4 x5 x6 x7 x8 x9 x10 x11 x12 x13 x14, loc = [some (.s ns), x1, x2, x3, x4, x5, x6, x7, x8, x9, x10, x11, x12, x13, x14]) (d : DS k st) : ∃ loc' st', fBody (gN 1) law_L5 (.o k) loc st = .ok (.nx, loc') st' ∧ (∃ x1 x2 x3 x4 x5 x6 x7 x8 x9 x10 x11 x12 x13 x14, loc' = [some (.s ns), x1, x2, x3, x4, x5, x6, x7, x8, x9, x10, x11, x12, x13, x14]) ∧ Dc k st st' := by
  obtain ⟨x1, x2, x3, x4, x5, x6, x7, x8, x9, x10, x11, x12, x13, x14, rfl⟩ := p
  obtain ⟨ms, h, st1, e1, w, _, _, _, d1⟩ := any_moves_ex d (high := 5) (by omega) (by omega)
  have e1' : f_law_any_moves [.o k, .d (.int 5)] st = .ok (.d (eMs ms)) st1 := e1
  have n6 := w.n6
  have h4 := w.h4
  have s1 : (sAsg (eB bTup (aC (eB (fixN 2 f_law_any_moves) (aC (eV 1) (aC (eC (.int 5)) aN))) (aC (eB bLst aN) aN))) (gT 2 (gsC (gN 2) (gsC (gN 3) gsN)))) [some (.s ns), some (.o k), x2, x3, x4, x5, x6, x7, x8, x9, x10, x11, x12, x13, x14] st = .ok (.nx, [some (.s ns), some (.o k), some (.d (eMs ms)), some (.d (lI' [])), x4, x5, x6, x7, x8, x9, x10, x11, x12, x13, x14]) st1 := by
    simp only [sAsg_eq, eB_eq, aC_eq, aN_eq, eC_eq, eV_succ, eV_zero, bd_ret, bd_bd, fix2, bLst_eq0]
    exact bd_run e1' rfl
  obtain ⟨row, st2, y4, s2, rb, rl, d2⟩ := rows22 w (some (.s ns)) x4 x5 x6 x7 x8 x9 x10 x11 x12 x13 x14 st1 (d1.ds d)
  have hr : Rw ms row := ⟨by omega, rb⟩
  have hrs := hr.rs w
  have lines1 : law_C1 [some (.s ns), some (.o k), some (.d (eMs ms)), some (.d (lI' row)), y4, x5, x6, x7, x8, x9, x10, x11, x12, x13, x14] = ret (.d (.list ((ms.map oText).map fun l => .str (tx l)))) := by
    have z := eLc_map (it := iSeq (eV 2)) (g := gN 6) (t := tTr) (e := eO bAdd (eO bAdd (eB (fixN 1 f_law_heaps_text) (aC (eO bIx (eV 6) (eC (.int 0))) aN)) (eC (.str (tx [32, 62, 32])))) (eB (fixN 1 f_law_heaps_text) (aC (eO bIx (eV 6) (eC (.int 1))) aN))) (vs := [6]) (loc := [some (.s ns), some (.o k), some (.d (eMs ms)), some (.d (lI' row)), y4, x5, x6, x7, x8, x9, x10, x11, x12, x13, x14]) ms (fun m => .d (eMv m)) (fun m => .str (tx (oText m))) (by simp [eMs]; rfl) (by rw [lim_eq]; omega) fun m hm => by
      obtain ⟨w1, w2⟩ := w.hp hm
      have a := hText_len w1
      have b := hText_len w2
      have q1 : bAdd (vS (hText m.1)) (vS [32, 62, 32]) = ret (vS (hText m.1 ++ [32, 62, 32])) := add_txt (by simp [lim_eq]; omega)
      have q2 : bAdd (vS (hText m.1 ++ [32, 62, 32])) (vS (hText m.2)) = ret (vS (oText m)) := add_txt (by simp [lim_eq]; omega)
      simp [eMv, atI_zero, atI_one, r_law_heaps_text w1, r_law_heaps_text w2, q1, q2]
    rw [law_C1_eq, z, List.map_map]
    rfl
  have s3 : (sAsg law_C1 (gN 5)) [some (.s ns), some (.o k), some (.d (eMs ms)), some (.d (lI' row)), y4, x5, x6, x7, x8, x9, x10, x11, x12, x13, x14] = ret (.nx, [some (.s ns), some (.o k), some (.d (eMs ms)), some (.d (lI' row)), y4, some (.d (.list ((ms.map oText).map fun l => .str (tx l)))), x6, x7, x8, x9, x10, x11, x12, x13, x14]) := by
    rw [sAsg_eq, lines1, bd_ret]
    rfl
  have lines2 : law_C2 [some (.s ns), some (.o k), some (.d (eMs ms)), some (.d (lI' row)), y4, some (.d (.list ((ms.map oText).map fun l => .str (tx l)))), x6, x7, x8, x9, x10, x11, x12, x13, x14] = ret (.d (.list ((ms.map oText).map fun l => .str (tx l)))) := by
    have z := eLc_map (it := iSeq (eV 2)) (g := gN 6) (t := tTr) (e := eB (fixN 1 f_move_text) (aC (eV 6) aN)) (vs := [6]) (loc := [some (.s ns), some (.o k), some (.d (eMs ms)), some (.d (lI' row)), y4, some (.d (.list ((ms.map oText).map fun l => .str (tx l)))), x6, x7, x8, x9, x10, x11, x12, x13, x14]) ms (fun m => .d (eMv m)) (fun m => .str (tx (oText m))) (by simp [eMs]; rfl) (by rw [lim_eq]; omega) fun m hm => by
      simp [r_move_text w.h1 w.h4 (w.l1 m hm) (w.l2 m hm) (w.b1 m hm) (w.b2 m hm)]
    rw [law_C2_eq, z, List.map_map]
    rfl
  have oko : ∀ l ∈ ms.map oText, okL l = true := fun l hl => by
    obtain ⟨m, hm, rfl⟩ := List.mem_map.mp hl
    exact okL_app (okL_app (hText_ok (w.hp hm).1) rfl) (hText_ok (w.hp hm).2)
  have q4 : bNe (.d (.list ((ms.map oText).map fun l => .str (tx l)))) (.d (.list ((ms.map oText).map fun l => .str (tx l)))) = ret (.d (.bool false)) := ne_self (Sh.txs oko) (by decide)
  have s4 : (sIf (tV (eO bNe law_C2 (eV 5))) (sRet (eC (.bool false))) sNil) [some (.s ns), some (.o k), some (.d (eMs ms)), some (.d (lI' row)), y4, some (.d (.list ((ms.map oText).map fun l => .str (tx l)))), x6, x7, x8, x9, x10, x11, x12, x13, x14] = ret (.nx, [some (.s ns), some (.o k), some (.d (eMs ms)), some (.d (lI' row)), y4, some (.d (.list ((ms.map oText).map fun l => .str (tx l)))), x6, x7, x8, x9, x10, x11, x12, x13, x14]) := by
    rw [sIf_eq, tV_eq, eO_eq, lines2]
    simp only [bd_ret, eV_succ, eV_zero, q4, asB_eq, Bool.false_eq_true, if_false, sNil_eq]
  have mt := w.moves_text
  have s5 : (sAsg (eB (fixN 1 f_moves_text) (aC (eV 2) aN)) (gN 7)) [some (.s ns), some (.o k), some (.d (eMs ms)), some (.d (lI' row)), y4, some (.d (.list ((ms.map oText).map fun l => .str (tx l)))), x6, x7, x8, x9, x10, x11, x12, x13, x14] = ret (.nx, [some (.s ns), some (.o k), some (.d (eMs ms)), some (.d (lI' row)), y4, some (.d (.list ((ms.map oText).map fun l => .str (tx l)))), x6, some (vS (mText h ms)), x8, x9, x10, x11, x12, x13, x14]) := by
    simp only [sAsg_eq, eB_eq, aC_eq, aN_eq, eV_succ, eV_zero, bd_ret, fix1, mt, gN_eq]
    rfl
  have tl1 : Tx (mText h ms) := ⟨w.mt_ok, by have := w.mt_len'; omega⟩
  obtain ⟨_, _, j3, r3⟩ := (r_read_moves tl1 st2).1 (h, ms) w.back
  have hs : bStrI [.d (.int (h : Int))] = ret (vS (TL.numL h)) := str_int (by omega) (by
    have : ((h : Int)).natAbs = h := by omega
    rw [this]
    exact Nat.lt_of_le_of_lt h4 (by decide))
  have hh : bd (bIx (.d (eMs ms)) (.d (.int 0))) (fun x => bd (bIx x (.d (.int 0))) fun y => bLen [y]) = ret (.d (.int (h : Int))) := by
    cases ms with
    | nil => have := w.n1; simp at this
    | cons m r => simp [eMs, atI_zero, eMv, tI, w.l1 m (by simp)]
  have add6 : bAdd (.d (.list [.str (tx (TL.numL h))])) (.d (.list ((ms.map oText).map fun l => .str (tx l)))) = ret (.d (.list ((TL.numL h :: ms.map oText).map fun l => .str (tx l)))) := by
    rw [bAdd_lst, if_pos (by simp [lim_eq]; omega)]
    rfl
  have j6 : bJoin (tx [10]) (.d (.list ((TL.numL h :: ms.map oText).map fun l => .str (tx l)))) = ret (vS (mText h ms)) := join_txt (Nat.le_trans w.mt_len (by decide))
  have q6 : bNe (vS (mText h ms)) (vS (mText h ms)) = ret (.d (.bool false)) := by rw [ne_txt w.mt_ok w.mt_ok]; simp
  have q6b : bNe (.d (eMs ms)) (.d (eMs ms)) = ret (.d (.bool false)) := ne_self (Sh.ms _) (by decide)
  have t6 : tV (eO bNe (eV 7) (eJoin (eC (.str (tx [10]))) (eO bAdd (eB bLst (aC (eB bStrI (aC (eB bLen (aC (eO bIx (eO bIx (eV 2) (eC (.int 0))) (eC (.int 0))) aN)) aN)) aN)) (eV 5)))) [some (.s ns), some (.o k), some (.d (eMs ms)), some (.d (lI' row)), y4, some (.d (.list ((ms.map oText).map fun l => .str (tx l)))), x6, some (vS (mText h ms)), x8, x9, x10, x11, x12, x13, x14] = ret false := by
    have z : eB bLen (aC (eO bIx (eO bIx (eV 2) (eC (.int 0))) (eC (.int 0))) aN) [some (.s ns), some (.o k), some (.d (eMs ms)), some (.d (lI' row)), y4, some (.d (.list ((ms.map oText).map fun l => .str (tx l)))), x6, some (vS (mText h ms)), x8, x9, x10, x11, x12, x13, x14] = ret (.d (.int (h : Int))) := by
      simp only [eB_eq, aC_eq, eO_eq, eV_succ, eV_zero, eC_eq, aN_eq, bd_ret, bd_bd]
      exact hh
    rw [tV_eq, eO_eq, eJoin_eq, eO_eq, eB_eq, aC_eq, eB_eq, aC_eq, z]
    simp only [eV_succ, eV_zero, eC_eq, aN_eq, bd_ret, bd_bd, strOf_eq, hs, bLst_eq1, add6, j6, q6, asB_eq]
  have s6 : (sIf (tOrr (tV (eO bNe (eV 7) (eJoin (eC (.str (tx [10]))) (eO bAdd (eB bLst (aC (eB bStrI (aC (eB bLen (aC (eO bIx (eO bIx (eV 2) (eC (.int 0))) (eC (.int 0))) aN)) aN)) aN)) (eV 5))))) (tV (eO bNe (eB (fixN 1 f_read_moves) (aC (eV 7) aN)) (eV 2)))) (sRet (eC (.bool false))) sNil) [some (.s ns), some (.o k), some (.d (eMs ms)), some (.d (lI' row)), y4, some (.d (.list ((ms.map oText).map fun l => .str (tx l)))), x6, some (vS (mText h ms)), x8, x9, x10, x11, x12, x13, x14] st2 = .ok (.nx, [some (.s ns), some (.o k), some (.d (eMs ms)), some (.d (lI' row)), y4, some (.d (.list ((ms.map oText).map fun l => .str (tx l)))), x6, some (vS (mText h ms)), x8, x9, x10, x11, x12, x13, x14]) (st2 ++ j3) := by
    rw [sIf_eq, tOrr_eq, t6, bd_ret, if_neg (by decide), tV_eq, eO_eq]
    simp only [eB_eq, aC_eq, aN_eq, eV_succ, eV_zero, bd_ret, bd_bd, fix1]
    refine bd_run r3 ?_
    simp only [q6b, bd_ret, asB_eq, Bool.false_eq_true, if_false, sNil_eq, ret_ap]
  have s7 : (sPar 8 9 (eB bNew aN) (eC (.int 0))) [some (.s ns), some (.o k), some (.d (eMs ms)), some (.d (lI' row)), y4, some (.d (.list ((ms.map oText).map fun l => .str (tx l)))), x6, some (vS (mText h ms)), x8, x9, x10, x11, x12, x13, x14] (st2 ++ j3) = .ok (.nx, [some (.s ns), some (.o k), some (.d (eMs ms)), some (.d (lI' row)), y4, some (.d (.list ((ms.map oText).map fun l => .str (tx l)))), x6, some (vS (mText h ms)), some (.o (st2 ++ j3).length), some (.d (.int ((0 : Nat) : Int))), x10, x11, x12, x13, x14]) (st2 ++ j3 ++ [.lst (([] : List (List Nat)).map vS)]) := by
    simp only [sPar_eq, eB_eq, aN_eq, bd_ret]
    rfl
  obtain ⟨y9, y10, wo⟩ := outer22 (ms := ms) (row := row) (fun i hi => by have := rb i hi; omega) rl (some (.s ns)) (some (.o k)) (some (.d (eMs ms))) y4 (some (.d (.list ((ms.map oText).map fun l => .str (tx l))))) x6 (some (vS (mText h ms))) x11 x12 x13 x14 (st2 ++ j3) (row.length + 1) 0 [] x10 (by simp) (by omega) (by simp)
  rw [List.drop_zero, List.nil_append, ← rle_is_fwd] at wo
  have s8 : (sWhile (tV (eO bLt (eV 9) (eB bLen (aC (eV 3) aN)))) law_L3) [some (.s ns), some (.o k), some (.d (eMs ms)), some (.d (lI' row)), y4, some (.d (.list ((ms.map oText).map fun l => .str (tx l)))), x6, some (vS (mText h ms)), some (.o (st2 ++ j3).length), some (.d (.int ((0 : Nat) : Int))), x10, x11, x12, x13, x14] (st2 ++ j3 ++ [.lst (([] : List (List Nat)).map vS)]) = _ := (sWhile_at (n := row.length + 1) (by rw [wo]; simp)).trans wo
  obtain ⟨j9, r9⟩ := w.row_text hr (st2 ++ j3 ++ [.lst (((row.foldl rleS []).map rWord).map vS)])
  have s9 : (sAsg (eB (fixN 2 f_row_text) (aC (eV 2) (aC (eV 3) aN))) (gN 11)) [some (.s ns), some (.o k), some (.d (eMs ms)), some (.d (lI' row)), y4, some (.d (.list ((ms.map oText).map fun l => .str (tx l)))), x6, some (vS (mText h ms)), some (.o (st2 ++ j3).length), y9, y10, x11, x12, x13, x14] (st2 ++ j3 ++ [.lst (((row.foldl rleS []).map rWord).map vS)]) = .ok (.nx, [some (.s ns), some (.o k), some (.d (eMs ms)), some (.d (lI' row)), y4, some (.d (.list ((ms.map oText).map fun l => .str (tx l)))), x6, some (vS (mText h ms)), some (.o (st2 ++ j3).length), y9, y10, some (vS (rText row)), x12, x13, x14]) (st2 ++ j3 ++ [.lst (((row.foldl rleS []).map rWord).map vS)] ++ j9) := by
    simp only [sAsg_eq, eB_eq, aC_eq, aN_eq, eV_succ, eV_zero, bd_ret, bd_bd, fix2]
    exact bd_run r9 rfl
  obtain ⟨S9, hS9⟩ : ∃ S9, S9 = st2 ++ j3 ++ [Ob.lst (((row.foldl rleS []).map rWord).map vS)] ++ j9 := ⟨_, rfl⟩
  rw [← hS9] at s9
  have at9 : S9[(st2 ++ j3).length]? = some (.lst (((row.foldl rleS []).map rWord).map vS)) := by
    rw [hS9, List.getElem?_append_left (by simp), List.getElem?_append_right (Nat.le_refl _)]
    simp
  have okw : ∀ l ∈ (row.foldl rleS []).map rWord, okL l = true := fun l hl => by
    obtain ⟨q, _, rfl⟩ := List.mem_map.mp hl
    exact rWord_ok q
  have ne9 := ne_own_nil at9 okw
  have jo9 := join_own (s := [32]) at9 (by
    have s := sum_le (c := 7) ((row.foldl rleS []).map rWord) fun l hl => by
      obtain ⟨q, hq, rfl⟩ := List.mem_map.mp hl
      exact rWord_len (hrs.b q hq)
    have := hrs.l
    rw [List.length_map] at s
    simp only [List.length_map, List.length_cons, List.length_nil, lim_eq]
    omega)
  have tl2 : Tx (rText row) := ⟨rText_ok row, by have := rText_len w hr; omega⟩
  obtain ⟨_, _, j10, r10⟩ := (r_read_row w tl2 (by have := rText_len w hr; omega) S9).1 row (hr.back w)
  have q10 : bNe (vS (rText row)) (vS (rText row)) = ret (.d (.bool false)) := by rw [ne_txt (rText_ok row) (rText_ok row)]; simp
  have q10b : bNe (.d (lI' row)) (.d (lI' row)) = ret (.d (.bool false)) := ne_self (x := lI' row) (Sh.lI _) (by decide)
  have e10 : eIf (tV (eO bNe (eV 8) (eB bLst aN))) (eJoin (eC (.str (tx [32]))) (eV 8)) (eC (.str (tx [45]))) [some (.s ns), some (.o k), some (.d (eMs ms)), some (.d (lI' row)), y4, some (.d (.list ((ms.map oText).map fun l => .str (tx l)))), x6, some (vS (mText h ms)), some (.o (st2 ++ j3).length), y9, y10, some (vS (rText row)), x12, x13, x14] S9 = .ok (vS (rText row)) S9 := by
    rw [eIf_eq, tV_eq, eO_eq]
    simp only [eV_succ, eV_zero, eB_eq, aN_eq, bLst_eq0, bd_ret, bd_bd]
    refine bd_run ne9 ?_
    unfold rText
    by_cases hn : row = []
    · subst hn
      rfl
    · have hne : ((row.foldl rleS []).map rWord).isEmpty = false := by
        cases q : row.foldl rleS [] with
        | nil => rw [rle_is_fwd] at q; exact absurd (fwd_words.mp q) hn
        | cons _ _ => rfl
      rw [hne, if_neg hn]
      simp only [Bool.not_false, asB_eq, bd_ret, if_true, eJoin_eq, eC_eq, strOf_eq, eV_succ, eV_zero]
      exact jo9
  have s10 : (sIf (tOrr (tV (eO bNe (eV 11) (eIf (tV (eO bNe (eV 8) (eB bLst aN))) (eJoin (eC (.str (tx [32]))) (eV 8)) (eC (.str (tx [45])))))) (tV (eO bNe (eB (fixN 2 f_read_row) (aC (eV 2) (aC (eV 11) aN))) (eV 3)))) (sRet (eC (.bool false))) sNil) [some (.s ns), some (.o k), some (.d (eMs ms)), some (.d (lI' row)), y4, some (.d (.list ((ms.map oText).map fun l => .str (tx l)))), x6, some (vS (mText h ms)), some (.o (st2 ++ j3).length), y9, y10, some (vS (rText row)), x12, x13, x14] S9 = .ok (.nx, [some (.s ns), some (.o k), some (.d (eMs ms)), some (.d (lI' row)), y4, some (.d (.list ((ms.map oText).map fun l => .str (tx l)))), x6, some (vS (mText h ms)), some (.o (st2 ++ j3).length), y9, y10, some (vS (rText row)), x12, x13, x14]) (S9 ++ j10) := by
    rw [sIf_eq, tOrr_eq]
    refine bd_run (a := false) (s := S9 ++ j10) ?_ rfl
    refine bd_run (a := false) (s := S9) ?_ ?_
    · rw [tV_eq, eO_eq]
      simp only [eV_succ, eV_zero, bd_ret, bd_bd]
      refine bd_run e10 ?_
      rw [q10]
      rfl
    · rw [if_neg (by decide), tV_eq, eO_eq]
      simp only [eB_eq, aC_eq, aN_eq, eV_succ, eV_zero, bd_ret, bd_bd, fix2]
      refine bd_run r10 ?_
      rw [q10b]
      rfl
  have rg10 := kRg1_nat (z := 10) (n := 10) rfl (by omega)
  have dS2 : DS k st2 := d2.ds (d1.ds d)
  have dA := Dc.app dS2 j3
  have dB := Dc.app (dA.ds dS2) [Ob.lst (((row.foldl rleS []).map rWord).map vS)]
  have dC := Dc.app (dB.ds (dA.ds dS2)) j9
  rw [← hS9] at dC
  have dD := Dc.app (dC.ds (dB.ds (dA.ds dS2))) j10
  have dAll : Dc k st2 (S9 ++ j10) := dA.trans (dB.trans (dC.trans dD))
  obtain ⟨loc', st', e, ⟨z4, z12, z13, z14, rfl⟩, dE⟩ := forL_inv (body := fBody (gN 4) law_L4) (fun loc st' => (∃ z4 z12 z13 z14, loc = [some (.s ns), some (.o k), some (.d (eMs ms)), some (.d (lI' row)), z4, some (.d (.list ((ms.map oText).map fun l => .str (tx l)))), x6, some (vS (mText h ms)), some (.o (st2 ++ j3).length), y9, y10, some (vS (rText row)), z12, z13, z14]) ∧ Dc k st2 st') ((List.range 10).map fun (i : Nat) => Val.d (.int (0 + (i : Int)))) [some (.s ns), some (.o k), some (.d (eMs ms)), some (.d (lI' row)), y4, some (.d (.list ((ms.map oText).map fun l => .str (tx l)))), x6, some (vS (mText h ms)), some (.o (st2 ++ j3).length), y9, y10, some (vS (rText row)), x12, x13, x14] (S9 ++ j10) ⟨⟨_, _, _, _, rfl⟩, dAll⟩ (fun v _ loc st' p => by
    obtain ⟨⟨z4, z12, z13, z14, rfl⟩, dd⟩ := p
    obtain ⟨st'', y12, y13, y14, e, d'⟩ := body4 w hr rl (dd.ds dS2) v (some (.s ns)) (some (.d (lI' row))) z4 (some (.d (.list ((ms.map oText).map fun l => .str (tx l))))) x6 (some (.o (st2 ++ j3).length)) y9 y10 z12 z13 z14
    exact ⟨_, st'', e, ⟨_, _, _, _, rfl⟩, dd.trans d'⟩)
  have it10 : iCall kRg1 (aC (eC (.int 10)) aN) [some (.s ns), some (.o k), some (.d (eMs ms)), some (.d (lI' row)), y4, some (.d (.list ((ms.map oText).map fun l => .str (tx l)))), x6, some (vS (mText h ms)), some (.o (st2 ++ j3).length), y9, y10, some (vS (rText row)), x12, x13, x14] = ret ((List.range 10).map fun (i : Nat) => Val.d (.int (0 + (i : Int)))) := by
    rw [iCall_eq, aC_eq, eC_eq, bd_ret, aN_eq, bd_ret, bd_ret]
    exact rg10
  refine ⟨[some (.s ns), some (.o k), some (.d (eMs ms)), some (.d (lI' row)), z4, some (.d (.list ((ms.map oText).map fun l => .str (tx l)))), x6, some (vS (mText h ms)), some (.o (st2 ++ j3).length), y9, y10, some (vS (rText row)), z12, z13, z14], st', ?_, ⟨_, _, _, _, _, _, _, _, _, _, _, _, _, _, rfl⟩, d1.trans (d2.trans dE)⟩
  show law_L5 [some (.s ns), some (.o k), x2, x3, x4, x5, x6, x7, x8, x9, x10, x11, x12, x13, x14] st = _
  rw [law_L5_eq, sSeq_ok s1, sSeq_ok s2, sSeq_go s3, sSeq_go s4, sSeq_go s5, sSeq_ok s6, sSeq_ok s7, sSeq_ok s8, sSeq_ok s9, sSeq_ok s10, for_run it10]
  exact e
theorem law_true (ns : List Int) (hl : ns.length ≤ 1000) : ∃ st, f_law [.s ns] [] = .ok (.d (.bool true)) st :=
  law_frame (ns := ns) (B := law_L5) (G1 := gN 1) (high := 5) (m := 14) hl (by omega) (fun loc => ∃ x1 x2 x3 x4 x5 x6 x7 x8 x9 x10 x11 x12 x13 x14, loc = [some (.s ns), x1, x2, x3, x4, x5, x6, x7, x8, x9, x10, x11, x12, x13, x14]) ⟨_, _, _, _, _, _, _, _, _, _, _, _, _, _, rfl⟩ fun k loc st p d => k22_body ns k loc st p d

end Y
end
set_option Elab.async false
set_option linter.all false
set_option maxRecDepth 100000
set_option maxHeartbeats 2000000
namespace Y
open PySem PySem.Spec PyProof.Rows L2
theorem all_mk {l : PySem.W.OpenLaw} {w : World} {K : PySem.W.Frag} {h : Heap} {mg : Str → Option Value} {fa : Addr} (X : K.In h) (G : h.Ns mainGlobals mg) (hfa : mg "law" = some (.ref fa))
    {od0 an0 : Option Addr} {sl0 : Array (Option Value)} {oc0 kV0 dc0 pm0 cd0 ct0 : Value} {f0 : Addr} {od1 an1 : Option Addr} {sl1 : Array (Option Value)} {oc1 kV1 dc1 pm1 cd1 ct1 : Value} {f1 : Addr} {od2 an2 : Option Addr} {sl2 : Array (Option Value)} {oc2 kV2 dc2 pm2 cd2 ct2 : Value} {f2 : Addr} {od3 an3 : Option Addr} {sl3 : Array (Option Value)} {oc3 kV3 dc3 pm3 cd3 ct3 : Value} {f3 : Addr} {od4 an4 : Option Addr} {sl4 : Array (Option Value)} {oc4 kV4 dc4 pm4 cd4 ct4 : Value} {f4 : Addr} {od5 an5 : Option Addr} {sl5 : Array (Option Value)} {oc5 kV5 dc5 pm5 cd5 ct5 : Value} {f5 : Addr} {od6 an6 : Option Addr} {sl6 : Array (Option Value)} {oc6 kV6 dc6 pm6 cd6 ct6 : Value} {f6 : Addr} {od7 an7 : Option Addr} {sl7 : Array (Option Value)} {oc7 kV7 dc7 pm7 cd7 ct7 : Value} {f7 : Addr} {od8 an8 : Option Addr} {sl8 : Array (Option Value)} {oc8 kV8 dc8 pm8 cd8 ct8 : Value} {f8 : Addr} {od9 an9 : Option Addr} {sl9 : Array (Option Value)} {oc9 kV9 dc9 pm9 cd9 ct9 : Value} {f9 : Addr} {od10 an10 : Option Addr} {sl10 : Array (Option Value)} {oc10 kV10 dc10 pm10 cd10 ct10 : Value} {f10 : Addr} {od11 an11 : Option Addr} {sl11 : Array (Option Value)} {oc11 kV11 dc11 pm11 cd11 ct11 : Value} {f11 : Addr} {od12 an12 : Option Addr} {sl12 : Array (Option Value)} {oc12 kV12 dc12 pm12 cd12 ct12 : Value} {f12 : Addr} {od13 an13 : Option Addr} {sl13 : Array (Option Value)} {oc13 kV13 dc13 pm13 cd13 ct13 : Value} {f13 : Addr} {od14 an14 : Option Addr} {sl14 : Array (Option Value)} {oc14 kV14 dc14 pm14 cd14 ct14 : Value} {f14 : Addr} {od15 an15 : Option Addr} {sl15 : Array (Option Value)} {oc15 kV15 dc15 pm15 cd15 ct15 : Value} {f15 : Addr} {od16 an16 : Option Addr} {sl16 : Array (Option Value)} {oc16 kV16 dc16 pm16 cd16 ct16 : Value} {f16 : Addr} {od17 an17 : Option Addr} {sl17 : Array (Option Value)} {oc17 kV17 dc17 pm17 cd17 ct17 : Value} {f17 : Addr} {od18 an18 : Option Addr} {sl18 : Array (Option Value)} {oc18 kV18 dc18 pm18 cd18 ct18 : Value} {f18 : Addr} {od19 an19 : Option Addr} {sl19 : Array (Option Value)} {oc19 kV19 dc19 pm19 cd19 ct19 : Value} {f19 : Addr} {od20 an20 : Option Addr} {sl20 : Array (Option Value)} {oc20 kV20 dc20 pm20 cd20 ct20 : Value} {f20 : Addr} {od21 an21 : Option Addr} {sl21 : Array (Option Value)} {oc21 kV21 dc21 pm21 cd21 ct21 : Value} {f21 : Addr} {od22 an22 : Option Addr} {sl22 : Array (Option Value)} {oc22 kV22 dc22 pm22 cd22 ct22 : Value} {f22 : Addr} {od23 an23 : Option Addr} {sl23 : Array (Option Value)} {oc23 kV23 dc23 pm23 cd23 ct23 : Value} {f23 : Addr} {od24 an24 : Option Addr} {sl24 : Array (Option Value)} {oc24 kV24 dc24 pm24 cd24 ct24 : Value} {f24 : Addr} {od25 an25 : Option Addr} {sl25 : Array (Option Value)} {oc25 kV25 dc25 pm25 ct25 : Value} {f25 : Addr} {CBadMoves : Addr} {CBadRow : Addr} {CBadText : Addr} {t_FIGURES : Tok} {t_HEAPS : Tok} {t_LONGEST : Tok} {t_MOST_HEAPS : Tok} {t_MOST_MOVES : Tok} {CBadStanding : Addr} {CBadNumber : Addr} {CBadWeights : Addr} {CBadRound : Addr} {CEndless : Addr} {CNothing : Addr} {CFull : Addr} {CMoveError : Addr} {odT anT : Option Addr} {slT : Array (Option Value)} {ocT kVT dcT pmT cdT ctT : Value} {fT : Addr} {odM anM : Option Addr} {slM : Array (Option Value)} {ocM kVM dcM pmM cdM ctM : Value} {fM : Addr} {cL PL : Addr}
    (a0 : PySem.W.nsIn K mainGlobals "is_whole" = some (some (.ref f0))) (l0 : K.lookup f0 = some ⟨oc0, od0, .func (PySem.W.fnOf "is_whole" "is_whole" (defArgs s_is_whole) (defBody s_is_whole) (defScope s_is_whole) .none kV0 dc0 pm0 an0 cd0 ct0), sl0⟩) (c0 : PySem.W.codeIn K cd0 "is_whole" = true) (k0 : PySem.W.keepIn K (.ref f0) = true)
    (a1 : PySem.W.nsIn K mainGlobals "are_whole" = some (some (.ref f1))) (l1 : K.lookup f1 = some ⟨oc1, od1, .func (PySem.W.fnOf "are_whole" "are_whole" (defArgs s_are_whole) (defBody s_are_whole) (defScope s_are_whole) .none kV1 dc1 pm1 an1 cd1 ct1), sl1⟩) (c1 : PySem.W.codeIn K cd1 "are_whole" = true) (k1 : PySem.W.keepIn K (.ref f1) = true)
    (a2 : PySem.W.nsIn K mainGlobals "is_move" = some (some (.ref f2))) (l2 : K.lookup f2 = some ⟨oc2, od2, .func (PySem.W.fnOf "is_move" "is_move" (defArgs s_is_move) (defBody s_is_move) (defScope s_is_move) .none kV2 dc2 pm2 an2 cd2 ct2), sl2⟩) (c2 : PySem.W.codeIn K cd2 "is_move" = true) (k2 : PySem.W.keepIn K (.ref f2) = true)
    (a3 : PySem.W.nsIn K mainGlobals "heaps_in" = some (some (.ref f3))) (l3 : K.lookup f3 = some ⟨oc3, od3, .func (PySem.W.fnOf "heaps_in" "heaps_in" (defArgs s_heaps_in) (defBody s_heaps_in) (defScope s_heaps_in) .none kV3 dc3 pm3 an3 cd3 ct3), sl3⟩) (c3 : PySem.W.codeIn K cd3 "heaps_in" = true) (k3 : PySem.W.keepIn K (.ref f3) = true)
    (a4 : PySem.W.nsIn K mainGlobals "is_moves" = some (some (.ref f4))) (l4 : K.lookup f4 = some ⟨oc4, od4, .func (PySem.W.fnOf "is_moves" "is_moves" (defArgs s_is_moves) (defBody s_is_moves) (defScope s_is_moves) .none kV4 dc4 pm4 an4 cd4 ct4), sl4⟩) (c4 : PySem.W.codeIn K cd4 "is_moves" = true) (k4 : PySem.W.keepIn K (.ref f4) = true)
    (a5 : PySem.W.nsIn K mainGlobals "need_moves" = some (some (.ref f5))) (l5 : K.lookup f5 = some ⟨oc5, od5, .func (PySem.W.fnOf "need_moves" "need_moves" (defArgs s_need_moves) (defBody s_need_moves) (defScope s_need_moves) .none kV5 dc5 pm5 an5 cd5 ct5), sl5⟩) (c5 : PySem.W.codeIn K cd5 "need_moves" = true) (k5 : PySem.W.keepIn K (.ref f5) = true)
    (a6 : PySem.W.nsIn K mainGlobals "need_row" = some (some (.ref f6))) (l6 : K.lookup f6 = some ⟨oc6, od6, .func (PySem.W.fnOf "need_row" "need_row" (defArgs s_need_row) (defBody s_need_row) (defScope s_need_row) .none kV6 dc6 pm6 an6 cd6 ct6), sl6⟩) (c6 : PySem.W.codeIn K cd6 "need_row" = true) (k6 : PySem.W.keepIn K (.ref f6) = true)
    (a7 : PySem.W.nsIn K mainGlobals "heaps_text" = some (some (.ref f7))) (l7 : K.lookup f7 = some ⟨oc7, od7, .func (PySem.W.fnOf "heaps_text" "heaps_text" (defArgs s_heaps_text) (defBody s_heaps_text) (defScope s_heaps_text) .none kV7 dc7 pm7 an7 cd7 ct7), sl7⟩) (c7 : PySem.W.codeIn K cd7 "heaps_text" = true) (k7 : PySem.W.keepIn K (.ref f7) = true)
    (a8 : PySem.W.nsIn K mainGlobals "one_text" = some (some (.ref f8))) (l8 : K.lookup f8 = some ⟨oc8, od8, .func (PySem.W.fnOf "one_text" "one_text" (defArgs s_one_text) (defBody s_one_text) (defScope s_one_text) .none kV8 dc8 pm8 an8 cd8 ct8), sl8⟩) (c8 : PySem.W.codeIn K cd8 "one_text" = true) (k8 : PySem.W.keepIn K (.ref f8) = true)
    (a9 : PySem.W.nsIn K mainGlobals "move_text" = some (some (.ref f9))) (l9 : K.lookup f9 = some ⟨oc9, od9, .func (PySem.W.fnOf "move_text" "move_text" (defArgs s_move_text) (defBody s_move_text) (defScope s_move_text) .none kV9 dc9 pm9 an9 cd9 ct9), sl9⟩) (c9 : PySem.W.codeIn K cd9 "move_text" = true) (k9 : PySem.W.keepIn K (.ref f9) = true)
    (a10 : PySem.W.nsIn K mainGlobals "moves_text" = some (some (.ref f10))) (l10 : K.lookup f10 = some ⟨oc10, od10, .func (PySem.W.fnOf "moves_text" "moves_text" (defArgs s_moves_text) (defBody s_moves_text) (defScope s_moves_text) .none kV10 dc10 pm10 an10 cd10 ct10), sl10⟩) (c10 : PySem.W.codeIn K cd10 "moves_text" = true) (k10 : PySem.W.keepIn K (.ref f10) = true)
    (a11 : PySem.W.nsIn K mainGlobals "number_in" = some (some (.ref f11))) (l11 : K.lookup f11 = some ⟨oc11, od11, .func (PySem.W.fnOf "number_in" "number_in" (defArgs s_number_in) (defBody s_number_in) (defScope s_number_in) .none kV11 dc11 pm11 an11 cd11 ct11), sl11⟩) (c11 : PySem.W.codeIn K cd11 "number_in" = true) (k11 : PySem.W.keepIn K (.ref f11) = true)
    (a12 : PySem.W.nsIn K mainGlobals "heaps_read" = some (some (.ref f12))) (l12 : K.lookup f12 = some ⟨oc12, od12, .func (PySem.W.fnOf "heaps_read" "heaps_read" (defArgs s_heaps_read) (defBody s_heaps_read) (defScope s_heaps_read) .none kV12 dc12 pm12 an12 cd12 ct12), sl12⟩) (c12 : PySem.W.codeIn K cd12 "heaps_read" = true) (k12 : PySem.W.keepIn K (.ref f12) = true)
    (a13 : PySem.W.nsIn K mainGlobals "move_read" = some (some (.ref f13))) (l13 : K.lookup f13 = some ⟨oc13, od13, .func (PySem.W.fnOf "move_read" "move_read" (defArgs s_move_read) (defBody s_move_read) (defScope s_move_read) .none kV13 dc13 pm13 an13 cd13 ct13), sl13⟩) (c13 : PySem.W.codeIn K cd13 "move_read" = true) (k13 : PySem.W.keepIn K (.ref f13) = true)
    (a14 : PySem.W.nsIn K mainGlobals "read_moves" = some (some (.ref f14))) (l14 : K.lookup f14 = some ⟨oc14, od14, .func (PySem.W.fnOf "read_moves" "read_moves" (defArgs s_read_moves) (defBody s_read_moves) (defScope s_read_moves) .none kV14 dc14 pm14 an14 cd14 ct14), sl14⟩) (c14 : PySem.W.codeIn K cd14 "read_moves" = true) (k14 : PySem.W.keepIn K (.ref f14) = true)
    (a15 : PySem.W.nsIn K mainGlobals "row_text" = some (some (.ref f15))) (l15 : K.lookup f15 = some ⟨oc15, od15, .func (PySem.W.fnOf "row_text" "row_text" (defArgs s_row_text) (defBody s_row_text) (defScope s_row_text) .none kV15 dc15 pm15 an15 cd15 ct15), sl15⟩) (c15 : PySem.W.codeIn K cd15 "row_text" = true) (k15 : PySem.W.keepIn K (.ref f15) = true)
    (a16 : PySem.W.nsIn K mainGlobals "read_row" = some (some (.ref f16))) (l16 : K.lookup f16 = some ⟨oc16, od16, .func (PySem.W.fnOf "read_row" "read_row" (defArgs s_read_row) (defBody s_read_row) (defScope s_read_row) .none kV16 dc16 pm16 an16 cd16 ct16), sl16⟩) (c16 : PySem.W.codeIn K cd16 "read_row" = true) (k16 : PySem.W.keepIn K (.ref f16) = true)
    (a17 : PySem.W.nsIn K mainGlobals "_law_cell" = some (some (.ref f17))) (l17 : K.lookup f17 = some ⟨oc17, od17, .func (PySem.W.fnOf "_law_cell" "_law_cell" (defArgs s_law_cell) (defBody s_law_cell) (defScope s_law_cell) .none kV17 dc17 pm17 an17 cd17 ct17), sl17⟩) (c17 : PySem.W.codeIn K cd17 "_law_cell" = true) (k17 : PySem.W.keepIn K (.ref f17) = true)
    (a18 : PySem.W.nsIn K mainGlobals "_law_drawn" = some (some (.ref f18))) (l18 : K.lookup f18 = some ⟨oc18, od18, .func (PySem.W.fnOf "_law_drawn" "_law_drawn" (defArgs s_law_drawn) (defBody s_law_drawn) (defScope s_law_drawn) .none kV18 dc18 pm18 an18 cd18 ct18), sl18⟩) (c18 : PySem.W.codeIn K cd18 "_law_drawn" = true) (k18 : PySem.W.keepIn K (.ref f18) = true)
    (a19 : PySem.W.nsIn K mainGlobals "_law_roll" = some (some (.ref f19))) (l19 : K.lookup f19 = some ⟨oc19, od19, .func (PySem.W.fnOf "_law_roll" "_law_roll" (defArgs s_law_roll) (defBody s_law_roll) (defScope s_law_roll) .none kV19 dc19 pm19 an19 cd19 ct19), sl19⟩) (c19 : PySem.W.codeIn K cd19 "_law_roll" = true) (k19 : PySem.W.keepIn K (.ref f19) = true)
    (a20 : PySem.W.nsIn K mainGlobals "_law_rounds" = some (some (.ref f20))) (l20 : K.lookup f20 = some ⟨oc20, od20, .func (PySem.W.fnOf "_law_rounds" "_law_rounds" (defArgs s_law_rounds) (defBody s_law_rounds) (defScope s_law_rounds) .none kV20 dc20 pm20 an20 cd20 ct20), sl20⟩) (c20 : PySem.W.codeIn K cd20 "_law_rounds" = true) (k20 : PySem.W.keepIn K (.ref f20) = true)
    (a21 : PySem.W.nsIn K mainGlobals "_law_any_move" = some (some (.ref f21))) (l21 : K.lookup f21 = some ⟨oc21, od21, .func (PySem.W.fnOf "_law_any_move" "_law_any_move" (defArgs s_law_any_move) (defBody s_law_any_move) (defScope s_law_any_move) .none kV21 dc21 pm21 an21 cd21 ct21), sl21⟩) (c21 : PySem.W.codeIn K cd21 "_law_any_move" = true) (k21 : PySem.W.keepIn K (.ref f21) = true)
    (a22 : PySem.W.nsIn K mainGlobals "_law_any_moves" = some (some (.ref f22))) (l22 : K.lookup f22 = some ⟨oc22, od22, .func (PySem.W.fnOf "_law_any_moves" "_law_any_moves" (defArgs s_law_any_moves) (defBody s_law_any_moves) (defScope s_law_any_moves) .none kV22 dc22 pm22 an22 cd22 ct22), sl22⟩) (c22 : PySem.W.codeIn K cd22 "_law_any_moves" = true) (k22 : PySem.W.keepIn K (.ref f22) = true)
    (a23 : PySem.W.nsIn K mainGlobals "_law_heaps_text" = some (some (.ref f23))) (l23 : K.lookup f23 = some ⟨oc23, od23, .func (PySem.W.fnOf "_law_heaps_text" "_law_heaps_text" (defArgs s_law_heaps_text) (defBody s_law_heaps_text) (defScope s_law_heaps_text) .none kV23 dc23 pm23 an23 cd23 ct23), sl23⟩) (c23 : PySem.W.codeIn K cd23 "_law_heaps_text" = true) (k23 : PySem.W.keepIn K (.ref f23) = true)
    (a24 : PySem.W.nsIn K mainGlobals "_law_spoilt" = some (some (.ref f24))) (l24 : K.lookup f24 = some ⟨oc24, od24, .func (PySem.W.fnOf "_law_spoilt" "_law_spoilt" (defArgs s_law_spoilt) (defBody s_law_spoilt) (defScope s_law_spoilt) .none kV24 dc24 pm24 an24 cd24 ct24), sl24⟩) (c24 : PySem.W.codeIn K cd24 "_law_spoilt" = true) (k24 : PySem.W.keepIn K (.ref f24) = true)
    (a25 : PySem.W.nsIn K mainGlobals "law" = some (some (.ref f25))) (l25 : K.lookup f25 = some ⟨oc25, od25, .func (PySem.W.fnOf "law" "law" (defArgs s_law) (defBody s_law) (defScope s_law) .none kV25 dc25 pm25 an25 (.ref cL) ct25), sl25⟩) (c25 : PySem.W.codeIn K (.ref cL) "law" = true) (k25 : PySem.W.keepIn K (.ref f25) = true)
    (gBadMoves : PySem.W.nsIn K mainGlobals "BadMoves" = some (some (.ref CBadMoves))) (xBadMoves : PySem.W.excIn K CBadMoves [.type "ValueError", .type "Exception", .type "BaseException", .type "object"] "ValueError.__new__" = true) (kBadMoves : PySem.W.keepIn K (.ref CBadMoves) = true) (bBadMoves : PySem.W.subIn K (.ref CBadMoves) (.type "BaseException") = some true) (tBadMoves : PySem.W.typeIn K (.ref CBadMoves) = some (.type "type"))
    (gBadRow : PySem.W.nsIn K mainGlobals "BadRow" = some (some (.ref CBadRow))) (xBadRow : PySem.W.excIn K CBadRow [.type "ValueError", .type "Exception", .type "BaseException", .type "object"] "ValueError.__new__" = true) (kBadRow : PySem.W.keepIn K (.ref CBadRow) = true) (bBadRow : PySem.W.subIn K (.ref CBadRow) (.type "BaseException") = some true) (tBadRow : PySem.W.typeIn K (.ref CBadRow) = some (.type "type"))
    (gBadText : PySem.W.nsIn K mainGlobals "BadText" = some (some (.ref CBadText))) (xBadText : PySem.W.excIn K CBadText [.type "ValueError", .type "Exception", .type "BaseException", .type "object"] "ValueError.__new__" = true) (kBadText : PySem.W.keepIn K (.ref CBadText) = true) (bBadText : PySem.W.subIn K (.ref CBadText) (.type "BaseException") = some true) (tBadText : PySem.W.typeIn K (.ref CBadText) = some (.type "type"))
    (c_FIGURES : PySem.W.nsIn K mainGlobals "FIGURES" = some (some (.str "0123456789" t_FIGURES)))
    (c_HEAPS : PySem.W.nsIn K mainGlobals "HEAPS" = some (some (.str "abcd" t_HEAPS)))
    (c_LONGEST : PySem.W.nsIn K mainGlobals "LONGEST" = some (some (.int 200 t_LONGEST)))
    (c_MOST_HEAPS : PySem.W.nsIn K mainGlobals "MOST_HEAPS" = some (some (.int 4 t_MOST_HEAPS)))
    (c_MOST_MOVES : PySem.W.nsIn K mainGlobals "MOST_MOVES" = some (some (.int 6 t_MOST_MOVES)))
    (z_ValueError : PySem.W.nsIn K mainGlobals "ValueError" = some none)
    (z_all : PySem.W.nsIn K mainGlobals "all" = some none)
    (z_bool : PySem.W.nsIn K mainGlobals "bool" = some none)
    (z_enumerate : PySem.W.nsIn K mainGlobals "enumerate" = some none)
    (z_int : PySem.W.nsIn K mainGlobals "int" = some none)
    (z_isinstance : PySem.W.nsIn K mainGlobals "isinstance" = some none)
    (z_len : PySem.W.nsIn K mainGlobals "len" = some none)
    (z_list : PySem.W.nsIn K mainGlobals "list" = some none)
    (z_max : PySem.W.nsIn K mainGlobals "max" = some none)
    (z_min : PySem.W.nsIn K mainGlobals "min" = some none)
    (z_range : PySem.W.nsIn K mainGlobals "range" = some none)
    (z_str : PySem.W.nsIn K mainGlobals "str" = some none)
    (z_sum : PySem.W.nsIn K mainGlobals "sum" = some none)
    (z_tuple : PySem.W.nsIn K mainGlobals "tuple" = some none)
    (gBadStanding : PySem.W.nsIn K mainGlobals "BadStanding" = some (some (.ref CBadStanding)))
    (gBadNumber : PySem.W.nsIn K mainGlobals "BadNumber" = some (some (.ref CBadNumber)))
    (gBadWeights : PySem.W.nsIn K mainGlobals "BadWeights" = some (some (.ref CBadWeights)))
    (gBadRound : PySem.W.nsIn K mainGlobals "BadRound" = some (some (.ref CBadRound)))
    (gEndless : PySem.W.nsIn K mainGlobals "Endless" = some (some (.ref CEndless)))
    (gNothing : PySem.W.nsIn K mainGlobals "Nothing" = some (some (.ref CNothing)))
    (gFull : PySem.W.nsIn K mainGlobals "Full" = some (some (.ref CFull)))
    (gMoveError : PySem.W.nsIn K mainGlobals "MoveError" = some (some (.ref CMoveError))) (bME : PySem.W.subIn K (.ref CMoveError) (.type "BaseException") = some true) (dME : PySem.W.hasDictIn K CMoveError = true) (tME : PySem.W.typeIn K (.ref CMoveError) = some (.type "type")) (hnO : PySem.W.specialIn K (.builtin "object.__class__") "__get__" = some (some (.builtin "getset_descriptor.__get__"))) (htO : PySem.W.takesIn K (.builtin "object.__class__") = some true)
    (y1BadMoves : PySem.W.findIn K (.ref CBadMoves) "__getattribute__" = some (some (.builtin "BaseException.__getattribute__"))) (y2BadMoves : PySem.W.findIn K (.ref CBadMoves) "__getattr__" = some none) (y3BadMoves : PySem.W.hasDictIn K CBadMoves = true) (y4BadMoves : PySem.W.findIn K (.ref CBadMoves) "__class__" = some (some (.builtin "object.__class__"))) (y5BadMoves : PySem.W.mroIn K CBadMoves (.type "object") = some true) (y6BadMoves : PySem.W.subIn K (.ref CBadMoves) (.ref CMoveError) = some true) (y7BadMoves : PySem.W.kitOne K (.ref CBadMoves) (.type "ValueError") = some true)
    (wBadMovesBadMoves : PySem.W.kitOne K (.ref CBadMoves) (.ref CBadMoves) = some true)
    (wBadMovesBadStanding : PySem.W.kitOne K (.ref CBadMoves) (.ref CBadStanding) = some false)
    (wBadMovesBadNumber : PySem.W.kitOne K (.ref CBadMoves) (.ref CBadNumber) = some false)
    (wBadMovesBadRow : PySem.W.kitOne K (.ref CBadMoves) (.ref CBadRow) = some false)
    (wBadMovesBadWeights : PySem.W.kitOne K (.ref CBadMoves) (.ref CBadWeights) = some false)
    (wBadMovesBadRound : PySem.W.kitOne K (.ref CBadMoves) (.ref CBadRound) = some false)
    (wBadMovesEndless : PySem.W.kitOne K (.ref CBadMoves) (.ref CEndless) = some false)
    (wBadMovesNothing : PySem.W.kitOne K (.ref CBadMoves) (.ref CNothing) = some false)
    (wBadMovesFull : PySem.W.kitOne K (.ref CBadMoves) (.ref CFull) = some false)
    (wBadMovesBadText : PySem.W.kitOne K (.ref CBadMoves) (.ref CBadText) = some false)
    (y1BadRow : PySem.W.findIn K (.ref CBadRow) "__getattribute__" = some (some (.builtin "BaseException.__getattribute__"))) (y2BadRow : PySem.W.findIn K (.ref CBadRow) "__getattr__" = some none) (y3BadRow : PySem.W.hasDictIn K CBadRow = true) (y4BadRow : PySem.W.findIn K (.ref CBadRow) "__class__" = some (some (.builtin "object.__class__"))) (y5BadRow : PySem.W.mroIn K CBadRow (.type "object") = some true) (y6BadRow : PySem.W.subIn K (.ref CBadRow) (.ref CMoveError) = some true) (y7BadRow : PySem.W.kitOne K (.ref CBadRow) (.type "ValueError") = some true)
    (wBadRowBadMoves : PySem.W.kitOne K (.ref CBadRow) (.ref CBadMoves) = some false)
    (wBadRowBadStanding : PySem.W.kitOne K (.ref CBadRow) (.ref CBadStanding) = some false)
    (wBadRowBadNumber : PySem.W.kitOne K (.ref CBadRow) (.ref CBadNumber) = some false)
    (wBadRowBadRow : PySem.W.kitOne K (.ref CBadRow) (.ref CBadRow) = some true)
    (wBadRowBadWeights : PySem.W.kitOne K (.ref CBadRow) (.ref CBadWeights) = some false)
    (wBadRowBadRound : PySem.W.kitOne K (.ref CBadRow) (.ref CBadRound) = some false)
    (wBadRowEndless : PySem.W.kitOne K (.ref CBadRow) (.ref CEndless) = some false)
    (wBadRowNothing : PySem.W.kitOne K (.ref CBadRow) (.ref CNothing) = some false)
    (wBadRowFull : PySem.W.kitOne K (.ref CBadRow) (.ref CFull) = some false)
    (wBadRowBadText : PySem.W.kitOne K (.ref CBadRow) (.ref CBadText) = some false)
    (y1BadText : PySem.W.findIn K (.ref CBadText) "__getattribute__" = some (some (.builtin "BaseException.__getattribute__"))) (y2BadText : PySem.W.findIn K (.ref CBadText) "__getattr__" = some none) (y3BadText : PySem.W.hasDictIn K CBadText = true) (y4BadText : PySem.W.findIn K (.ref CBadText) "__class__" = some (some (.builtin "object.__class__"))) (y5BadText : PySem.W.mroIn K CBadText (.type "object") = some true) (y6BadText : PySem.W.subIn K (.ref CBadText) (.ref CMoveError) = some true) (y7BadText : PySem.W.kitOne K (.ref CBadText) (.type "ValueError") = some true)
    (wBadTextBadMoves : PySem.W.kitOne K (.ref CBadText) (.ref CBadMoves) = some false)
    (wBadTextBadStanding : PySem.W.kitOne K (.ref CBadText) (.ref CBadStanding) = some false)
    (wBadTextBadNumber : PySem.W.kitOne K (.ref CBadText) (.ref CBadNumber) = some false)
    (wBadTextBadRow : PySem.W.kitOne K (.ref CBadText) (.ref CBadRow) = some false)
    (wBadTextBadWeights : PySem.W.kitOne K (.ref CBadText) (.ref CBadWeights) = some false)
    (wBadTextBadRound : PySem.W.kitOne K (.ref CBadText) (.ref CBadRound) = some false)
    (wBadTextEndless : PySem.W.kitOne K (.ref CBadText) (.ref CEndless) = some false)
    (wBadTextNothing : PySem.W.kitOne K (.ref CBadText) (.ref CNothing) = some false)
    (wBadTextFull : PySem.W.kitOne K (.ref CBadText) (.ref CFull) = some false)
    (wBadTextBadText : PySem.W.kitOne K (.ref CBadText) (.ref CBadText) = some true)
    (aT : PySem.W.nsIn K mainGlobals "_law_told" = some (some (.ref fT))) (lT : K.lookup fT = some ⟨ocT, odT, .func (PySem.W.fnOf "_law_told" "_law_told" (defArgs s_law_told) (defBody s_law_told) (defScope s_law_told) .none kVT dcT pmT anT cdT ctT), slT⟩) (cT : PySem.W.codeIn K cdT "_law_told" = true) (kT : PySem.W.keepIn K (.ref fT) = true)
    (aM : PySem.W.nsIn K mainGlobals "_law_term" = some (some (.ref fM))) (lM : K.lookup fM = some ⟨ocM, odM, .func (PySem.W.fnOf "_law_term" "_law_term" (defArgs s_law_term) (defBody s_law_term) (defScope s_law_term) .none kVM dcM pmM anM cdM ctM), slM⟩) (cM : PySem.W.codeIn K cdM "_law_term" = true) (kM : PySem.W.keepIn K (.ref fM) = true)
    (tb : PySem.W.tabIn K "law" = some (cL, PL)) (nP : K.lookup PL = none) (hC : PySem.W.codeHdIn K cL PL = true)
    (hP : h.get? PL = some (PySem.W.tabObj #[])) :
    LamX.LawAtS l w K (L2N.CX l.prog w) 11 63 "script" mg fa h := by
  have e := hfa.symm.trans (PySem.W.mg_of X G a25)
  cases e
  have B : Blt mg := ⟨PySem.W.mg_none_of X G z_ValueError, PySem.W.mg_none_of X G z_all, PySem.W.mg_none_of X G z_bool, PySem.W.mg_none_of X G z_enumerate, PySem.W.mg_none_of X G z_int, PySem.W.mg_none_of X G z_isinstance, PySem.W.mg_none_of X G z_len, PySem.W.mg_none_of X G z_list, PySem.W.mg_none_of X G z_max, PySem.W.mg_none_of X G z_min, PySem.W.mg_none_of X G z_range, PySem.W.mg_none_of X G z_str, PySem.W.mg_none_of X G z_sum, PySem.W.mg_none_of X G z_tuple⟩
  have X_BadMoves : ExcF mg K "BadMoves" CBadMoves := exc_mk X G gBadMoves xBadMoves kBadMoves bBadMoves tBadMoves
  have X_BadRow : ExcF mg K "BadRow" CBadRow := exc_mk X G gBadRow xBadRow kBadRow bBadRow tBadRow
  have X_BadText : ExcF mg K "BadText" CBadText := exc_mk X G gBadText xBadText kBadText bBadText tBadText
  have q_FIGURES := PySem.W.mg_of X G c_FIGURES
  have q_HEAPS := PySem.W.mg_of X G c_HEAPS
  have q_LONGEST := PySem.W.mg_of X G c_LONGEST
  have q_MOST_HEAPS := PySem.W.mg_of X G c_MOST_HEAPS
  have q_MOST_MOVES := PySem.W.mg_of X G c_MOST_MOVES
  have F0 := fun_mk (st := s_is_whole) l0 c0 k0
  have A0 : DefAt mg K "is_whole" s_is_whole ["thing", "low", "high"] := at_mk X G a0 F0 (F0.binds (ps := ["thing", "low", "high"]) fun _ _ _ _ _ _ us hl => match us, hl with | [_, _, _], _ => rfl)
  have F1 := fun_mk (st := s_are_whole) l1 c1 k1
  have A1 : DefAt mg K "are_whole" s_are_whole ["thing", "many", "high"] := at_mk X G a1 F1 (F1.binds (ps := ["thing", "many", "high"]) fun _ _ _ _ _ _ us hl => match us, hl with | [_, _, _], _ => rfl)
  have F2 := fun_mk (st := s_is_move) l2 c2 k2
  have A2 : DefAt mg K "is_move" s_is_move ["thing", "heaps"] := at_mk X G a2 F2 (F2.binds (ps := ["thing", "heaps"]) fun _ _ _ _ _ _ us hl => match us, hl with | [_, _], _ => rfl)
  have F3 := fun_mk (st := s_heaps_in) l3 c3 k3
  have A3 : DefAt mg K "heaps_in" s_heaps_in ["thing"] := at_mk X G a3 F3 (F3.binds (ps := ["thing"]) fun _ _ _ _ _ _ us hl => match us, hl with | [_], _ => rfl)
  have F4 := fun_mk (st := s_is_moves) l4 c4 k4
  have A4 : DefAt mg K "is_moves" s_is_moves ["thing"] := at_mk X G a4 F4 (F4.binds (ps := ["thing"]) fun _ _ _ _ _ _ us hl => match us, hl with | [_], _ => rfl)
  have F5 := fun_mk (st := s_need_moves) l5 c5 k5
  have A5 : DefAt mg K "need_moves" s_need_moves ["thing"] := at_mk X G a5 F5 (F5.binds (ps := ["thing"]) fun _ _ _ _ _ _ us hl => match us, hl with | [_], _ => rfl)
  have F6 := fun_mk (st := s_need_row) l6 c6 k6
  have A6 : DefAt mg K "need_row" s_need_row ["moves", "row"] := at_mk X G a6 F6 (F6.binds (ps := ["moves", "row"]) fun _ _ _ _ _ _ us hl => match us, hl with | [_, _], _ => rfl)
  have F7 := fun_mk (st := s_heaps_text) l7 c7 k7
  have A7 : DefAt mg K "heaps_text" s_heaps_text ["numbers"] := at_mk X G a7 F7 (F7.binds (ps := ["numbers"]) fun _ _ _ _ _ _ us hl => match us, hl with | [_], _ => rfl)
  have F8 := fun_mk (st := s_one_text) l8 c8 k8
  have A8 : DefAt mg K "one_text" s_one_text ["move"] := at_mk X G a8 F8 (F8.binds (ps := ["move"]) fun _ _ _ _ _ _ us hl => match us, hl with | [_], _ => rfl)
  have F9 := fun_mk (st := s_move_text) l9 c9 k9
  have A9 : DefAt mg K "move_text" s_move_text ["move"] := at_mk X G a9 F9 (F9.binds (ps := ["move"]) fun _ _ _ _ _ _ us hl => match us, hl with | [_], _ => rfl)
  have F10 := fun_mk (st := s_moves_text) l10 c10 k10
  have A10 : DefAt mg K "moves_text" s_moves_text ["moves"] := at_mk X G a10 F10 (F10.binds (ps := ["moves"]) fun _ _ _ _ _ _ us hl => match us, hl with | [_], _ => rfl)
  have F11 := fun_mk (st := s_number_in) l11 c11 k11
  have A11 : DefAt mg K "number_in" s_number_in ["text"] := at_mk X G a11 F11 (F11.binds (ps := ["text"]) fun _ _ _ _ _ _ us hl => match us, hl with | [_], _ => rfl)
  have F12 := fun_mk (st := s_heaps_read) l12 c12 k12
  have A12 : DefAt mg K "heaps_read" s_heaps_read ["text", "heaps"] := at_mk X G a12 F12 (F12.binds (ps := ["text", "heaps"]) fun _ _ _ _ _ _ us hl => match us, hl with | [_, _], _ => rfl)
  have F13 := fun_mk (st := s_move_read) l13 c13 k13
  have A13 : DefAt mg K "move_read" s_move_read ["line", "heaps"] := at_mk X G a13 F13 (F13.binds (ps := ["line", "heaps"]) fun _ _ _ _ _ _ us hl => match us, hl with | [_, _], _ => rfl)
  have F14 := fun_mk (st := s_read_moves) l14 c14 k14
  have A14 : DefAt mg K "read_moves" s_read_moves ["text"] := at_mk X G a14 F14 (F14.binds (ps := ["text"]) fun _ _ _ _ _ _ us hl => match us, hl with | [_], _ => rfl)
  have F15 := fun_mk (st := s_row_text) l15 c15 k15
  have A15 : DefAt mg K "row_text" s_row_text ["moves", "row"] := at_mk X G a15 F15 (F15.binds (ps := ["moves", "row"]) fun _ _ _ _ _ _ us hl => match us, hl with | [_, _], _ => rfl)
  have F16 := fun_mk (st := s_read_row) l16 c16 k16
  have A16 : DefAt mg K "read_row" s_read_row ["moves", "text"] := at_mk X G a16 F16 (F16.binds (ps := ["moves", "text"]) fun _ _ _ _ _ _ us hl => match us, hl with | [_, _], _ => rfl)
  have F17 := fun_mk (st := s_law_cell) l17 c17 k17
  have A17 : DefAt mg K "_law_cell" s_law_cell ["script", "k"] := at_mk X G a17 F17 (F17.binds (ps := ["script", "k"]) fun _ _ _ _ _ _ us hl => match us, hl with | [_, _], _ => rfl)
  have F18 := fun_mk (st := s_law_drawn) l18 c18 k18
  have A18 : DefAt mg K "_law_drawn" s_law_drawn ["cell", "k"] := at_mk X G a18 F18 (F18.binds (ps := ["cell", "k"]) fun _ _ _ _ _ _ us hl => match us, hl with | [_, _], _ => rfl)
  have F19 := fun_mk (st := s_law_roll) l19 c19 k19
  have A19 : DefAt mg K "_law_roll" s_law_roll ["dice", "many"] := at_mk X G a19 F19 (F19.binds (ps := ["dice", "many"]) fun _ _ _ _ _ _ us hl => match us, hl with | [_, _], _ => rfl)
  have F20 := fun_mk (st := s_law_rounds) l20 c20 k20
  have A20 : DefAt mg K "_law_rounds" s_law_rounds ["script", "high"] := at_mk X G a20 F20 (F20.binds (ps := ["script", "high"]) fun _ _ _ _ _ _ us hl => match us, hl with | [_, _], _ => rfl)
  have F21 := fun_mk (st := s_law_any_move) l21 c21 k21
  have A21 : DefAt mg K "_law_any_move" s_law_any_move ["dice", "heaps"] := at_mk X G a21 F21 (F21.binds (ps := ["dice", "heaps"]) fun _ _ _ _ _ _ us hl => match us, hl with | [_, _], _ => rfl)
  have F22 := fun_mk (st := s_law_any_moves) l22 c22 k22
  have A22 : DefAt mg K "_law_any_moves" s_law_any_moves ["dice", "high"] := at_mk X G a22 F22 (F22.binds (ps := ["dice", "high"]) fun _ _ _ _ _ _ us hl => match us, hl with | [_, _], _ => rfl)
  have F23 := fun_mk (st := s_law_heaps_text) l23 c23 k23
  have A23 : DefAt mg K "_law_heaps_text" s_law_heaps_text ["numbers"] := at_mk X G a23 F23 (F23.binds (ps := ["numbers"]) fun _ _ _ _ _ _ us hl => match us, hl with | [_], _ => rfl)
  have F24 := fun_mk (st := s_law_spoilt) l24 c24 k24
  have A24 : DefAt mg K "_law_spoilt" s_law_spoilt ["dice", "text", "signs"] := at_mk X G a24 F24 (F24.binds (ps := ["dice", "text", "signs"]) fun _ _ _ _ _ _ us hl => match us, hl with | [_, _, _], _ => rfl)
  have FT := fun_mk (st := s_law_told) lT cT kT
  have FM := fun_mk (st := s_law_term) lM cM kM
  have TFm : TermF mg K (fun c => [CMoveError, CBadMoves, CBadStanding, CBadNumber, CBadRow, CBadWeights, CBadRound, CEndless, CNothing, CFull, CBadText].getD c 0) := ⟨PySem.W.mg_of X G gBadMoves, PySem.W.mg_of X G gBadStanding, PySem.W.mg_of X G gBadNumber, PySem.W.mg_of X G gBadRow, PySem.W.mg_of X G gBadWeights, PySem.W.mg_of X G gBadRound, PySem.W.mg_of X G gEndless, PySem.W.mg_of X G gNothing, PySem.W.mg_of X G gFull, PySem.W.mg_of X G gBadText, B.isinstance, B.sum, B.int, B.ValueError⟩
  have TCm : ∀ c ∈ CS, TermC K (fun c => [CMoveError, CBadMoves, CBadStanding, CBadNumber, CBadRow, CBadWeights, CBadRound, CEndless, CNothing, CFull, CBadText].getD c 0) c := by
    intro c hc
    simp only [CS, List.mem_cons, List.mem_nil_iff, or_false] at hc
    rcases hc with rfl | rfl | rfl
    · exact ⟨by decide, by decide, ⟨y1BadMoves, y2BadMoves, bBadMoves, y3BadMoves, y4BadMoves, hnO, htO, y5BadMoves⟩, fun j h1 h2 => by
        have : j = 1 ∨ j = 2 ∨ j = 3 ∨ j = 4 ∨ j = 5 ∨ j = 6 ∨ j = 7 ∨ j = 8 ∨ j = 9 ∨ j = 10 := by omega
        rcases this with rfl | rfl | rfl | rfl | rfl | rfl | rfl | rfl | rfl | rfl
        · exact wBadMovesBadMoves
        · exact wBadMovesBadStanding
        · exact wBadMovesBadNumber
        · exact wBadMovesBadRow
        · exact wBadMovesBadWeights
        · exact wBadMovesBadRound
        · exact wBadMovesEndless
        · exact wBadMovesNothing
        · exact wBadMovesFull
        · exact wBadMovesBadText, y7BadMoves⟩
    · exact ⟨by decide, by decide, ⟨y1BadRow, y2BadRow, bBadRow, y3BadRow, y4BadRow, hnO, htO, y5BadRow⟩, fun j h1 h2 => by
        have : j = 1 ∨ j = 2 ∨ j = 3 ∨ j = 4 ∨ j = 5 ∨ j = 6 ∨ j = 7 ∨ j = 8 ∨ j = 9 ∨ j = 10 := by omega
        rcases this with rfl | rfl | rfl | rfl | rfl | rfl | rfl | rfl | rfl | rfl
        · exact wBadRowBadMoves
        · exact wBadRowBadStanding
        · exact wBadRowBadNumber
        · exact wBadRowBadRow
        · exact wBadRowBadWeights
        · exact wBadRowBadRound
        · exact wBadRowEndless
        · exact wBadRowNothing
        · exact wBadRowFull
        · exact wBadRowBadText, y7BadRow⟩
    · exact ⟨by decide, by decide, ⟨y1BadText, y2BadText, bBadText, y3BadText, y4BadText, hnO, htO, y5BadText⟩, fun j h1 h2 => by
        have : j = 1 ∨ j = 2 ∨ j = 3 ∨ j = 4 ∨ j = 5 ∨ j = 6 ∨ j = 7 ∨ j = 8 ∨ j = 9 ∨ j = 10 := by omega
        rcases this with rfl | rfl | rfl | rfl | rfl | rfl | rfl | rfl | rfl | rfl
        · exact wBadTextBadMoves
        · exact wBadTextBadStanding
        · exact wBadTextBadNumber
        · exact wBadTextBadRow
        · exact wBadTextBadWeights
        · exact wBadTextBadRound
        · exact wBadTextEndless
        · exact wBadTextNothing
        · exact wBadTextFull
        · exact wBadTextBadText, y7BadText⟩
  have Xm : ∀ c ∈ CS, PySem.W.exmOne K (.ref ((fun c => [CMoveError, CBadMoves, CBadStanding, CBadNumber, CBadRow, CBadWeights, CBadRound, CEndless, CNothing, CFull, CBadText].getD c 0) c)) (.ref CMoveError) = some true := by
    intro c hc
    simp only [CS, List.mem_cons, List.mem_nil_iff, or_false] at hc
    rcases hc with rfl | rfl | rfl
    · exact PySem.W.exm_ref bME dME tME y6BadMoves
    · exact PySem.W.exm_ref bME dME tME y6BadRow
    · exact PySem.W.exm_ref bME dME tME y6BadText
  have TF : ToldF mg K (fun c => [CMoveError, CBadMoves, CBadStanding, CBadNumber, CBadRow, CBadWeights, CBadRound, CEndless, CNothing, CFull, CBadText].getD c 0) CS s_law_told s_law_term := told_mk FT (PySem.W.mg_of X G aT) FM (PySem.W.mg_of X G aM) (FT.binds (ps := ["deed"]) fun _ _ _ _ _ _ us hl => match us, hl with | [_], _ => rfl) (FM.binds (ps := ["e"]) fun _ _ _ _ _ _ us hl => match us, hl with | [_], _ => rfl) TFm TCm (PySem.W.mg_of X G gMoveError) Xm
  refine ⟨PySem.W.fnOf "law" "law" (defArgs s_law) (defBody s_law) (defScope s_law) .none kV25 dc25 pm25 an25 (.ref cL) ct25, [(cL, PL)], spL K [(PL, (Str.ofString "law" ++ Str.ofString ".<locals>.") ++ Str.ofString "<lambda>")] f_law, fun p hp => ?_, fun p hp => ?_, fun p hp => ?_, fun s v => .of_eq rfl, fun H a ns hl hb hH hS => spL_trueT (hH (cL, PL) (by simp)) hS (law_true ns (Nat.le_trans hl (by decide))), fun base _ _ hTB => ?_⟩
  · simp only [List.mem_cons, List.mem_nil_iff, or_false] at hp
    rcases hp with rfl
    · exact hP
  · simp only [List.mem_cons, List.mem_nil_iff, or_false] at hp
    rcases hp with rfl
    · exact nP
  · simp only [List.mem_cons, List.mem_nil_iff, or_false] at hp
    rcases hp with rfl
    · exact PySem.W.codeHd_of_K X hC
  have TB := hTB (cL, PL) (by simp)
  let G : Glo := ⟨K, [(PL, (Str.ofString "law" ++ Str.ofString ".<locals>.") ++ Str.ofString "<lambda>")], fun c => [CMoveError, CBadMoves, CBadStanding, CBadNumber, CBadRow, CBadWeights, CBadRound, CEndless, CNothing, CFull, CBadText].getD c 0, fun _ => 0⟩
  have D0 : DefOk l.prog w mg base G 1 "is_whole" 3 f_is_whole := ok_is_whole (G := G) A0 B 
  have D1 : DefOk l.prog w mg base G 2 "are_whole" 3 f_are_whole := ok_are_whole (G := G) A1 B D0
  have D2 : DefOk l.prog w mg base G 3 "is_move" 2 f_is_move := ok_is_move (G := G) A2 B D1
  have D3 : DefOk l.prog w mg base G 1 "heaps_in" 1 f_heaps_in := ok_heaps_in (G := G) A3 B 
  have D4 : DefOk l.prog w mg base G 4 "is_moves" 1 f_is_moves := ok_is_moves (G := G) A4 B D3 D2 ⟨_, q_MOST_HEAPS⟩ ⟨_, q_MOST_MOVES⟩
  have D5 : DefOk l.prog w mg base G 5 "need_moves" 1 f_need_moves := ok_need_moves (G := G) A5 B D4 X_BadMoves
  have D6 : DefOk l.prog w mg base G 2 "need_row" 2 f_need_row := ok_need_row (G := G) A6 B D0 ⟨_, q_LONGEST⟩ X_BadRow
  have D7 : DefOk l.prog w mg base G 1 "heaps_text" 1 f_heaps_text := ok_heaps_text (G := G) A7 B ⟨_, q_HEAPS⟩
  have D8 : DefOk l.prog w mg base G 2 "one_text" 1 f_one_text := ok_one_text (G := G) A8 B D7
  have D9 : DefOk l.prog w mg base G 4 "move_text" 1 f_move_text := ok_move_text (G := G) A9 B D3 D2 D8 X_BadMoves
  have D10 : DefOk l.prog w mg base G 6 "moves_text" 1 f_moves_text := ok_moves_text (G := G) A10 B D5 D8
  have D11 : DefOk l.prog w mg base G 1 "number_in" 1 f_number_in := ok_number_in (G := G) A11 B ⟨_, q_FIGURES⟩ X_BadText
  have D12 : DefOk l.prog w mg base G 2 "heaps_read" 2 f_heaps_read := ok_heaps_read (G := G) A12 B D11 ⟨_, q_HEAPS⟩ X_BadText
  have D13 : DefOk l.prog w mg base G 3 "move_read" 2 f_move_read := ok_move_read (G := G) A13 B D12 X_BadText
  have D14 : DefOk l.prog w mg base G 7 "read_moves" 1 f_read_moves := ok_read_moves (G := G) A14 B D4 D13 D10 D11 X_BadText
  have D15 : DefOk l.prog w mg base G 6 "row_text" 2 f_row_text := ok_row_text (G := G) A15 B D5 D6
  have D16 : DefOk l.prog w mg base G 7 "read_row" 2 f_read_row := ok_read_row (G := G) A16 B D5 D11 D15 ⟨_, q_LONGEST⟩ X_BadText
  have D17 : DefOk l.prog w mg base G 1 "_law_cell" 2 f_law_cell := ok_law_cell (G := G) A17 B 
  have D18 : DefOk l.prog w mg base G 1 "_law_drawn" 2 f_law_drawn := ok_law_drawn (G := G) A18 B 
  have D19 : DefOk l.prog w mg base G 2 "_law_roll" 2 f_law_roll := ok_law_roll (G := G) A19 B D18
  have D20 : DefOk l.prog w mg base G 2 "_law_rounds" 2 f_law_rounds := ok_law_rounds (G := G) A20 B D17
  have D21 : DefOk l.prog w mg base G 3 "_law_any_move" 2 f_law_any_move := ok_law_any_move (G := G) A21 B D19
  have D22 : DefOk l.prog w mg base G 4 "_law_any_moves" 2 f_law_any_moves := ok_law_any_moves (G := G) A22 B D21 D19
  have D23 : DefOk l.prog w mg base G 1 "_law_heaps_text" 1 f_law_heaps_text := ok_law_heaps_text (G := G) A23 B 
  have D24 : DefOk l.prog w mg base G 3 "_law_spoilt" 3 f_law_spoilt := ok_law_spoilt (G := G) A24 B D19
  have L : FnOk l.prog w K mg base (L2N.CX l.prog w) 11 fa _ ["script"] (spF G 1 f_law) := ok_law (G := G) l25 c25 TF TB (List.mem_singleton.mpr rfl) (fun p hp _ => by rw [List.mem_singleton.mp hp]) B D22 D23 D19 D20 D24 D4 D9 D10 D14 D16 D15
  exact L.imp fun vs H Q E q => q _ _
end Y
open PySem PySem.W PyProof.Rows
set_option maxRecDepth 100000 in
set_option maxHeartbeats 0 in
theorem PySem.Challenge.cw_spentheaps_k22_whole_texts_holds : PySem.Challenge.rw_spentheaps_k22_whole_texts.Holds := by
  w_on; o_law; k_head; (case hw => w_witness2)
  k_fill
  refine LamX.walk_ofTs (l := PySem.Challenge.rw_spentheaps_k22_whole_texts) (n := 63) (k := 11) (x := "script") (CX := fun w => L2N.CX PySem.Challenge.rw_spentheaps_k22_whole_texts.prog w) rfl (by decide) rfl ⟨rfl, by decide, by decide⟩ (fun w h Y => PySem.W.km_in_of Y) ?F (fun _ _ _ _ _ z => Y.cx_false z)
  case F =>
    intro w mg fa h Y9 KX G hmg
    refine' Y.all_mk KX G hmg ?a0 ?l0 ?c0 ?k0 ?a1 ?l1 ?c1 ?k1 ?a2 ?l2 ?c2 ?k2 ?a3 ?l3 ?c3 ?k3 ?a4 ?l4 ?c4 ?k4 ?a5 ?l5 ?c5 ?k5 ?a6 ?l6 ?c6 ?k6 ?a7 ?l7 ?c7 ?k7 ?a8 ?l8 ?c8 ?k8 ?a9 ?l9 ?c9 ?k9 ?a10 ?l10 ?c10 ?k10 ?a11 ?l11 ?c11 ?k11 ?a12 ?l12 ?c12 ?k12 ?a13 ?l13 ?c13 ?k13 ?a14 ?l14 ?c14 ?k14 ?a15 ?l15 ?c15 ?k15 ?a16 ?l16 ?c16 ?k16 ?a17 ?l17 ?c17 ?k17 ?a18 ?l18 ?c18 ?k18 ?a19 ?l19 ?c19 ?k19 ?a20 ?l20 ?c20 ?k20 ?a21 ?l21 ?c21 ?k21 ?a22 ?l22 ?c22 ?k22 ?a23 ?l23 ?c23 ?k23 ?a24 ?l24 ?c24 ?k24 ?a25 ?l25 ?c25 ?k25 ?gBadMoves ?xBadMoves ?kBadMoves ?bBadMoves ?tBadMoves ?gBadRow ?xBadRow ?kBadRow ?bBadRow ?tBadRow ?gBadText ?xBadText ?kBadText ?bBadText ?tBadText ?c_FIGURES ?c_HEAPS ?c_LONGEST ?c_MOST_HEAPS ?c_MOST_MOVES ?z_ValueError ?z_all ?z_bool ?z_enumerate ?z_int ?z_isinstance ?z_len ?z_list ?z_max ?z_min ?z_range ?z_str ?z_sum ?z_tuple ?gBadStanding ?gBadNumber ?gBadWeights ?gBadRound ?gEndless ?gNothing ?gFull ?gMoveError ?bME ?dME ?tME ?hnO ?htO ?y1BadMoves ?y2BadMoves ?y3BadMoves ?y4BadMoves ?y5BadMoves ?y6BadMoves ?y7BadMoves ?wBadMovesBadMoves ?wBadMovesBadStanding ?wBadMovesBadNumber ?wBadMovesBadRow ?wBadMovesBadWeights ?wBadMovesBadRound ?wBadMovesEndless ?wBadMovesNothing ?wBadMovesFull ?wBadMovesBadText ?y1BadRow ?y2BadRow ?y3BadRow ?y4BadRow ?y5BadRow ?y6BadRow ?y7BadRow ?wBadRowBadMoves ?wBadRowBadStanding ?wBadRowBadNumber ?wBadRowBadRow ?wBadRowBadWeights ?wBadRowBadRound ?wBadRowEndless ?wBadRowNothing ?wBadRowFull ?wBadRowBadText ?y1BadText ?y2BadText ?y3BadText ?y4BadText ?y5BadText ?y6BadText ?y7BadText ?wBadTextBadMoves ?wBadTextBadStanding ?wBadTextBadNumber ?wBadTextBadRow ?wBadTextBadWeights ?wBadTextBadRound ?wBadTextEndless ?wBadTextNothing ?wBadTextFull ?wBadTextBadText ?aT ?lT ?cT ?kT ?aM ?lM ?cM ?kM ?tb ?nP ?hC ?hP

    (case a0 => k_is)
    (case l0 => k_is)
    (case c0 => k_is)
    (case k0 => k_is)
    (case a1 => k_is)
    (case l1 => k_is)
    (case c1 => k_is)
    (case k1 => k_is)
    (case a2 => k_is)
    (case l2 => k_is)
    (case c2 => k_is)
    (case k2 => k_is)
    (case a3 => k_is)
    (case l3 => k_is)
    (case c3 => k_is)
    (case k3 => k_is)
    (case a4 => k_is)
    (case l4 => k_is)
    (case c4 => k_is)
    (case k4 => k_is)
    (case a5 => k_is)
    (case l5 => k_is)
    (case c5 => k_is)
    (case k5 => k_is)
    (case a6 => k_is)
    (case l6 => k_is)
    (case c6 => k_is)
    (case k6 => k_is)
    (case a7 => k_is)
    (case l7 => k_is)
    (case c7 => k_is)
    (case k7 => k_is)
    (case a8 => k_is)
    (case l8 => k_is)
    (case c8 => k_is)
    (case k8 => k_is)
    (case a9 => k_is)
    (case l9 => k_is)
    (case c9 => k_is)
    (case k9 => k_is)
    (case a10 => k_is)
    (case l10 => k_is)
    (case c10 => k_is)
    (case k10 => k_is)
    (case a11 => k_is)
    (case l11 => k_is)
    (case c11 => k_is)
    (case k11 => k_is)
    (case a12 => k_is)
    (case l12 => k_is)
    (case c12 => k_is)
    (case k12 => k_is)
    (case a13 => k_is)
    (case l13 => k_is)
    (case c13 => k_is)
    (case k13 => k_is)
    (case a14 => k_is)
    (case l14 => k_is)
    (case c14 => k_is)
    (case k14 => k_is)
    (case a15 => k_is)
    (case l15 => k_is)
    (case c15 => k_is)
    (case k15 => k_is)
    (case a16 => k_is)
    (case l16 => k_is)
    (case c16 => k_is)
    (case k16 => k_is)
    (case a17 => k_is)
    (case l17 => k_is)
    (case c17 => k_is)
    (case k17 => k_is)
    (case a18 => k_is)
    (case l18 => k_is)
    (case c18 => k_is)
    (case k18 => k_is)
    (case a19 => k_is)
    (case l19 => k_is)
    (case c19 => k_is)
    (case k19 => k_is)
    (case a20 => k_is)
    (case l20 => k_is)
    (case c20 => k_is)
    (case k20 => k_is)
    (case a21 => k_is)
    (case l21 => k_is)
    (case c21 => k_is)
    (case k21 => k_is)
    (case a22 => k_is)
    (case l22 => k_is)
    (case c22 => k_is)
    (case k22 => k_is)
    (case a23 => k_is)
    (case l23 => k_is)
    (case c23 => k_is)
    (case k23 => k_is)
    (case a24 => k_is)
    (case l24 => k_is)
    (case c24 => k_is)
    (case k24 => k_is)
    (case a25 => k_is)
    (case l25 => k_is)
    (case c25 => k_is)
    (case k25 => k_is)
    (case gBadMoves => k_is)
    (case xBadMoves => k_exc)
    (case kBadMoves => k_is)
    (case bBadMoves => k_is)
    (case tBadMoves => k_is)
    (case gBadRow => k_is)
    (case xBadRow => k_exc)
    (case kBadRow => k_is)
    (case bBadRow => k_is)
    (case tBadRow => k_is)
    (case gBadText => k_is)
    (case xBadText => k_exc)
    (case kBadText => k_is)
    (case bBadText => k_is)
    (case tBadText => k_is)
    (case c_FIGURES => k_is)
    (case c_HEAPS => k_is)
    (case c_LONGEST => k_is)
    (case c_MOST_HEAPS => k_is)
    (case c_MOST_MOVES => k_is)
    (case z_ValueError => k_is)
    (case z_all => k_is)
    (case z_bool => k_is)
    (case z_enumerate => k_is)
    (case z_int => k_is)
    (case z_isinstance => k_is)
    (case z_len => k_is)
    (case z_list => k_is)
    (case z_max => k_is)
    (case z_min => k_is)
    (case z_range => k_is)
    (case z_str => k_is)
    (case z_sum => k_is)
    (case z_tuple => k_is)
    (case gBadStanding => k_is)
    (case gBadNumber => k_is)
    (case gBadWeights => k_is)
    (case gBadRound => k_is)
    (case gEndless => k_is)
    (case gNothing => k_is)
    (case gFull => k_is)
    (case gMoveError => k_is)
    (case bME => k_is)
    (case dME => k_is)
    (case tME => k_is)
    (case hnO => k_is)
    (case htO => k_is)
    (case y1BadMoves => k_is)
    (case y2BadMoves => k_is)
    (case y3BadMoves => k_is)
    (case y4BadMoves => k_is)
    (case y5BadMoves => k_is)
    (case y6BadMoves => k_is)
    (case y7BadMoves => kernel_rfl)
    (case wBadMovesBadMoves => kernel_rfl)
    (case wBadMovesBadStanding => kernel_rfl)
    (case wBadMovesBadNumber => kernel_rfl)
    (case wBadMovesBadRow => kernel_rfl)
    (case wBadMovesBadWeights => kernel_rfl)
    (case wBadMovesBadRound => kernel_rfl)
    (case wBadMovesEndless => kernel_rfl)
    (case wBadMovesNothing => kernel_rfl)
    (case wBadMovesFull => kernel_rfl)
    (case wBadMovesBadText => kernel_rfl)
    (case y1BadRow => k_is)
    (case y2BadRow => k_is)
    (case y3BadRow => k_is)
    (case y4BadRow => k_is)
    (case y5BadRow => k_is)
    (case y6BadRow => k_is)
    (case y7BadRow => kernel_rfl)
    (case wBadRowBadMoves => kernel_rfl)
    (case wBadRowBadStanding => kernel_rfl)
    (case wBadRowBadNumber => kernel_rfl)
    (case wBadRowBadRow => kernel_rfl)
    (case wBadRowBadWeights => kernel_rfl)
    (case wBadRowBadRound => kernel_rfl)
    (case wBadRowEndless => kernel_rfl)
    (case wBadRowNothing => kernel_rfl)
    (case wBadRowFull => kernel_rfl)
    (case wBadRowBadText => kernel_rfl)
    (case y1BadText => k_is)
    (case y2BadText => k_is)
    (case y3BadText => k_is)
    (case y4BadText => k_is)
    (case y5BadText => k_is)
    (case y6BadText => k_is)
    (case y7BadText => kernel_rfl)
    (case wBadTextBadMoves => kernel_rfl)
    (case wBadTextBadStanding => kernel_rfl)
    (case wBadTextBadNumber => kernel_rfl)
    (case wBadTextBadRow => kernel_rfl)
    (case wBadTextBadWeights => kernel_rfl)
    (case wBadTextBadRound => kernel_rfl)
    (case wBadTextEndless => kernel_rfl)
    (case wBadTextNothing => kernel_rfl)
    (case wBadTextFull => kernel_rfl)
    (case wBadTextBadText => kernel_rfl)
    (case aT => k_is)
    (case lT => k_is)
    (case cT => k_is)
    (case kT => k_is)
    (case aM => k_is)
    (case lM => k_is)
    (case cM => k_is)
    (case kM => k_is)
    (case tb => kernel_rfl)
    (case nP => kernel_rfl)
    (case hC => kernel_rfl)
    (case hP => exact PySem.W.km_tabs_of Y9 _ (by k_mem))
#print axioms PySem.Challenge.cw_spentheaps_k22_whole_texts_holds
