import PyProof.Rows.All
import Wide.All
import OpenK.AllK
import Wide.FinOn
import PyProof.EqLayable
import HandS.ForMost
import HandS.Exc
import HandS.ExcOwn
import HandS.TryOnly
import HandS.WordsExc
import HandS.Zip
import HandS.Walk
import HandS.IsInst
import HandS.TupAny
import HandS.TupMul
import HandS.Wide
import HandS.EndTab
import HandS.Lambda
import HandS.Evl
import HandS.ExcCtx
import HandS.HotCalls
import HandS.ExcIs
import HandS.TupLe
import KE.KTupSum
import KE.GoesEnum
import KE.GoesMore
import HandS.Style
import KE.DataEq
import KE.DataFind
import KE.SortData
import HandS.EndBits
import PySem.Challenge.RW_spentheaps_k18_whole_cuts
section
set_option Elab.async false
set_option linter.all false
/-! Sem: a plain reading of Python's defs as functions over data and a store. -/
namespace Y
open PySem (PyData Str)
abbrev D := PyData
/-- a value: data that never changes, the k-th object of the store, or the script -/
inductive Val where
  | d (x : D)
  | o (k : Nat)
  | s (ns : List Int)
/-- an object that may change -/
inductive Ob where
  | lst (xs : List Val)
  | ins (C : Nat) (fs : List (Str × Val))
  | gone
  | tup (xs : List Val)
  | dct (kvs : List (List Int × D))
abbrev Store := List Ob
abbrev Loc := List (Option Val)
/-- a result: a value, an exception of the c-th class, or nothing is said -/
inductive R (α : Type) where
  | ok (a : α) (st : Store)
  | ex (c : Nat) (st : Store)
  | bad
abbrev M (α : Type) := Store → R α
def ret {α : Type} (a : α) : M α := fun st => .ok a st
def die {α : Type} : M α := fun _ => .bad
def thr {α : Type} (c : Nat) : M α := fun st => .ex c st
def bd {α β : Type} (m : M α) (f : α → M β) : M β := fun st => match m st with
  | .ok a s => f a s
  | .ex c s => .ex c s
  | .bad => .bad
/-- an exception is not allowed here -/
def noex {α : Type} (m : M α) : M α := fun st => match m st with
  | .ok a s => .ok a s
  | _ => .bad
def lim : Nat := 100000
/-! ### expressions -/
abbrev E := Loc → M Val
abbrev A := Loc → M (List Val)
abbrev Tst := Loc → M Bool
def eV (i : Nat) : E := fun loc => match loc[i]? with
  | some (some v) => ret v
  | _ => die
def eC (x : D) : E := fun _ => ret (.d x)
def eO (op : Val → Val → M Val) (a b : E) : E := fun loc => bd (a loc) fun x => bd (b loc) fun y => op x y
def eU (op : Val → M Val) (a : E) : E := fun loc => bd (a loc) op
def aN : A := fun _ => ret []
def aC (e : E) (as : A) : A := fun loc => bd (e loc) fun x => bd (as loc) fun xs => ret (x :: xs)
def eB (b : List Val → M Val) (as : A) : E := fun loc => bd (as loc) b
def toDs : List Val → Option (List D)
  | [] => some []
  | .d x :: r => (toDs r).map (x :: ·)
  | _ :: _ => none
def bTup (vs : List Val) : M Val := match toDs vs with
  | some ds => if ds.length ≤ lim then ret (.d (.tuple ds)) else die
  | none => die
def bLst (vs : List Val) : M Val := match toDs vs with
  | some ds => if ds.length ≤ lim then ret (.d (.list ds)) else die
  | none => die
/-- a new list that may change -/
def bNew (vs : List Val) : M Val := fun st => if vs.length ≤ lim then .ok (.o st.length) (st ++ [.lst vs]) else .bad
def asB : Val → M Bool
  | .d (.bool b) => ret b
  | _ => die
def vB (b : Bool) : Val := .d (.bool b)
def vI (i : Int) : Val := .d (.int i)
/-- tests -/
def tV (e : E) : Tst := fun loc => bd (e loc) asB
def tAn (t u : Tst) : Tst := fun loc => bd (t loc) fun b => if b = true then u loc else ret false
def tOrr (t u : Tst) : Tst := fun loc => bd (t loc) fun b => if b = true then ret true else u loc
def tNo (t : Tst) : Tst := fun loc => bd (t loc) fun b => ret (!b)
def tTr : Tst := fun _ => ret true
def eAn (a b : E) : E := fun loc => bd (a loc) fun v => bd (asB v) fun c => if c = true then b loc else ret (vB false)
def eOr (a b : E) : E := fun loc => bd (a loc) fun v => bd (asB v) fun c => if c = true then ret (vB true) else b loc
def eNo (a : E) : E := fun loc => bd (a loc) fun v => bd (asB v) fun c => ret (vB (!c))
def eIf (t : Tst) (a b : E) : E := fun loc => bd (t loc) fun c => if c = true then a loc else b loc
/-- a < b < c -/
def eCh (o1 o2 : Val → Val → M Val) (a b c : E) : E := fun loc => bd (a loc) fun x => bd (b loc) fun y => bd (o1 x y) fun r => bd (asB r) fun k => if k = true then bd (c loc) fun z => o2 y z else ret (vB false)
/-! ### what is walked -/
abbrev I := Loc → M (List Val)
def seqOf : Val → M (List D)
  | .d (.list ds) => ret ds
  | .d (.tuple ds) => ret ds
  | _ => die
def iSeq (e : E) : I := fun loc => bd (e loc) fun v => bd (seqOf v) fun ds => ret (ds.map .d)
def asI : Val → M Int
  | .d (.int i) => ret i
  | _ => die
/-- a call of range, zip, enumerate is walked -/
def iCall (k : List Val → M (List Val)) (as : A) : I := fun loc => bd (as loc) k
def rng (lo : Int) (n : Nat) : List Val := (List.range n).map fun (i : Nat) => vI (lo + (i : Int))
def kRg1 : List Val → M (List Val)
  | [.d (.int n)] => if -1000000 ≤ n ∧ n ≤ 1000000 then ret (rng 0 n.toNat) else die
  | _ => die
def kRg2 : List Val → M (List Val)
  | [.d (.int m), .d (.int n)] => if -1000000 ≤ m ∧ m ≤ 1000000 ∧ -1000000 ≤ n ∧ n ≤ 1000000 then ret (rng m (n - m).toNat) else die
  | _ => die
def zip2 : List D → List D → List Val
  | x :: xs, y :: ys => .d (.tuple [x, y]) :: zip2 xs ys
  | _, _ => []
def zip3 : List D → List D → List D → List Val
  | x :: xs, y :: ys, z :: zs => .d (.tuple [x, y, z]) :: zip3 xs ys zs
  | _, _, _ => []
def kZip2 : List Val → M (List Val)
  | [v, w] => bd (seqOf v) fun xs => bd (seqOf w) fun ys => ret (zip2 xs ys)
  | _ => die
def kZip3 : List Val → M (List Val)
  | [v, w, u] => bd (seqOf v) fun xs => bd (seqOf w) fun ys => bd (seqOf u) fun zs => ret (zip3 xs ys zs)
  | _ => die
def enumF (n : Nat) : List D → List Val
  | [] => []
  | x :: xs => .d (.tuple [.int (n : Int), x]) :: enumF (n + 1) xs
def kEnum : List Val → M (List Val)
  | [v] => bd (seqOf v) fun ds => ret (enumF 0 ds)
  | _ => die
def kEnumL : List Val → M (List Val)
  | [.d (.list ds)] => ret (enumF 0 ds)
  | _ => die
/-! ### targets -/
abbrev G := Val → Loc → M Loc
def gN (i : Nat) : G := fun v loc => ret (loc.set i (some v))
abbrev Gs := List Val → Loc → M Loc
def gsN : Gs := fun vs loc => match vs with
  | [] => ret loc
  | _ => die
def gsC (g : G) (gs : Gs) : Gs := fun vs loc => match vs with
  | v :: r => bd (g v loc) fun l => gs r l
  | [] => die
def gT (n : Nat) (gs : Gs) : G := fun v loc => match v with
  | .d (.tuple ds) => if ds.length = n then gs (ds.map .d) loc else die
  | _ => die
/-! ### comprehensions -/
def wip (loc : Loc) : List Nat → Loc
  | [] => loc
  | v :: vs => (wip loc vs).set v none
def consO : Option Val → List Val → List Val
  | some y, ys => y :: ys
  | none, ys => ys
def compL (body : Val → M (Option Val)) : List Val → M (List Val)
  | [] => ret []
  | x :: xs => bd (body x) fun o => bd (compL body xs) fun ys => ret (consO o ys)
def cBody (g : G) (t : Tst) (e : E) (loc : Loc) (x : Val) : M (Option Val) :=
  bd (g x loc) fun l => bd (t l) fun b => if b = true then bd (e l) fun y => ret (some y) else ret none
def eLc (it : I) (g : G) (t : Tst) (e : E) (vs : List Nat) : E := fun loc => bd (it loc) fun xs => if xs.length ≤ lim then bd (noex (compL (cBody g t e (wip loc vs)) xs)) bLst else die
/-- .. whose list may change -/
def eLcN (it : I) (g : G) (t : Tst) (e : E) (vs : List Nat) : E := fun loc => bd (it loc) fun xs => if xs.length ≤ lim then bd (noex (compL (cBody g t e (wip loc vs)) xs)) bNew else die
/-! ### statements -/
inductive Fl where
  | nx | rt (v : Val) | bk | ct
abbrev S := Loc → M (Fl × Loc)
def sNil : S := fun loc => ret (.nx, loc)
def sSeq (a b : S) : S := fun loc => bd (a loc) fun r => match r.1 with
  | .nx => b r.2
  | _ => ret r
def sRet (e : E) : S := fun loc => bd (e loc) fun v => ret (.rt v, loc)
def sAsg (e : E) (g : G) : S := fun loc => bd (e loc) fun v => bd (g v loc) fun l => ret (.nx, l)
def sExp (e : E) : S := fun loc => bd (e loc) fun _ => ret (.nx, loc)
def sIf (t : Tst) (a b : S) : S := fun loc => bd (t loc) fun c => if c = true then a loc else b loc
def sRaise (c : Nat) : S := fun _ => thr c
def sBrk : S := fun loc => ret (.bk, loc)
def sCnt : S := fun loc => ret (.ct, loc)
/-- a, b = e, f -/
def sPar (i j : Nat) (a b : E) : S := fun loc => bd (a loc) fun v => bd (b loc) fun w => ret (.nx, (loc.set i (some v)).set j (some w))
def forL (body : Val → S) : List Val → S
  | [] => fun loc => ret (.nx, loc)
  | x :: xs => fun loc => bd (body x loc) fun r => match r.1 with
    | .nx => forL body xs r.2
    | .ct => forL body xs r.2
    | .bk => ret (.nx, r.2)
    | .rt v => ret (.rt v, r.2)
def fBody (g : G) (b : S) (x : Val) : S := fun loc => bd (g x loc) b
def sFor (it : I) (g : G) (b : S) : S := fun loc => bd (it loc) fun xs => forL (fBody g b) xs loc
open Classical in
/-- a loop over a list of the store that the body leaves as it is -/
noncomputable def forO (k : Nat) (xs0 : List Val) (body : Val → S) : List Val → S
  | [] => fun loc st => if st[k]? = some (.lst xs0) then .ok (.nx, loc) st else .bad
  | x :: xs => fun loc st => if st[k]? = some (.lst xs0) then (bd (body x loc) fun r => match r.1 with
    | .nx => forO k xs0 body xs r.2
    | .ct => forO k xs0 body xs r.2
    | .bk => ret (.nx, r.2)
    | .rt v => ret (.rt v, r.2)) st else .bad
def getL : Val → M (Nat × List Val)
  | .o k => fun st => match st[k]? with
    | some (.lst xs) => .ok (k, xs) st
    | _ => .bad
  | _ => die
noncomputable def sForO (e : E) (g : G) (b : S) : S := fun loc => bd (e loc) fun v => bd (getL v) fun p => forO p.1 p.2 (fBody g b) p.2 loc
def whl (t : Tst) (b : S) : Nat → S
  | 0 => fun _ => die
  | n + 1 => fun loc => bd (t loc) fun c => if c = true then bd (b loc) fun r => match r.1 with
      | .nx => whl t b n r.2
      | .ct => whl t b n r.2
      | .bk => ret (.nx, r.2)
      | .rt v => ret (.rt v, r.2)
    else ret (.nx, loc)
open Classical in
noncomputable def sWhile (t : Tst) (b : S) : S := fun loc st =>
  if h : ∃ n, whl t b n loc st ≠ .bad then whl t b h.choose loc st else .bad
/-! ### defs -/
def runF (n : Nat) (b : S) : List Val → M Val := fun args =>
  bd (b (args.map some ++ List.replicate (n - args.length) none)) fun r => match r.1 with
    | .rt v => ret v
    | .nx => ret (.d .none)
    | _ => die
/-- f at n arguments, nothing else -/
def fixN (n : Nat) (f : List Val → M Val) : List Val → M Val := fun as => if as.length = n then f as else die
/-! ### operators and built-ins -/
def mulOk (i j : Int) : Bool := decide (i.natAbs < 2 ^ 64) || decide (j.natAbs < 2 ^ 64) || decide (i.natAbs.log2 + j.natAbs.log2 < 1000000)
def bAdd : Val → Val → M Val
  | .d (.int i), .d (.int j) => ret (vI (i + j))
  | .d (.list xs), .d (.list ys) => if xs.length + ys.length ≤ lim then ret (.d (.list (xs ++ ys))) else die
  | .d (.tuple xs), .d (.tuple ys) => if xs.length + ys.length ≤ lim then ret (.d (.tuple (xs ++ ys))) else die
  | .d (.str x), .d (.str y) => if x.length + y.length ≤ lim then ret (.d (.str (x ++ y))) else die
  | _, _ => die
def bSub : Val → Val → M Val
  | .d (.int i), .d (.int j) => ret (vI (i - j))
  | _, _ => die
def repD (k : Int) (xs : List D) : List D := (List.replicate k.toNat xs).flatten
def bMul : Val → Val → M Val
  | .d (.int i), .d (.int j) => if mulOk i j = true then ret (vI (i * j)) else die
  | .d (.list xs), .d (.int k) => if -1000 ≤ k ∧ k ≤ 1000 ∧ xs.length ≤ 1000 then ret (.d (.list (repD k xs))) else die
  | .d (.tuple xs), .d (.int k) => if 1 ≤ k ∧ k ≤ 1000 ∧ 1 ≤ xs.length ∧ xs.length ≤ 1000 then ret (.d (.tuple (repD k xs))) else die
  | _, _ => die
def bDiv : Val → Val → M Val
  | .d (.int i), .d (.int j) => if 0 < j ∧ j.natAbs.log2 < 9000 then ret (vI (i / j)) else die
  | _, _ => die
def bMod : Val → Val → M Val
  | .d (.int i), .d (.int j) => if 0 < j then ret (vI (i % j)) else die
  | _, _ => die
def bPow : Val → Val → M Val
  | .d (.int i), .d (.int j) => if 0 ≤ j ∧ j ≤ 1000000 ∧ i.natAbs < 2 ^ 64 then ret (vI (i ^ j.toNat)) else die
  | _, _ => die
def bNeg : Val → M Val
  | .d (.int i) => ret (vI (-i))
  | _ => die
def bCmp (p : Int → Int → Bool) : Val → Val → M Val
  | .d (.int i), .d (.int j) => ret (vB (p i j))
  | _, _ => die
def bLt : Val → Val → M Val := bCmp fun i j => decide (i < j)
def bLe : Val → Val → M Val := bCmp fun i j => decide (i ≤ j)
def bGt : Val → Val → M Val := bCmp fun i j => decide (j < i)
def bGe : Val → Val → M Val := bCmp fun i j => decide (j ≤ i)
def intsD (ns : List Int) : List D := ns.map PyData.int
/-- what a value is as data, now -/
def snap : Val → M D
  | .d x => ret x
  | .s ns => ret (.list (intsD ns))
  | .o k => fun st => match st[k]? with
    | some (.lst xs) => (match toDs xs with
      | some ds => .ok (.list ds) st
      | none => .bad)
    | _ => .bad
def eqD (x y : D) : M Bool := if PySem.SeqAt.shaped x = true ∧ PySem.SeqAt.shaped y = true then ret (PyData.eqv x y) else die
def bEq (a b : Val) : M Val := bd (snap a) fun x => bd (snap b) fun y => bd (eqD x y) fun r => ret (vB r)
def bNe (a b : Val) : M Val := bd (snap a) fun x => bd (snap b) fun y => bd (eqD x y) fun r => ret (vB (!r))
def isN : Val → Bool
  | .d .none => true
  | _ => false
def bIsN (a : Val) : M Val := ret (vB (isN a))
def bNotN (a : Val) : M Val := ret (vB (!isN a))
def ixN (n : Nat) (i : Int) : Option Nat := if 0 ≤ i then (if i < n then some i.toNat else none) else if -(n : Int) ≤ i then some (i + n).toNat else none
def atI {α : Type} (xs : List α) (i : Int) : Option α := (ixN xs.length i).bind fun j => xs[j]?
def oget {α : Type} : Option α → M α
  | some a => ret a
  | none => die
def bIx : Val → Val → M Val
  | .d (.list xs), .d (.int i) => bd (oget (atI xs i)) fun x => ret (.d x)
  | .d (.tuple xs), .d (.int i) => bd (oget (atI xs i)) fun x => ret (.d x)
  | .s ns, .d (.int i) => bd (oget (atI ns i)) fun x => ret (vI x)
  | .o k, .d (.int i) => fun st => match st[k]? with
    | some (.lst xs) => (bd (oget (atI xs i)) ret) st
    | _ => .bad
  | _, _ => die
def bLen : List Val → M Val
  | [.d (.list xs)] => ret (vI xs.length)
  | [.d (.tuple xs)] => ret (vI xs.length)
  | [.s ns] => ret (vI ns.length)
  | [.o k] => fun st => match st[k]? with
    | some (.lst xs) => .ok (vI xs.length) st
    | _ => .bad
  | _ => die
def isTy (T : String) : D → Bool
  | .none => false
  | .bool _ => T == "int" || T == "bool"
  | .int _ => T == "int"
  | .str _ => T == "str"
  | .list _ => T == "list"
  | .tuple _ => T == "tuple"
  | .dict _ => T == "dict"
def bIsi (T : String) : Val → M Val
  | .d (.dict _) => die
  | .d x => ret (vB (isTy T x))
  | _ => die
def toBs : List D → Option (List Bool)
  | [] => some []
  | .bool b :: r => (toBs r).map (b :: ·)
  | _ :: _ => none
def toIs : List D → Option (List Int)
  | [] => some []
  | .int i :: r => (toIs r).map (i :: ·)
  | _ :: _ => none
def bAll : List Val → M Val
  | [.d (.list ds)] => bd (oget (toBs ds)) fun bs => ret (vB (bs.all id))
  | _ => die
def bAny : List Val → M Val
  | [.d (.list ds)] => bd (oget (toBs ds)) fun bs => ret (vB (bs.any id))
  | _ => die
def bSum : List Val → M Val
  | [.d (.list ds)] => bd (oget (toIs ds)) fun ns => ret (vI ns.sum)
  | _ => die
def bTuple : List Val → M Val
  | [.d (.list ds)] => ret (.d (.tuple ds))
  | [.d (.tuple ds)] => ret (.d (.tuple ds))
  | [.o k] => fun st => match st[k]? with
    | some (.lst xs) => (match toDs xs with
      | some ds => .ok (.d (.tuple ds)) st
      | none => .bad)
    | _ => .bad
  | _ => die
def bMax2 : List Val → M Val
  | [.d (.int i), .d (.int j)] => ret (vI (if j > i then j else i))
  | _ => die
def bMin2 : List Val → M Val
  | [.d (.int i), .d (.int j)] => ret (vI (if j < i then j else i))
  | _ => die
def sIx (n d : Nat) : Option Int → Nat
  | none => d
  | some v => if v < 0 then (v + n).toNat else min v.toNat n
def cutD (xs : List D) (lo hi : Option Int) : List D := (xs.drop (sIx xs.length 0 lo)).take (sIx xs.length xs.length hi - sIx xs.length 0 lo)
abbrev Oe := Loc → M (Option Int)
def oN : Oe := fun _ => ret none
def oS (e : E) : Oe := fun loc => bd (e loc) fun v => bd (asI v) fun i => ret (some i)
def bSl (v : Val) (lo hi : Option Int) : M Val := match v with
  | .d (.tuple xs) => ret (.d (.tuple (cutD xs lo hi)))
  | .d (.list xs) => ret (.d (.list (cutD xs lo hi)))
  | _ => die
def eSl (e : E) (lo hi : Oe) : E := fun loc => bd (e loc) fun v => bd (lo loc) fun l => bd (hi loc) fun h => bSl v l h
/-- o[i] = v on an object of the store -/
def gSub (o i : E) : G := fun v loc => bd (o loc) fun x => bd (i loc) fun y => match x, y with
  | .o k, .d (.int j) => fun st => match st[k]? with
    | some (.lst xs) => (match ixN xs.length j with
      | some m => .ok loc (st.set k (.lst (xs.set m v)))
      | none => .bad)
    | _ => .bad
  | _, _ => die
/-- o.append(e) -/
def chkL : Val → M Nat
  | .o k => fun st => match st[k]? with
    | some (.lst _) => .ok k st
    | _ => .bad
  | _ => die
def appS (k : Nat) (v : Val) : M Val := fun st => match st[k]? with
  | some (.lst xs) => if xs.length < lim then .ok (.d .none) (st.set k (.lst (xs ++ [v]))) else .bad
  | _ => .bad
def eApp (o e : E) : E := fun loc => bd (o loc) fun x => bd (chkL x) fun k => bd (e loc) fun v => appS k v
/-! ### refusals told -/
def kindN (c : Nat) : PySem.Str := (["BadMoves", "BadStanding", "BadNumber", "BadRow", "BadWeights", "BadRound", "Endless", "Nothing", "Full", "BadText"] : List PySem.Str).getD (c - 1) "other"
def eTold (cs : List Nat) (f : E) : E := fun loc st => match f loc st with
  | .ok v st' => .ok v st'
  | .ex c st' => if c ∈ cs then .ok (.d (.tuple [.str "refused", .str (kindN c)])) st' else .bad
  | .bad => .bad
end Y
end
section
set_option Elab.async false
set_option Elab.async false
set_option linter.all false
set_option maxRecDepth 100000
set_option maxHeartbeats 1000000
/-! Snd: the functions of Sem, lifted to the hand layer's readings. -/
namespace Y
open PySem PySem.Spec PyProof.Rows L2
/-- what is fixed: the written part, the tables of code objects, the addresses of the errors' classes and of the instances' classes -/
structure Glo where
  K : PySem.W.Frag
  T : List (Addr × Str)
  cl : Nat → Addr
  ic : Nat → Addr
mutual
inductive Dt (F : Hp) : V → D → Prop
  | non : Dt F .non .none
  | bl (b : Bool) : Dt F (.bl b) (.bool b)
  | int (i : Int) : Dt F (.int i) (.int i)
  | str (x : Str) : Dt F (.str x) (.str x)
  | lst {a : Addr} {xs : List V} {ds : List D} : F a = some (.lst xs) → DtA F xs ds → Dt F (.ref a) (.list ds)
  | tup {a : Addr} {xs : List V} {ds : List D} : F a = some (.tup xs) → DtA F xs ds → Dt F (.ref a) (.tuple ds)
inductive DtA (F : Hp) : List V → List D → Prop
  | nil : DtA F [] []
  | cons {v : V} {vs : List V} {d : D} {ds : List D} : Dt F v d → DtA F vs ds → DtA F (v :: vs) (d :: ds)
end
abbrev Exn (F F' : Hp) : Prop := ∀ a o, F a = some o → F' a = some o
mutual
theorem Dt.mono {F F' : Hp} (e : Exn F F') : ∀ {v : V} {d : D}, Dt F v d → Dt F' v d
  | _, _, .non => .non
  | _, _, .bl b => .bl b
  | _, _, .int i => .int i
  | _, _, .str x => .str x
  | _, _, .lst h k => .lst (e _ _ h) (DtA.mono e k)
  | _, _, .tup h k => .tup (e _ _ h) (DtA.mono e k)
theorem DtA.mono {F F' : Hp} (e : Exn F F') : ∀ {v : List V} {d : List D}, DtA F v d → DtA F' v d
  | _, _, .nil => .nil
  | _, _, .cons h k => .cons (Dt.mono e h) (DtA.mono e k)
end
mutual
theorem Dt.dp {K : PySem.W.Frag} {F : Hp} : ∀ {v : V} {d : D}, Dt F v d → Dp K F v d
  | _, _, .non => .non
  | _, _, .bl b => .bl b
  | _, _, .int i => .int i
  | _, _, .str x => .str x
  | _, _, .lst h k => .lst (SqL.of h) (DtA.dp k)
  | _, _, .tup h k => .tup (SqT.of h) (DtA.dp k)
theorem DtA.dp {K : PySem.W.Frag} {F : Hp} : ∀ {v : List V} {d : List D}, DtA F v d → DpAll K F v d
  | _, _, .nil => .nil
  | _, _, .cons h k => .cons (Dt.dp h) (DtA.dp k)
end
theorem DtA.length {F : Hp} : ∀ {v : List V} {d : List D}, DtA F v d → v.length = d.length
  | _, _, .nil => rfl
  | _, _, .cons _ k => by rw [List.length_cons, List.length_cons, k.length]
theorem DtA.get {F : Hp} : ∀ {v : List V} {d : List D} {i : Nat} {x : D}, DtA F v d → d[i]? = some x → ∃ u, v[i]? = some u ∧ Dt F u x
  | _, _, _, _, .nil, e => by simp at e
  | _, _, 0, _, .cons h _, e => by simp at e; subst e; exact ⟨_, rfl, h⟩
  | _, _, i + 1, x, .cons _ k, e => by
    obtain ⟨u, h1, h2⟩ := DtA.get (i := i) (x := x) k (by simpa using e)
    exact ⟨u, by simpa using h1, h2⟩
theorem DtA.get' {F : Hp} {v : List V} {d : List D} {i : Nat} {u : V} (h : DtA F v d) (e : v[i]? = some u) : ∃ x, d[i]? = some x ∧ Dt F u x := by
  have hl := h.length
  have hi : i < v.length := (List.getElem?_eq_some_iff.mp e).1
  have hd : d[i]? = some (d[i]'(by omega)) := List.getElem?_eq_getElem (by omega)
  obtain ⟨u', h1, h2⟩ := h.get hd
  rw [e] at h1
  cases h1
  exact ⟨_, hd, h2⟩
theorem DtA.append {F : Hp} : ∀ {v w : List V} {d e : List D}, DtA F v d → DtA F w e → DtA F (v ++ w) (d ++ e)
  | _, _, _, _, .nil, s => s
  | _, _, _, _, .cons h k, s => .cons h (DtA.append k s)
theorem DtA.take {F : Hp} : ∀ {v : List V} {d : List D} (n : Nat), DtA F v d → DtA F (v.take n) (d.take n)
  | _, _, 0, _ => .nil
  | _, _, _ + 1, .nil => .nil
  | _, _, n + 1, .cons h k => .cons h (DtA.take n k)
theorem DtA.drop {F : Hp} : ∀ {v : List V} {d : List D} (n : Nat), DtA F v d → DtA F (v.drop n) (d.drop n)
  | _, _, 0, h => h
  | _, _, _ + 1, .nil => .nil
  | _, _, n + 1, .cons _ k => DtA.drop n k
theorem DtA.rep {F : Hp} {v : List V} {d : List D} (h : DtA F v d) : ∀ n : Nat, DtA F (List.replicate n v).flatten (List.replicate n d).flatten
  | 0 => .nil
  | n + 1 => by
    rw [List.replicate_succ, List.replicate_succ, List.flatten_cons, List.flatten_cons]
    exact h.append (DtA.rep h n)
/-! ### values, stores -/
def VR (G : Glo) (F : Hp) (ρ : List Addr) (v : V) : Val → Prop
  | .d x => Dt F v x
  | .o k => ∃ a, ρ[k]? = some a ∧ v = .ref a
  | .s ns => ∃ a, v = .ref a ∧ SqL G.K F a (ns.map V.int)
def VRs (G : Glo) (F : Hp) (ρ : List Addr) : List V → List Val → Prop := Paired (VR G F ρ)
def OR (G : Glo) (F : Hp) (ρ : List Addr) (h : HO) : Ob → Prop
  | .lst xs => ∃ vs, h = .lst vs ∧ VRs G F ρ vs xs
  | .ins C fs => ∃ dx fv, h = .ins (G.ic C) dx fv ∧ Paired (fun (p : Str × V) (q : Str × Val) => p.1 = q.1 ∧ VR G F ρ p.2 q.2) fv fs
  | .gone => ∃ vs, h = .lst vs
  | .tup xs => ∃ vs, h = .tup vs ∧ VRs G F ρ vs xs
  | .dct kvs => ∃ us, h = .dT us ∧ Paired (fun (p : List Key × V) (q : List Int × D) => p.1 = q.1.map Sum.inl ∧ Dt F p.2 q.2) us kvs
/-- S: what else stands there and is not to change; F: the data; ρ: where the store's objects are -/
structure Rep (G : Glo) (S F : Hp) (ρ : List Addr) (H : Hp) (st : Store) : Prop where
  sd : ∀ (a : Addr) (o : HO), S a = some o → H a = some o ∧ F a = none ∧ a ∉ ρ ∧ ∀ ps, o ≠ .tbl ps
  ex : ∀ (a : Addr) (o : HO), F a = some o → H a = some o
  nt : ∀ (a : Addr) (ps : Array Value), F a ≠ some (.tbl ps)
  len : ρ.length = st.length
  nd : ρ.Nodup
  own : ∀ (k : Nat) (ob : Ob), st[k]? = some ob → ∃ a h, ρ[k]? = some a ∧ (ob = .gone ∨ F a = none) ∧ H a = some h ∧ OR G F ρ h ob
  tab : LamX.Tabs G.T H
structure Gr (F : Hp) (ρ : List Addr) (F' : Hp) (ρ' : List Addr) : Prop where
  f : Exn F F'
  r : ∃ l, ρ' = ρ ++ l
theorem Gr.refl {F : Hp} {ρ : List Addr} : Gr F ρ F ρ := ⟨fun _ _ h => h, [], by simp⟩
theorem Gr.trans {F F1 F2 : Hp} {ρ ρ1 ρ2 : List Addr} (a : Gr F ρ F1 ρ1) (b : Gr F1 ρ1 F2 ρ2) : Gr F ρ F2 ρ2 := by
  obtain ⟨l, e⟩ := a.r
  obtain ⟨l', e'⟩ := b.r
  exact ⟨fun x o h => b.f x o (a.f x o h), l ++ l', by rw [e', e, List.append_assoc]⟩
theorem Gr.get {F F' : Hp} {ρ ρ' : List Addr} (g : Gr F ρ F' ρ') {k : Nat} {a : Addr} (h : ρ[k]? = some a) : ρ'[k]? = some a := by
  obtain ⟨l, e⟩ := g.r
  have hk : k < ρ.length := (List.getElem?_eq_some_iff.mp h).1
  rw [e, List.getElem?_append_left hk]
  exact h
theorem VR.mono {G : Glo} {F F' : Hp} {ρ ρ' : List Addr} (g : Gr F ρ F' ρ') {v : V} : ∀ {x : Val}, VR G F ρ v x → VR G F' ρ' v x
  | .d _, h => Dt.mono g.f h
  | .o _, ⟨a, h, e⟩ => ⟨a, g.get h, e⟩
  | .s _, ⟨a, e, h⟩ => ⟨a, e, Evl.ex_l g.f h⟩
theorem VRs.mono {G : Glo} {F F' : Hp} {ρ ρ' : List Addr} (g : Gr F ρ F' ρ') {v : List V} {x : List Val} (h : VRs G F ρ v x) : VRs G F' ρ' v x := Paired.mapP h fun _ _ q => q.mono g
theorem OR.mono {G : Glo} {F F' : Hp} {ρ ρ' : List Addr} (g : Gr F ρ F' ρ') {h : HO} : ∀ {x : Ob}, OR G F ρ h x → OR G F' ρ' h x
  | .lst _, ⟨vs, e, q⟩ => ⟨vs, e, q.mono g⟩
  | .ins _ _, ⟨dx, fv, e, q⟩ => ⟨dx, fv, e, Paired.mapP q fun _ _ z => ⟨z.1, z.2.mono g⟩⟩
  | .gone, z => z
  | .tup _, ⟨vs, e, q⟩ => ⟨vs, e, q.mono g⟩
  | .dct _, ⟨us, e, q⟩ => ⟨us, e, Paired.mapP q fun _ _ z => ⟨z.1, z.2.mono g.f⟩⟩
theorem VRs.length {G : Glo} {F : Hp} {ρ : List Addr} {v : List V} {x : List Val} (h : VRs G F ρ v x) : v.length = x.length := Paired.length h
def LR (G : Glo) (F : Hp) (ρ : List Addr) (σ : L2.St) (loc : Loc) : Prop := σ.length = loc.length ∧ ∀ (i : Nat) (v : Val), loc[i]? = some (some v) → ∃ u, σ[i]? = some (some u) ∧ VR G F ρ u v
theorem LR.mono {G : Glo} {F F' : Hp} {ρ ρ' : List Addr} (g : Gr F ρ F' ρ') {σ : L2.St} {loc : Loc} (h : LR G F ρ σ loc) : LR G F' ρ' σ loc :=
  ⟨h.1, fun i v e => let ⟨u, a, b⟩ := h.2 i v e; ⟨u, a, b.mono g⟩⟩
theorem LR.set {G : Glo} {F : Hp} {ρ : List Addr} {σ : L2.St} {loc : Loc} (h : LR G F ρ σ loc) {u : V} {v : Val} (r : VR G F ρ u v) (i : Nat) : LR G F ρ (σ.set i (some u)) (loc.set i (some v)) := by
  refine ⟨by rw [List.length_set, List.length_set]; exact h.1, fun j w e => ?_⟩
  by_cases hj : i = j
  · subst hj
    rw [List.getElem?_set] at e
    rw [if_pos rfl] at e
    split at e
    · rename_i hlt
      cases e
      refine ⟨u, ?_, r⟩
      rw [List.getElem?_set, if_pos rfl, if_pos (by rw [h.1]; exact hlt)]
    · cases e
  · rw [List.getElem?_set, if_neg hj] at e
    rw [List.getElem?_set, if_neg hj]
    exact h.2 j w e
theorem LR.wip {G : Glo} {F : Hp} {ρ : List Addr} {σ : L2.St} {loc : Loc} (h : LR G F ρ σ loc) : ∀ vs : List Nat, LR G F ρ (L2.wipe σ vs) (Y.wip loc vs)
  | [] => h
  | v :: vs => by
    have ih := LR.wip h vs
    unfold L2.wipe Y.wip
    refine ⟨by rw [List.length_set, List.length_set]; exact ih.1, fun j w e => ?_⟩
    by_cases hj : v = j
    · subst hj
      rw [List.getElem?_set, if_pos rfl] at e
      split at e <;> cases e
    · rw [List.getElem?_set, if_neg hj] at e
      rw [List.getElem?_set, if_neg hj]
      exact ih.2 j w e
/-! ### the heap grows by data -/
theorem fresh_ne {H : Hp} {a p : Addr} {o : HO} (h : H a = some o) (hp : H p = none) : a ≠ p := ne_of_none h hp
theorem Rep.new {G : Glo} {S F : Hp} {ρ : List Addr} {H : Hp} {st : Store} (r : Rep G S F ρ H st) {p : Addr} {o : HO} (hp : H p = none) (ho : ∀ ps, o ≠ .tbl ps) : Rep G S (upd F p o) ρ (upd H p o) st ∧ Gr F ρ (upd F p o) ρ := by
  have fp : F p = none := by
    cases q : F p with
    | none => rfl
    | some u => rw [r.ex p u q] at hp; cases hp
  have g : Gr F ρ (upd F p o) ρ := ⟨fun a u h => by rw [upd_ne (ne_of_none h fp)]; exact h, [], by simp⟩
  refine ⟨⟨fun a u h => ?_, fun a u h => ?_, fun a ps h => ?_, r.len, r.nd, fun k ob e => ?_, r.tab.ext fun b u h => by rw [upd_ne (ne_of_none h hp)]; exact h⟩, g⟩
  · obtain ⟨h1, h2, h3, h4⟩ := r.sd a u h
    have ha : a ≠ p := ne_of_none h1 hp
    exact ⟨by rw [upd_ne ha]; exact h1, by rw [upd_ne ha]; exact h2, h3, h4⟩
  · by_cases ha : a = p
    · subst ha
      rw [upd_same] at h ⊢
      exact h
    · rw [upd_ne ha] at h ⊢
      exact r.ex a u h
  · by_cases ha : a = p
    · subst ha
      rw [upd_same] at h
      exact ho ps (Option.some.inj h)
    · rw [upd_ne ha] at h
      exact r.nt a ps h
  · obtain ⟨a, h, e1, e2, e3, e4⟩ := r.own k ob e
    have ha : a ≠ p := ne_of_none e3 hp
    exact ⟨a, h, e1, e2.imp id (fun z => by rw [upd_ne ha]; exact z), by rw [upd_ne ha]; exact e3, e4.mono g⟩
/-- a new object of the store -/
theorem Rep.push {G : Glo} {S F : Hp} {ρ : List Addr} {H : Hp} {st : Store} (r : Rep G S F ρ H st) {p : Addr} {o : HO} {ob : Ob} (hp : H p = none) (ho : OR G F ρ o ob) : Rep G S F (ρ ++ [p]) (upd H p o) (st ++ [ob]) ∧ Gr F ρ F (ρ ++ [p]) := by
  have fp : F p = none := by
    cases q : F p with
    | none => rfl
    | some u => rw [r.ex p u q] at hp; cases hp
  have g : Gr F ρ F (ρ ++ [p]) := ⟨fun _ _ h => h, [p], rfl⟩
  have np : p ∉ ρ := fun hm => by
    obtain ⟨k, hk⟩ := List.mem_iff_getElem?.mp hm
    have hlt : k < st.length := by rw [← r.len]; exact (List.getElem?_eq_some_iff.mp hk).1
    obtain ⟨a, h, e1, e2, e3, e4⟩ := r.own k st[k] (List.getElem?_eq_getElem hlt)
    rw [hk] at e1
    cases e1
    rw [e3] at hp
    cases hp
  refine ⟨⟨fun a u h => ?_, fun a u h => by rw [upd_ne (ne_of_none h fp)]; exact r.ex a u h, r.nt, by rw [List.length_append, List.length_append, r.len] <;> rfl, ?_, fun k b e => ?_, r.tab.ext fun b u h => by rw [upd_ne (ne_of_none h hp)]; exact h⟩, g⟩
  · obtain ⟨h1, h2, h3, h4⟩ := r.sd a u h
    have ha : a ≠ p := ne_of_none h1 hp
    exact ⟨by rw [upd_ne ha]; exact h1, h2, fun z => (List.mem_append.mp z).elim h3 fun q => ha (by simpa using q), h4⟩
  · refine List.nodup_append.mpr ⟨r.nd, List.nodup_cons.mpr ⟨by simp, List.nodup_nil⟩, fun a ha b hb => ?_⟩
    have e : b = p := by simpa using hb
    subst e
    intro e
    subst e
    exact np ha
  · by_cases hk : k < st.length
    · rw [List.getElem?_append_left hk] at e
      obtain ⟨a, h, e1, e2, e3, e4⟩ := r.own k b e
      exact ⟨a, h, g.get e1, e2, by rw [upd_ne (ne_of_none e3 hp)]; exact e3, e4.mono g⟩
    · rw [List.getElem?_append_right (by omega)] at e
      have hk0 : k - st.length = 0 := by
        have := (List.getElem?_eq_some_iff.mp e).1
        simp at this
        omega
      rw [hk0] at e
      have e' : ob = b := by simpa using e
      subst e'
      have ke : k = st.length := by omega
      subst ke
      refine ⟨p, o, ?_, .inr fp, upd_same, ho.mono g⟩
      rw [List.getElem?_append_right (by rw [r.len]; exact Nat.le_refl _), r.len]
      simp
/-- an object of the store changes -/
theorem Rep.put {G : Glo} {S F : Hp} {ρ : List Addr} {H : Hp} {st : Store} (r : Rep G S F ρ H st) {k : Nat} {a : Addr} {o : HO} {ob ob' : Ob} (hk : st[k]? = some ob) (ha : ρ[k]? = some a) (ho : OR G F ρ o ob') (hnt : ∀ p q, (p, q) ∈ G.T → p ≠ a) (hnc : ∀ c q, H c = some (LamX.CodeO c q) → c ≠ a) (hob : ob ≠ .gone := by intro z; cases z) : Rep G S F ρ (upd H a o) (st.set k ob') := by
  obtain ⟨a', h', e1, e2, e3, e4⟩ := r.own k ob hk
  rw [ha] at e1
  cases e1
  have e2 := e2.resolve_left hob
  have hlt : k < st.length := (List.getElem?_eq_some_iff.mp hk).1
  refine ⟨fun b u h => ?_, fun b u h => by rw [upd_ne (ne_of_none h e2)]; exact r.ex b u h, r.nt, by rw [List.length_set]; exact r.len, r.nd, fun j b e => ?_, fun p hp => ?_⟩
  · obtain ⟨h1, h2, h3, h4⟩ := r.sd b u h
    have hb : b ≠ a := fun z => h3 (by rw [z]; exact List.mem_of_getElem? ha)
    exact ⟨by rw [upd_ne hb]; exact h1, h2, h3, h4⟩
  · by_cases hj : k = j
    · subst hj
      rw [List.getElem?_set_self hlt] at e
      cases e
      exact ⟨a, o, ha, .inr e2, upd_same, ho⟩
    · rw [List.getElem?_set_ne hj] at e
      obtain ⟨c, h, q1, q2, q3, q4⟩ := r.own j b e
      have hc : c ≠ a := fun z => by
        subst z
        obtain ⟨i1, z1⟩ := List.getElem?_eq_some_iff.mp ha
        obtain ⟨i2, z2⟩ := List.getElem?_eq_some_iff.mp q1
        exact hj ((List.getElem_inj r.nd).mp (z1.trans z2.symm))
      exact ⟨c, h, q1, q2, by rw [upd_ne hc]; exact q3, q4⟩
  · obtain ⟨ps, h1, h2, h3⟩ := r.tab p hp
    refine ⟨ps, by rw [upd_ne (hnt p.1 p.2 hp)]; exact h1, h2, fun pos cv hc => ?_⟩
    obtain ⟨c, z1, z2⟩ := h3 pos cv hc
    exact ⟨c, z1, by rw [upd_ne (hnc c p.2 z2)]; exact z2⟩
/-- a thing beside comes, changes, becomes data -/
theorem Rep.side {G : Glo} {S F : Hp} {ρ : List Addr} {H : Hp} {st : Store} (r : Rep G S F ρ H st) {p : Addr} {xs : List V} (hp : H p = none) : Rep G (upd S p (.lst xs)) F ρ (upd H p (.lst xs)) st := by
  have fp : F p = none := by
    cases q : F p with
    | none => rfl
    | some u => rw [r.ex p u q] at hp; cases hp
  have np : p ∉ ρ := fun hm => by
    obtain ⟨k, hk⟩ := List.mem_iff_getElem?.mp hm
    have hlt : k < st.length := by rw [← r.len]; exact (List.getElem?_eq_some_iff.mp hk).1
    obtain ⟨a, h, e1, e2, e3, e4⟩ := r.own k st[k] (List.getElem?_eq_getElem hlt)
    rw [hk] at e1
    cases e1
    rw [e3] at hp
    cases hp
  refine ⟨fun a u h => ?_, fun a u h => by rw [upd_ne (ne_of_none h fp)]; exact r.ex a u h, r.nt, r.len, r.nd, fun k b e => ?_, r.tab.ext fun b u h => by rw [upd_ne (ne_of_none h hp)]; exact h⟩
  · by_cases ha : a = p
    · subst ha
      rw [upd_same] at h ⊢
      exact ⟨h, fp, np, fun ps z => by rw [z] at h; cases h⟩
    · rw [upd_ne ha] at h ⊢
      exact r.sd a u h
  · obtain ⟨a, h, e1, e2, e3, e4⟩ := r.own k b e
    exact ⟨a, h, e1, e2, by rw [upd_ne (ne_of_none e3 hp)]; exact e3, e4⟩
theorem Rep.side2 {G : Glo} {S F : Hp} {ρ : List Addr} {H : Hp} {st : Store} {p : Addr} {xs ys : List V} (r : Rep G (upd S p (.lst xs)) F ρ H st) : Rep G (upd S p (.lst ys)) F ρ (upd H p (.lst ys)) st := by
  obtain ⟨hp, fp, np, _⟩ := r.sd p _ upd_same
  refine ⟨fun a u h => ?_, fun a u h => by rw [upd_ne (ne_of_none h fp)]; exact r.ex a u h, r.nt, r.len, r.nd, fun k b e => ?_, fun q hq => ?_⟩
  · by_cases ha : a = p
    · subst ha
      rw [upd_same] at h ⊢
      exact ⟨h, fp, np, fun ps z => by rw [z] at h; cases h⟩
    · rw [upd_ne ha] at h ⊢
      exact r.sd a u (by rw [upd_ne ha]; exact h)
  · obtain ⟨a, h, e1, e2, e3, e4⟩ := r.own k b e
    have ha : a ≠ p := fun z => np (by rw [← z]; exact List.mem_of_getElem? e1)
    exact ⟨a, h, e1, e2, by rw [upd_ne ha]; exact e3, e4⟩
  · obtain ⟨ps, h1, h2, h3⟩ := r.tab q hq
    have n1 : q.1 ≠ p := fun z => by
      rw [z, hp] at h1
      cases h1
    refine ⟨ps, by rw [upd_ne n1]; exact h1, h2, fun pos cv hc => ?_⟩
    obtain ⟨c, z1, z2⟩ := h3 pos cv hc
    have n2 : c ≠ p := fun z => by
      subst z
      rw [hp] at z2
      cases z2
    exact ⟨c, z1, by rw [upd_ne n2]; exact z2⟩
theorem Rep.data {G : Glo} {S F : Hp} {ρ : List Addr} {H : Hp} {st : Store} {p : Addr} {xs : List V} (r : Rep G (upd S p (.lst xs)) F ρ H st) (hs : S p = none) : Rep G S (upd F p (.lst xs)) ρ H st ∧ Gr F ρ (upd F p (.lst xs)) ρ := by
  obtain ⟨hp, fp, np, _⟩ := r.sd p _ upd_same
  have g : Gr F ρ (upd F p (.lst xs)) ρ := ⟨fun a u h => by rw [upd_ne (ne_of_none h fp)]; exact h, [], by simp⟩
  refine ⟨⟨fun a u h => ?_, fun a u h => ?_, fun a ps h => ?_, r.len, r.nd, fun k b e => ?_, r.tab⟩, g⟩
  · have ha : a ≠ p := ne_of_none h hs
    obtain ⟨h1, h2, h3, h4⟩ := r.sd a u (by rw [upd_ne ha]; exact h)
    exact ⟨h1, by rw [upd_ne ha]; exact h2, h3, h4⟩
  · by_cases ha : a = p
    · subst ha
      rw [upd_same] at h
      rw [hp]
      exact h
    · rw [upd_ne ha] at h
      exact r.ex a u h
  · by_cases ha : a = p
    · subst ha
      rw [upd_same] at h
      cases h
    · rw [upd_ne ha] at h
      exact r.nt a ps h
  · obtain ⟨a, h, e1, e2, e3, e4⟩ := r.own k b e
    have ha : a ≠ p := fun z => np (by rw [← z]; exact List.mem_of_getElem? e1)
    exact ⟨a, h, e1, e2.imp id (fun z => by rw [upd_ne ha]; exact z), e3, e4.mono g⟩
theorem Rep.owned {G : Glo} {S F : Hp} {ρ : List Addr} {H : Hp} {st : Store} {p : Addr} {xs : List V} (r : Rep G (upd S p (.lst xs)) F ρ H st) (hs : S p = none) {ob : Ob} (ho : OR G F ρ (.lst xs) ob) : Rep G S F (ρ ++ [p]) H (st ++ [ob]) ∧ Gr F ρ F (ρ ++ [p]) := by
  obtain ⟨hp, fp, np, _⟩ := r.sd p _ upd_same
  have g : Gr F ρ F (ρ ++ [p]) := ⟨fun _ _ h => h, [p], rfl⟩
  refine ⟨⟨fun a u h => ?_, r.ex, r.nt, by rw [List.length_append, List.length_append, r.len] <;> rfl, ?_, fun k b e => ?_, r.tab⟩, g⟩
  · have ha : a ≠ p := ne_of_none h hs
    obtain ⟨h1, h2, h3, h4⟩ := r.sd a u (by rw [upd_ne ha]; exact h)
    exact ⟨h1, h2, fun z => (List.mem_append.mp z).elim h3 fun q => ha (by simpa using q), h4⟩
  · refine List.nodup_append.mpr ⟨r.nd, List.nodup_cons.mpr ⟨by simp, List.nodup_nil⟩, fun a ha b hb => ?_⟩
    have e : b = p := by simpa using hb
    subst e
    intro e
    subst e
    exact np ha
  · by_cases hk : k < st.length
    · rw [List.getElem?_append_left hk] at e
      obtain ⟨a, h, e1, e2, e3, e4⟩ := r.own k b e
      exact ⟨a, h, g.get e1, e2, e3, e4.mono g⟩
    · rw [List.getElem?_append_right (by omega)] at e
      have hk0 : k - st.length = 0 := by
        have := (List.getElem?_eq_some_iff.mp e).1
        simp at this
        omega
      rw [hk0] at e
      have e' : ob = b := by simpa using e
      subst e'
      have ke : k = st.length := by omega
      subst ke
      refine ⟨p, _, ?_, .inr fp, hp, ho.mono g⟩
      rw [List.getElem?_append_right (by rw [r.len]; exact Nat.le_refl _), r.len]
      simp
/-- where the object is a list or an instance no table and no code object stands -/
def Plain : HO → Prop
  | .lst _ => True
  | .ins _ _ _ => True
  | _ => False
theorem Rep.put' {G : Glo} {S F : Hp} {ρ : List Addr} {H : Hp} {st : Store} (r : Rep G S F ρ H st) {k : Nat} {a : Addr} {h o : HO} {ob ob' : Ob} (hk : st[k]? = some ob) (ha : ρ[k]? = some a) (hh : H a = some h) (hp : Plain h) (ho : OR G F ρ o ob') (hob : ob ≠ .gone := by intro z; cases z) : Rep G S F ρ (upd H a o) (st.set k ob') := by
  refine r.put hk ha ho (fun p q hm z => ?_) (fun c q e z => ?_) hob
  · obtain ⟨ps, h1, _⟩ := r.tab (p, q) hm
    rw [z, hh] at h1
    cases h1
    exact hp
  · subst z
    rw [hh] at e
    cases e
    exact hp
end Y
end
section
set_option Elab.async false
set_option Elab.async false
set_option linter.all false
set_option maxRecDepth 100000
set_option maxHeartbeats 1000000
/-! Lft: expressions and statements lifted. -/
namespace Y
open PySem PySem.Spec PyProof.Rows L2
/-- what is wanted behind a result -/
def out (G : Glo) (S F : Hp) (ρ : List Addr) {α β : Type} (Rl : Hp → List Addr → β → α → Prop) (Q : β → Hp → Prop) (E : XK) : R α → Prop
  | .ok v st => ∀ (F' : Hp) (ρ' : List Addr) (H' : Hp) (u : β), Gr F ρ F' ρ' → Rep G S F' ρ' H' st → Rl F' ρ' u v → Q u H'
  | .ex c st => ∀ (F' : Hp) (ρ' : List Addr) (H' : Hp), Gr F ρ F' ρ' → Rep G S F' ρ' H' st → E (.ref (G.cl c)) none H'
  | .bad => False
section
set_option Elab.async false
variable {G : Glo} {S F F' : Hp} {ρ ρ' : List Addr} {H : Hp} {st : Store} {α β γ δ : Type} {Rl : Hp → List Addr → β → α → Prop} {Rk : Hp → List Addr → δ → γ → Prop} {Q : β → Hp → Prop} {Qk : δ → Hp → Prop} {E : XK}
theorem out.mono (g : Gr F ρ F' ρ') : ∀ {r : R α}, out G S F ρ Rl Q E r → out G S F' ρ' Rl Q E r
  | .ok _ _, h => fun F2 ρ2 H2 u g2 => h F2 ρ2 H2 u (g.trans g2)
  | .ex _ _, h => fun F2 ρ2 H2 g2 => h F2 ρ2 H2 (g.trans g2)
  | .bad, h => h
/-- at a value that is there -/
theorem out.at {v : α} (h : out G S F ρ Rl Q E (.ok v st)) (r : Rep G S F ρ H st) {u : β} (rl : Rl F ρ u v) : Q u H := h F ρ H u Gr.refl r rl
/-- a value that is there, the heap grown -/
theorem out.go {v : α} {H' : Hp} {st' : Store} (h : out G S F ρ Rl Q E (.ok v st')) (g : Gr F ρ F' ρ') (r : Rep G S F' ρ' H' st') {u : β} (rl : Rl F' ρ' u v) : Q u H' := h F' ρ' H' u g r rl
/-- what stands behind a first part -/
def Then (G : Glo) (S F : Hp) (ρ : List Addr) (Rl : Hp → List Addr → β → α → Prop) (Rk : Hp → List Addr → δ → γ → Prop) (Qk : δ → Hp → Prop) (E : XK) (f : α → M γ) (u : β) (H1 : Hp) : Prop :=
  ∃ (F1 : Hp) (ρ1 : List Addr) (a : α) (st1 : Store), Gr F ρ F1 ρ1 ∧ Rep G S F1 ρ1 H1 st1 ∧ Rl F1 ρ1 u a ∧ out G S F1 ρ1 Rk Qk E (f a st1)
theorem out.bd {m : M α} {f : α → M γ} (h : out G S F ρ Rk Qk E (Y.bd m f st)) : out G S F ρ Rl (Then G S F ρ Rl Rk Qk E f) E (m st) := by
  unfold Y.bd at h
  cases e : m st with
  | ok a s =>
    rw [e] at h
    intro F1 ρ1 H1 u g r rl
    exact ⟨F1, ρ1, a, s, g, r, rl, out.mono (r := f a s) g h⟩
  | ex c s =>
    rw [e] at h
    exact h
  | bad =>
    rw [e] at h
    exact h
theorem out.imp {Q' : β → Hp → Prop} (hq : ∀ u H', Q u H' → Q' u H') : ∀ {r : R α}, out G S F ρ Rl Q E r → out G S F ρ Rl Q' E r
  | .ok _ _, h => fun F2 ρ2 H2 u g r rl => hq u H2 (h F2 ρ2 H2 u g r rl)
  | .ex _ _, h => h
  | .bad, h => h
end
def BR : Hp → List Addr → Bool → Bool → Prop := fun _ _ b c => b = c
def IR : Hp → List Addr → Option Int → Option Int → Prop := fun _ _ b c => b = c
/-- an expression, arguments, a test, a slice's part -/
def lE (G : Glo) (E : XK) (f : Y.E) : TE := fun σ H Q => ∃ (S F : Hp) (ρ : List Addr) (loc : Loc) (st : Store), Rep G S F ρ H st ∧ LR G F ρ σ loc ∧ out G S F ρ (VR G) Q E (f loc st)
def lA (G : Glo) (E : XK) (f : Y.A) : TA := fun σ H Q => ∃ (S F : Hp) (ρ : List Addr) (loc : Loc) (st : Store), Rep G S F ρ H st ∧ LR G F ρ σ loc ∧ out G S F ρ (VRs G) Q E (f loc st)
def lT (G : Glo) (E : XK) (f : Tst) : TT := fun σ H Q => ∃ (S F : Hp) (ρ : List Addr) (loc : Loc) (st : Store), Rep G S F ρ H st ∧ LR G F ρ σ loc ∧ out G S F ρ BR Q E (f loc st)
def lO (G : Glo) (E : XK) (f : Oe) : TO := fun σ H Q => ∃ (S F : Hp) (ρ : List Addr) (loc : Loc) (st : Store), Rep G S F ρ H st ∧ LR G F ρ σ loc ∧ out G S F ρ IR Q E (f loc st)
section
set_option Elab.async false
variable {X : Cx} {G : Glo} {E : XK}
theorem PE.imp {X : Cx} {e : Expr} {t t' : TE} (h : PE X e t) (i : ∀ σ H Q, t' σ H Q → t σ H Q) : PE X e t' := ⟨fun pins s σ H Q I q => h.run pins s σ H Q I (i σ H Q q)⟩
theorem PT.imp {X : Cx} {e : Expr} {t t' : TT} (h : PT X e t) (i : ∀ σ H Q, t' σ H Q → t σ H Q) : PT X e t' := ⟨fun pins s σ H Q I q => h.run pins s σ H Q I (i σ H Q q)⟩
theorem PW.imp {X : Cx} {e : Expr} {t t' : TT} (h : PW X e t) (i : ∀ σ H Q, t' σ H Q → t σ H Q) : PW X e t' := ⟨fun wh pins s σ H Q I q => h.run wh pins s σ H Q I (i σ H Q q)⟩
theorem PA.imp {X : Cx} {e : List Expr} {t t' : TA} (h : PA X e t) (i : ∀ σ H Q, t' σ H Q → t σ H Q) : PA X e t' := ⟨fun pos pins s σ H Q I q => h.run pos pins s σ H Q I (i σ H Q q)⟩
theorem PO.imp {X : Cx} {e : Option Expr} {t t' : TO} (h : PO X e t) (i : ∀ σ H Q, t' σ H Q → t σ H Q) : PO X e t' := ⟨fun pins s σ H Q I q => h.run pins s σ H Q I (i σ H Q q)⟩
theorem PS.imp {X : Cx} {e : Stmt} {t t' : TS} (h : PS X e t) (i : ∀ D σ H, t' D σ H → t D σ H) : PS X e t' := ⟨fun pins s σ H D I q => h.run pins s σ H D I (i D σ H q)⟩
theorem PSs.imp {X : Cx} {e : List Stmt} {t t' : TS} (h : PSs X e t) (i : ∀ D σ H, t' D σ H → t D σ H) : PSs X e t' := ⟨fun pins s σ H D I q => h.run pins s σ H D I (i D σ H q)⟩
theorem PTs.imp {X : Cx} {e : List Expr} {t t' : TT} (h : PTs X e t) (i : ∀ σ H Q, t' σ H Q → t σ H Q) : PTs X e t' := ⟨fun pins s σ H Q I q => h.run pins s σ H Q I (i σ H Q q)⟩
theorem PI.imp {X : Cx} {tg e : Expr} {t t' : TI} (h : PI X tg e t) (i : ∀ σ H Q, t' σ H Q → t σ H Q) : PI X tg e t' := ⟨fun pins s σ H Q I q => h.run pins s σ H Q I (i σ H Q q)⟩
theorem PG.imp {X : Cx} {tg : Expr} {t t' : TG} (h : PG X tg t) (i : ∀ v σ H Q, t' v σ H Q → t v σ H Q) : PG X tg t' := ⟨fun pins s σ H v u Q I r q => h.run pins s σ H v u Q I r (i v σ H Q q)⟩
theorem PGs.imp {X : Cx} {tg : List Expr} {t t' : TGs} (h : PGs X tg t) (i : ∀ v σ H Q, t' v σ H Q → t v σ H Q) : PGs X tg t' := ⟨fun pins s σ H v u Q I r q => h.run pins s σ H v u Q I r (i v σ H Q q)⟩
/-! ### names, constants -/
theorem qe_var (i : Nat) {x : Str} {pos : Pos} (hN : X.N[i]? = some x := by rfl) (hv : Vis X.env.scope x := by first | exact Or.inl rfl | exact Or.inr (Or.inl rfl) | exact Or.inr (Or.inr rfl)) (hd : (x == ("__debug__" : Str)) = false := by decide)
    (hcd : (x == ("__classdict__" : Str)) = false := by decide) : PE X (.Name x pos) (lE G E (eV i)) := by
  refine PE.imp (pe_var (i := i) hN hv hd hcd) fun σ H Q h => ?_
  obtain ⟨S, F, ρ, loc, st, r, l, o⟩ := h
  unfold eV at o
  cases e : loc[i]? with
  | none => rw [e] at o; exact o.elim
  | some w =>
    cases w with
    | none => rw [e] at o; exact o.elim
    | some v =>
      rw [e] at o
      obtain ⟨u, h1, h2⟩ := l.2 i v e
      exact ⟨u, h1, out.at (v := v) o r h2⟩
theorem lE_C {x : D} {v : V} (hx : ∀ F, Dt F v x) : ∀ σ H Q, lE G E (eC x) σ H Q → tC v σ H Q := fun σ H Q ⟨S, F, ρ, loc, st, r, l, o⟩ => out.at (v := Val.d x) o r (hx F)
theorem qe_int {i j pos} : PE X (.Constant (.int i) j pos) (lE G E (eC (.int i))) := PE.imp pe_int (lE_C fun _ => .int i)
theorem qe_bl {b j pos} : PE X (.Constant (.bool b) j pos) (lE G E (eC (.bool b))) := PE.imp pe_bl (lE_C fun _ => .bl b)
theorem qe_non {j pos} : PE X (.Constant .none j pos) (lE G E (eC .none)) := PE.imp pe_non (lE_C fun _ => .non)
theorem qe_str {x j pos} : PE X (.Constant (.str x) j pos) (lE G E (eC (.str x))) := PE.imp pe_str (lE_C fun _ => .str x)
/-- a module's int or text -/
theorem qe_gint {x : Str} {i : Int} {u : Value} {pos : Pos} (hg : Gl X x) (hm : X.mg x = some u) (r : RelV (.int i) u) (hd : (x == ("__debug__" : Str)) = false := by decide) : PE X (.Name x pos) (lE G E (eC (.int i))) := PE.imp (pe_glob hg hm r hd) (lE_C fun _ => .int i)
theorem qe_gstr {x : Str} {i : Str} {u : Value} {pos : Pos} (hg : Gl X x) (hm : X.mg x = some u) (r : RelV (.str i) u) (hd : (x == ("__debug__" : Str)) = false := by decide) : PE X (.Name x pos) (lE G E (eC (.str i))) := PE.imp (pe_glob hg hm r hd) (lE_C fun _ => .str i)
/-! ### operators -/
def OSnd (G : Glo) (r : R2) (op : Val → Val → M Val) : Prop := ∀ (S F : Hp) (ρ : List Addr) (H : Hp) (st : Store) (x y : V) (a b : Val) (Q : VK) (E : XK), Rep G S F ρ H st → VR G F ρ x a → VR G F ρ y b → out G S F ρ (VR G) Q E (op a b st) → r x y H Q
def USnd (G : Glo) (r : V → Hp → VK → Prop) (op : Val → M Val) : Prop := ∀ (S F : Hp) (ρ : List Addr) (H : Hp) (st : Store) (x : V) (a : Val) (Q : VK) (E : XK), Rep G S F ρ H st → VR G F ρ x a → out G S F ρ (VR G) Q E (op a st) → r x H Q
def BSnd (G : Glo) (r : List V → Hp → VK → Prop) (b : List Val → M Val) : Prop := ∀ (S F : Hp) (ρ : List Addr) (H : Hp) (st : Store) (xs : List V) (as : List Val) (Q : VK) (E : XK), Rep G S F ρ H st → VRs G F ρ xs as → out G S F ρ (VR G) Q E (b as st) → r xs H Q
theorem lE_O {r : R2} {op : Val → Val → M Val} (hs : OSnd G r op) {fa fb : Y.E} : ∀ σ H Q, lE G E (eO op fa fb) σ H Q → tOp r (lE G E fa) (lE G E fb) σ H Q := fun σ H Q ⟨S, F, ρ, loc, st, rp, l, o⟩ => by
  refine ⟨S, F, ρ, loc, st, rp, l, out.imp (fun x H1 h1 => ?_) (out.bd (Rl := VR G) o)⟩
  obtain ⟨F1, ρ1, a, st1, g1, r1, v1, o1⟩ := h1
  refine ⟨S, F1, ρ1, loc, st1, r1, l.mono g1, out.imp (fun y H2 h2 => ?_) (out.bd (Rl := VR G) o1)⟩
  obtain ⟨F2, ρ2, b, st2, g2, r2, v2, o2⟩ := h2
  exact hs S F2 ρ2 H2 st2 x y a b Q E r2 (v1.mono g2) v2 o2
theorem qe_op {op : Operator} {r : R2} {f : Val → Val → M Val} {a b : Expr} {fa fb : Y.E} {pos : Pos} (ho : OpR X (binaryOp op) r) (hs : OSnd G r f) (ha : PE X a (lE G E fa)) (hb : PE X b (lE G E fb)) : PE X (.BinOp a op b pos) (lE G E (eO f fa fb)) := PE.imp (pe_op ho ha hb) (lE_O hs)
theorem qe_cmp {op : CmpOp} {r : R2} {f : Val → Val → M Val} {a b : Expr} {fa fb : Y.E} {pos : Pos} (ho : OpR X (compareOp op) r) (hs : OSnd G r f) (ha : PE X a (lE G E fa)) (hb : PE X b (lE G E fb)) (hm : behindInMarks op b = false) : PE X (.Compare a [op] [b] pos) (lE G E (eO f fa fb)) := PE.imp (pe_cmpR ho ha hb hm) (lE_O hs)
theorem qe_ix {r : R2} {f : Val → Val → M Val} {a b : Expr} {fa fb : Y.E} {pos : Pos} (ho : IxR X r) (hs : OSnd G r f) (ha : PE X a (lE G E fa)) (hb : PE X b (lE G E fb)) (hp : PlainIx b) : PE X (.Subscript a b pos) (lE G E (eO f fa fb)) := PE.imp (pe_ix ho ha hb hp) (lE_O hs)
theorem qe_un {op : UnaryOp} {r : V → Hp → VK → Prop} {f : Val → M Val} {a : Expr} {fa : Y.E} {pos : Pos} (ho : UnR X (unaryOp op) r) (hs : USnd G r f) (ha : PE X a (lE G E fa)) : PE X (.UnaryOp op a pos) (lE G E (eU f fa)) := by
  refine PE.imp (pe_un ho ha) fun σ H Q ⟨S, F, ρ, loc, st, rp, l, o⟩ => ⟨S, F, ρ, loc, st, rp, l, out.imp (fun x H1 h1 => ?_) (out.bd (Rl := VR G) o)⟩
  obtain ⟨F1, ρ1, a, st1, g1, r1, v1, o1⟩ := h1
  exact hs S F1 ρ1 H1 st1 x a Q E r1 v1 o1
/-! ### arguments, calls -/
theorem qa_nil : PA X [] (lA G E aN) := PA.imp pa_nil fun σ H Q ⟨S, F, ρ, loc, st, rp, l, o⟩ => out.at (v := ([] : List Val)) o rp .nil
theorem qa_cons {e : Expr} {es : List Expr} {f : Y.E} {fs : Y.A} (h : PE X e (lE G E f)) (hr : PA X es (lA G E fs)) (hs : starEach (e :: es) X.env = (false, eval e X.env) :: starEach es X.env := by rfl) : PA X (e :: es) (lA G E (aC f fs)) := by
  refine PA.imp (pa_cons h hr hs) fun σ H Q ⟨S, F, ρ, loc, st, rp, l, o⟩ => ⟨S, F, ρ, loc, st, rp, l, out.imp (fun x H1 h1 => ?_) (out.bd (Rl := VR G) o)⟩
  obtain ⟨F1, ρ1, a, st1, g1, r1, v1, o1⟩ := h1
  refine ⟨S, F1, ρ1, loc, st1, r1, l.mono g1, out.imp (fun y H2 h2 => ?_) (out.bd (Rl := VRs G) o1)⟩
  obtain ⟨F2, ρ2, b, st2, g2, r2, v2, o2⟩ := h2
  exact out.at (v := a :: b) o2 r2 (.cons (v1.mono g2) v2)
theorem lE_B {r : List V → Hp → VK → Prop} {b : List Val → M Val} (hs : BSnd G r b) {fa : Y.A} : ∀ σ H Q, lE G E (eB b fa) σ H Q → tCB r (lA G E fa) σ H Q := fun σ H Q ⟨S, F, ρ, loc, st, rp, l, o⟩ => by
  refine ⟨S, F, ρ, loc, st, rp, l, out.imp (fun x H1 h1 => ?_) (out.bd (Rl := VRs G) o)⟩
  obtain ⟨F1, ρ1, a, st1, g1, r1, v1, o1⟩ := h1
  exact hs S F1 ρ1 H1 st1 x a Q E r1 v1 o1
end

section
set_option Elab.async false
variable {X : Cx} {G : Glo} {E : XK}
theorem qe_callB {r : List V → Hp → VK → Prop} {b : List Val → M Val} {x : Str} {p pos : Pos} {e : Expr} {es : List Expr} {fa : Y.A} {id : String} (hr : CallR X (.builtin id) r) (hs : BSnd G r b) (hg : Gl X x) (hm : X.mg x = none) (hv : bootBuiltins x = some (.builtin id)) (ha : PA X (e :: es) (lA G E fa))
    (hn : x ≠ Str.ofString "__name__" := by decide) (hd : (x == Str.ofString "__debug__") = false := by decide) (he : starEach (e :: es) X.env = (false, eval e X.env) :: starEach es X.env := by rfl) (hpl : (backTo pos (starEach es X.env)).any (·.1) = false := by rfl) :
    PE X (.Call (.Name x p) (e :: es) [] pos) (lE G E (eB b fa)) := PE.imp (pe_callB hr hg hm hv ha hn hd he hpl) (lE_B hs)
theorem qe_callTy {r : List V → Hp → VK → Prop} {b : List Val → M Val} {x : Str} {p pos : Pos} {e : Expr} {es : List Expr} {fa : Y.A} {T : String} (hr : CallR X (.type T) r) (hs : BSnd G r b) (hg : Gl X x) (hm : X.mg x = none) (hv : bootBuiltins x = some (.type T)) (ha : PA X (e :: es) (lA G E fa))
    (hn : x ≠ Str.ofString "__name__" := by decide) (hd : (x == Str.ofString "__debug__") = false := by decide) (he : starEach (e :: es) X.env = (false, eval e X.env) :: starEach es X.env := by rfl) (hpl : (backTo pos (starEach es X.env)).any (·.1) = false := by rfl) :
    PE X (.Call (.Name x p) (e :: es) [] pos) (lE G E (eB b fa)) := PE.imp (pe_callTy hr hg hm hv ha hn hd he hpl) (lE_B hs)
/-! ### a def's promise -/
def spF (G : Glo) (n : Nat) (f : List Val → M Val) : Sp := fun vs H Q E => ∃ (S F : Hp) (ρ : List Addr) (st : Store) (as : List Val), Rep G S F ρ H st ∧ VRs G F ρ vs as ∧ as.length = n ∧ out G S F ρ (VR G) Q E (f as st)
theorem lE_call {n : Nat} {f : List Val → M Val} {fa : Y.A} : ∀ σ H Q, lE G E (eB (fixN n f) fa) σ H Q → tCallS (spF G n f) (fun _ => E) (lA G E fa) σ H Q := fun σ H Q ⟨S, F, ρ, loc, st, rp, l, o⟩ => by
  refine ⟨S, F, ρ, loc, st, rp, l, out.imp (fun x H1 h1 => ?_) (out.bd (Rl := VRs G) o)⟩
  obtain ⟨F1, ρ1, a, st1, g1, r1, v1, o1⟩ := h1
  unfold fixN at o1
  split at o1
  · rename_i hl
    exact ⟨S, F1, ρ1, st1, a, r1, v1, hl, o1⟩
  · exact o1.elim
theorem qe_call {CX : CXT} {k n : Nat} {f : Addr} {fd : FuncData} {ps : List Str} {sem : List Val → M Val} {x : Str} {p pos : Pos} {e : Expr} {es : List Expr} {fa : Y.A} (Fo : FnOk X.prog X.w X.K X.mg X.base CX k f fd ps (spF G n sem)) (hr : Room k X.A) (hg : Gl X x) (hm : X.mg x = some (.ref f)) (hk : PySem.W.keepIn X.K (.ref f) = true) (hb : Binds X.K fd ps []) (hx : ∀ σ, PassesAt CX X σ E)
    (ha : PA X (e :: es) (lA G E fa)) (hdb : (x == ("__debug__" : Str)) = false := by decide) (he : starEach (e :: es) X.env = (false, eval e X.env) :: starEach es X.env := by rfl) (hpl : (backTo pos (starEach es X.env)).any (·.1) = false := by rfl) :
    PE X (.Call (.Name x p) (e :: es) [] pos) (lE G E (eB (fixN n sem) fa)) := PE.imp (pe_callS (E := fun _ => E) Fo hr hg hm hk hb hx ha hdb he hpl) lE_call
/-! ### displays -/
theorem toDs_rel {F : Hp} {ρ : List Addr} : ∀ {us : List V} {vs : List Val} {ds : List D}, VRs G F ρ us vs → toDs vs = some ds → DtA F us ds
  | _, [], ds, .nil, e => by
    cases e
    exact .nil
  | _, .d x :: r, ds, .cons h k, e => by
    unfold toDs at e
    cases q : toDs r with
    | none => rw [q] at e; cases e
    | some es =>
      rw [q] at e
      cases e
      exact .cons h (toDs_rel k q)
  | _, .o _ :: r, ds, .cons h k, e => by cases e
  | _, .s _ :: r, ds, .cons h k, e => by cases e
theorem lim_le : lim ≤ sizeLine := by rw [sizeLine_eq]; decide
theorem sz {n : Nat} (h : n ≤ lim) : n ≤ sizeLine := Nat.le_trans h lim_le
theorem sz' {n : Nat} (h : n < lim) : n < sizeLine := Nat.lt_of_lt_of_le h lim_le
theorem tup_nt {xs : List V} : ∀ ps, HO.tup xs ≠ .tbl ps := fun _ z => by cases z
theorem lst_nt {xs : List V} : ∀ ps, HO.lst xs ≠ .tbl ps := fun _ z => by cases z
/-- data handed on as a new tuple -/
theorem out_tup {S F : Hp} {ρ : List Addr} {H : Hp} {st : Store} {Q : VK} {E : XK} {us : List V} {ds : List D} (r : Rep G S F ρ H st) (h : DtA F us ds) (o : out G S F ρ (VR G) Q E (.ok (.d (.tuple ds)) st)) (p : Addr) (hp : H p = none) : Q (.ref p) (upd H p (.tup us)) := by
  obtain ⟨r', g⟩ := r.new hp (tup_nt (xs := us))
  exact o _ _ _ _ g r' (Dt.tup upd_same (h.mono g.f))
theorem out_lst {S F : Hp} {ρ : List Addr} {H : Hp} {st : Store} {Q : VK} {E : XK} {us : List V} {ds : List D} (r : Rep G S F ρ H st) (h : DtA F us ds) (o : out G S F ρ (VR G) Q E (.ok (.d (.list ds)) st)) (p : Addr) (hp : H p = none) : Q (.ref p) (upd H p (.lst us)) := by
  obtain ⟨r', g⟩ := r.new hp (lst_nt (xs := us))
  exact o _ _ _ _ g r' (Dt.lst upd_same (h.mono g.f))
theorem out_own {S F : Hp} {ρ : List Addr} {H : Hp} {st : Store} {Q : VK} {E : XK} {us : List V} {vs : List Val} (r : Rep G S F ρ H st) (h : VRs G F ρ us vs) (o : out G S F ρ (VR G) Q E (.ok (.o st.length) (st ++ [.lst vs]))) (p : Addr) (hp : H p = none) : Q (.ref p) (upd H p (.lst us)) := by
  obtain ⟨r', g⟩ := r.push (ob := .lst vs) hp ⟨us, rfl, h⟩
  refine o _ _ _ _ g r' ⟨p, ?_, rfl⟩
  rw [List.getElem?_append_right (by rw [r.len]; exact Nat.le_refl _), r.len]
  simp
theorem qe_tup {es : List Expr} {fa : Y.A} {x1 : Nat} {pos : Pos} (h : PA X es (lA G E fa)) : PE X (.Tuple es x1 pos) (lE G E (eB bTup fa)) := by
  refine PE.imp (pe_tup h) fun σ H Q ⟨S, F, ρ, loc, st, rp, l, o⟩ => ⟨S, F, ρ, loc, st, rp, l, out.imp (fun x H1 h1 => ?_) (out.bd (Rl := VRs G) o)⟩
  obtain ⟨F1, ρ1, a, st1, g1, r1, v1, o1⟩ := h1
  unfold bTup at o1
  cases hd : toDs a with
  | none =>
    rw [hd] at o1
    exact o1.elim
  | some ds =>
    rw [hd] at o1
    dsimp only at o1
    by_cases hl : ds.length ≤ lim
    · rw [if_pos hl] at o1
      have hq := toDs_rel v1 hd
      exact ⟨sz (by rw [hq.length]; exact hl), fun p hp => out_tup r1 hq o1 p hp⟩
    · rw [if_neg hl] at o1
      exact o1.elim
theorem qe_lst {es : List Expr} {fa : Y.A} {pos : Pos} (h : PA X es (lA G E fa)) : PE X (.List es pos) (lE G E (eB bLst fa)) := by
  refine PE.imp (pe_lst h) fun σ H Q ⟨S, F, ρ, loc, st, rp, l, o⟩ => ⟨S, F, ρ, loc, st, rp, l, out.imp (fun x H1 h1 => ?_) (out.bd (Rl := VRs G) o)⟩
  obtain ⟨F1, ρ1, a, st1, g1, r1, v1, o1⟩ := h1
  unfold bLst at o1
  cases hd : toDs a with
  | none =>
    rw [hd] at o1
    exact o1.elim
  | some ds =>
    rw [hd] at o1
    dsimp only at o1
    by_cases hl : ds.length ≤ lim
    · rw [if_pos hl] at o1
      have hq := toDs_rel v1 hd
      exact ⟨sz (by rw [hq.length]; exact hl), fun p hp => out_lst r1 hq o1 p hp⟩
    · rw [if_neg hl] at o1
      exact o1.elim
/-- a list that may change -/
theorem qe_new {es : List Expr} {fa : Y.A} {pos : Pos} (h : PA X es (lA G E fa)) : PE X (.List es pos) (lE G E (eB bNew fa)) := by
  refine PE.imp (pe_lst h) fun σ H Q ⟨S, F, ρ, loc, st, rp, l, o⟩ => ⟨S, F, ρ, loc, st, rp, l, out.imp (fun x H1 h1 => ?_) (out.bd (Rl := VRs G) o)⟩
  obtain ⟨F1, ρ1, a, st1, g1, r1, v1, o1⟩ := h1
  unfold bNew at o1
  split at o1
  · rename_i hl
    exact ⟨sz (by rw [v1.length]; exact hl), fun p hp => out_own r1 v1 o1 p hp⟩
  · exact o1.elim
/-! ### tests -/
theorem asB_of {S F : Hp} {ρ : List Addr} {H : Hp} {st : Store} {Q : Bool → Hp → Prop} {E : XK} {x : V} {a : Val} (r : Rep G S F ρ H st) (h : VR G F ρ x a) (o : out G S F ρ BR Q E (asB a st)) : ∃ c, x = .bl c ∧ Q c H := by
  unfold asB at o
  split at o
  · rename_i b
    cases (show Dt F x (.bool b) from h) with
    | bl _ => exact ⟨b, rfl, out.at (v := b) o r rfl⟩
  · exact o.elim
theorem qt_val {e : Expr} {f : Y.E} (h : PE X e (lE G E f)) (he : ∀ whole, isTrue e X.env whole = (do let v ← whole; standAt e.pos; holding [v] (truthy v)) := by intro _; rfl) : PT X e (lT G E (tV f)) := by
  refine PT.imp (pt_val h he) fun σ H Q ⟨S, F, ρ, loc, st, rp, l, o⟩ => ⟨S, F, ρ, loc, st, rp, l, out.imp (fun x H1 h1 => ?_) (out.bd (Rl := VR G) o)⟩
  obtain ⟨F1, ρ1, a, st1, g1, r1, v1, o1⟩ := h1
  exact asB_of r1 v1 o1
/-- a comparison as a test (its own rule) -/
theorem qt_cmp {op : CmpOp} {r : R2} {f : Val → Val → M Val} {a b : Expr} {fa fb : Y.E} {pos : Pos} (ho : OpR X (compareOp op) r) (hs : OSnd G r f) (ha : PE X a (lE G E fa)) (hb : PE X b (lE G E fb)) (hm : behindInMarks op b = false) : PT X (.Compare a [op] [b] pos) (lT G E (tV (eO f fa fb))) := by
  refine PT.imp (pt_cmpR ho ha hb hm) fun σ H Q ⟨S, F, ρ, loc, st, rp, l, o⟩ => ?_
  refine lE_O (E := E) hs σ H _ ⟨S, F, ρ, loc, st, rp, l, out.imp (fun x H1 h1 => ?_) (out.bd (Rl := VR G) o)⟩
  obtain ⟨F1, ρ1, a, st1, g1, r1, v1, o1⟩ := h1
  exact asB_of r1 v1 o1
theorem lT_not {t : Tst} : ∀ σ H Q, lT G E (tNo t) σ H Q → tNot (lT G E t) σ H Q := fun σ H Q ⟨S, F, ρ, loc, st, rp, l, o⟩ => by
  refine ⟨S, F, ρ, loc, st, rp, l, out.imp (fun x H1 h1 => ?_) (out.bd (Rl := BR) o)⟩
  obtain ⟨F1, ρ1, a, st1, g1, r1, v1, o1⟩ := h1
  cases v1
  exact out.at (v := !x) o1 r1 rfl
theorem qt_not {e : Expr} {t : Tst} {pos : Pos} (h : PT X e (lT G E t)) : PT X (.UnaryOp .Not e pos) (lT G E (tNo t)) := PT.imp (pt_not h) lT_not
theorem lT_and {t u : Tst} : ∀ σ H Q, lT G E (tAn t u) σ H Q → tAnd (lT G E t) (lT G E u) σ H Q := fun σ H Q ⟨S, F, ρ, loc, st, rp, l, o⟩ => by
  refine ⟨S, F, ρ, loc, st, rp, l, out.imp (fun x H1 h1 => ?_) (out.bd (Rl := BR) o)⟩
  obtain ⟨F1, ρ1, a, st1, g1, r1, v1, o1⟩ := h1
  cases v1
  cases x with
  | true => exact ⟨S, F1, ρ1, loc, st1, r1, l.mono g1, o1⟩
  | false => exact out.at (v := false) o1 r1 rfl
theorem lT_or {t u : Tst} : ∀ σ H Q, lT G E (tOrr t u) σ H Q → tOr (lT G E t) (lT G E u) σ H Q := fun σ H Q ⟨S, F, ρ, loc, st, rp, l, o⟩ => by
  refine ⟨S, F, ρ, loc, st, rp, l, out.imp (fun x H1 h1 => ?_) (out.bd (Rl := BR) o)⟩
  obtain ⟨F1, ρ1, a, st1, g1, r1, v1, o1⟩ := h1
  cases v1
  cases x with
  | true => exact out.at (v := true) o1 r1 rfl
  | false => exact ⟨S, F1, ρ1, loc, st1, r1, l.mono g1, o1⟩
theorem qw_and1 {a : Expr} {t : Tst} {pos : Pos} (h : PT X a (lT G E t)) : PW X (.BoolOp .And [a] pos) (lT G E t) := pw_and1 h
theorem qw_or1 {a : Expr} {t : Tst} {pos : Pos} (h : PT X a (lT G E t)) : PW X (.BoolOp .Or [a] pos) (lT G E t) := pw_or1 h
theorem qw_and {a b : Expr} {rest : List Expr} {t u : Tst} {pos : Pos} (h : PT X a (lT G E t)) (hb : PW X (.BoolOp .And (b :: rest) pos) (lT G E u)) : PW X (.BoolOp .And (a :: b :: rest) pos) (lT G E (tAn t u)) := PW.imp (pw_and h hb) lT_and
theorem qw_or {a b : Expr} {rest : List Expr} {t u : Tst} {pos : Pos} (h : PT X a (lT G E t)) (hb : PW X (.BoolOp .Or (b :: rest) pos) (lT G E u)) : PW X (.BoolOp .Or (a :: b :: rest) pos) (lT G E (tOrr t u)) := PW.imp (pw_or h hb) lT_or
/-! ### and, or, not as values -/
theorem qe_one {op : BoolOp} {a : Expr} {f : Y.E} {pos : Pos} (h : PE X a (lE G E f)) : PE X (.BoolOp op [a] pos) (lE G E f) := pe_one h
theorem qe_and {a b : Expr} {rest : List Expr} {f g : Y.E} {pos : Pos} (h : PE X a (lE G E f)) (hb : PE X (.BoolOp .And (b :: rest) pos) (lE G E g)) : PE X (.BoolOp .And (a :: b :: rest) pos) (lE G E (eAn f g)) := by
  refine PE.imp (pe_and h hb) fun σ H Q ⟨S, F, ρ, loc, st, rp, l, o⟩ => ⟨S, F, ρ, loc, st, rp, l, out.imp (fun x H1 h1 => ?_) (out.bd (Rl := VR G) o)⟩
  obtain ⟨F1, ρ1, a, st1, g1, r1, v1, o1⟩ := h1
  obtain ⟨c, hx, F2, ρ2, b, st2, g2, r2, v2, o2⟩ := asB_of r1 v1 (out.bd (Rl := BR) o1)
  refine ⟨c, hx, ?_⟩
  cases v2
  cases c with
  | true => exact ⟨S, F2, ρ2, loc, st2, r2, l.mono (g1.trans g2), o2⟩
  | false => exact out.at (v := vB false) o2 r2 (.bl false)
theorem qe_or {a b : Expr} {rest : List Expr} {f g : Y.E} {pos : Pos} (h : PE X a (lE G E f)) (hb : PE X (.BoolOp .Or (b :: rest) pos) (lE G E g)) : PE X (.BoolOp .Or (a :: b :: rest) pos) (lE G E (eOr f g)) := by
  refine PE.imp (pe_or h hb) fun σ H Q ⟨S, F, ρ, loc, st, rp, l, o⟩ => ⟨S, F, ρ, loc, st, rp, l, out.imp (fun x H1 h1 => ?_) (out.bd (Rl := VR G) o)⟩
  obtain ⟨F1, ρ1, a, st1, g1, r1, v1, o1⟩ := h1
  obtain ⟨c, hx, F2, ρ2, b, st2, g2, r2, v2, o2⟩ := asB_of r1 v1 (out.bd (Rl := BR) o1)
  refine ⟨c, hx, ?_⟩
  cases v2
  cases c with
  | true => exact out.at (v := vB true) o2 r2 (.bl true)
  | false => exact ⟨S, F2, ρ2, loc, st2, r2, l.mono (g1.trans g2), o2⟩
theorem qe_not {a : Expr} {f : Y.E} {pos : Pos} (h : PE X a (lE G E f)) : PE X (.UnaryOp .Not a pos) (lE G E (eNo f)) := by
  refine PE.imp (pe_not h) fun σ H Q ⟨S, F, ρ, loc, st, rp, l, o⟩ => ⟨S, F, ρ, loc, st, rp, l, out.imp (fun x H1 h1 => ?_) (out.bd (Rl := VR G) o)⟩
  obtain ⟨F1, ρ1, a, st1, g1, r1, v1, o1⟩ := h1
  obtain ⟨c, hx, F2, ρ2, b, st2, g2, r2, v2, o2⟩ := asB_of r1 v1 (out.bd (Rl := BR) o1)
  cases v2
  exact ⟨c, hx, out.at (v := vB (!c)) o2 r2 (.bl (!c))⟩
theorem qe_if {c a b : Expr} {t : Tst} {f g : Y.E} {pos : Pos} (hc : PT X c (lT G E t)) (ha : PE X a (lE G E f)) (hb : PE X b (lE G E g)) : PE X (.IfExp c a b pos) (lE G E (eIf t f g)) := by
  refine PE.imp (pe_ifExp hc ha hb) fun σ H Q ⟨S, F, ρ, loc, st, rp, l, o⟩ => ⟨S, F, ρ, loc, st, rp, l, out.imp (fun x H1 h1 => ?_) (out.bd (Rl := BR) o)⟩
  obtain ⟨F1, ρ1, a, st1, g1, r1, v1, o1⟩ := h1
  cases v1
  cases x with
  | true => exact ⟨S, F1, ρ1, loc, st1, r1, l.mono g1, o1⟩
  | false => exact ⟨S, F1, ρ1, loc, st1, r1, l.mono g1, o1⟩
theorem qe_chain {op op' : CmpOp} {r r' : R2} {f f' : Val → Val → M Val} {a b c : Expr} {fa fb fc : Y.E} {pos : Pos} (ho : OpR X (compareOp op) r) (hs : OSnd G r f) (ho' : OpR X (compareOp op') r') (hs' : OSnd G r' f') (ha : PE X a (lE G E fa)) (hb : PE X b (lE G E fb)) (hc : PE X c (lE G E fc))
    (hm : lastMarks [op, op'] [b, c] = false := by rfl) : PE X (.Compare a [op, op'] [b, c] pos) (lE G E (eCh f f' fa fb fc)) := by
  refine PE.imp (pe_chain ho ho' ha hb hc hm) fun σ H Q ⟨S, F, ρ, loc, st, rp, l, o⟩ => ⟨S, F, ρ, loc, st, rp, l, out.imp (fun x H1 h1 => ?_) (out.bd (Rl := VR G) o)⟩
  obtain ⟨F1, ρ1, a, st1, g1, r1, v1, o1⟩ := h1
  refine ⟨S, F1, ρ1, loc, st1, r1, l.mono g1, out.imp (fun y H2 h2 => ?_) (out.bd (Rl := VR G) o1)⟩
  obtain ⟨F2, ρ2, b, st2, g2, r2, v2, o2⟩ := h2
  refine hs S F2 ρ2 H2 st2 x y a b _ E r2 (v1.mono g2) v2 (out.imp (fun z H3 h3 => ?_) (out.bd (Rl := VR G) o2))
  obtain ⟨F3, ρ3, c, st3, g3, r3, v3, o3⟩ := h3
  obtain ⟨k, hx, F4, ρ4, b', st4, g4, r4, v4, o4⟩ := asB_of r3 v3 (out.bd (Rl := BR) o3)
  refine ⟨k, hx, ?_⟩
  cases v4
  cases k with
  | false => exact out.at (v := vB false) o4 r4 (.bl false)
  | true =>
    refine ⟨S, F4, ρ4, loc, st4, r4, l.mono (((g1.trans g2).trans g3).trans g4), out.imp (fun w H5 h5 => ?_) (out.bd (Rl := VR G) o4)⟩
    obtain ⟨F5, ρ5, e5, st5, g5, r5, v5, o5⟩ := h5
    exact hs' S F5 ρ5 H5 st5 y w b e5 Q E r5 (v2.mono ((g3.trans g4).trans g5)) v5 o5
/-! ### slices -/
theorem qo_none : PO X none (lO G E oN) := PO.imp po_none fun σ H Q ⟨S, F, ρ, loc, st, rp, l, o⟩ => out.at (v := (none : Option Int)) o rp rfl
theorem asI_of {S F : Hp} {ρ : List Addr} {H : Hp} {st : Store} {β : Type} {Q : Int → Hp → Prop} {E : XK} {x : V} {a : Val} (r : Rep G S F ρ H st) (h : VR G F ρ x a) (o : out G S F ρ (fun _ _ (i : Int) j => i = j) Q E (asI a st)) : ∃ c, x = .int c ∧ Q c H := by
  unfold asI at o
  split at o
  · rename_i b
    cases (show Dt F x (.int b) from h) with
    | int _ => exact ⟨b, rfl, out.at (v := b) o r rfl⟩
  · exact o.elim
theorem qo_some {e : Expr} {f : Y.E} (h : PE X e (lE G E f)) : PO X (some e) (lO G E (oS f)) := by
  refine PO.imp (po_some h) fun σ H Q ⟨S, F, ρ, loc, st, rp, l, o⟩ => ⟨S, F, ρ, loc, st, rp, l, out.imp (fun x H1 h1 => ?_) (out.bd (Rl := VR G) o)⟩
  obtain ⟨F1, ρ1, a, st1, g1, r1, v1, o1⟩ := h1
  obtain ⟨c, hx, F2, ρ2, b, st2, g2, r2, v2, o2⟩ := asI_of (β := Int) r1 v1 (out.bd (Rl := fun _ _ (i : Int) j => i = j) o1)
  cases v2
  exact ⟨c, hx, out.at (v := some c) o2 r2 rfl⟩
def LSnd (G : Glo) (r : V → Option Int → Option Int → Hp → VK → Prop) (f : Val → Option Int → Option Int → M Val) : Prop := ∀ (S F : Hp) (ρ : List Addr) (H : Hp) (st : Store) (x : V) (a : Val) (lo hi : Option Int) (Q : VK) (E : XK), Rep G S F ρ H st → VR G F ρ x a → out G S F ρ (VR G) Q E (f a lo hi st) → r x lo hi H Q
theorem qe_slice {r : V → Option Int → Option Int → Hp → VK → Prop} {e : Expr} {lo hi : Option Expr} {f : Y.E} {fl fh : Oe} {p2 pos : Pos} (hr : SlR X r) (hs : LSnd G r bSl) (he : PE X e (lE G E f)) (hl : PO X lo (lO G E fl)) (hu : PO X hi (lO G E fh)) : PE X (.Subscript e (.Slice lo hi none p2) pos) (lE G E (eSl f fl fh)) := by
  refine PE.imp (pe_slice hr he hl hu) fun σ H Q ⟨S, F, ρ, loc, st, rp, l, o⟩ => ⟨S, F, ρ, loc, st, rp, l, out.imp (fun x H1 h1 => ?_) (out.bd (Rl := VR G) o)⟩
  obtain ⟨F1, ρ1, a, st1, g1, r1, v1, o1⟩ := h1
  refine ⟨S, F1, ρ1, loc, st1, r1, l.mono g1, out.imp (fun y H2 h2 => ?_) (out.bd (Rl := IR) o1)⟩
  obtain ⟨F2, ρ2, b, st2, g2, r2, v2, o2⟩ := h2
  refine ⟨S, F2, ρ2, loc, st2, r2, l.mono (g1.trans g2), out.imp (fun z H3 h3 => ?_) (out.bd (Rl := IR) o2)⟩
  obtain ⟨F3, ρ3, c, st3, g3, r3, v3, o3⟩ := h3
  cases v2
  cases v3
  exact hs S F3 ρ3 H3 st3 x a _ _ Q E r3 (v1.mono (g2.trans g3)) o3
end
end Y
end
section
set_option Elab.async false
set_option Elab.async false
set_option linter.all false
set_option maxRecDepth 100000
set_option maxHeartbeats 1000000
/-! Stm: targets, walks, comprehensions, statements, defs, lifted. -/
namespace Y
open PySem PySem.Spec PyProof.Rows L2
/-! ### targets -/
theorem wipe_get {σ : L2.St} {j : Nat} : ∀ {vs : List Nat}, j ∈ vs → (L2.wipe σ vs)[j]? = if j < σ.length then some none else none
  | [], h => by cases h
  | v :: vs, h => by
    unfold L2.wipe
    rw [List.getElem?_set]
    by_cases e : v = j
    · subst e
      rw [if_pos rfl, L2.wipe_length]
    · rw [if_neg e]
      exact wipe_get (by simpa [Ne.symm e] using h)
theorem wipe_set {σ : L2.St} {i : Nat} {x : Option V} {vs : List Nat} (h : i ∈ vs) : L2.wipe (σ.set i x) vs = L2.wipe σ vs := by
  refine List.ext_getElem? fun j => ?_
  by_cases hj : j ∈ vs
  · rw [wipe_get hj, wipe_get hj, List.length_set]
  · rw [wipe_out hj, wipe_out hj, List.getElem?_set, if_neg (fun e => hj (by rw [← e]; exact h))]
def TR (G : Glo) (vs : List Nat) (σ : L2.St) : Hp → List Addr → L2.St → Loc → Prop := fun F ρ σ' loc' => LR G F ρ σ' loc' ∧ L2.wipe σ' vs = L2.wipe σ vs
def lG (G : Glo) (E : XK) (vs : List Nat) (g : Y.G) : TG := fun v σ H Q => ∃ (S F : Hp) (ρ : List Addr) (loc : Loc) (st : Store) (x : Val), Rep G S F ρ H st ∧ LR G F ρ σ loc ∧ VR G F ρ v x ∧ out G S F ρ (TR G vs σ) Q E (g x loc st)
def lGs (G : Glo) (E : XK) (vs : List Nat) (g : Y.Gs) : TGs := fun v σ H Q => ∃ (S F : Hp) (ρ : List Addr) (loc : Loc) (st : Store) (x : List Val), Rep G S F ρ H st ∧ LR G F ρ σ loc ∧ VRs G F ρ v x ∧ out G S F ρ (TR G vs σ) Q E (g x loc st)
section
set_option Elab.async false
variable {X : Cx} {G : Glo} {E : XK} {vs : List Nat}
theorem qg_name (i : Nat) {x : Str} {pos : Pos} (hN : X.N.Nodup) (hi : X.N[i]? = some x) (hx : L2.Loc X.env.scope x) (hv : i ∈ vs := by decide) (hf : X.fn x = true ∨ X.env.scope.names.lookup x = some .local := by first | exact .inl rfl | exact .inr rfl | assumption) : PG X (.Name x pos) (lG G E vs (gN i)) := by
  refine PG.imp (pg_name (i := i) hN hi hx hf) fun v σ H Q ⟨S, F, ρ, loc, st, y, rp, l, r, o⟩ => ?_
  exact out.at (v := loc.set i (some y)) o rp ⟨l.set r i, wipe_set hv⟩
theorem qgs_nil : PGs X [] (lGs G E vs gsN) := by
  refine PGs.imp pgs_nil fun v σ H Q ⟨S, F, ρ, loc, st, y, rp, l, r, o⟩ => ?_
  cases r with
  | nil => exact ⟨rfl, out.at (v := loc) o rp ⟨l, rfl⟩⟩
  | cons _ _ => exact o.elim
theorem qgs_cons {e : Expr} {es : List Expr} {g : Y.G} {gs : Y.Gs} (h1 : PG X e (lG G E vs g)) (h2 : PGs X es (lGs G E vs gs)) (hs : List.map (fun x => x.snd) (assignEach (e :: es) X.env) = assign e X.env :: List.map (fun x => x.snd) (assignEach es X.env) := by rfl) : PGs X (e :: es) (lGs G E vs (gsC g gs)) := by
  refine PGs.imp (pgs_cons h1 h2 hs) fun v σ H Q ⟨S, F, ρ, loc, st, y, rp, l, r, o⟩ => ?_
  cases r with
  | nil => exact o.elim
  | @cons v1 y1 vr yr r1 rr =>
    refine ⟨v1, vr, rfl, S, F, ρ, loc, st, y1, rp, l, r1, out.imp (fun σ1 H1 h => ?_) (out.bd (Rl := TR G vs σ) o)⟩
    obtain ⟨F1, ρ1, loc1, st1, g1, rp1, ⟨l1, w1⟩, o1⟩ := h
    refine ⟨S, F1, ρ1, loc1, st1, yr, rp1, l1, VRs.mono g1 rr, ?_⟩
    unfold TR at o1 ⊢
    rw [w1]
    exact o1
theorem dt_vrs {F : Hp} {ρ : List Addr} : ∀ {us : List V} {ds : List D}, DtA F us ds → VRs G F ρ us (ds.map .d)
  | _, _, .nil => .nil
  | _, _, .cons h k => .cons h (dt_vrs k)
theorem qg_tup {es : List Expr} {k n : Nat} {gs : Y.Gs} {pos : Pos} (hc : X.calm = true) (h : PGs X es (lGs G E vs gs)) (hl : (assignEach es X.env).length = n := by rfl) (hf : List.findIdx? (fun x => x.fst) (assignEach es X.env) = none := by rfl) : PG X (.Tuple es k pos) (lG G E vs (gT n gs)) := by
  refine PG.imp (pg_tup hc h hl hf) fun v σ H Q ⟨S, F, ρ, loc, st, y, rp, l, r, o⟩ => ?_
  cases y with
  | o _ => exact o.elim
  | s _ => exact o.elim
  | d x =>
    cases x with
    | tuple ds =>
      cases (show Dt F v (.tuple ds) from r) with
      | @tup a xs ds ha hd =>
        have o' : out G S F ρ (TR G vs σ) Q E ((if ds.length = n then gs (ds.map .d) loc else die) st) := o
        by_cases e : ds.length = n
        · rw [if_pos e] at o'
          exact ⟨a, xs, rfl, SqT.of (rp.ex _ _ ha), by rw [hd.length]; exact e, S, F, ρ, loc, st, ds.map .d, rp, l, dt_vrs hd, o'⟩
        · rw [if_neg e] at o'
          exact o'.elim
    | none => exact o.elim
    | bool _ => exact o.elim
    | int _ => exact o.elim
    | str _ => exact o.elim
    | list _ => exact o.elim
    | dict _ => exact o.elim
end
/-! ### what is walked -/
structure JW (G : Glo) (F : Hp) (ρ : List Addr) (J : It) (xs : List Val) : Prop where
  goes : ∀ (i : Nat) (H : Hp), i < xs.length → Exn F H → J.go i H
  stops : ∀ (H : Hp), Exn F H → J.stop xs.length H
  yields : ∀ (i : Nat) (H : Hp) (x : V) (H' : Hp), i < xs.length → Exn F H → J.yld i H x H' → (H' = H ∧ ∃ y, xs[i]? = some y ∧ VR G F ρ x y) ∨
    (∃ (T : Addr) (vs : List V) (ds : List D), H T = none ∧ H' = upd H T (.tup vs) ∧ x = .ref T ∧ xs[i]? = some (.d (.tuple ds)) ∧ DtA F vs ds)
def JR (G : Glo) : Hp → List Addr → It → List Val → Prop := fun F ρ J xs => JW G F ρ J xs
def lI (G : Glo) (E : XK) (s : Y.I) : TI := fun σ H R => ∃ (S F : Hp) (ρ : List Addr) (loc : Loc) (st : Store), Rep G S F ρ H st ∧ LR G F ρ σ loc ∧ out G S F ρ (JR G) R E (s loc st)
section
set_option Elab.async false
variable {X : Cx} {G : Glo} {E : XK} {tg : Expr}
/-- a list or a tuple -/
def iSq (K : PySem.W.Frag) (tl : TE) : TI := fun σ H R => tl σ H fun x H1 => ∃ a, x = .ref a ∧ (((∃ xs, SqL K H1 a xs) ∧ R (Itl K a) H1) ∨ ((∃ xs, SqT K H1 a xs) ∧ R (Itt K a) H1))
theorem pi_seq {l : Expr} {tl : TE} (hl : PE X l tl) : PI X tg l (iSq X.K tl) := by
  refine ⟨fun pins s σ H R I h => ?_⟩
  refine thn (hl.run pins s σ H _ I h) fun v s1 ⟨x, H1, I1, r1, q1⟩ => ?_
  obtain ⟨a, e, q1⟩ := q1
  subst e
  rcases q1 with ⟨⟨xs, hq⟩, q⟩ | ⟨⟨xs, hq⟩, q⟩
  · cases r1
    obtain ⟨its, rv, p, hz⟩ := I1.list hq
    refine wpAny_pyIter_list p.isList ?_
    refine ⟨s1.heap.objs.size, [s1.heap.objs.size], _, _, H1, rfl, I1.kept (t' := s1.toks) fun b o e => Heap.get?_push_of_some _ e, turn_list a _, ⟨_, Heap.get?_push_size _ rfl, rfl, rfl⟩, fun b hb => ?_, q⟩
    have e : b = s1.heap.objs.size := by simpa using hb
    subst e
    exact I1.fpOk (Nat.le_refl _) (I1.hok.fresh (Nat.le_refl _))
  · cases r1
    obtain ⟨its, rv, p, hz⟩ := I1.tuple hq
    refine wpAny_pyIter_tuple (show s1.heap.IsTuple a its.toArray from p) ?_
    refine ⟨s1.heap.objs.size, [s1.heap.objs.size], _, _, H1, rfl, I1.kept (t' := s1.toks) fun b o e => Heap.get?_push_of_some _ e, turn_tuple a _, ⟨_, Heap.get?_push_size _ rfl, rfl, rfl⟩, fun b hb => ?_, q⟩
    have e : b = s1.heap.objs.size := by simpa using hb
    subst e
    exact I1.fpOk (Nat.le_refl _) (I1.hok.fresh (Nat.le_refl _))
theorem jw_at {F : Hp} {ρ : List Addr} {J : It} {us : List V} {ds : List D} {Gd : Hp → Prop} (w : Walk J us.length Gd (YAt us)) (hG : ∀ H, Exn F H → Gd H) (h : DtA F us ds) : JW G F ρ J (ds.map .d) := by
  have hl := h.length
  refine ⟨fun i H hi e => w.goes i H (by rw [List.length_map] at hi; omega) (hG H e), fun H e => ?_, fun i H x H' hi e y => ?_⟩
  · have := w.stops H (hG H e)
    rw [List.length_map, ← hl]
    exact this
  · obtain ⟨e1, e2⟩ := w.yields i H x H' (by rw [List.length_map] at hi; omega) (hG H e) y
    obtain ⟨d, h1, h2⟩ := h.get' e2
    exact .inl ⟨e1, .d d, by rw [List.getElem?_map, h1]; rfl, h2⟩
theorem qi_seq {l : Expr} {f : Y.E} (hl : PE X l (lE G E f)) (hK : X.K = G.K := by rfl) : PI X tg l (lI G E (iSeq f)) := by
  refine PI.imp (pi_seq hl) fun σ H Q ⟨S, F, ρ, loc, st, rp, l, o⟩ => ⟨S, F, ρ, loc, st, rp, l, out.imp (fun x H1 h1 => ?_) (out.bd (Rl := VR G) o)⟩
  obtain ⟨F1, ρ1, a, st1, g1, r1, v1, o1⟩ := h1
  cases a with
  | o _ => exact o1.elim
  | s _ => exact o1.elim
  | d x =>
    cases x with
    | tuple ds =>
      cases (show Dt F1 _ (.tuple ds) from v1) with
      | @tup a xs ds ha hd =>
        refine ⟨a, rfl, .inr ⟨⟨xs, SqT.of (r1.ex _ _ ha)⟩, out.at (v := ds.map Val.d) o1 r1 (jw_at walk_tup (fun H e => SqT.of (e _ _ ha)) hd)⟩⟩
    | list ds =>
      cases (show Dt F1 _ (.list ds) from v1) with
      | @lst a xs ds ha hd =>
        refine ⟨a, rfl, .inl ⟨⟨xs, SqL.of (r1.ex _ _ ha)⟩, out.at (v := ds.map Val.d) o1 r1 (jw_at walk_list (fun H e => SqL.of (e _ _ ha)) hd)⟩⟩
    | none => exact o1.elim
    | bool _ => exact o1.elim
    | int _ => exact o1.elim
    | str _ => exact o1.elim
    | dict _ => exact o1.elim
theorem jw_range {F : Hp} {ρ : List Addr} (lo : Int) (n : Nat) : JW G F ρ (Itr lo n) (rng lo n) := by
  have hl : (rng lo n).length = n := by unfold rng; rw [List.length_map, List.length_range]
  refine ⟨fun i H hi _ => ?_, fun H _ => ?_, fun i H x H' hi _ y => .inl ⟨y.1, vI (lo + (i : Int)), ?_, ?_⟩⟩
  · show i < n
    omega
  · show n ≤ (rng lo n).length
    omega
  · have hi' : i < n := by omega
    unfold rng
    rw [List.getElem?_map, List.getElem?_range hi']
    rfl
  · rw [y.2]
    exact .int _
theorem vr_int {F : Hp} {ρ : List Addr} {u : V} {i : Int} (h : VR G F ρ u (.d (.int i))) : u = .int i := by
  cases (show Dt F u (.int i) from h) with
  | int _ => rfl
theorem qi_rng1 {a : Expr} {f : Y.A} {p pos : Pos} (hg : Gl X "range") (hm : X.mg "range" = none) (ha : PA X [a] (lA G E f)) (hs : starEach [a] X.env = [(false, eval a X.env)] := by rfl) : PI X tg (.Call (.Name "range" p) [a] [] pos) (lI G E (iCall kRg1 f)) := by
  refine PI.imp (pi_range1 hg hm ha hs) fun σ H Q ⟨S, F, ρ, loc, st, rp, l, o⟩ => ⟨S, F, ρ, loc, st, rp, l, out.imp (fun x H1 h1 => ?_) (out.bd (Rl := VRs G) o)⟩
  obtain ⟨F1, ρ1, as, st1, g1, r1, v1, o1⟩ := h1
  unfold kRg1 at o1
  split at o1
  · rename_i n
    cases v1 with
    | cons h hr =>
      cases hr
      by_cases hb : -1000000 ≤ n ∧ n ≤ 1000000
      · rw [if_pos hb] at o1
        exact ⟨n, by rw [vr_int h], by omega, by omega, out.at (v := rng 0 n.toNat) o1 r1 (jw_range 0 n.toNat)⟩
      · rw [if_neg hb] at o1
        exact o1.elim
  · exact o1.elim
theorem qi_rng2 {a b : Expr} {f : Y.A} {p pos : Pos} (hg : Gl X "range") (hm : X.mg "range" = none) (ha : PA X [a, b] (lA G E f)) (hs : starEach [a, b] X.env = [(false, eval a X.env), (false, eval b X.env)] := by rfl) (hs2 : starEach [b] X.env = [(false, eval b X.env)] := by rfl) : PI X tg (.Call (.Name "range" p) [a, b] [] pos) (lI G E (iCall kRg2 f)) := by
  refine PI.imp (pi_range2 hg hm ha hs hs2) fun σ H Q ⟨S, F, ρ, loc, st, rp, l, o⟩ => ⟨S, F, ρ, loc, st, rp, l, out.imp (fun x H1 h1 => ?_) (out.bd (Rl := VRs G) o)⟩
  obtain ⟨F1, ρ1, as, st1, g1, r1, v1, o1⟩ := h1
  unfold kRg2 at o1
  split at o1
  · rename_i m n
    cases v1 with
    | cons h hr =>
      cases hr with
      | cons h' hr' =>
        cases hr'
        by_cases hb : -1000000 ≤ m ∧ m ≤ 1000000 ∧ -1000000 ≤ n ∧ n ≤ 1000000
        · rw [if_pos hb] at o1
          exact ⟨m, n, by rw [vr_int h, vr_int h'], ⟨by omega, by omega, by omega, by omega⟩, out.at (v := rng m (n - m).toNat) o1 r1 (jw_range m (n - m).toNat)⟩
        · rw [if_neg hb] at o1
          exact o1.elim
  · exact o1.elim
/-- the heap at a turn -/
theorem turn_rep {S F F2 : Hp} {ρ ρ2 : List Addr} {J : It} {xs : List Val} {H H' : Hp} {st : Store} {i : Nat} {x : V} {y : Val} (w : JW G F ρ J xs) (g : Gr F ρ F2 ρ2) (r : Rep G S F2 ρ2 H st) (hi : xs[i]? = some y) (yl : J.yld i H x H') :
    ∃ F3, Gr F2 ρ2 F3 ρ2 ∧ Rep G S F3 ρ2 H' st ∧ VR G F3 ρ2 x y := by
  have hlt : i < xs.length := (List.getElem?_eq_some_iff.mp hi).1
  have ex : Exn F H := fun a o h => r.ex a o (g.f a o h)
  rcases w.yields i H x H' hlt ex yl with ⟨e, y', h1, h2⟩ | ⟨T, vs, ds, h1, h2, h3, h4, h5⟩
  · rw [hi] at h1
    cases h1
    rw [e]
    exact ⟨F2, Gr.refl, r, h2.mono g⟩
  · rw [hi] at h4
    cases h4
    obtain ⟨r', g'⟩ := r.new h1 (tup_nt (xs := vs))
    rw [h2, h3]
    exact ⟨_, g', r', Dt.tup upd_same (h5.mono (g.trans g').f)⟩
end
/-! ### comprehensions -/
abbrev EF : XK := fun _ _ _ => False
section
set_option Elab.async false
variable {X : Cx} {G : Glo} {E : XK} {tg : Expr}
theorem noex_ok {α : Type} {m : M α} {st : Store} {a : α} {s : Store} (h : m st = .ok a s) : noex m st = .ok a s := by
  unfold noex
  rw [h]
theorem noex_bad {α : Type} {m : M α} {st : Store} (h : ∀ a s, m st ≠ .ok a s) : noex m st = .bad := by
  unfold noex
  cases e : m st with
  | ok a s => exact absurd e (h a s)
  | ex _ _ => rfl
  | bad => rfl
/-- the loop's word: acc is made, xs are left -/
def CP (G : Glo) (fin : List Val → M Val) (S : Hp) (F : Hp) (ρ : List Addr) (Q : VK) (E : XK) (Dl : Addr) (body : Val → M (Option Val)) (xs : List Val) (n : Nat) (H : Hp) : Prop :=
  ∃ (F2 : Hp) (ρ2 : List Addr) (st2 : Store) (av : List V) (acc : List Val), Gr F ρ F2 ρ2 ∧ Rep G (upd S Dl (.lst av)) F2 ρ2 H st2 ∧ VRs G F2 ρ2 av acc ∧ acc.length + xs.length ≤ n ∧ out G S F2 ρ2 (VR G) Q E (bd (noex (compL body xs)) (fun ys => fin (acc ++ ys)) st2)
theorem out_noex {S F : Hp} {ρ : List Addr} {α β γ δ : Type} {Rl : Hp → List Addr → β → α → Prop} {Rk : Hp → List Addr → δ → γ → Prop} {Qk : δ → Hp → Prop} {m : M α} {f : α → M γ} {st : Store} (h : out G S F ρ Rk Qk E (bd (noex m) f st)) : ∃ a s, m st = .ok a s ∧ out G S F ρ Rk Qk E (f a s) := by
  cases e : m st with
  | ok a s =>
    refine ⟨a, s, rfl, ?_⟩
    unfold bd at h
    rw [noex_ok e] at h
    exact h
  | ex c s =>
    unfold bd at h
    rw [noex_bad (fun a s' z => by rw [e] at z; cases z)] at h
    exact h.elim
  | bad =>
    unfold bd at h
    rw [noex_bad (fun a s' z => by rw [e] at z; cases z)] at h
    exact h.elim
theorem bd_ok {α β : Type} {m : M α} {f : α → M β} {st s : Store} {b : β} (h : bd m f st = .ok b s) : ∃ a s1, m st = .ok a s1 ∧ f a s1 = .ok b s := by
  unfold bd at h
  cases e : m st with
  | ok a s1 =>
    rw [e] at h
    exact ⟨a, s1, rfl, h⟩
  | ex _ _ => rw [e] at h; cases h
  | bad => rw [e] at h; cases h
theorem out_ok {S F : Hp} {ρ : List Addr} {α β : Type} {Rl : Hp → List Addr → β → α → Prop} {Q : β → Hp → Prop} {r : R α} {a : α} {s : Store} (e : r = .ok a s) (h : ∀ F' ρ' H' u, Gr F ρ F' ρ' → Rep G S F' ρ' H' s → Rl F' ρ' u a → Q u H') : out G S F ρ Rl Q E r := by
  rw [e]
  exact h
theorem wipe_wipe {σ : L2.St} {vs : List Nat} : L2.wipe (L2.wipe σ vs) vs = L2.wipe σ vs := by
  refine List.ext_getElem? fun j => ?_
  by_cases hj : j ∈ vs
  · rw [wipe_get hj, wipe_get hj, L2.wipe_length]
  · rw [wipe_out hj]
theorem comp_next {fin : List Val → M Val} {body : Val → M (Option Val)} {rest : List Val} {acc ys : List Val} {s1 s : Store} (h : compL body rest s1 = .ok ys s) : bd (noex (compL body rest)) (fun ys => fin (acc ++ ys)) s1 = fin (acc ++ ys) s := by
  unfold bd
  rw [noex_ok h]
/-- what the list becomes -/
def FinOk (G : Glo) (fin : List Val → M Val) : Prop := ∀ (S F : Hp) (ρ : List Addr) (H : Hp) (st : Store) (av : List V) (acc : List Val) (Dl : Addr) (Q : VK) (E : XK), Rep G (upd S Dl (.lst av)) F ρ H st → VRs G F ρ av acc → S Dl = none → out G S F ρ (VR G) Q E (fin acc st) → Q (.ref Dl) H
def eLcF (fin : List Val → M Val) (it : Y.I) (g : Y.G) (t : Tst) (e : Y.E) (vs : List Nat) : Y.E := fun loc => bd (it loc) fun xs => if xs.length ≤ lim then bd (noex (compL (cBody g t e (wip loc vs)) xs)) fin else die
theorem lE_lcF {fin : List Val → M Val} (hf : FinOk G fin) {it : Y.I} {g : Y.G} {t : Tst} {e : Y.E} {vs : List Nat} : ∀ σ H Q, lE G E (eLcF fin it g t e vs) σ H Q → tLc (lI G E it) (lG G EF vs g) (lT G EF t) (lE G EF e) vs σ H Q := by
  rintro σ H Q ⟨S, F, ρ, loc, st, rp, l, o⟩
  refine ⟨S, F, ρ, loc, st, rp, l, out.imp (fun J H1 h1 => ?_) (out.bd (Rl := JR G) o)⟩
  obtain ⟨F1, ρ1, xs, st1, g1, r1, jw, o1⟩ := h1
  intro Dl hD
  have hl : xs.length ≤ lim := by
    by_cases hl : xs.length ≤ lim
    · exact hl
    · have o1' : out G S F1 ρ1 (VR G) Q E ((if xs.length ≤ lim then bd (noex (compL (cBody g t e (wip loc vs)) xs)) fin else die) st1) := o1
      rw [if_neg hl] at o1'
      exact o1'.elim
  have o1 : out G S F1 ρ1 (VR G) Q E ((if xs.length ≤ lim then bd (noex (compL (cBody g t e (wip loc vs)) xs)) fin else die) st1) := o1
  rw [if_pos hl] at o1
  have hS : S Dl = none := by
    cases q : S Dl with
    | none => rfl
    | some u => rw [(r1.sd Dl u q).1] at hD; cases hD
  refine ⟨fun i m H => m = xs.length - i ∧ i ≤ xs.length ∧ CP G fin S F1 ρ1 Q E Dl (cBody g t e (wip loc vs)) (xs.drop i) xs.length H, ⟨xs.length, by simp, Nat.zero_le _, F1, ρ1, st1, [], [], Gr.refl, r1.side hD, .nil, by simp, o1⟩, ?_⟩
  rintro i m H2 ⟨rfl, hi, F2, ρ2, st2, av, acc, g2, r2, va, hn, o2⟩
  have ex2 : Exn F1 H2 := fun a o h => r2.ex a o (g2.f a o h)
  by_cases hlt : i < xs.length
  · refine .inr ⟨jw.goes i H2 hlt ex2, CP G fin S F1 ρ1 Q E Dl (cBody g t e (wip loc vs)) (xs.drop (i + 1)) xs.length, fun H' p => ⟨xs.length - (i + 1), by omega, rfl, hlt, p⟩, fun x H' yl => ?_⟩
    have hx : xs[i]? = some xs[i] := List.getElem?_eq_getElem hlt
    have hd : xs.drop i = xs[i] :: xs.drop (i + 1) := List.drop_eq_getElem_cons hlt
    obtain ⟨F3, g3, r3, v3⟩ := turn_rep jw g2 r2 hx yl
    rw [hd] at o2 hn
    obtain ⟨ys, s, hc, o'⟩ := out_noex (Rl := fun _ _ (_ : Unit) _ => True) o2
    obtain ⟨ob, s1, hb, hc⟩ := bd_ok hc
    obtain ⟨ys', s', hc2, hfin⟩ := bd_ok hc
    obtain ⟨l2, s2, hg, hb⟩ := bd_ok hb
    obtain ⟨b, s3, ht, hb⟩ := bd_ok hb
    have hfin : R.ok (consO ob ys') s' = R.ok ys s := hfin
    injection hfin with hys hss
    subst hss
    have lr3 : LR G F3 ρ2 (L2.wipe σ vs) (wip loc vs) := (l.mono ((g1.trans g2).trans g3)).wip vs
    refine ⟨upd S Dl (.lst av), F3, ρ2, wip loc vs, st2, xs[i], r3, lr3, v3, out_ok hg fun F4 ρ4 H4 σ2 g4 r4 lw => ?_⟩
    obtain ⟨lr4, w4⟩ := lw
    refine ⟨w4.trans wipe_wipe, upd S Dl (.lst av), F4, ρ4, l2, s2, r4, lr4, out_ok ht fun F5 ρ5 H5 b' g5 r5 hb' => ?_⟩
    cases hb'
    have gg : Gr F1 ρ1 F5 ρ5 := ((g2.trans g3).trans g4).trans g5
    have g25 : Gr F2 ρ2 F5 ρ5 := (g3.trans g4).trans g5
    rw [List.length_cons] at hn
    cases b with
    | false =>
      have hb2 : ob = none ∧ s3 = s1 := by
        have z : R.ok (none : Option Val) s3 = R.ok ob s1 := hb
        injection z with z1 z2
        exact ⟨z1.symm, z2⟩
      obtain ⟨rfl, rfl⟩ := hb2
      subst hys
      refine ⟨F5, ρ5, s3, av, acc, gg, r5, VRs.mono g25 va, by omega, ?_⟩
      rw [comp_next hc2]
      exact out.mono g25 o'
    | true =>
      obtain ⟨yv, s4, he, hb⟩ := bd_ok (show bd (e l2) (fun y => ret (some y)) s3 = R.ok ob s1 from hb)
      have hb2 : ob = some yv ∧ s4 = s1 := by
        have z : R.ok (some yv : Option Val) s4 = R.ok ob s1 := hb
        injection z with z1 z2
        exact ⟨z1.symm, z2⟩
      obtain ⟨rfl, rfl⟩ := hb2
      subst hys
      refine ⟨upd S Dl (.lst av), F5, ρ5, l2, s3, r5, lr4.mono g5, out_ok he fun F6 ρ6 H6 u g6 r6 vu => ?_⟩
      have hav : av.length = acc.length := va.length
      refine ⟨av, (r6.sd Dl _ upd_same).1, sz' (by omega), F6, ρ6, s4, av ++ [u], acc ++ [yv], gg.trans g6, r6.side2, Paired.snoc (VRs.mono (g25.trans g6) va) vu, by rw [List.length_append]; show acc.length + 1 + _ ≤ _; omega, ?_⟩
      rw [comp_next hc2]
      have ea : acc ++ [yv] ++ ys' = acc ++ (yv :: ys') := by simp
      rw [ea]
      exact out.mono (g25.trans g6) o'
  · have e : i = xs.length := by omega
    subst e
    refine .inl ⟨jw.stops H2 ex2, ?_⟩
    rw [List.drop_length] at o2
    have o3 : out G S F2 ρ2 (VR G) Q E (fin (acc ++ []) st2) := o2
    rw [List.append_nil] at o3
    exact hf S F2 ρ2 H2 st2 av acc Dl Q E r2 va hS o3
theorem fin_lst : FinOk G bLst := by
  intro S F2 ρ2 H2 st2 av acc Dl Q E r2 va hS o3
  unfold bLst at o3
  cases hd : toDs acc with
  | none =>
    rw [hd] at o3
    exact o3.elim
  | some ds =>
    rw [hd] at o3
    dsimp only at o3
    by_cases hz : ds.length ≤ lim
    · rw [if_pos hz] at o3
      obtain ⟨r3, g3⟩ := r2.data hS
      exact out.go (v := Val.d (.list ds)) o3 g3 r3 (Dt.lst upd_same ((toDs_rel va hd).mono g3.f))
    · rw [if_neg hz] at o3
      exact o3.elim
theorem fin_new : FinOk G bNew := by
  intro S F2 ρ2 H2 st2 av acc Dl Q E r2 va hS o3
  unfold bNew at o3
  by_cases hz : acc.length ≤ lim
  · rw [if_pos hz] at o3
    obtain ⟨r3, g3⟩ := r2.owned hS (ob := .lst acc) ⟨av, rfl, va⟩
    refine out.go (v := Val.o st2.length) o3 g3 r3 ⟨Dl, ?_, rfl⟩
    rw [List.getElem?_append_right (by rw [r2.len]; exact Nat.le_refl _), r2.len]
    simp
  · rw [if_neg hz] at o3
    exact o3.elim
theorem lE_lc {it : Y.I} {g : Y.G} {t : Tst} {e : Y.E} {vs : List Nat} : ∀ σ H Q, lE G E (eLc it g t e vs) σ H Q → tLc (lI G E it) (lG G EF vs g) (lT G EF t) (lE G EF e) vs σ H Q := lE_lcF fin_lst
theorem lE_lcN {it : Y.I} {g : Y.G} {t : Tst} {e : Y.E} {vs : List Nat} : ∀ σ H Q, lE G E (eLcN it g t e vs) σ H Q → tLc (lI G E it) (lG G EF vs g) (lT G EF t) (lE G EF e) vs σ H Q := lE_lcF fin_new
theorem qe_lc {elt tgt iter : Expr} {ifs : List Expr} {scope : Scope} {own : List (Str × Nat)} {pos : Pos} {it : Y.I} {g : Y.G} {t : Tst} {e : Y.E} (hc : X.calm = true) (hN : X.N.Nodup) (hi : PI X tgt iter (lI G E it)) (ok : BlkOk X.N X.env.scope scope own)
    (hg : ∀ (s : Shared) (H : Hp) (C : Addr) (cl : List (Str × Addr)) (fp : List Addr), PG (X.blk s H scope (compEnvC scope cl C X.env) fp) tgt (lG G EF (own.map (·.2)) g)) (ht : ∀ (s : Shared) (H : Hp) (C : Addr) (cl : List (Str × Addr)) (fp : List Addr), PTs (X.blk s H scope (compEnvC scope cl C X.env) fp) ifs (lT G EF t))
    (he : ∀ (s : Shared) (H : Hp) (C : Addr) (cl : List (Str × Addr)) (fp : List Addr), PE (X.blk s H scope (compEnvC scope cl C X.env) fp) elt (lE G EF e)) (hs : ∀ x, foldedSetIterable iter X.env x = pure x := by intro _; rfl) :
    PE X (.ListComp elt [⟨tgt, iter, ifs, 0⟩] scope pos) (lE G E (eLc it g t e (own.map (·.2)))) := PE.imp (pe_lc hc hN hi ok hg ht he hs) lE_lc
theorem qe_lcN {elt tgt iter : Expr} {ifs : List Expr} {scope : Scope} {own : List (Str × Nat)} {pos : Pos} {it : Y.I} {g : Y.G} {t : Tst} {e : Y.E} (hc : X.calm = true) (hN : X.N.Nodup) (hi : PI X tgt iter (lI G E it)) (ok : BlkOk X.N X.env.scope scope own)
    (hg : ∀ (s : Shared) (H : Hp) (C : Addr) (cl : List (Str × Addr)) (fp : List Addr), PG (X.blk s H scope (compEnvC scope cl C X.env) fp) tgt (lG G EF (own.map (·.2)) g)) (ht : ∀ (s : Shared) (H : Hp) (C : Addr) (cl : List (Str × Addr)) (fp : List Addr), PTs (X.blk s H scope (compEnvC scope cl C X.env) fp) ifs (lT G EF t))
    (he : ∀ (s : Shared) (H : Hp) (C : Addr) (cl : List (Str × Addr)) (fp : List Addr), PE (X.blk s H scope (compEnvC scope cl C X.env) fp) elt (lE G EF e)) (hs : ∀ x, foldedSetIterable iter X.env x = pure x := by intro _; rfl) :
    PE X (.ListComp elt [⟨tgt, iter, ifs, 0⟩] scope pos) (lE G E (eLcN it g t e (own.map (·.2)))) := PE.imp (pe_lc hc hN hi ok hg ht he hs) lE_lcN
theorem qts_nil : PTs X [] (lT G E tTr) := PTs.imp pts_nil fun σ H Q ⟨S, F, ρ, loc, st, rp, l, o⟩ => out.at (v := true) o rp rfl
theorem qts_one {c : Expr} {t : Tst} (h : PT X c (lT G E t)) : PTs X [c] (lT G E t) := pts_one h
end
/-! ### statements -/
/-- how a statement ends, by values -/
inductive FV where
  | nx (σ : L2.St) | bk (σ : L2.St) | ct (σ : L2.St) | rt (u : V)
def FR (G : Glo) (F : Hp) (ρ : List Addr) : FV → Fl × Loc → Prop
  | .nx σ, (.nx, loc) => LR G F ρ σ loc
  | .bk σ, (.bk, loc) => LR G F ρ σ loc
  | .ct σ, (.ct, loc) => LR G F ρ σ loc
  | .rt u, (.rt v, _) => VR G F ρ u v
  | _, _ => False
def endQ (D : Ends) : FV → Hp → Prop
  | .nx σ, H => D.nx σ H
  | .bk σ, H => D.bk σ H
  | .ct σ, H => D.ct σ H
  | .rt u, H => D.rt u H
def lS (G : Glo) (E : XK) (f : Y.S) : TS := fun D σ H => ∃ (S F : Hp) (ρ : List Addr) (loc : Loc) (st : Store), Rep G S F ρ H st ∧ LR G F ρ σ loc ∧ out G S F ρ (FR G) (endQ D) E (f loc st)
section
set_option Elab.async false
variable {X : Cx} {G : Glo} {E : XK}
theorem qss_nil : PSs X [] (lS G E sNil) := PSs.imp pss_nil fun D σ H ⟨S, F, ρ, loc, st, rp, l, o⟩ => out.at (v := (Fl.nx, loc)) (u := FV.nx σ) o rp l
theorem lS_seq {a b : Y.S} : ∀ D σ H, lS G E (sSeq a b) D σ H → tSeq (lS G E a) (lS G E b) D σ H := by
  rintro D σ H ⟨S, F, ρ, loc, st, rp, l, o⟩
  refine ⟨S, F, ρ, loc, st, rp, l, out.imp (fun u H1 h1 => ?_) (out.bd (Rl := FR G) o)⟩
  obtain ⟨F1, ρ1, ⟨fl, loc1⟩, st1, g1, r1, fr, o1⟩ := h1
  cases u with
  | nx σ1 =>
    cases fl with
    | nx => exact ⟨S, F1, ρ1, loc1, st1, r1, fr, o1⟩
    | bk => exact fr.elim
    | ct => exact fr.elim
    | rt v => exact fr.elim
  | bk σ1 =>
    cases fl with
    | bk => exact out.at (v := (Fl.bk, loc1)) (u := FV.bk σ1) o1 r1 fr
    | nx => exact fr.elim
    | ct => exact fr.elim
    | rt v => exact fr.elim
  | ct σ1 =>
    cases fl with
    | ct => exact out.at (v := (Fl.ct, loc1)) (u := FV.ct σ1) o1 r1 fr
    | nx => exact fr.elim
    | bk => exact fr.elim
    | rt v => exact fr.elim
  | rt w =>
    cases fl with
    | rt v => exact out.at (v := (Fl.rt v, loc1)) (u := FV.rt w) o1 r1 fr
    | nx => exact fr.elim
    | bk => exact fr.elim
    | ct => exact fr.elim
theorem qss_cons {st : Stmt} {rest : List Stmt} {a b : Y.S} (h1 : PS X st (lS G E a)) (h2 : PSs X rest (lS G E b)) : PSs X (st :: rest) (lS G E (sSeq a b)) := PSs.imp (pss_cons h1 h2) lS_seq
theorem qss_one {st : Stmt} {a : Y.S} (h1 : PS X st (lS G E a)) : PSs X [st] (lS G E a) := pss_one h1
theorem qs_ret {e : Expr} {f : Y.E} {pos : Pos} (h : PE X e (lE G E f)) : PS X (.Return (some e) pos) (lS G E (sRet f)) := by
  refine PS.imp (ps_ret h) fun D σ H ⟨S, F, ρ, loc, st, rp, l, o⟩ => ⟨S, F, ρ, loc, st, rp, l, out.imp (fun u H1 h1 => ?_) (out.bd (Rl := VR G) o)⟩
  obtain ⟨F1, ρ1, v, st1, g1, r1, vr, o1⟩ := h1
  exact out.at (v := (Fl.rt v, loc)) (u := FV.rt u) o1 r1 vr
theorem qs_expr {e : Expr} {f : Y.E} {pos : Pos} (h : PE X e (lE G E f)) (hs : swapsWith e none pos.line X.env = pure false := by rfl) : PS X (.Expr e pos) (lS G E (sExp f)) := by
  refine PS.imp (ps_expr h hs) fun D σ H ⟨S, F, ρ, loc, st, rp, l, o⟩ => ⟨S, F, ρ, loc, st, rp, l, out.imp (fun u H1 h1 => ?_) (out.bd (Rl := VR G) o)⟩
  obtain ⟨F1, ρ1, v, st1, g1, r1, vr, o1⟩ := h1
  exact out.at (v := (Fl.nx, loc)) (u := FV.nx σ) o1 r1 (l.mono g1)
theorem lS_asg {f : Y.E} {g : Y.G} {vs : List Nat} : ∀ D σ H, lS G E (sAsg f g) D σ H → tAsg (lE G E f) (lG G E vs g) D σ H := by
  rintro D σ H ⟨S, F, ρ, loc, st, rp, l, o⟩
  refine ⟨S, F, ρ, loc, st, rp, l, out.imp (fun u H1 h1 => ?_) (out.bd (Rl := VR G) o)⟩
  obtain ⟨F1, ρ1, v, st1, g1, r1, vr, o1⟩ := h1
  refine ⟨S, F1, ρ1, loc, st1, v, r1, l.mono g1, vr, out.imp (fun σ2 H2 h2 => ?_) (out.bd (Rl := TR G vs σ) o1)⟩
  obtain ⟨F2, ρ2, loc2, st2, g2, r2, ⟨lr, _⟩, o2⟩ := h2
  exact out.at (v := (Fl.nx, loc2)) (u := FV.nx σ2) o2 r2 lr
theorem qs_asg {tg e : Expr} {f : Y.E} {g : Y.G} {vs : List Nat} {pos : Pos} (he : PE X e (lE G E f)) (hg : PG X tg (lG G E vs g)) (hs : swapsWithSole [tg] e pos.line X.env = pure false := by rfl) (hw : swappedStores [tg] e X.env = pure none := by rfl) (ha : List.map (fun x => x.snd) (assignEach [tg] X.env) = [assign tg X.env] := by rfl) :
    PS X (.Assign [tg] e pos) (lS G E (sAsg f g)) := PS.imp (ps_asg he hg hs hw ha) lS_asg
theorem lS_asgN {f : Y.E} {i : Nat} : ∀ D σ H, lS G E (sAsg f (gN i)) D σ H → tAsg (lE G E f) (gName i) D σ H := by
  rintro D σ H ⟨S, F, ρ, loc, st, rp, l, o⟩
  refine ⟨S, F, ρ, loc, st, rp, l, out.imp (fun u H1 h1 => ?_) (out.bd (Rl := VR G) o)⟩
  obtain ⟨F1, ρ1, v, st1, g1, r1, vr, o1⟩ := h1
  exact out.at (v := (Fl.nx, loc.set i (some v))) (u := FV.nx (σ.set i (some u))) o1 r1 ((l.mono g1).set vr i)
theorem qs_set (i : Nat) {x : Str} {e : Expr} {f : Y.E} {pos pos' : Pos} (hN : X.N.Nodup) (hi : X.N[i]? = some x) (hx : L2.Loc X.env.scope x) (he : PE X e (lE G E f)) (hs : swapsWith e (some (.Name x pos')) pos.line X.env = pure false := by rfl) (hf : X.fn x = true ∨ X.env.scope.names.lookup x = some .local := by first | exact .inl rfl | exact .inr rfl | assumption) :
    PS X (.Assign [.Name x pos'] e pos) (lS G E (sAsg f (gN i))) := PS.imp (ps_set hN hi hx he hs hf) lS_asgN
theorem qs_setLc (i : Nat) {y : Str} {py : Pos} {elt tgt iter : Expr} {ifs : List Expr} {scope : Scope} {own : List (Str × Nat)} {pos spos : Pos} {it : Y.I} {g : Y.G} {t : Tst} {e : Y.E} (hc : X.calm = true) (hN : X.N.Nodup) (hy : X.N[i]? = some y) (hyl : X.env.scope.names.lookup y = some .local)
    (hsw : swapsWith (.ListComp elt [⟨tgt, iter, ifs, 0⟩] scope pos) (some (.Name y py)) spos.line X.env = pure true) (hi : PI X tgt iter (lI G E it)) (ok : BlkOk X.N X.env.scope scope own)
    (hg : ∀ (s : Shared) (H : Hp) (C : Addr) (cl : List (Str × Addr)) (fp : List Addr), PG (X.blk s H scope (compEnvC scope cl C X.env) fp) tgt (lG G EF (own.map (·.2)) g)) (ht : ∀ (s : Shared) (H : Hp) (C : Addr) (cl : List (Str × Addr)) (fp : List Addr), PTs (X.blk s H scope (compEnvC scope cl C X.env) fp) ifs (lT G EF t))
    (he : ∀ (s : Shared) (H : Hp) (C : Addr) (cl : List (Str × Addr)) (fp : List Addr), PE (X.blk s H scope (compEnvC scope cl C X.env) fp) elt (lE G EF e)) (hs : ∀ x, foldedSetIterable iter X.env x = pure x := by intro _; rfl) :
    PS X (.Assign [.Name y py] (.ListComp elt [⟨tgt, iter, ifs, 0⟩] scope pos) spos) (lS G E (sAsg (eLc it g t e (own.map (·.2))) (gN i))) := by
  refine PS.imp (ps_setLc hc hN hy hyl hsw hi ok hg ht he hs) fun D σ H h => ?_
  exact lE_lc σ H _ (lS_asgN D σ H h)
theorem qs_par (i j : Nat) {x y : Str} {a b : Expr} {fa fb : Y.E} {px py pt pt2 pos : Pos} {kt k2 : Nat} (hc : X.calm = true) (hN : X.N.Nodup) (hi : X.N[i]? = some x) (hj : X.N[j]? = some y) (hij : i ≠ j) (hx : X.env.scope.names.lookup x = some .local) (hy : X.env.scope.names.lookup y = some .local) (ha : PA X [a, b] (lA G E (aC fa (aC fb aN))))
    (hsw : swappedStores [.Tuple [.Name x px, .Name y py] kt pt] (.Tuple [a, b] k2 pt2) X.env = pure (some [x, y])) (hso : swapsWithSole [.Tuple [.Name x px, .Name y py] kt pt] (.Tuple [a, b] k2 pt2) pos.line X.env = pure false := by rfl) :
    PS X (.Assign [.Tuple [.Name x px, .Name y py] kt pt] (.Tuple [a, b] k2 pt2) pos) (lS G E (sPar i j fa fb)) := by
  refine PS.imp (ps_par hc hN hi hj hij hx hy ha hsw hso) fun D σ H ⟨S, F, ρ, loc, st, rp, l, o⟩ => ⟨S, F, ρ, loc, st, rp, l, ?_⟩
  have o' : out G S F ρ (FR G) (endQ D) E (bd (aC fa (aC fb aN) loc) (fun vs => match vs with | [v, w] => ret (Fl.nx, (loc.set i (some v)).set j (some w)) | _ => die) st) := by
    have e : bd (aC fa (aC fb aN) loc) (fun vs => match vs with | [v, w] => ret (Fl.nx, (loc.set i (some v)).set j (some w)) | _ => die) st = sPar i j fa fb loc st := by
      unfold aC aN sPar bd ret
      cases fa loc st with
      | bad => rfl
      | ex _ _ => rfl
      | ok v s =>
        dsimp only
        cases fb loc s with
        | bad => rfl
        | ex _ _ => rfl
        | ok w s' => rfl
    rw [e]
    exact o
  refine out.imp (fun us H1 h1 => ?_) (out.bd (Rl := VRs G) o')
  obtain ⟨F1, ρ1, vs, st1, g1, r1, vr, o1⟩ := h1
  cases vr with
  | nil => exact o1.elim
  | cons h hr =>
    cases hr with
    | nil => exact o1.elim
    | @cons w w' _ _ h' hr' =>
      cases hr' with
      | cons _ _ => exact o1.elim
      | nil =>
        rename_i u v
        exact ⟨u, w, rfl, out.at (v := (Fl.nx, (loc.set i (some v)).set j (some w'))) (u := FV.nx ((σ.set i (some u)).set j (some w))) o1 r1 (((l.mono g1).set h i).set h' j)⟩
theorem qs_if {c : Expr} {a b : List Stmt} {t : Tst} {f g : Y.S} {pos : Pos} (hc : PT X c (lT G E t)) (ha : PSs X a (lS G E f)) (hb : PSs X b (lS G E g)) : PS X (.If c a b pos) (lS G E (sIf t f g)) := by
  refine PS.imp (ps_if hc ha hb) fun D σ H ⟨S, F, ρ, loc, st, rp, l, o⟩ => ⟨S, F, ρ, loc, st, rp, l, out.imp (fun u H1 h1 => ?_) (out.bd (Rl := BR) o)⟩
  obtain ⟨F1, ρ1, v, st1, g1, r1, vr, o1⟩ := h1
  cases vr
  cases u with
  | true => exact ⟨S, F1, ρ1, loc, st1, r1, l.mono g1, o1⟩
  | false => exact ⟨S, F1, ρ1, loc, st1, r1, l.mono g1, o1⟩
theorem qs_brk {pos : Pos} : PS X (.Break pos) (lS G E sBrk) := PS.imp ps_break fun D σ H ⟨S, F, ρ, loc, st, rp, l, o⟩ => out.at (v := (Fl.bk, loc)) (u := FV.bk σ) o rp l
theorem qs_cnt {pos : Pos} : PS X (.Continue pos) (lS G E sCnt) := PS.imp ps_continue fun D σ H ⟨S, F, ρ, loc, st, rp, l, o⟩ => out.at (v := (Fl.ct, loc)) (u := FV.ct σ) o rp l
theorem qs_pass {pos : Pos} : PS X (.Pass pos) (lS G E sNil) := PS.imp ps_pass fun D σ H ⟨S, F, ρ, loc, st, rp, l, o⟩ => out.at (v := (Fl.nx, loc)) (u := FV.nx σ) o rp l
/-- raise of the c-th class -/
theorem qs_raise {W : WX} {e : Expr} {pos : Pos} {c : Nat} (hc : X.calm = true) (tk : L2N.Takes X W) (he : L2N.PMk X e (fun _ H Q => Q (.ref (G.cl c)) none H)) (hW : ∀ cls d σ H, E cls d H → W cls d σ H) : PS X (.Raise (some e) none pos) (lS G E (sRaise c)) := by
  refine PS.imp (L2N.ps_raise hc tk he) fun D σ H ⟨S, F, ρ, loc, st, rp, l, o⟩ => ?_
  have o' : out G S F ρ (FR G) (endQ D) E (.ex c st) := o
  exact hW _ _ _ _ (o' F ρ H Gr.refl rp)
/-! ### loops -/
theorem lS_for {it : Y.I} {g : Y.G} {b : Y.S} {vs : List Nat} : ∀ D σ H, lS G E (sFor it g b) D σ H → tFor (lI G E it) (lG G E vs g) (lS G E b) D σ H := by
  rintro D σ H ⟨S, F, ρ, loc, st, rp, l, o⟩
  refine ⟨S, F, ρ, loc, st, rp, l, out.imp (fun J H1 h1 => ?_) (out.bd (Rl := JR G) o)⟩
  obtain ⟨F1, ρ1, xs, st1, g1, r1, jw, o1⟩ := h1
  refine ⟨fun i m σ2 H2 => m = xs.length - i ∧ i ≤ xs.length ∧ ∃ F2 ρ2 loc2 st2, Gr F1 ρ1 F2 ρ2 ∧ Rep G S F2 ρ2 H2 st2 ∧ LR G F2 ρ2 σ2 loc2 ∧ out G S F2 ρ2 (FR G) (endQ D) E (forL (fBody g b) (xs.drop i) loc2 st2), ⟨xs.length, by simp, Nat.zero_le _, F1, ρ1, loc, st1, Gr.refl, r1, l.mono g1, o1⟩, ?_⟩
  rintro i m σ2 H2 ⟨rfl, hi, F2, ρ2, loc2, st2, g2, r2, l2, o2⟩
  have ex2 : Exn F1 H2 := fun a o h => r2.ex a o (g2.f a o h)
  by_cases hlt : i < xs.length
  · refine .inr ⟨jw.goes i H2 hlt ex2, fun σ3 H3 => ∃ F3 ρ3 loc3 st3, Gr F1 ρ1 F3 ρ3 ∧ Rep G S F3 ρ3 H3 st3 ∧ LR G F3 ρ3 σ3 loc3 ∧ out G S F3 ρ3 (FR G) (endQ D) E (forL (fBody g b) (xs.drop (i + 1)) loc3 st3), fun σ' H' p => ⟨xs.length - (i + 1), by omega, rfl, hlt, p⟩, fun x H' yl => ?_⟩
    have hx : xs[i]? = some xs[i] := List.getElem?_eq_getElem hlt
    have hd : xs.drop i = xs[i] :: xs.drop (i + 1) := List.drop_eq_getElem_cons hlt
    obtain ⟨F3, g3, r3, v3⟩ := turn_rep jw g2 r2 hx yl
    rw [hd] at o2
    have o3 : out G S F2 ρ2 (FR G) (endQ D) E (bd (g xs[i] loc2) (fun l3 => bd (b l3) fun r => match r.1 with
      | .nx => forL (fBody g b) (xs.drop (i + 1)) r.2
      | .ct => forL (fBody g b) (xs.drop (i + 1)) r.2
      | .bk => ret (.nx, r.2)
      | .rt v => ret (.rt v, r.2)) st2) := by
      have e : bd (g xs[i] loc2) (fun l3 => bd (b l3) fun r => match r.1 with
        | .nx => forL (fBody g b) (xs.drop (i + 1)) r.2
        | .ct => forL (fBody g b) (xs.drop (i + 1)) r.2
        | .bk => ret (.nx, r.2)
        | .rt v => ret (.rt v, r.2)) st2 = forL (fBody g b) (xs[i] :: xs.drop (i + 1)) loc2 st2 := by
        show _ = bd (bd (g xs[i] loc2) b) _ st2
        unfold bd
        cases g xs[i] loc2 st2 with
        | bad => rfl
        | ex _ _ => rfl
        | ok v s => rfl
      rw [e]
      exact o2
    refine ⟨S, F3, ρ2, loc2, st2, xs[i], r3, l2.mono g3, v3, out.imp (fun σ4 H4 h4 => ?_) (out.bd (Rl := TR G vs σ2) (out.mono g3 o3))⟩
    obtain ⟨F4, ρ4, loc4, st4, g4, r4, ⟨l4, _⟩, o4⟩ := h4
    refine ⟨S, F4, ρ4, loc4, st4, r4, l4, out.imp (fun u H5 h5 => ?_) (out.bd (Rl := FR G) o4)⟩
    obtain ⟨F5, ρ5, ⟨fl, loc5⟩, st5, g5, r5, fr, o5⟩ := h5
    have gg : Gr F1 ρ1 F5 ρ5 := ((g2.trans g3).trans g4).trans g5
    cases u with
    | nx σ5 =>
      cases fl with
      | nx => exact ⟨F5, ρ5, loc5, st5, gg, r5, fr, o5⟩
      | bk => exact fr.elim
      | ct => exact fr.elim
      | rt v => exact fr.elim
    | ct σ5 =>
      cases fl with
      | ct => exact ⟨F5, ρ5, loc5, st5, gg, r5, fr, o5⟩
      | bk => exact fr.elim
      | nx => exact fr.elim
      | rt v => exact fr.elim
    | bk σ5 =>
      cases fl with
      | bk => exact out.at (v := (Fl.nx, loc5)) (u := FV.nx σ5) o5 r5 fr
      | ct => exact fr.elim
      | nx => exact fr.elim
      | rt v => exact fr.elim
    | rt w =>
      cases fl with
      | rt v => exact out.at (v := (Fl.rt v, loc5)) (u := FV.rt w) o5 r5 fr
      | ct => exact fr.elim
      | nx => exact fr.elim
      | bk => exact fr.elim
  · have e : i = xs.length := by omega
    subst e
    refine .inl ⟨jw.stops H2 ex2, ?_⟩
    rw [List.drop_length] at o2
    exact out.at (v := (Fl.nx, loc2)) (u := FV.nx σ2) o2 r2 l2
theorem forO_chk {k : Nat} {xs0 xs : List Val} {body : Val → Y.S} {loc : Loc} {st : Store} {S F : Hp} {ρ : List Addr} {D : Ends} (o : out G S F ρ (FR G) (endQ D) E (forO k xs0 body xs loc st)) : st[k]? = some (.lst xs0) := by
  cases xs with
  | nil =>
    unfold forO at o
    by_cases h : st[k]? = some (.lst xs0)
    · exact h
    · rw [if_neg h] at o
      exact o.elim
  | cons x xs =>
    unfold forO at o
    by_cases h : st[k]? = some (.lst xs0)
    · exact h
    · rw [if_neg h] at o
      exact o.elim
theorem lS_forO {e : Y.E} {g : Y.G} {b : Y.S} {vs : List Nat} : ∀ D σ H, lS G E (sForO e g b) D σ H → tFor (iList G.K (lE G E e)) (lG G E vs g) (lS G E b) D σ H := by
  rintro D σ H ⟨S, F, ρ, loc, st, rp, l, o⟩
  refine ⟨S, F, ρ, loc, st, rp, l, out.imp (fun u H1 h1 => ?_) (out.bd (Rl := VR G) o)⟩
  obtain ⟨F1, ρ1, v, st1, g1, r1, vr, o1⟩ := h1
  cases v with
  | d _ => exact o1.elim
  | s _ => exact o1.elim
  | o k =>
    have o1 : out G S F1 ρ1 (FR G) (endQ D) E (bd (getL (.o k)) (fun p => forO p.1 p.2 (fBody g b) p.2 loc) st1) := o1
    unfold bd getL at o1
    cases q : st1[k]? with
    | none => simp only [q] at o1; exact o1.elim
    | some ob =>
      simp only [q] at o1
      cases ob with
      | ins _ _ => exact o1.elim
      | gone => exact o1.elim
      | tup _ => exact o1.elim
      | dct _ => exact o1.elim
      | lst xs =>
        dsimp only at o1
        obtain ⟨a, ha, rfl⟩ := vr
        have sq : ∀ {F2 : Hp} {ρ2 : List Addr} {H2 : Hp} {st2 : Store}, Gr F1 ρ1 F2 ρ2 → Rep G S F2 ρ2 H2 st2 → st2[k]? = some (.lst xs) → ∃ us, H2 a = some (.lst us) ∧ VRs G F2 ρ2 us xs := fun {F2 ρ2 H2 st2} g2 r2 e => by
          obtain ⟨a', h', q1, q3, q4, us, q5, q6⟩ := r2.own k _ e
          rw [g2.get ha] at q1
          cases q1
          subst q5
          exact ⟨us, q4, q6⟩
        obtain ⟨us, hus, _⟩ := sq Gr.refl r1 q
        refine ⟨a, rfl, ⟨us, SqL.of hus⟩, ?_⟩
        refine ⟨fun i m σ2 H2 => m = xs.length - i ∧ i ≤ xs.length ∧ ∃ F2 ρ2 loc2 st2, Gr F1 ρ1 F2 ρ2 ∧ Rep G S F2 ρ2 H2 st2 ∧ LR G F2 ρ2 σ2 loc2 ∧ out G S F2 ρ2 (FR G) (endQ D) E (forO k xs (fBody g b) (xs.drop i) loc2 st2), ⟨xs.length, by simp, Nat.zero_le _, F1, ρ1, loc, st1, Gr.refl, r1, l.mono g1, o1⟩, ?_⟩
        rintro i m σ2 H2 ⟨rfl, hi, F2, ρ2, loc2, st2, g2, r2, l2, o2⟩
        have hst := forO_chk o2
        obtain ⟨ws, hws, hv⟩ := sq g2 r2 hst
        have hwl := hv.length
        by_cases hlt : i < xs.length
        · refine .inr ⟨⟨ws, ws[i]'(by omega), SqL.of hws, by simp⟩, fun σ3 H3 => ∃ F3 ρ3 loc3 st3, Gr F1 ρ1 F3 ρ3 ∧ Rep G S F3 ρ3 H3 st3 ∧ LR G F3 ρ3 σ3 loc3 ∧ out G S F3 ρ3 (FR G) (endQ D) E (forO k xs (fBody g b) (xs.drop (i + 1)) loc3 st3), fun σ' H' p => ⟨xs.length - (i + 1), by omega, rfl, hlt, p⟩, fun x H' yl => ?_⟩
          have hx : xs[i]? = some xs[i] := List.getElem?_eq_getElem hlt
          have hd : xs.drop i = xs[i] :: xs.drop (i + 1) := List.drop_eq_getElem_cons hlt
          obtain ⟨rfl, hyl⟩ := yl
          have hxw := hyl ws (SqL.of hws)
          have get : ∀ {vs : List V} {as : List Val} {i : Nat} {v : Val}, VRs G F2 ρ2 vs as → as[i]? = some v → ∃ u, vs[i]? = some u ∧ VR G F2 ρ2 u v := by
            intro vs as i v h
            induction h generalizing i with
            | nil => intro e; simp at e
            | cons r _ ih =>
              intro e
              cases i with
              | zero => simp at e; subst e; exact ⟨_, rfl, r⟩
              | succ i => simpa using ih (by simpa using e)
          obtain ⟨u', hu', v3⟩ := get hv hx
          rw [hxw] at hu'
          cases hu'
          rw [hd] at o2
          unfold forO at o2
          rw [if_pos hst] at o2
          have o3 : out G S F2 ρ2 (FR G) (endQ D) E (bd (g xs[i] loc2) (fun l3 => bd (b l3) fun r => match r.1 with
            | .nx => forO k xs (fBody g b) (xs.drop (i + 1)) r.2
            | .ct => forO k xs (fBody g b) (xs.drop (i + 1)) r.2
            | .bk => ret (.nx, r.2)
            | .rt v => ret (.rt v, r.2)) st2) := by
            have e : bd (g xs[i] loc2) (fun l3 => bd (b l3) fun r => match r.1 with
              | .nx => forO k xs (fBody g b) (xs.drop (i + 1)) r.2
              | .ct => forO k xs (fBody g b) (xs.drop (i + 1)) r.2
              | .bk => ret (.nx, r.2)
              | .rt v => ret (.rt v, r.2)) st2 = bd (fBody g b xs[i] loc2) (fun r => match r.1 with
              | .nx => forO k xs (fBody g b) (xs.drop (i + 1)) r.2
              | .ct => forO k xs (fBody g b) (xs.drop (i + 1)) r.2
              | .bk => ret (.nx, r.2)
              | .rt v => ret (.rt v, r.2)) st2 := by
              unfold fBody bd
              cases g xs[i] loc2 st2 with
              | bad => rfl
              | ex _ _ => rfl
              | ok v s => rfl
            rw [e]
            exact o2
          refine ⟨S, F2, ρ2, loc2, st2, xs[i], r2, l2, v3, out.imp (fun σ4 H4 h4 => ?_) (out.bd (Rl := TR G vs σ2) o3)⟩
          obtain ⟨F4, ρ4, loc4, st4, g4, r4, ⟨l4, _⟩, o4⟩ := h4
          refine ⟨S, F4, ρ4, loc4, st4, r4, l4, out.imp (fun u H5 h5 => ?_) (out.bd (Rl := FR G) o4)⟩
          obtain ⟨F5, ρ5, ⟨fl, loc5⟩, st5, g5, r5, fr, o5⟩ := h5
          have gg : Gr F1 ρ1 F5 ρ5 := (g2.trans g4).trans g5
          cases u with
          | nx σ5 =>
            cases fl with
            | nx => exact ⟨F5, ρ5, loc5, st5, gg, r5, fr, o5⟩
            | bk => exact fr.elim
            | ct => exact fr.elim
            | rt v => exact fr.elim
          | ct σ5 =>
            cases fl with
            | ct => exact ⟨F5, ρ5, loc5, st5, gg, r5, fr, o5⟩
            | bk => exact fr.elim
            | nx => exact fr.elim
            | rt v => exact fr.elim
          | bk σ5 =>
            cases fl with
            | bk => exact out.at (v := (Fl.nx, loc5)) (u := FV.nx σ5) o5 r5 fr
            | ct => exact fr.elim
            | nx => exact fr.elim
            | rt v => exact fr.elim
          | rt w =>
            cases fl with
            | rt v => exact out.at (v := (Fl.rt v, loc5)) (u := FV.rt w) o5 r5 fr
            | ct => exact fr.elim
            | nx => exact fr.elim
            | bk => exact fr.elim
        · have e : i = xs.length := by omega
          subst e
          refine .inl ⟨⟨ws, SqL.of hws, by omega⟩, ?_⟩
          rw [List.drop_length] at o2
          unfold forO at o2
          rw [if_pos hst] at o2
          exact out.at (v := (Fl.nx, loc2)) (u := FV.nx σ2) o2 r2 l2
theorem qs_forO {tg iter : Expr} {body : List Stmt} {e : Y.E} {g : Y.G} {b : Y.S} {vs : List Nat} {pos : Pos} (hp : PassesOwn (model X.prog X.w) X.A X.env X.xe) (hc : X.calm = true) (hi : PE X iter (lE G E e)) (hg : PG X tg (lG G E vs g)) (hb : PSs X body (lS G E b)) (hs : ∀ x, foldedSetIterable iter X.env x = pure x := by intro _; rfl) (hK : X.K = G.K := by rfl) :
    PS X (.For tg iter body [] pos) (lS G E (sForO e g b)) := by
  refine PS.imp (ps_for hp hc (pi_list hi) hg hb hs) fun D σ H h => ?_
  rw [hK]
  exact lS_forO D σ H h
theorem qs_for {tg iter : Expr} {body : List Stmt} {it : Y.I} {g : Y.G} {b : Y.S} {vs : List Nat} {pos : Pos} (hp : PassesOwn (model X.prog X.w) X.A X.env X.xe) (hc : X.calm = true) (hi : PI X tg iter (lI G E it)) (hg : PG X tg (lG G E vs g)) (hb : PSs X body (lS G E b)) (hs : ∀ x, foldedSetIterable iter X.env x = pure x := by intro _; rfl) :
    PS X (.For tg iter body [] pos) (lS G E (sFor it g b)) := PS.imp (ps_for hp hc hi hg hb hs) lS_for
theorem lS_while {t : Tst} {b : Y.S} : ∀ D σ H, lS G E (sWhile t b) D σ H → tWhile (lT G E t) (lS G E b) D σ H := by
  rintro D σ H ⟨S, F, ρ, loc, st, rp, l, o⟩
  have o' : ∃ n, out G S F ρ (FR G) (endQ D) E (whl t b n loc st) := by
    unfold sWhile at o
    split at o
    · rename_i h
      exact ⟨h.choose, o⟩
    · exact o.elim
  obtain ⟨n, o1⟩ := o'
  refine ⟨fun m σ2 H2 => ∃ F2 ρ2 loc2 st2, Gr F ρ F2 ρ2 ∧ Rep G S F2 ρ2 H2 st2 ∧ LR G F2 ρ2 σ2 loc2 ∧ out G S F2 ρ2 (FR G) (endQ D) E (whl t b m loc2 st2), ⟨n, F, ρ, loc, st, Gr.refl, rp, l, o1⟩, ?_⟩
  rintro m σ2 H2 ⟨F2, ρ2, loc2, st2, g2, r2, l2, o2⟩
  cases m with
  | zero => exact o2.elim
  | succ m =>
    refine ⟨S, F2, ρ2, loc2, st2, r2, l2, out.imp (fun c H3 h3 => ?_) (out.bd (Rl := BR) o2)⟩
    obtain ⟨F3, ρ3, v, st3, g3, r3, vr, o3⟩ := h3
    cases vr
    cases c with
    | false => exact out.at (v := (Fl.nx, loc2)) (u := FV.nx σ2) o3 r3 (l2.mono g3)
    | true =>
      refine ⟨fun σ4 H4 => ∃ F4 ρ4 loc4 st4, Gr F ρ F4 ρ4 ∧ Rep G S F4 ρ4 H4 st4 ∧ LR G F4 ρ4 σ4 loc4 ∧ out G S F4 ρ4 (FR G) (endQ D) E (whl t b m loc4 st4), fun σ' H' p => ⟨m, Nat.lt_succ_self m, p⟩, S, F3, ρ3, loc2, st3, r3, l2.mono g3, out.imp (fun u H5 h5 => ?_) (out.bd (Rl := FR G) o3)⟩
      obtain ⟨F5, ρ5, ⟨fl, loc5⟩, st5, g5, r5, fr, o5⟩ := h5
      have gg : Gr F ρ F5 ρ5 := (g2.trans g3).trans g5
      cases u with
      | nx σ5 =>
        cases fl with
        | nx => exact ⟨F5, ρ5, loc5, st5, gg, r5, fr, o5⟩
        | bk => exact fr.elim
        | ct => exact fr.elim
        | rt v => exact fr.elim
      | ct σ5 =>
        cases fl with
        | ct => exact ⟨F5, ρ5, loc5, st5, gg, r5, fr, o5⟩
        | bk => exact fr.elim
        | nx => exact fr.elim
        | rt v => exact fr.elim
      | bk σ5 =>
        cases fl with
        | bk => exact out.at (v := (Fl.nx, loc5)) (u := FV.nx σ5) o5 r5 fr
        | ct => exact fr.elim
        | nx => exact fr.elim
        | rt v => exact fr.elim
      | rt w =>
        cases fl with
        | rt v => exact out.at (v := (Fl.rt v, loc5)) (u := FV.rt w) o5 r5 fr
        | ct => exact fr.elim
        | nx => exact fr.elim
        | bk => exact fr.elim
theorem qs_while {c : Expr} {body : List Stmt} {t : Tst} {b : Y.S} {pos : Pos} (hp : PassesOwn (model X.prog X.w) X.A X.env X.xe) (hc : PT X c (lT G E t)) (hb : PSs X body (lS G E b)) : PS X (.While c body [] pos) (lS G E (sWhile t b)) := PS.imp (ps_while hp hc hb) lS_while
end
/-! ### a def by its body -/
section
set_option Elab.async false
variable {P : Program} {w : World} {K : PySem.W.Frag} {mg : Str → Option Value} {base : Heap} {G : Glo}
theorem lr_start {F : Hp} {ρ : List Addr} {vs : List V} {as : List Val} {N : List Str} (h : VRs G F ρ vs as) (hl : as.length ≤ N.length) : LR G F ρ (L2.start N vs) (as.map some ++ List.replicate (N.length - as.length) none) := by
  have hv := h.length
  unfold L2.start
  refine ⟨by rw [List.length_append, List.length_append, List.length_map, List.length_map, List.length_replicate, List.length_replicate, hv], fun i v e => ?_⟩
  by_cases hi : i < as.length
  · rw [List.getElem?_append_left (by rw [List.length_map]; exact hi), List.getElem?_map] at e
    rw [List.getElem?_append_left (by rw [List.length_map]; omega), List.getElem?_map]
    have get : ∀ {vs : List V} {as : List Val} {i : Nat} {v : Val}, VRs G F ρ vs as → as[i]? = some v → ∃ u, vs[i]? = some u ∧ VR G F ρ u v := by
      intro vs as i v h
      induction h generalizing i with
      | nil => intro e; simp at e
      | cons r _ ih =>
        intro e
        cases i with
        | zero => simp at e; subst e; exact ⟨_, rfl, r⟩
        | succ i => simpa using ih (by simpa using e)
    cases q : as[i]? with
    | none => rw [q] at e; cases e
    | some a =>
      rw [q] at e
      cases e
      obtain ⟨u, h1, h2⟩ := get h q
      exact ⟨u, by rw [h1]; rfl, h2⟩
  · rw [List.getElem?_append_right (by rw [List.length_map]; omega), List.getElem?_replicate] at e
    split at e <;> cases e
/-- the promise of a def whose body reads as b -/
theorem fn_body {N : List Str} {b : Y.S} {n : Nat} {vs : List V} {H : Hp} {Q : VK} {E : XK} (hn : n ≤ N.length) (h : spF G n (runF N.length b) vs H Q E) : lS G E b { nx := fun _ H' => Q .non H', rt := Q } (L2.start N vs) H := by
  obtain ⟨S, F, ρ, st, as, rp, vr, hl, o⟩ := h
  refine ⟨S, F, ρ, _, st, rp, lr_start vr (by omega), out.imp (fun u H1 h1 => ?_) (out.bd (Rl := FR G) o)⟩
  obtain ⟨F1, ρ1, ⟨fl, loc1⟩, st1, g1, r1, fr, o1⟩ := h1
  cases u with
  | nx σ1 =>
    cases fl with
    | nx => exact out.at (v := Val.d .none) (u := V.non) o1 r1 .non
    | bk => exact fr.elim
    | ct => exact fr.elim
    | rt v => exact fr.elim
  | bk σ1 =>
    cases fl with
    | bk => exact o1.elim
    | nx => exact fr.elim
    | ct => exact fr.elim
    | rt v => exact fr.elim
  | ct σ1 =>
    cases fl with
    | ct => exact o1.elim
    | nx => exact fr.elim
    | bk => exact fr.elim
    | rt v => exact fr.elim
  | rt w =>
    cases fl with
    | rt v => exact out.at (v := v) (u := w) o1 r1 fr
    | nx => exact fr.elim
    | bk => exact fr.elim
    | ct => exact fr.elim
theorem fn_ok {x qual : Str} {st : Stmt} {f : Addr} {fd : FuncData} {N ps : List Str} {k n : Nat} {b : Y.S} (Fn : Fun K x qual st f fd) (Sc : FnScope N ps (defScope st)) (hn : n = ps.length) (hN : n ≤ N.length)
    (hb : ∀ (cdv : Value) (A : Around) (outer : List Env) (s : Shared) (H : Hp) (E : XK), Room k (A.deeper (envOfC qual (defScope st) s.heap.objs.size f cdv)) → PSs (cxOf (L2N.CX P w) P w K mg base N qual (defScope st) f cdv A outer s H E) (defBody st) (lS G E b)) :
    FnOk P w K mg base (L2N.CX P w) (k + 1) f fd ps (spF G n (runF N.length b)) := by
  obtain ⟨oc, od, kV, doc, pm, an, cdv, ct, osl, rfl, lk, hcd⟩ := Fn.ex
  refine fn_of lk hcd Sc (fun vs H Q E h => ?_) fun A outer s H vs Q E hr h => ⟨lS G E b, hb cdv A outer s H E hr, fn_body hN h⟩
  obtain ⟨S, F, ρ, st, as, rp, vr, hl, o⟩ := h
  rw [vr.length, hl, hn]
end
/-- what a def of the program lets out -/
theorem pasE {X : Cx} {E : XK} (tk : L2N.Takes X (fun cls d _ H => E cls d H)) : ∀ σ, PassesAt (L2N.CX X.prog X.w) X σ E := fun σ => L2N.passAt tk σ
theorem pasF {X : Cx} : ∀ σ, PassesAt (L2N.CX X.prog X.w) X σ EF := fun _ _ _ _ _ _ _ h => by
  obtain ⟨_, _, _, _, _, _, _, _, _, _, _, _, z⟩ := h
  exact z.elim
end Y
end
section
set_option Elab.async false
set_option Elab.async false
set_option linter.all false
set_option maxRecDepth 100000
set_option maxHeartbeats 1000000
/-! Ops: the operators and built-ins of Sem are sound. -/
namespace L2
open PySem PySem.Spec PyProof.Rows
/-! ### t * 1 is t -/
theorem tuple_mul1 (l : Addr) (items : Array Value) (n : Nat) (dd : Option Addr) (sl : Array (Option Value)) (u : Tok) :
    Meets (Builtin.«tuple.__mul__» ⟨[.ref l, .int 1 u], []⟩) (fun _ R s => s.heap.get? l = some { cls := .type "tuple", dict := dd, data := .seq items n, slots := sl } ∧
      R (.ok (.ret (Value.ref l))) s) :=
  .of_wp fun prog w A R s h => by
    obtain ⟨hp, g, d, tk, os⟩ := s
    obtain ⟨hl, h⟩ := h
    have f1 := AutoSeq1.idx_int
    have c1 : (items.isEmpty || (1 : Int) == 1) = true := by simp
    wp_walk using wpAny_loadPart' hl
    repeat (first
      | (refine wpAny_ite_false (decide_eq_false (by decide)) ?_; wp_walk using wpAny_loadPart' hl)
      | (refine wpAny_ite_true (decide_eq_true (by rw [c1])) ?_; wp_walk using wpAny_loadPart' hl))
    exact ⟨_, rfl, h⟩
def rRepT1 (K : PySem.W.Frag) : R2 := fun x y H Q => ∃ l xs, x = .ref l ∧ y = .int 1 ∧ SqT K H l xs ∧ Q (.ref l) H
section
set_option Elab.async false
variable {X : Cx}
theorem op_repT1 : OpR X (binaryOp .Mult) (rRepT1 X.K) := by
  intro pins s σ H x y v u Q I rx ry h
  obtain ⟨l, xs, rfl, rfl, hT, q⟩ := h
  cases rx
  obtain ⟨t, rfl⟩ := ry
  obtain ⟨its, r, ⟨⟨cls, dd, data, sl⟩, ho, hc, n, hd⟩, hs⟩ := I.tuple hT
  simp only at hc hd
  subst hc hd
  refine wpAny_binaryOp_repeat_ref (T := "tuple") (U := "int") (by decide) ⟨_, ho, rfl⟩ (fun s' => typeIs_int s' 1 t) noFill_tuple_mul F.fills_int_mul F.slot_int_rmul repeat_tuple F.slot_int_index.lookup
    (call_meets F.slot_int_rmul (typeIs_int s 1 t) F.entry_int_rmul (F.args_int_rmul_2 _ _) (int_rmul_tuple 1 t l its.toArray n dd sl)
      ⟨ho, rfl, ⟨_, ho, rfl⟩, call_meets F.slot_tuple_mul ⟨_, ho, rfl⟩ F.entry_tuple_mul (F.args_tuple_mul_2 _ _) (tuple_mul1 l its.toArray n dd sl t) ⟨ho, ?_⟩⟩)
  exact ⟨.ref l, H, I, rfl, q⟩
/-- * of ints as Sem has it -/
theorem op_mulA : OpR X (binaryOp .Mult) (rI (fun i j => Y.mulOk i j = true) fun i j => .int (i * j)) := opI fun i j _ _ _ _ _ hc q => by
  refine mul_int q ?_
  unfold Y.mulOk at hc
  rw [Bool.or_eq_true, Bool.or_eq_true] at hc
  rcases hc with (hc | hc) | hc
  · have := of_decide_eq_true hc
    exact .of_left (intBits_le_64 (by omega) (by omega))
  · have := of_decide_eq_true hc
    exact .of_right (intBits_le_64 (by omega) (by omega))
  · have h : i.natAbs.log2 + j.natAbs.log2 < 1000000 := of_decide_eq_true hc
    exact CMulW.ok h
end
end L2
namespace Y
open PySem PySem.Spec PyProof.Rows L2
section
set_option Elab.async false
variable {X : Cx} {G : Glo}
theorem dt_int {F : Hp} {u : V} {i : Int} (h : Dt F u (.int i)) : u = .int i := by
  cases h with
  | int _ => rfl
theorem dt_str {F : Hp} {u : V} {i : Str} (h : Dt F u (.str i)) : u = .str i := by
  cases h with
  | str _ => rfl
theorem dt_list {F : Hp} {u : V} {ds : List D} (h : Dt F u (.list ds)) : ∃ a xs, u = .ref a ∧ F a = some (.lst xs) ∧ DtA F xs ds := by
  cases h with
  | lst a b => exact ⟨_, _, rfl, a, b⟩
theorem dt_tup {F : Hp} {u : V} {ds : List D} (h : Dt F u (.tuple ds)) : ∃ a xs, u = .ref a ∧ F a = some (.tup xs) ∧ DtA F xs ds := by
  cases h with
  | tup a b => exact ⟨_, _, rfl, a, b⟩
/-! ### + -/
def rAddA (K : PySem.W.Frag) : R2 := fun x y H Q => rI0 (fun i j => .int (i + j)) x y H Q ∨ rCat x y H Q ∨ rCatA K x y H Q ∨ (∃ i j, x = .str i ∧ y = .str j ∧ i.length + j.length ≤ sizeLine ∧ Q (.str (i ++ j)) H)
theorem op_addA : OpR X (binaryOp .Add) (rAddA X.K) := op_add.or (op_cat.or (op_catA.or op_add_str))
theorem bAdd_snd : OSnd G (rAddA G.K) bAdd := by
  intro S F ρ H st x y a b Q E rp hx hy o
  unfold bAdd at o
  split at o
  · rename_i i j
    rw [dt_int hx, dt_int hy]
    exact .inl ⟨i, j, rfl, rfl, out.at (v := vI (i + j)) o rp (.int _)⟩
  · rename_i xs ys
    obtain ⟨a, us, rfl, ha, hu⟩ := dt_list hx
    obtain ⟨b, ws, rfl, hb, hw⟩ := dt_list hy
    by_cases hl : xs.length + ys.length ≤ lim
    · rw [if_pos hl] at o
      exact .inr (.inl ⟨a, b, us, ws, rfl, rfl, rp.ex _ _ ha, rp.ex _ _ hb, sz (by rw [hu.length, hw.length]; exact hl), fun p hp => out_lst rp (hu.append hw) o p hp⟩)
    · rw [if_neg hl] at o
      exact o.elim
  · rename_i xs ys
    obtain ⟨a, us, rfl, ha, hu⟩ := dt_tup hx
    obtain ⟨b, ws, rfl, hb, hw⟩ := dt_tup hy
    by_cases hl : xs.length + ys.length ≤ lim
    · rw [if_pos hl] at o
      refine .inr (.inr (.inl ⟨a, b, us, ws, rfl, rfl, SqT.of (rp.ex _ _ ha), SqT.of (rp.ex _ _ hb), sz (by rw [hu.length, hw.length]; exact hl), fun e => ?_, fun _ e => ?_, fun _ _ p hp => out_tup rp (hu.append hw) o p hp⟩))
      · subst e
        cases hu
        exact out.at (v := Val.d (.tuple ys)) o rp (Dt.tup hb hw)
      · subst e
        cases hw
        rw [List.append_nil] at o
        exact out.at (v := Val.d (.tuple xs)) o rp (Dt.tup ha hu)
    · rw [if_neg hl] at o
      exact o.elim
  · rename_i i j
    rw [dt_str hx, dt_str hy]
    by_cases hl : i.length + j.length ≤ lim
    · rw [if_pos hl] at o
      exact .inr (.inr (.inr ⟨i, j, rfl, rfl, sz hl, out.at (v := Val.d (.str (i ++ j))) o rp (.str _)⟩))
    · rw [if_neg hl] at o
      exact o.elim
  · exact o.elim
theorem bSub_snd : OSnd G (rI0 fun i j => .int (i - j)) bSub := by
  intro S F ρ H st x y a b Q E rp hx hy o
  unfold bSub at o
  split at o
  · rename_i i j
    rw [dt_int hx, dt_int hy]
    exact ⟨i, j, rfl, rfl, out.at (v := vI (i - j)) o rp (.int _)⟩
  · exact o.elim
/-! ### * -/
def rMulA (K : PySem.W.Frag) : R2 := fun x y H Q => rI (fun i j => Y.mulOk i j = true) (fun i j => .int (i * j)) x y H Q ∨ rRep x y H Q ∨ rRepT K x y H Q ∨ rRepT1 K x y H Q
theorem op_mulAll : OpR X (binaryOp .Mult) (rMulA X.K) := op_mulA.or (op_rep.or (op_repT.or op_repT1))
theorem bMul_snd : OSnd G (rMulA G.K) bMul := by
  intro S F ρ H st x y a b Q E rp hx hy o
  unfold bMul at o
  split at o
  · rename_i i j
    rw [dt_int hx, dt_int hy]
    by_cases hc : mulOk i j = true
    · rw [if_pos hc] at o
      exact .inl ⟨i, j, rfl, rfl, hc, out.at (v := vI (i * j)) o rp (.int _)⟩
    · rw [if_neg hc] at o
      exact o.elim
  · rename_i xs k
    obtain ⟨a, us, rfl, ha, hu⟩ := dt_list hx
    rw [dt_int hy]
    by_cases hl : -1000 ≤ k ∧ k ≤ 1000 ∧ xs.length ≤ 1000
    · rw [if_pos hl] at o
      refine .inr (.inl ⟨a, k, us, rfl, rfl, rp.ex _ _ ha, by omega, by omega, ?_, fun p hp => out_lst rp (hu.rep k.toNat) o p hp⟩)
      rw [hu.length, sizeLine_eq]
      have : xs.length * k.toNat ≤ 1000 * 1000 := Nat.mul_le_mul (by omega) (by omega)
      omega
    · rw [if_neg hl] at o
      exact o.elim
  · rename_i xs k
    obtain ⟨a, us, rfl, ha, hu⟩ := dt_tup hx
    rw [dt_int hy]
    by_cases hl : 1 ≤ k ∧ k ≤ 1000 ∧ 1 ≤ xs.length ∧ xs.length ≤ 1000
    · rw [if_pos hl] at o
      by_cases h1 : k = 1
      · subst h1
        refine .inr (.inr (.inr ⟨a, us, rfl, rfl, SqT.of (rp.ex _ _ ha), out.at (v := Val.d (.tuple (repD 1 xs))) o rp ?_⟩))
        have e : repD 1 xs = xs := by
          unfold repD
          show (List.replicate 1 xs).flatten = xs
          simp
        rw [e]
        exact Dt.tup ha hu
      · refine .inr (.inr (.inl ⟨a, k, us, rfl, rfl, SqT.of (rp.ex _ _ ha), fun e => ?_, by omega, hl.2.1, by rw [hu.length]; exact hl.2.2.2, fun p hp => out_tup rp (hu.rep k.toNat) o p hp⟩))
        have := hu.length
        rw [e] at this
        have h3 := hl.2.2.1
        simp at this
        omega
    · rw [if_neg hl] at o
      exact o.elim
  · exact o.elim
theorem bDiv_snd : OSnd G (rI CDivW fun i j => .int (i / j)) bDiv := by
  intro S F ρ H st x y a b Q E rp hx hy o
  unfold bDiv at o
  split at o
  · rename_i i j
    rw [dt_int hx, dt_int hy]
    by_cases hc : 0 < j ∧ j.natAbs.log2 < 9000
    · rw [if_pos hc] at o
      exact ⟨i, j, rfl, rfl, hc, out.at (v := vI (i / j)) o rp (.int _)⟩
    · rw [if_neg hc] at o
      exact o.elim
  · exact o.elim
theorem bMod_snd : OSnd G (rI (fun _ j => 0 < j) fun i j => .int (i % j)) bMod := by
  intro S F ρ H st x y a b Q E rp hx hy o
  unfold bMod at o
  split at o
  · rename_i i j
    rw [dt_int hx, dt_int hy]
    by_cases hc : 0 < j
    · rw [if_pos hc] at o
      exact ⟨i, j, rfl, rfl, hc, out.at (v := vI (i % j)) o rp (.int _)⟩
    · rw [if_neg hc] at o
      exact o.elim
  · exact o.elim
theorem bPow_snd : OSnd G (rI CPow fun i j => .int (i ^ j.toNat)) bPow := by
  intro S F ρ H st x y a b Q E rp hx hy o
  unfold bPow at o
  split at o
  · rename_i i j
    rw [dt_int hx, dt_int hy]
    by_cases hc : 0 ≤ j ∧ j ≤ 1000000 ∧ i.natAbs < 2 ^ 64
    · rw [if_pos hc] at o
      exact ⟨i, j, rfl, rfl, hc, out.at (v := vI (i ^ j.toNat)) o rp (.int _)⟩
    · rw [if_neg hc] at o
      exact o.elim
  · exact o.elim
theorem bNeg_snd : USnd G (rU fun i => .int (-i)) bNeg := by
  intro S F ρ H st x a Q E rp hx o
  unfold bNeg at o
  split at o
  · rename_i i
    rw [dt_int hx]
    exact ⟨i, rfl, out.at (v := vI (-i)) o rp (.int _)⟩
  · exact o.elim
theorem bCmp_snd {p : Int → Int → Bool} : OSnd G (rI0 fun i j => .bl (p i j)) (bCmp p) := by
  intro S F ρ H st x y a b Q E rp hx hy o
  unfold bCmp at o
  split at o
  · rename_i i j
    rw [dt_int hx, dt_int hy]
    exact ⟨i, j, rfl, rfl, out.at (v := vB (p i j)) o rp (.bl _)⟩
  · exact o.elim
/-! ### == -/
theorem ints_dp {K : PySem.W.Frag} {H : Hp} : ∀ ns : List Int, DpAll K H (ns.map V.int) (intsD ns)
  | [] => .nil
  | n :: ns => .cons (.int n) (ints_dp ns)
mutual
theorem Dp.mono {K : PySem.W.Frag} {F H : Hp} (e : Exn F H) : ∀ {v : V} {d : D}, Dp K F v d → Dp K H v d
  | _, _, .non => .non
  | _, _, .bl b => .bl b
  | _, _, .int i => .int i
  | _, _, .str x => .str x
  | _, _, .lst h k => .lst (Evl.ex_l e h) (DpAll.mono e k)
  | _, _, .tup h k => .tup (Evl.ex_t e h) (DpAll.mono e k)
theorem DpAll.mono {K : PySem.W.Frag} {F H : Hp} (e : Exn F H) : ∀ {v : List V} {d : List D}, DpAll K F v d → DpAll K H v d
  | _, _, .nil => .nil
  | _, _, .cons h k => .cons (Dp.mono e h) (DpAll.mono e k)
end
theorem snap_dp {S F : Hp} {ρ : List Addr} {H : Hp} {st : Store} {x : V} {a : Val} {d : D} {s : Store} (rp : Rep G S F ρ H st) (h : VR G F ρ x a) (e : snap a st = .ok d s) : s = st ∧ Dp G.K H x d := by
  cases a with
  | d y =>
    have e' : R.ok y st = R.ok d s := e
    injection e' with e1 e2
    subst e1 e2
    exact ⟨rfl, Dp.mono rp.ex (Dt.dp h)⟩
  | s ns =>
    have e' : R.ok (PyData.list (intsD ns)) st = R.ok d s := e
    injection e' with e1 e2
    subst e1 e2
    obtain ⟨a, rfl, hs⟩ := h
    exact ⟨rfl, .lst (Evl.ex_l rp.ex hs) (ints_dp ns)⟩
  | o k =>
    unfold snap at e
    obtain ⟨a, ha, rfl⟩ := h
    cases q : st[k]? with
    | none => simp only [q] at e; cases e
    | some ob =>
      simp only [q] at e
      cases ob with
      | ins _ _ => cases e
      | gone => cases e
      | tup _ => cases e
      | dct _ => cases e
      | lst xs =>
        dsimp only at e
        cases q2 : toDs xs with
        | none => rw [q2] at e; cases e
        | some ds =>
          rw [q2] at e
          have e' : R.ok (PyData.list ds) st = R.ok d s := e
          injection e' with e1 e2
          subst e1 e2
          obtain ⟨a', h', q1, q3, q4, vs, q5, q6⟩ := rp.own k _ q
          rw [ha] at q1
          cases q1
          subst q5
          exact ⟨rfl, .lst (SqL.of q4) (DpAll.mono rp.ex (DtA.dp (toDs_rel q6 q2)))⟩
theorem bEq_snd : OSnd G (rEqD G.K) bEq := by
  intro S F ρ H st x y a b Q E rp hx hy o
  unfold bEq bd at o
  cases e1 : snap a st with
  | bad => rw [e1] at o; exact o.elim
  | ex c s =>
    exfalso
    cases a with
    | d _ => cases e1
    | s _ => cases e1
    | o k =>
      unfold snap at e1
      revert e1
      dsimp only
      split
      · split <;> (intro z; cases z)
      · intro z; cases z
  | ok d s =>
    rw [e1] at o
    obtain ⟨rfl, hd⟩ := snap_dp rp hx e1
    dsimp only at o
    cases e2 : snap b s with
    | bad => rw [e2] at o; exact o.elim
    | ex c s' =>
      exfalso
      cases b with
      | d _ => cases e2
      | s _ => cases e2
      | o k =>
        unfold snap at e2
        revert e2
        dsimp only
        split
        · split <;> (intro z; cases z)
        · intro z; cases z
    | ok d' s' =>
      rw [e2] at o
      obtain ⟨rfl, hd'⟩ := snap_dp rp hy e2
      dsimp only at o
      unfold eqD at o
      by_cases hs : SeqAt.shaped d = true ∧ SeqAt.shaped d' = true
      · rw [if_pos hs] at o
        exact ⟨d, d', hd, hd', hs.1, hs.2, out.at (v := vB (PyData.eqv d d')) o rp (.bl _)⟩
      · rw [if_neg hs] at o
        exact o.elim
theorem bNe_snd : OSnd G (rNeD G.K) bNe := by
  intro S F ρ H st x y a b Q E rp hx hy o
  unfold bNe bd at o
  cases e1 : snap a st with
  | bad => rw [e1] at o; exact o.elim
  | ex c s =>
    exfalso
    cases a with
    | d _ => cases e1
    | s _ => cases e1
    | o k =>
      unfold snap at e1
      revert e1
      dsimp only
      split
      · split <;> (intro z; cases z)
      · intro z; cases z
  | ok d s =>
    rw [e1] at o
    obtain ⟨rfl, hd⟩ := snap_dp rp hx e1
    dsimp only at o
    cases e2 : snap b s with
    | bad => rw [e2] at o; exact o.elim
    | ex c s' =>
      exfalso
      cases b with
      | d _ => cases e2
      | s _ => cases e2
      | o k =>
        unfold snap at e2
        revert e2
        dsimp only
        split
        · split <;> (intro z; cases z)
        · intro z; cases z
    | ok d' s' =>
      rw [e2] at o
      obtain ⟨rfl, hd'⟩ := snap_dp rp hy e2
      dsimp only at o
      unfold eqD at o
      by_cases hs : SeqAt.shaped d = true ∧ SeqAt.shaped d' = true
      · rw [if_pos hs] at o
        exact ⟨d, d', hd, hd', hs.1, hs.2, out.at (v := vB (!PyData.eqv d d')) o rp (.bl _)⟩
      · rw [if_neg hs] at o
        exact o.elim
/-! ### is None -/
theorem isN_iff {F : Hp} {ρ : List Addr} {x : V} {a : Val} (h : VR G F ρ x a) : decide (x = .non) = isN a := by
  cases a with
  | o k =>
    obtain ⟨a, _, rfl⟩ := h
    rfl
  | s ns =>
    obtain ⟨a, rfl, _⟩ := h
    rfl
  | d y =>
    have h : Dt F x y := h
    cases h <;> rfl
theorem qe_isN {E : XK} {a : Expr} {f : Y.E} {j : Nat} {pos pos' : Pos} (h : PE X a (lE G E f)) : PE X (.Compare a [.Is] [.Constant .none j pos'] pos) (lE G E (eU bIsN f)) := by
  refine PE.imp (pe_cmp (pc_isN h)) fun σ H Q ⟨S, F, ρ, loc, st, rp, l, o⟩ => ⟨S, F, ρ, loc, st, rp, l, out.imp (fun x H1 h1 => ?_) (out.bd (Rl := VR G) o)⟩
  obtain ⟨F1, ρ1, a, st1, g1, r1, v1, o1⟩ := h1
  rw [isN_iff v1]
  exact out.at (v := vB (isN a)) o1 r1 (.bl _)
theorem qe_notN {E : XK} {a : Expr} {f : Y.E} {j : Nat} {pos pos' : Pos} (h : PE X a (lE G E f)) : PE X (.Compare a [.IsNot] [.Constant .none j pos'] pos) (lE G E (eU bNotN f)) := by
  refine PE.imp (pe_cmp (pc_notN h)) fun σ H Q ⟨S, F, ρ, loc, st, rp, l, o⟩ => ⟨S, F, ρ, loc, st, rp, l, out.imp (fun x H1 h1 => ?_) (out.bd (Rl := VR G) o)⟩
  obtain ⟨F1, ρ1, a, st1, g1, r1, v1, o1⟩ := h1
  rw [isN_iff v1]
  exact out.at (v := vB (!isN a)) o1 r1 (.bl _)
theorem qt_isN {E : XK} {a : Expr} {f : Y.E} {j : Nat} {pos pos' : Pos} (h : PE X a (lE G E f)) : PT X (.Compare a [.Is] [.Constant .none j pos'] pos) (lT G E (tV (eU bIsN f))) := by
  refine PT.imp (pt_cmp (pc_isN h)) fun σ H Q ⟨S, F, ρ, loc, st, rp, l, o⟩ => ⟨S, F, ρ, loc, st, rp, l, ?_⟩
  have e : tV (eU bIsN f) loc st = bd (f loc) (fun a => ret (isN a)) st := by
    unfold tV eU bd
    cases f loc st <;> rfl
  rw [e] at o
  refine out.imp (fun x H1 h1 => ?_) (out.bd (Rl := VR G) o)
  obtain ⟨F1, ρ1, a, st1, g1, r1, v1, o1⟩ := h1
  exact ⟨isN a, by rw [isN_iff v1], out.at (v := isN a) o1 r1 rfl⟩
theorem qt_notN {E : XK} {a : Expr} {f : Y.E} {j : Nat} {pos pos' : Pos} (h : PE X a (lE G E f)) : PT X (.Compare a [.IsNot] [.Constant .none j pos'] pos) (lT G E (tV (eU bNotN f))) := by
  refine PT.imp (pt_cmp (pc_notN h)) fun σ H Q ⟨S, F, ρ, loc, st, rp, l, o⟩ => ⟨S, F, ρ, loc, st, rp, l, ?_⟩
  have e : tV (eU bNotN f) loc st = bd (f loc) (fun a => ret (!isN a)) st := by
    unfold tV eU bd
    cases f loc st <;> rfl
  rw [e] at o
  refine out.imp (fun x H1 h1 => ?_) (out.bd (Rl := VR G) o)
  obtain ⟨F1, ρ1, a, st1, g1, r1, v1, o1⟩ := h1
  exact ⟨!isN a, by rw [isN_iff v1], out.at (v := !isN a) o1 r1 rfl⟩
/-! ### items -/
theorem ixN_eq (n : Nat) (i : Int) : Y.ixN n i = L2.ixN n i := rfl
theorem atI_dt {F : Hp} {us : List V} {ds : List D} {i : Int} {d : D} (h : DtA F us ds) (e : Y.atI ds i = some d) : ∃ u, L2.atI us i = some u ∧ Dt F u d := by
  unfold Y.atI at e
  unfold L2.atI
  rw [h.length, ← ixN_eq]
  cases q : Y.ixN ds.length i with
  | none => rw [q] at e; cases e
  | some j =>
    rw [q] at e
    exact h.get e
theorem vrs_get {F : Hp} {ρ : List Addr} {vs : List V} {as : List Val} {i : Nat} {v : Val} (h : VRs G F ρ vs as) : as[i]? = some v → ∃ u, vs[i]? = some u ∧ VR G F ρ u v := by
  induction h generalizing i with
  | nil => intro e; simp at e
  | cons r _ ih =>
    intro e
    cases i with
    | zero => simp at e; subst e; exact ⟨_, rfl, r⟩
    | succ i => simpa using ih (by simpa using e)
theorem atI_vr {F : Hp} {ρ : List Addr} {us : List V} {ds : List Val} {i : Int} {d : Val} (h : VRs G F ρ us ds) (e : Y.atI ds i = some d) : ∃ u, L2.atI us i = some u ∧ VR G F ρ u d := by
  unfold Y.atI at e
  unfold L2.atI
  rw [h.length, ← ixN_eq]
  cases q : Y.ixN ds.length i with
  | none => rw [q] at e; cases e
  | some j =>
    rw [q] at e
    exact vrs_get h e
theorem own_lst {S F : Hp} {ρ : List Addr} {H : Hp} {st : Store} {x : V} {k : Nat} {xs : List Val} (rp : Rep G S F ρ H st) (h : VR G F ρ x (.o k)) (q : st[k]? = some (.lst xs)) : ∃ a vs, x = .ref a ∧ ρ[k]? = some a ∧ H a = some (.lst vs) ∧ VRs G F ρ vs xs := by
  obtain ⟨a, ha, rfl⟩ := h
  obtain ⟨a', h', q1, q3, q4, vs, q5, q6⟩ := rp.own k _ q
  rw [ha] at q1
  cases q1
  subst q5
  exact ⟨a, vs, rfl, ha, q4, q6⟩
theorem bIx_snd : OSnd G (rIx G.K) bIx := by
  intro S F ρ H st x y a b Q E rp hx hy o
  unfold bIx at o
  split at o
  · rename_i xs i
    obtain ⟨a, us, rfl, ha, hu⟩ := dt_list hx
    rw [dt_int hy]
    cases q : Y.atI xs i with
    | none => rw [q] at o; exact o.elim
    | some d =>
      rw [q] at o
      obtain ⟨u, h1, h2⟩ := atI_dt hu q
      exact .inl ⟨a, us, i, u, rfl, rfl, SqL.of (rp.ex _ _ ha), h1, out.at (v := Val.d d) o rp h2⟩
  · rename_i xs i
    obtain ⟨a, us, rfl, ha, hu⟩ := dt_tup hx
    rw [dt_int hy]
    cases q : Y.atI xs i with
    | none => rw [q] at o; exact o.elim
    | some d =>
      rw [q] at o
      obtain ⟨u, h1, h2⟩ := atI_dt hu q
      exact .inr (.inl ⟨a, us, i, u, rfl, rfl, SqT.of (rp.ex _ _ ha), h1, out.at (v := Val.d d) o rp h2⟩)
  · rename_i ns i
    obtain ⟨a, rfl, hs⟩ := hx
    rw [dt_int hy]
    cases q : Y.atI ns i with
    | none => rw [q] at o; exact o.elim
    | some d =>
      rw [q] at o
      refine .inl ⟨a, ns.map V.int, i, .int d, rfl, rfl, Evl.ex_l rp.ex hs, ?_, out.at (v := vI d) o rp (.int d)⟩
      unfold Y.atI at q
      unfold L2.atI
      rw [List.length_map, ← ixN_eq]
      cases q2 : Y.ixN ns.length i with
      | none => rw [q2] at q; cases q
      | some j =>
        rw [q2] at q
        show (ns.map V.int)[j]? = _
        have q : ns[j]? = some d := q
        rw [List.getElem?_map, q] <;> rfl
  · rename_i k i
    rw [dt_int hy]
    cases q : st[k]? with
    | none => simp only [q] at o; exact o.elim
    | some ob =>
      simp only [q] at o
      cases ob with
      | ins _ _ => exact o.elim
      | gone => exact o.elim
      | tup _ => exact o.elim
      | dct _ => exact o.elim
      | lst xs =>
        dsimp only at o
        obtain ⟨a, vs, rfl, ha, hh, hv⟩ := own_lst rp hx q
        cases q2 : Y.atI xs i with
        | none => rw [q2] at o; exact o.elim
        | some d =>
          rw [q2] at o
          obtain ⟨u, h1, h2⟩ := atI_vr hv q2
          exact .inl ⟨a, vs, i, u, rfl, rfl, SqL.of hh, h1, out.at (v := d) o rp h2⟩
  · exact o.elim
/-! ### built-ins -/
theorem bLen_snd : BSnd G (fun xs H Q => ∃ p ys, xs = [.ref p] ∧ (SqL G.K H p ys ∨ SqT G.K H p ys) ∧ Q (.int ys.length) H) bLen := by
  intro S F ρ H st xs as Q E rp hx o
  unfold bLen at o
  split at o
  · rename_i ds
    cases hx with
    | cons h hr =>
      cases hr
      obtain ⟨a, us, rfl, ha, hu⟩ := dt_list h
      refine ⟨a, us, rfl, .inl (SqL.of (rp.ex _ _ ha)), ?_⟩
      rw [hu.length]
      exact out.at (v := vI ds.length) o rp (.int _)
  · rename_i ds
    cases hx with
    | cons h hr =>
      cases hr
      obtain ⟨a, us, rfl, ha, hu⟩ := dt_tup h
      refine ⟨a, us, rfl, .inr (SqT.of (rp.ex _ _ ha)), ?_⟩
      rw [hu.length]
      exact out.at (v := vI ds.length) o rp (.int _)
  · rename_i ns
    cases hx with
    | cons h hr =>
      cases hr
      obtain ⟨a, rfl, hs⟩ := h
      refine ⟨a, ns.map V.int, rfl, .inl (Evl.ex_l rp.ex hs), ?_⟩
      rw [List.length_map]
      exact out.at (v := vI ns.length) o rp (.int _)
  · rename_i k
    cases hx with
    | cons h hr =>
      cases hr
      cases q : st[k]? with
      | none => simp only [q] at o; exact o.elim
      | some ob =>
        simp only [q] at o
        cases ob with
        | ins _ _ => exact o.elim
        | gone => exact o.elim
        | tup _ => exact o.elim
        | dct _ => exact o.elim
        | lst ys =>
          dsimp only at o
          obtain ⟨a, vs, rfl, ha, hh, hv⟩ := own_lst rp h q
          refine ⟨a, vs, rfl, .inl (SqL.of hh), ?_⟩
          rw [hv.length]
          exact out.at (v := vI ys.length) o rp (.int _)
  · exact o.elim
theorem toBs_rel {F : Hp} : ∀ {us : List V} {ds : List D} {bs : List Bool}, DtA F us ds → toBs ds = some bs → us = bs.map V.bl
  | _, [], bs, .nil, e => by
    cases e
    rfl
  | _, d :: r, bs, .cons h k, e => by
    cases d with
    | bool b =>
      unfold toBs at e
      cases q : toBs r with
      | none => rw [q] at e; cases e
      | some es =>
        rw [q] at e
        cases e
        cases h
        rw [toBs_rel k q]
        rfl
    | none => cases e
    | int _ => cases e
    | str _ => cases e
    | list _ => cases e
    | tuple _ => cases e
    | dict _ => cases e
theorem toIs_rel {F : Hp} : ∀ {us : List V} {ds : List D} {bs : List Int}, DtA F us ds → toIs ds = some bs → us = bs.map V.int
  | _, [], bs, .nil, e => by
    cases e
    rfl
  | _, d :: r, bs, .cons h k, e => by
    cases d with
    | int b =>
      unfold toIs at e
      cases q : toIs r with
      | none => rw [q] at e; cases e
      | some es =>
        rw [q] at e
        cases e
        cases h
        rw [toIs_rel k q]
        rfl
    | none => cases e
    | bool _ => cases e
    | str _ => cases e
    | list _ => cases e
    | tuple _ => cases e
    | dict _ => cases e
theorem bAll_snd : BSnd G (rAll G.K) bAll := by
  intro S F ρ H st xs as Q E rp hx o
  unfold bAll at o
  split at o
  · rename_i ds
    cases hx with
    | cons h hr =>
      cases hr
      obtain ⟨a, us, rfl, ha, hu⟩ := dt_list h
      cases q : toBs ds with
      | none => rw [q] at o; exact o.elim
      | some bs =>
        rw [q] at o
        have e := toBs_rel hu q
        subst e
        exact ⟨a, bs, rfl, SqL.of (rp.ex _ _ ha), out.at (v := vB (bs.all id)) o rp (.bl _)⟩
  · exact o.elim
theorem bAny_snd : BSnd G (rAny G.K) bAny := by
  intro S F ρ H st xs as Q E rp hx o
  unfold bAny at o
  split at o
  · rename_i ds
    cases hx with
    | cons h hr =>
      cases hr
      obtain ⟨a, us, rfl, ha, hu⟩ := dt_list h
      cases q : toBs ds with
      | none => rw [q] at o; exact o.elim
      | some bs =>
        rw [q] at o
        have e := toBs_rel hu q
        subst e
        exact ⟨a, bs, rfl, SqL.of (rp.ex _ _ ha), out.at (v := vB (bs.any id)) o rp (.bl _)⟩
  · exact o.elim
theorem bSum_snd : BSnd G (rSum G.K) bSum := by
  intro S F ρ H st xs as Q E rp hx o
  unfold bSum at o
  split at o
  · rename_i ds
    cases hx with
    | cons h hr =>
      cases hr
      obtain ⟨a, us, rfl, ha, hu⟩ := dt_list h
      cases q : toIs ds with
      | none => rw [q] at o; exact o.elim
      | some bs =>
        rw [q] at o
        have e := toIs_rel hu q
        subst e
        exact ⟨a, bs, rfl, SqL.of (rp.ex _ _ ha), out.at (v := vI bs.sum) o rp (.int _)⟩
  · exact o.elim
theorem bTuple_snd : BSnd G (fun xs H Q => ∃ p ys, xs = [.ref p] ∧ ((SqL G.K H p ys ∧ ∀ l, H l = none → Q (.ref l) (upd H l (.tup ys))) ∨ (SqT G.K H p ys ∧ Q (.ref p) H))) bTuple := by
  intro S F ρ H st xs as Q E rp hx o
  unfold bTuple at o
  split at o
  · rename_i ds
    cases hx with
    | cons h hr =>
      cases hr
      obtain ⟨a, us, rfl, ha, hu⟩ := dt_list h
      exact ⟨a, us, rfl, .inl ⟨SqL.of (rp.ex _ _ ha), fun p hp => out_tup rp hu o p hp⟩⟩
  · rename_i ds
    cases hx with
    | cons h hr =>
      cases hr
      have h0 := h
      obtain ⟨a, us, rfl, ha, hu⟩ := dt_tup h
      exact ⟨a, us, rfl, .inr ⟨SqT.of (rp.ex _ _ ha), out.at (v := Val.d (.tuple ds)) o rp h0⟩⟩
  · rename_i k
    cases hx with
    | cons h hr =>
      cases hr
      cases q : st[k]? with
      | none => simp only [q] at o; exact o.elim
      | some ob =>
        simp only [q] at o
        cases ob with
        | ins _ _ => exact o.elim
        | gone => exact o.elim
        | tup _ => exact o.elim
        | dct _ => exact o.elim
        | lst ys =>
          dsimp only at o
          obtain ⟨a, vs, rfl, ha, hh, hv⟩ := own_lst rp h q
          cases q2 : toDs ys with
          | none => rw [q2] at o; exact o.elim
          | some ds =>
            rw [q2] at o
            exact ⟨a, vs, rfl, .inl ⟨SqL.of hh, fun p hp => out_tup rp (toDs_rel hv q2) o p hp⟩⟩
  · exact o.elim
theorem bMax2_snd : BSnd G (fun xs H Q => ∃ i j, xs = [.int i, .int j] ∧ Q (.int (if j > i then j else i)) H) bMax2 := by
  intro S F ρ H st xs as Q E rp hx o
  unfold bMax2 at o
  split at o
  · rename_i i j
    cases hx with
    | cons h hr =>
      cases hr with
      | cons h' hr' =>
        cases hr'
        rw [dt_int h, dt_int h']
        exact ⟨i, j, rfl, out.at (v := vI (if j > i then j else i)) o rp (.int _)⟩
  · exact o.elim
theorem bMin2_snd : BSnd G (fun xs H Q => ∃ i j, xs = [.int i, .int j] ∧ Q (.int (if j < i then j else i)) H) bMin2 := by
  intro S F ρ H st xs as Q E rp hx o
  unfold bMin2 at o
  split at o
  · rename_i i j
    cases hx with
    | cons h hr =>
      cases hr with
      | cons h' hr' =>
        cases hr'
        rw [dt_int h, dt_int h']
        exact ⟨i, j, rfl, out.at (v := vI (if j < i then j else i)) o rp (.int _)⟩
  · exact o.elim
/-! ### isinstance(e, T) -/
theorem kit_tys : ∀ T ∈ ["int", "bool", "tuple", "list", "str"], L2.kitB "NoneType" T = some false ∧ L2.kitB "bool" T = some (T == "int" || T == "bool") ∧ L2.kitB "int" T = some (T == "int") ∧ L2.kitB "str" T = some (T == "str") ∧ L2.kitB "list" T = some (T == "list") ∧ L2.kitB "tuple" T = some (T == "tuple") := by
  decide +kernel
theorem qe_isi {E : XK} {a : Expr} {f : Y.E} {T : String} {x : Str} {p q pos : Pos} (hT : T ∈ ["int", "bool", "tuple", "list", "str"]) (hg : Gl X "isinstance") (hm : X.mg "isinstance" = none) (hgT : Gl X x) (hmT : X.mg x = none) (hvT : bootBuiltins x = some (.type T)) (h : PE X a (lE G E f)) (hn : x ≠ "__name__" := by decide) (hd : (x == ("__debug__" : Str)) = false := by decide)
    (hs : starEach [a, .Name x q] X.env = (false, eval a X.env) :: starEach [.Name x q] X.env := by rfl) (hs2 : starEach [.Name x q] X.env = (false, eval (.Name x q) X.env) :: starEach [] X.env := by rfl) (hpl : (backTo pos (starEach [.Name x q] X.env)).any (·.1) = false := by rfl) (hK : X.K = G.K := by rfl) :
    PE X (.Call (.Name "isinstance" p) [a, .Name x q] [] pos) (lE G E (eU (bIsi T) f)) := by
  have hty : PE X (.Name x q) (tC (.ty T)) := pe_bltn hgT hmT hvT rfl hn hd
  refine PE.imp (pe_callB call_isi hg hm (by decide +kernel) (pa_cons h (pa_cons hty pa_nil hs2) hs) (by decide) (by decide) hs hpl) fun σ H Q ⟨S, F, ρ, loc, st, rp, l, o⟩ => ⟨S, F, ρ, loc, st, rp, l, out.imp (fun x H1 h1 => ?_) (out.bd (Rl := VR G) o)⟩
  obtain ⟨F1, ρ1, a, st1, g1, r1, v1, o1⟩ := h1
  obtain ⟨k1, k2, k3, k4, k5, k6⟩ := kit_tys T hT
  cases a with
  | o _ => exact o1.elim
  | s _ => exact o1.elim
  | d y =>
    have v1 : Dt F1 x y := v1
    cases v1 with
    | non => exact ⟨_, _, _, _, _, rfl, .ty T, .base .non, kit_ty k1, out.at (v := vB false) o1 r1 (.bl _)⟩
    | bl b => exact ⟨_, _, _, _, _, rfl, .ty T, .base (.bl b), kit_ty k2, out.at (v := vB (T == "int" || T == "bool")) o1 r1 (.bl _)⟩
    | int i => exact ⟨_, _, _, _, _, rfl, .ty T, .base (.int i), kit_ty k3, out.at (v := vB (T == "int")) o1 r1 (.bl _)⟩
    | str i => exact ⟨_, _, _, _, _, rfl, .ty T, .base (.str i), kit_ty k4, out.at (v := vB (T == "str")) o1 r1 (.bl _)⟩
    | lst ha hd => exact ⟨_, _, _, _, _, rfl, .ty T, .base (.lst (r1.ex _ _ ha)), kit_ty k5, out.at (v := vB (T == "list")) o1 r1 (.bl _)⟩
    | tup ha hd => exact ⟨_, _, _, _, _, rfl, .ty T, .base (.tup (r1.ex _ _ ha)), kit_ty k6, out.at (v := vB (T == "tuple")) o1 r1 (.bl _)⟩
/-! ### slices -/
theorem cut_dt {F : Hp} {us : List V} {ds : List D} (h : DtA F us ds) (lo hi : Option Int) : DtA F (cutV us lo hi) (cutD ds lo hi) := by
  unfold cutV cutD
  rw [h.length]
  exact (h.drop _).take _
def rSlAll (K : PySem.W.Frag) : V → Option Int → Option Int → Hp → VK → Prop := fun x lo hi H Q => rSlA K x lo hi H Q ∨ rSlL K x lo hi H Q
theorem sl_all : SlR X (rSlAll X.K) := sl_tupA.or sl_list
theorem bSl_snd : LSnd G (rSlAll G.K) bSl := by
  intro S F ρ H st x a lo hi Q E rp hx o
  unfold bSl at o
  split at o
  · rename_i xs
    have h0 := hx
    obtain ⟨a, us, rfl, ha, hu⟩ := dt_tup hx
    refine .inl ⟨a, us, rfl, SqT.of (rp.ex _ _ ha), fun hw => ?_, fun _ p hp => out_tup rp (cut_dt hu lo hi) o p hp⟩
    have e : cutD xs lo hi = xs := by
      unfold cutD
      have h1 : sIx xs.length 0 lo = 0 := by rw [← hu.length]; exact hw.1
      have h2 : sIx xs.length xs.length hi = xs.length := by rw [← hu.length]; exact hw.2
      rw [h1, h2]
      simp
    rw [e] at o
    exact out.at (v := Val.d (.tuple xs)) o rp h0
  · rename_i xs
    obtain ⟨a, us, rfl, ha, hu⟩ := dt_list hx
    exact .inr ⟨a, us, rfl, SqL.of (rp.ex _ _ ha), fun p hp => out_lst rp (cut_dt hu lo hi) o p hp⟩
  · exact o.elim
/-! ### o[i] = v, o.append(v) on objects of the store -/
theorem VRs.set {F : Hp} {ρ : List Addr} {u : V} {v : Val} (r : VR G F ρ u v) : ∀ {us : List V} {vs : List Val} (i : Nat), VRs G F ρ us vs → VRs G F ρ (us.set i u) (vs.set i v)
  | _, _, _, .nil => .nil
  | _, _, 0, .cons _ t => .cons r t
  | _, _, i + 1, .cons q t => .cons q (VRs.set r i t)
theorem qg_sub {E : XK} {vs : List Nat} {o i : Expr} {fo fi : Y.E} {pos : Pos} (ho : PE X o (lE G E fo)) (hi : PE X i (lE G E fi)) (ha : ∀ v, assign (.Subscript o i pos) X.env v = (do
      let ov ← holding [v] (eval o X.env)
      let iv ← holding [v, ov] (eval i X.env)
      standAt pos
      holding [v, ov, iv] (setItem ov iv v)
      release [v, ov, iv] []) := by intro _; rfl) : PG X (.Subscript o i pos) (lG G E vs (gSub fo fi)) := by
  refine PG.imp (pg_sub ho hi set_list ha) fun v σ H Q ⟨S, F, ρ, loc, st, x, rp, l, r, ou⟩ => ⟨S, F, ρ, loc, st, rp, l, out.imp (fun ov H1 h1 => ?_) (out.bd (Rl := VR G) ou)⟩
  obtain ⟨F1, ρ1, a, st1, g1, r1, v1, o1⟩ := h1
  refine ⟨S, F1, ρ1, loc, st1, r1, l.mono g1, out.imp (fun iv H2 h2 => ?_) (out.bd (Rl := VR G) o1)⟩
  obtain ⟨F2, ρ2, b, st2, g2, r2, v2, o2⟩ := h2
  have v1' := v1.mono g2
  have g12 := g1.trans g2
  dsimp only at o2
  split at o2
  · rename_i k j
    rw [dt_int v2]
    cases q : st2[k]? with
    | none => simp only [q] at o2; exact o2.elim
    | some ob =>
      simp only [q] at o2
      cases ob with
      | ins _ _ => exact o2.elim
      | gone => exact o2.elim
      | tup _ => exact o2.elim
      | dct _ => exact o2.elim
      | lst ys =>
        dsimp only at o2
        obtain ⟨a, us, rfl, hk, hh, hv⟩ := own_lst r2 v1' q
        cases q2 : Y.ixN ys.length j with
        | none => rw [q2] at o2; exact o2.elim
        | some m =>
          rw [q2] at o2
          refine ⟨a, us, j, m, rfl, rfl, hh, by rw [← ixN_eq, hv.length]; exact q2, ?_⟩
          exact out.go (v := loc) o2 Gr.refl (r2.put' q hk hh trivial ⟨us.set m v, rfl, VRs.set (r.mono g12) m hv⟩) ⟨l.mono g12, rfl⟩
  · exact o2.elim
theorem qe_app {E : XK} {o e : Expr} {fo fe : Y.E} {apos cpos : Pos} (ho : PE X o (lE G E fo)) (he : PE X e (lE G E fe)) (hs0 : starEach [e] X.env = (false, eval e X.env) :: starEach [] X.env := by rfl) (hbase : attributeBase o "append" X.env (eval o X.env) = eval o X.env := by rfl)
    (hfew : ((backTo cpos (starEach [e] X.env)).all (fun x => !x.1) && (backToKw cpos (keywordEach [] X.env)).all (fun x => x.1.isSome) && decide (([e] : List Expr).length + ([] : List Keyword).length + (if ([] : List Keyword).isEmpty then 0 else 1) < 30)) = true := by rfl)
    (hline : (apos.endLine == cpos.line) = true := by rfl) : PE X (.Call (.Attribute o "append" apos) [e] [] cpos) (lE G E (eApp fo fe)) := by
  refine PE.imp (pe_bm PySem.F.plainAttrs_list PySem.F.slot_list_append PySem.F.type_list_append mt_append ho (pa_cons he pa_nil hs0) hbase hfew hline hs0 rfl) fun σ H Q ⟨S, F, ρ, loc, st, rp, l, ou⟩ => ⟨S, F, ρ, loc, st, rp, l, out.imp (fun ov H1 h1 => ?_) (out.bd (Rl := VR G) ou)⟩
  obtain ⟨F1, ρ1, a, st1, g1, r1, v1, o1⟩ := h1
  cases a with
  | d _ => exact o1.elim
  | s _ => exact o1.elim
  | o k =>
    have o1 : out G S F1 ρ1 (VR G) Q E (bd (chkL (.o k)) (fun k => bd (fe loc) fun v => appS k v) st1) := o1
    unfold chkL at o1
    unfold bd at o1
    cases q : st1[k]? with
    | none => simp only [q] at o1; exact o1.elim
    | some ob =>
      simp only [q] at o1
      cases ob with
      | ins _ _ => exact o1.elim
      | gone => exact o1.elim
      | tup _ => exact o1.elim
      | dct _ => exact o1.elim
      | lst ys =>
        dsimp only at o1
        obtain ⟨a, us, rfl, hk, hh, hv⟩ := own_lst r1 v1 q
        refine ⟨.inl ⟨rfl, us, SqL.of hh⟩, S, F1, ρ1, loc, st1, r1, l.mono g1, out.imp (fun w H2 h2 => ?_) (out.bd (Rl := VR G) o1)⟩
        obtain ⟨F2, ρ2, b, st2, g2, r2, v2, o2⟩ := h2
        have v1' := v1.mono g2
        unfold appS at o2
        cases q2 : st2[k]? with
        | none => simp only [q2] at o2; exact o2.elim
        | some ob2 =>
          simp only [q2] at o2
          cases ob2 with
          | ins _ _ => exact o2.elim
          | gone => exact o2.elim
          | tup _ => exact o2.elim
          | dct _ => exact o2.elim
          | lst zs =>
            dsimp only at o2
            obtain ⟨a', ws, e1, hk', hh', hv'⟩ := own_lst r2 v1' q2
            cases e1
            by_cases hl : zs.length < lim
            · rw [if_pos hl] at o2
              refine ⟨a, ws, w, rfl, rfl, hh', by rw [hv'.length]; exact sz' hl, ?_⟩
              exact out.go (v := Val.d .none) o2 Gr.refl (r2.put' q2 hk' hh' trivial ⟨ws ++ [w], rfl, Paired.snoc hv' v2⟩) .non
            · rw [if_neg hl] at o2
              exact o2.elim
end
end Y
end
section
set_option Elab.async false
set_option Elab.async false
set_option linter.all false
set_option maxRecDepth 100000
set_option maxHeartbeats 2000000
/-! Zp: zip of two, of three sequences, each a list or a tuple; enumerate of either. -/
namespace ZP
open PySem
def SIk (kd : Bool) (h : Heap) (it l : Addr) (i : Nat) : Prop := match kd with
  | true => h.IsTupleIter it l i
  | false => h.IsListIter it l i
def SAk (kd : Bool) (h : Heap) (l : Addr) (xs : Array Value) : Prop := match kd with
  | true => h.IsTuple l xs
  | false => h.IsList l xs
theorem SIk.obj {kd : Bool} {h : Heap} {it l : Addr} {i : Nat} (x : SIk kd h it l i) : ∃ o vs, h.get? it = some o ∧ o.data = .fields vs := by
  cases kd with
  | true => obtain ⟨o, e, _, d⟩ := x; exact ⟨o, _, e, d⟩
  | false => obtain ⟨o, e, _, d⟩ := x; exact ⟨o, _, e, d⟩
theorem SIk.at {kd : Bool} {h h' : Heap} {it l : Addr} {i : Nat} (x : SIk kd h it l i) (k : ∀ o, h.get? it = some o → h'.get? it = some o) : SIk kd h' it l i := by
  cases kd with
  | true => obtain ⟨o, e, c, d⟩ := x; exact ⟨o, k _ e, c, d⟩
  | false => obtain ⟨o, e, c, d⟩ := x; exact ⟨o, k _ e, c, d⟩
theorem SAk.at {kd : Bool} {h h' : Heap} {l : Addr} {xs : Array Value} (x : SAk kd h l xs) (k : ∀ o, h.get? l = some o → h'.get? l = some o) : SAk kd h' l xs := by
  cases kd with
  | true => obtain ⟨o, e, c, n, d⟩ := x; exact ⟨o, k _ e, c, n, d⟩
  | false => obtain ⟨o, e, c, n, d⟩ := x; exact ⟨o, k _ e, c, n, d⟩
theorem SAk.lt {kd : Bool} {h : Heap} {l : Addr} {xs : Array Value} (x : SAk kd h l xs) : l < h.objs.size := by
  cases kd with
  | true => obtain ⟨o, e, c, n, d⟩ := x; exact Heap.lt_size e
  | false => obtain ⟨o, e, c, n, d⟩ := x; exact Heap.lt_size e
def itObj (kd : Bool) (l : Addr) : Obj := match kd with
  | true => { cls := .type "tuple_iterator", data := .fields #[.ref l, .int 0 0] }
  | false => { cls := .type "list_iterator", data := .fields #[.ref l, .int 0 0] }
theorem itObj_freed (kd : Bool) (l : Addr) : (itObj kd l).isFreed = false := by cases kd <;> rfl
theorem SIk.start {kd : Bool} {h : Heap} {it l : Addr} (e : h.get? it = some (itObj kd l)) : SIk kd h it l 0 := by
  cases kd with
  | true => exact ⟨_, e, rfl, rfl⟩
  | false => exact ⟨_, e, rfl, rfl⟩
section
set_option Elab.async false
variable {prog : Program} {w : World} {A : Around} {E : Value → Shared → Prop} {s : Shared}
theorem nextOf_item {kd : Bool} {it l : Addr} {i : Nat} {items : Array Value} {x : Value} {Q : Value → Shared → Prop} (hit : SIk kd s.heap it l i) (hl : SAk kd s.heap l items) (hx : items[i]? = some x)
    (hQ : ∀ h', SIk kd h' it l (i + 1) → Heap.SameBut it s.heap h' → Q x { s with heap := h' }) : wpAny (model prog w) A (Builtin.SmallTypes.nextOf (.ref it)) Q E s := by
  cases kd with
  | true => exact RZ.nextOf_tuple_item hit hl hx hQ
  | false => exact wpAny_nextOf_list_item hit hl hx hQ
theorem nextOf_end {kd : Bool} {it l : Addr} {i : Nat} {items : Array Value} {Q : Value → Shared → Prop} (hh : A.handled = none) (hit : SIk kd s.heap it l i) (hl : SAk kd s.heap l items) (hx : items[i]? = none)
    (hE : ∀ h' e, Heap.ExtBut it s.heap h' → (∃ o, h'.get? e = some o ∧ o.cls = .type "StopIteration") → E (.ref e) { s with heap := h' }) : wpAny (model prog w) A (Builtin.SmallTypes.nextOf (.ref it)) Q E s := by
  cases kd with
  | true => exact RZ.nextOf_tuple_end hh hit hl hx hE
  | false => exact wpAny_nextOf_list_end hh hit hl hx hE
theorem pyIter_k {kd : Bool} {l : Addr} {items : Array Value} {Q : Value → Shared → Prop} (hl : SAk kd s.heap l items) (hQ : Q (.ref s.heap.objs.size) { s with heap := s.heap.push (itObj kd l) }) : wpAny (model prog w) A (pyIter (.ref l)) Q E s := by
  cases kd with
  | true => exact wpAny_pyIter_tuple hl hQ
  | false => exact wpAny_pyIter_list hl hQ
theorem updateSeq_t {T : Addr} {vs : Array Value} {x : Value} {k : Nat} {Q : Unit → Shared → Prop} (hT : s.heap.get? T = some { cls := .type "tuple", data := .seq vs })
    (h : ∀ h', h'.get? T = some { cls := .type "tuple", data := .seq (vs.setIfInBounds k x) } → Heap.SameBut T s.heap h' → Q () { s with heap := h' }) (h5 : vs.size ≤ 10 := by simp) :
    wpAny (model prog w) A (updateSeq T (·.setIfInBounds k x)) Q E s := by
  have z1 : vs.size ≤ sizeLine := by rw [sizeLine_eq]; omega
  have z2 : (vs.setIfInBounds k x).size ≤ sizeLine + 1 := by rw [Array.size_setIfInBounds]; omega
  refine wpAny_updateSeq hT rfl (h _ ?_ (Heap.SameBut.update ..)) z1 z2
  rw [Heap.get?_update_self _ hT rfl]
  simp [Obj.mapSeq]
end
abbrev IsT (h : Heap) (T : Addr) (vs : Array Value) : Prop := h.get? T = some { cls := .type "tuple", data := .seq vs }

structure Ap2 (z TI TO i1 i2 l1 l2 : Addr) : Prop where
  TIz : TI ≠ z
  TOz : TO ≠ z
  TOTI : TO ≠ TI
  i1z : i1 ≠ z
  i1TI : i1 ≠ TI
  i1TO : i1 ≠ TO
  i2z : i2 ≠ z
  i2TI : i2 ≠ TI
  i2TO : i2 ≠ TO
  i2i1 : i2 ≠ i1
  l1z : l1 ≠ z
  l1TO : l1 ≠ TO
  l1i1 : l1 ≠ i1
  l1i2 : l1 ≠ i2
  l2z : l2 ≠ z
  l2TO : l2 ≠ TO
  l2i1 : l2 ≠ i1
  l2i2 : l2 ≠ i2
section
set_option Elab.async false
variable {prog : Program} {w : World} {A : Around} {E : Value → Shared → Prop} {s : Shared}
theorem zip2_item {z TI TO i1 i2 l1 l2 : Addr} {d1 d2 : Bool} {k0 : Nat} {xs1 xs2 : Array Value} {a1 a2 : Value} {y1 y2 : Value} {Q : Value → Shared → Prop} (D : Ap2 z TI TO i1 i2 l1 l2)
    (hz : IsZip s.heap z TI TO .none) (hTI : IsT s.heap TI #[.ref i1, .ref i2]) (hTO : IsT s.heap TO #[a1, a2])
    (s1 : SIk d1 s.heap i1 l1 k0) (s2 : SIk d2 s.heap i2 l2 k0) (q1 : SAk d1 s.heap l1 xs1) (q2 : SAk d2 s.heap l2 xs2) (e1 : xs1[k0]? = some y1) (e2 : xs2[k0]? = some y2)
    (hQ : ∀ h', IsZip h' z TI TO (rawInt s.heap.objs.size) → IsT h' TO #[y1, y2] → SIk d1 h' i1 l1 (k0 + 1) → SIk d2 h' i2 l2 (k0 + 1) → IsT h' s.heap.objs.size #[y1, y2] → h'.objs.size = s.heap.objs.size + 1 →
      (∀ c o, c ≠ z → c ≠ TO → c ≠ i1 → c ≠ i2 → s.heap.get? c = some o → h'.get? c = some o) → Q (.ref s.heap.objs.size) { s with heap := h' }) :
    wpAny (model prog w) A (Builtin.«zip.__next__» ⟨[.ref z], []⟩) (fun fin s' => ∃ v, fin = .done (.ret v) ∧ Q v s') E s := by
  show wpAny _ _ (field (.ref z) 2 >>= _) _ _ _
  refine wpAny_bind (wpAny_field hz rfl (x := .bool false) rfl ?_)
  show wpAny _ _ (field (.ref z) 3 >>= _) _ _ _
  refine wpAny_bind (wpAny_field hz rfl (x := .ref TI) rfl ?_)
  refine wpAny_bind (wpAny_seqItems hTI rfl ?_)
  show wpAny _ _ (Builtin.SmallTypes.ownedTupleIsFree (.ref z) >>= _) _ _ _
  refine wpAny_bind ?_
  unfold Builtin.SmallTypes.ownedTupleIsFree
  refine wpAny_bind (wpAny_field hz rfl (x := .none) rfl (wpAny_pure ?_))
  simp only [if_true]
  refine wpAny_bind (wpAny_rule ?_)
  refine wpAny_bind (wpAny_field hz rfl (x := .ref TO) rfl ?_)
  refine wpAny_bind (wpAny_setField_rec hz (by simp) fun h0 hz0 hs0 => ?_)
  replace hz0 : IsZip h0 z TI TO .ellipsis := hz0
  have kp0 : ∀ c o, c ≠ z → s.heap.get? c = some o → h0.get? c = some o := fun c o c1 e => hs0.extBut _ _ c1 e
  refine wpAny_bind ?_
  simp only [List.zipIdx_cons, List.zipIdx_nil, List.forIn_cons, List.forIn_nil]
  have s1_0 := s1.at fun o e => kp0 _ o D.i1z e
  have q1_0 := q1.at fun o e => kp0 _ o D.l1z e
  have s2_0 := s2.at fun o e => kp0 _ o D.i2z e
  have q2_0 := q2.at fun o e => kp0 _ o D.l2z e
  have hTO0 := kp0 _ _ D.TOz hTO
  refine wpAny_bind (wpAny_bind (wpAny_onRaise ?_))
  show wpAny _ _ (Builtin.SmallTypes.nextOf (.ref i1) >>= _) _ _ _
  refine wpAny_bind (nextOf_item s1_0 q1_0 e1 fun hA1 sA1 bA1 => wpAny_pure ?_)
  have hTOA1 := bA1.extBut _ _ D.i1TO.symm hTO0
  refine wpAny_bind (wpAny_seqItems hTOA1 rfl ?_)
  refine wpAny_bind (updateSeq_t hTOA1 fun h1 hTO1 bB1 => ?_)
  replace hTO1 : IsT h1 TO #[y1, a2] := hTO1
  refine wpAny_bind (wpAny_letGo (wpAny_pure ?_))
  have kp1 : ∀ c o, c ≠ i1 → c ≠ TO → h0.get? c = some o → h1.get? c = some o := fun c o c1 c2 e => bB1.extBut _ _ c2 (bA1.extBut _ _ c1 e)
  have hz1 : IsZip h1 z TI TO .ellipsis := kp1 _ _ D.i1z.symm D.TOz.symm hz0
  have s1_1 := sA1.at fun o e => bB1.extBut _ _ D.i1TO e
  have q1_1 := q1_0.at fun o e => kp1 _ o D.l1i1 D.l1TO e
  have s2_1 := s2_0.at fun o e => kp1 _ o D.i2i1 D.i2TO e
  have q2_1 := q2_0.at fun o e => kp1 _ o D.l2i1 D.l2TO e
  refine wpAny_bind (wpAny_bind (wpAny_onRaise ?_))
  show wpAny _ _ (Builtin.SmallTypes.nextOf (.ref i2) >>= _) _ _ _
  refine wpAny_bind (nextOf_item s2_1 q2_1 e2 fun hA2 sA2 bA2 => wpAny_pure ?_)
  have hTOA2 := bA2.extBut _ _ D.i2TO.symm hTO1
  refine wpAny_bind (wpAny_seqItems hTOA2 rfl ?_)
  refine wpAny_bind (updateSeq_t hTOA2 fun h2 hTO2 bB2 => ?_)
  replace hTO2 : IsT h2 TO #[y1, y2] := hTO2
  refine wpAny_bind (wpAny_letGo (wpAny_pure (wpAny_pure ?_)))
  have kp2 : ∀ c o, c ≠ i2 → c ≠ TO → h1.get? c = some o → h2.get? c = some o := fun c o c1 c2 e => bB2.extBut _ _ c2 (bA2.extBut _ _ c1 e)
  have hz2 : IsZip h2 z TI TO .ellipsis := kp2 _ _ D.i2z.symm D.TOz.symm hz1
  have s1_2 := s1_1.at fun o e => kp2 _ o D.i2i1.symm D.i1TO e
  have q1_2 := q1_1.at fun o e => kp2 _ o D.l1i2 D.l1TO e
  have s2_2 := sA2.at fun o e => bB2.extBut _ _ D.i2TO e
  have q2_2 := q2_1.at fun o e => kp2 _ o D.l2i2 D.l2TO e
  refine wpAny_bind (wpAny_seqItems hTO2 rfl ?_)
  refine wpAny_bind (wpAny_newTuple ?_)
  have hsz : h2.objs.size = s.heap.objs.size := by rw [bB2.1, bA2.1, bB1.1, bA1.1, hs0.1]
  have hk : (∀ c o, c ≠ z → c ≠ TO → c ≠ i1 → c ≠ i2 → s.heap.get? c = some o → h2.get? c = some o) := fun c o c1 c2 d1 d2 e => kp2 c o d2 c2 (kp1 c o d1 c2 (kp0 c o c1 e))
  have hzlt : z < h2.objs.size := Heap.lt_size hz2
  show wpAny _ _ (Builtin.SmallTypes.ownedTupleHandOut (.ref z) (.ref h2.objs.size) >>= _) _ _ _
  refine wpAny_bind ?_
  unfold Builtin.SmallTypes.ownedTupleHandOut
  have hz6 : IsZip (h2.push { cls := .type "tuple", data := .seq #[y1, y2] }) z TI TO .ellipsis := Heap.get?_push_of_some _ hz2
  refine wpAny_bind (wpAny_setField_rec hz6 (by simp) fun h7 hz7 hs7 => ?_)
  replace hz7 : IsZip h7 z TI TO (rawInt h2.objs.size) := hz7
  refine wpAny_setField_rec hz7 (by simp) fun h8 hz8 hs8 => ?_
  replace hz8 : IsZip h8 z TI TO (rawInt h2.objs.size) := hz8
  have up : ∀ c o, c ≠ z → h2.get? c = some o → h8.get? c = some o := fun c o c1 e => hs8.extBut _ _ c1 (hs7.extBut _ _ c1 (Heap.get?_push_of_some _ e))
  have hT8 : IsT h8 h2.objs.size #[y1, y2] := hs8.extBut _ _ (Nat.ne_of_gt hzlt) (hs7.extBut _ _ (Nat.ne_of_gt hzlt) (Heap.get?_push_size _ rfl))
  have hz8s : h8.objs.size = h2.objs.size + 1 := by rw [hs8.1, hs7.1, Heap.size_push]
  rw [hsz] at hz8 hT8 hz8s
  refine wpAny_pure ⟨_, rfl, ?_⟩
  show Q (.ref h2.objs.size) _
  rw [hsz]
  exact hQ h8 hz8 (up _ _ D.TOz hTO2) (s1_2.at fun o e => up _ o D.i1z e) (s2_2.at fun o e => up _ o D.i2z e) hT8 hz8s fun c o c1 c2 d1 d2 e => up c o c1 (hk c o c1 c2 d1 d2 e)
theorem zip2_end {z TI TO i1 i2 l1 l2 : Addr} {d1 d2 : Bool} {k0 : Nat} {xs1 xs2 : Array Value} {a1 a2 : Value} {Q : Fin → Shared → Prop} (hh : A.handled = none) (D : Ap2 z TI TO i1 i2 l1 l2)
    (hz : IsZip s.heap z TI TO .none) (hTI : IsT s.heap TI #[.ref i1, .ref i2]) (hTO : IsT s.heap TO #[a1, a2])
    (s1 : SIk d1 s.heap i1 l1 k0) (s2 : SIk d2 s.heap i2 l2 k0) (q1 : SAk d1 s.heap l1 xs1) (q2 : SAk d2 s.heap l2 xs2) (hend : xs1[k0]? = none ∨ xs2[k0]? = none)
    (hE : ∀ h' e, (∀ c o, c ≠ z → c ≠ TO → c ≠ i1 → c ≠ i2 → s.heap.get? c = some o → h'.get? c = some o) → (∃ o, h'.get? e = some o ∧ o.cls = .type "StopIteration") → E (.ref e) { s with heap := h' }) :
    wpAny (model prog w) A (Builtin.«zip.__next__» ⟨[.ref z], []⟩) Q E s := by
  show wpAny _ _ (field (.ref z) 2 >>= _) _ _ _
  refine wpAny_bind (wpAny_field hz rfl (x := .bool false) rfl ?_)
  show wpAny _ _ (field (.ref z) 3 >>= _) _ _ _
  refine wpAny_bind (wpAny_field hz rfl (x := .ref TI) rfl ?_)
  refine wpAny_bind (wpAny_seqItems hTI rfl ?_)
  show wpAny _ _ (Builtin.SmallTypes.ownedTupleIsFree (.ref z) >>= _) _ _ _
  refine wpAny_bind ?_
  unfold Builtin.SmallTypes.ownedTupleIsFree
  refine wpAny_bind (wpAny_field hz rfl (x := .none) rfl (wpAny_pure ?_))
  simp only [if_true]
  refine wpAny_bind (wpAny_rule ?_)
  refine wpAny_bind (wpAny_field hz rfl (x := .ref TO) rfl ?_)
  refine wpAny_bind (wpAny_setField_rec hz (by simp) fun h0 hz0 hs0 => ?_)
  replace hz0 : IsZip h0 z TI TO .ellipsis := hz0
  have kp0 : ∀ c o, c ≠ z → s.heap.get? c = some o → h0.get? c = some o := fun c o c1 e => hs0.extBut _ _ c1 e
  refine wpAny_bind ?_
  simp only [List.zipIdx_cons, List.zipIdx_nil, List.forIn_cons, List.forIn_nil]
  have s1_0 := s1.at fun o e => kp0 _ o D.i1z e
  have q1_0 := q1.at fun o e => kp0 _ o D.l1z e
  have s2_0 := s2.at fun o e => kp0 _ o D.i2z e
  have q2_0 := q2.at fun o e => kp0 _ o D.l2z e
  have hTO0 := kp0 _ _ D.TOz hTO
  refine wpAny_bind (wpAny_bind (wpAny_onRaise ?_))
  show wpAny _ _ (Builtin.SmallTypes.nextOf (.ref i1) >>= _) _ _ _
  cases e1 : xs1[k0]? with
  | none =>
    refine wpAny_bind (nextOf_end hh s1_0 q1_0 e1 fun hX e bX he => ?_)
    obtain ⟨oe, hoe, hce⟩ := he
    have hzX : IsZip hX z TI TO .ellipsis := bX _ _ D.i1z.symm hz0
    have hez : e ≠ z := fun x => by subst x; rw [hzX] at hoe; cases hoe; simp at hce
    exact wpAny_setField_rec hzX (by simp) fun h3 _ hs3 => hE h3 e (fun c o c1 c2 d1 d2 x => hs3.extBut _ _ c1 (bX _ _ d1 (kp0 c o c1 x))) ⟨oe, hs3.extBut _ _ hez hoe, hce⟩
  | some y1 =>
    refine wpAny_bind (nextOf_item s1_0 q1_0 e1 fun hA1 sA1 bA1 => wpAny_pure ?_)
    have hTOA1 := bA1.extBut _ _ D.i1TO.symm hTO0
    refine wpAny_bind (wpAny_seqItems hTOA1 rfl ?_)
    refine wpAny_bind (updateSeq_t hTOA1 fun h1 hTO1 bB1 => ?_)
    refine wpAny_bind (wpAny_letGo (wpAny_pure ?_))
    have kp1 : ∀ c o, c ≠ i1 → c ≠ TO → h0.get? c = some o → h1.get? c = some o := fun c o c1 c2 e => bB1.extBut _ _ c2 (bA1.extBut _ _ c1 e)
    have hz1 : IsZip h1 z TI TO .ellipsis := kp1 _ _ D.i1z.symm D.TOz.symm hz0
    have s2_1 := s2_0.at fun o e => kp1 _ o D.i2i1 D.i2TO e
    have q2_1 := q2_0.at fun o e => kp1 _ o D.l2i1 D.l2TO e
    refine wpAny_bind (wpAny_bind (wpAny_onRaise ?_))
    show wpAny _ _ (Builtin.SmallTypes.nextOf (.ref i2) >>= _) _ _ _
    have e2 : xs2[k0]? = none := by
      rcases hend with h | h
      · rw [e1] at h; cases h
      · exact h
    refine wpAny_bind (nextOf_end hh s2_1 q2_1 e2 fun hX e bX he => ?_)
    obtain ⟨oe, hoe, hce⟩ := he
    have hzX : IsZip hX z TI TO .ellipsis := bX _ _ D.i2z.symm hz1
    have hez : e ≠ z := fun x => by subst x; rw [hzX] at hoe; cases hoe; simp at hce
    exact wpAny_setField_rec hzX (by simp) fun h3 _ hs3 => hE h3 e (fun c o c1 c2 d1 d2 x => hs3.extBut _ _ c1 (bX _ _ d2 (kp1 c o d1 c2 (kp0 c o c1 x)))) ⟨oe, hs3.extBut _ _ hez hoe, hce⟩
theorem pyNext_zip2_item {z TI TO i1 i2 l1 l2 : Addr} {d1 d2 : Bool} {k0 : Nat} {xs1 xs2 : Array Value} {a1 a2 : Value} {y1 y2 : Value} {Q : Option Value → Shared → Prop} (D : Ap2 z TI TO i1 i2 l1 l2)
    (hz : IsZip s.heap z TI TO .none) (hTI : IsT s.heap TI #[.ref i1, .ref i2]) (hTO : IsT s.heap TO #[a1, a2])
    (s1 : SIk d1 s.heap i1 l1 k0) (s2 : SIk d2 s.heap i2 l2 k0) (q1 : SAk d1 s.heap l1 xs1) (q2 : SAk d2 s.heap l2 xs2) (e1 : xs1[k0]? = some y1) (e2 : xs2[k0]? = some y2)
    (hQ : ∀ h', IsZip h' z TI TO (rawInt s.heap.objs.size) → IsT h' TO #[y1, y2] → SIk d1 h' i1 l1 (k0 + 1) → SIk d2 h' i2 l2 (k0 + 1) → IsT h' s.heap.objs.size #[y1, y2] → h'.objs.size = s.heap.objs.size + 1 →
      (∀ c o, c ≠ z → c ≠ TO → c ≠ i1 → c ≠ i2 → s.heap.get? c = some o → h'.get? c = some o) → Q (some (.ref s.heap.objs.size)) { s with heap := h' }) :
    wpAny (model prog w) A (pyNext (.ref z)) Q E s := by
  have hT : s.TypeIs (.ref z) "zip" := ⟨_, hz, rfl⟩
  unfold pyNext
  exact wpAny_bind (wpAny_attempt (wpAny_callSpecial?_slot (name := Str.ofString "__next__") hT F.slot_zip_next
    (wpAny_call_entry F.slot_zip_next hT F.entry_zip_next
      (zip2_item D hz hTI hTO s1 s2 q1 q2 e1 e2 fun h' b1 b2 c1 c2 b3 b4 b5 => wpAny_pure (hQ h' b1 b2 c1 c2 b3 b4 b5)) (F.args_zip_next_1 _))))
theorem pyNext_zip2_end {z TI TO i1 i2 l1 l2 : Addr} {d1 d2 : Bool} {k0 : Nat} {xs1 xs2 : Array Value} {a1 a2 : Value} {Q : Option Value → Shared → Prop} (hh : A.handled = none) (D : Ap2 z TI TO i1 i2 l1 l2)
    (hz : IsZip s.heap z TI TO .none) (hTI : IsT s.heap TI #[.ref i1, .ref i2]) (hTO : IsT s.heap TO #[a1, a2])
    (s1 : SIk d1 s.heap i1 l1 k0) (s2 : SIk d2 s.heap i2 l2 k0) (q1 : SAk d1 s.heap l1 xs1) (q2 : SAk d2 s.heap l2 xs2) (hend : xs1[k0]? = none ∨ xs2[k0]? = none)
    (hQ : ∀ h', (∀ c o, c ≠ z → c ≠ TO → c ≠ i1 → c ≠ i2 → s.heap.get? c = some o → h'.get? c = some o) → Q none { s with heap := h' }) : wpAny (model prog w) A (pyNext (.ref z)) Q E s := by
  have hT : s.TypeIs (.ref z) "zip" := ⟨_, hz, rfl⟩
  unfold pyNext
  refine wpAny_bind (wpAny_attempt (wpAny_callSpecial?_slot (name := Str.ofString "__next__") hT F.slot_zip_next
    (wpAny_call_entry F.slot_zip_next hT F.entry_zip_next (zip2_end hh D hz hTI hTO s1 s2 q1 q2 hend fun h' e hk he => ?_) (F.args_zip_next_1 _))))
  obtain ⟨o, ho, hc⟩ := he
  refine wpAny_bind (wpAny_isInstance (T := "StopIteration") (b := true) ⟨o, ho, hc⟩ isSubtype_stop ?_)
  exact wpAny_pure (hQ _ hk)
end
abbrev z2H0 (h : Heap) : Heap := h
abbrev z2H1 (h : Heap) (d1 : Bool) (d2 : Bool) (l1 : Addr) (l2 : Addr) : Heap := (h).push (itObj d1 l1)
abbrev z2H2 (h : Heap) (d1 : Bool) (d2 : Bool) (l1 : Addr) (l2 : Addr) : Heap := (z2H1 h d1 d2 l1 l2).push (itObj d2 l2)
abbrev z2HT (h : Heap) (d1 : Bool) (d2 : Bool) (l1 : Addr) (l2 : Addr) : Heap := (z2H2 h d1 d2 l1 l2).push { cls := .type "tuple", data := .seq #[.ref h.objs.size, .ref (z2H1 h d1 d2 l1 l2).objs.size] }
abbrev z2HO (h : Heap) (d1 : Bool) (d2 : Bool) (l1 : Addr) (l2 : Addr) : Heap := (z2HT h d1 d2 l1 l2).push { cls := .type "tuple", data := .seq #[.none, .none] }
abbrev z2HZ (h : Heap) (d1 : Bool) (d2 : Bool) (l1 : Addr) (l2 : Addr) : Heap := (z2HO h d1 d2 l1 l2).push { cls := .type "zip", data := .fields #[.none, .bool false, .bool false, .ref (z2H2 h d1 d2 l1 l2).objs.size, .ref (z2HT h d1 d2 l1 l2).objs.size] }
theorem meets_zip2 (d1 : Bool) (d2 : Bool) (l1 : Addr) (l2 : Addr) (xs1 xs2 : Array Value) :
    Meets (Builtin.«zip.__new__» ⟨[.type "zip", .ref l1, .ref l2], []⟩) (fun _ R s => SAk d1 s.heap l1 xs1 ∧ SAk d2 s.heap l2 xs2 ∧
      R (.ok (.ret (.ref (z2HO s.heap d1 d2 l1 l2).objs.size))) { s with heap := z2HZ s.heap d1 d2 l1 l2 }) :=
  .of_wp fun prog w A R s h => by
    obtain ⟨hp, g, d, tk, os⟩ := s; obtain ⟨q1, q2, h⟩ := h
    have hsub := sub_zip
    have L1 : SAk d1 (Shared.heap ⟨hp, g, d, tk, os⟩) l1 xs1 := q1.at fun o e => e
    have L2 : SAk d2 (Shared.heap ⟨(hp).push (itObj d1 l1), g, d, tk, os⟩) l2 xs2 := q2.at fun o e => Heap.get?_push_of_some _ (e)
    wp_walk using pyIter_k L1, pyIter_k L2
    exact ⟨_, rfl, h⟩
structure Ap3 (z TI TO i1 i2 i3 l1 l2 l3 : Addr) : Prop where
  TIz : TI ≠ z
  TOz : TO ≠ z
  TOTI : TO ≠ TI
  i1z : i1 ≠ z
  i1TI : i1 ≠ TI
  i1TO : i1 ≠ TO
  i2z : i2 ≠ z
  i2TI : i2 ≠ TI
  i2TO : i2 ≠ TO
  i2i1 : i2 ≠ i1
  i3z : i3 ≠ z
  i3TI : i3 ≠ TI
  i3TO : i3 ≠ TO
  i3i1 : i3 ≠ i1
  i3i2 : i3 ≠ i2
  l1z : l1 ≠ z
  l1TO : l1 ≠ TO
  l1i1 : l1 ≠ i1
  l1i2 : l1 ≠ i2
  l1i3 : l1 ≠ i3
  l2z : l2 ≠ z
  l2TO : l2 ≠ TO
  l2i1 : l2 ≠ i1
  l2i2 : l2 ≠ i2
  l2i3 : l2 ≠ i3
  l3z : l3 ≠ z
  l3TO : l3 ≠ TO
  l3i1 : l3 ≠ i1
  l3i2 : l3 ≠ i2
  l3i3 : l3 ≠ i3
section
set_option Elab.async false
variable {prog : Program} {w : World} {A : Around} {E : Value → Shared → Prop} {s : Shared}
theorem zip3_item {z TI TO i1 i2 i3 l1 l2 l3 : Addr} {d1 d2 d3 : Bool} {k0 : Nat} {xs1 xs2 xs3 : Array Value} {a1 a2 a3 : Value} {y1 y2 y3 : Value} {Q : Value → Shared → Prop} (D : Ap3 z TI TO i1 i2 i3 l1 l2 l3)
    (hz : IsZip s.heap z TI TO .none) (hTI : IsT s.heap TI #[.ref i1, .ref i2, .ref i3]) (hTO : IsT s.heap TO #[a1, a2, a3])
    (s1 : SIk d1 s.heap i1 l1 k0) (s2 : SIk d2 s.heap i2 l2 k0) (s3 : SIk d3 s.heap i3 l3 k0) (q1 : SAk d1 s.heap l1 xs1) (q2 : SAk d2 s.heap l2 xs2) (q3 : SAk d3 s.heap l3 xs3) (e1 : xs1[k0]? = some y1) (e2 : xs2[k0]? = some y2) (e3 : xs3[k0]? = some y3)
    (hQ : ∀ h', IsZip h' z TI TO (rawInt s.heap.objs.size) → IsT h' TO #[y1, y2, y3] → SIk d1 h' i1 l1 (k0 + 1) → SIk d2 h' i2 l2 (k0 + 1) → SIk d3 h' i3 l3 (k0 + 1) → IsT h' s.heap.objs.size #[y1, y2, y3] → h'.objs.size = s.heap.objs.size + 1 →
      (∀ c o, c ≠ z → c ≠ TO → c ≠ i1 → c ≠ i2 → c ≠ i3 → s.heap.get? c = some o → h'.get? c = some o) → Q (.ref s.heap.objs.size) { s with heap := h' }) :
    wpAny (model prog w) A (Builtin.«zip.__next__» ⟨[.ref z], []⟩) (fun fin s' => ∃ v, fin = .done (.ret v) ∧ Q v s') E s := by
  show wpAny _ _ (field (.ref z) 2 >>= _) _ _ _
  refine wpAny_bind (wpAny_field hz rfl (x := .bool false) rfl ?_)
  show wpAny _ _ (field (.ref z) 3 >>= _) _ _ _
  refine wpAny_bind (wpAny_field hz rfl (x := .ref TI) rfl ?_)
  refine wpAny_bind (wpAny_seqItems hTI rfl ?_)
  show wpAny _ _ (Builtin.SmallTypes.ownedTupleIsFree (.ref z) >>= _) _ _ _
  refine wpAny_bind ?_
  unfold Builtin.SmallTypes.ownedTupleIsFree
  refine wpAny_bind (wpAny_field hz rfl (x := .none) rfl (wpAny_pure ?_))
  simp only [if_true]
  refine wpAny_bind (wpAny_rule ?_)
  refine wpAny_bind (wpAny_field hz rfl (x := .ref TO) rfl ?_)
  refine wpAny_bind (wpAny_setField_rec hz (by simp) fun h0 hz0 hs0 => ?_)
  replace hz0 : IsZip h0 z TI TO .ellipsis := hz0
  have kp0 : ∀ c o, c ≠ z → s.heap.get? c = some o → h0.get? c = some o := fun c o c1 e => hs0.extBut _ _ c1 e
  refine wpAny_bind ?_
  simp only [List.zipIdx_cons, List.zipIdx_nil, List.forIn_cons, List.forIn_nil]
  have s1_0 := s1.at fun o e => kp0 _ o D.i1z e
  have q1_0 := q1.at fun o e => kp0 _ o D.l1z e
  have s2_0 := s2.at fun o e => kp0 _ o D.i2z e
  have q2_0 := q2.at fun o e => kp0 _ o D.l2z e
  have s3_0 := s3.at fun o e => kp0 _ o D.i3z e
  have q3_0 := q3.at fun o e => kp0 _ o D.l3z e
  have hTO0 := kp0 _ _ D.TOz hTO
  refine wpAny_bind (wpAny_bind (wpAny_onRaise ?_))
  show wpAny _ _ (Builtin.SmallTypes.nextOf (.ref i1) >>= _) _ _ _
  refine wpAny_bind (nextOf_item s1_0 q1_0 e1 fun hA1 sA1 bA1 => wpAny_pure ?_)
  have hTOA1 := bA1.extBut _ _ D.i1TO.symm hTO0
  refine wpAny_bind (wpAny_seqItems hTOA1 rfl ?_)
  refine wpAny_bind (updateSeq_t hTOA1 fun h1 hTO1 bB1 => ?_)
  replace hTO1 : IsT h1 TO #[y1, a2, a3] := hTO1
  refine wpAny_bind (wpAny_letGo (wpAny_pure ?_))
  have kp1 : ∀ c o, c ≠ i1 → c ≠ TO → h0.get? c = some o → h1.get? c = some o := fun c o c1 c2 e => bB1.extBut _ _ c2 (bA1.extBut _ _ c1 e)
  have hz1 : IsZip h1 z TI TO .ellipsis := kp1 _ _ D.i1z.symm D.TOz.symm hz0
  have s1_1 := sA1.at fun o e => bB1.extBut _ _ D.i1TO e
  have q1_1 := q1_0.at fun o e => kp1 _ o D.l1i1 D.l1TO e
  have s2_1 := s2_0.at fun o e => kp1 _ o D.i2i1 D.i2TO e
  have q2_1 := q2_0.at fun o e => kp1 _ o D.l2i1 D.l2TO e
  have s3_1 := s3_0.at fun o e => kp1 _ o D.i3i1 D.i3TO e
  have q3_1 := q3_0.at fun o e => kp1 _ o D.l3i1 D.l3TO e
  refine wpAny_bind (wpAny_bind (wpAny_onRaise ?_))
  show wpAny _ _ (Builtin.SmallTypes.nextOf (.ref i2) >>= _) _ _ _
  refine wpAny_bind (nextOf_item s2_1 q2_1 e2 fun hA2 sA2 bA2 => wpAny_pure ?_)
  have hTOA2 := bA2.extBut _ _ D.i2TO.symm hTO1
  refine wpAny_bind (wpAny_seqItems hTOA2 rfl ?_)
  refine wpAny_bind (updateSeq_t hTOA2 fun h2 hTO2 bB2 => ?_)
  replace hTO2 : IsT h2 TO #[y1, y2, a3] := hTO2
  refine wpAny_bind (wpAny_letGo (wpAny_pure ?_))
  have kp2 : ∀ c o, c ≠ i2 → c ≠ TO → h1.get? c = some o → h2.get? c = some o := fun c o c1 c2 e => bB2.extBut _ _ c2 (bA2.extBut _ _ c1 e)
  have hz2 : IsZip h2 z TI TO .ellipsis := kp2 _ _ D.i2z.symm D.TOz.symm hz1
  have s1_2 := s1_1.at fun o e => kp2 _ o D.i2i1.symm D.i1TO e
  have q1_2 := q1_1.at fun o e => kp2 _ o D.l1i2 D.l1TO e
  have s2_2 := sA2.at fun o e => bB2.extBut _ _ D.i2TO e
  have q2_2 := q2_1.at fun o e => kp2 _ o D.l2i2 D.l2TO e
  have s3_2 := s3_1.at fun o e => kp2 _ o D.i3i2 D.i3TO e
  have q3_2 := q3_1.at fun o e => kp2 _ o D.l3i2 D.l3TO e
  refine wpAny_bind (wpAny_bind (wpAny_onRaise ?_))
  show wpAny _ _ (Builtin.SmallTypes.nextOf (.ref i3) >>= _) _ _ _
  refine wpAny_bind (nextOf_item s3_2 q3_2 e3 fun hA3 sA3 bA3 => wpAny_pure ?_)
  have hTOA3 := bA3.extBut _ _ D.i3TO.symm hTO2
  refine wpAny_bind (wpAny_seqItems hTOA3 rfl ?_)
  refine wpAny_bind (updateSeq_t hTOA3 fun h3 hTO3 bB3 => ?_)
  replace hTO3 : IsT h3 TO #[y1, y2, y3] := hTO3
  refine wpAny_bind (wpAny_letGo (wpAny_pure (wpAny_pure ?_)))
  have kp3 : ∀ c o, c ≠ i3 → c ≠ TO → h2.get? c = some o → h3.get? c = some o := fun c o c1 c2 e => bB3.extBut _ _ c2 (bA3.extBut _ _ c1 e)
  have hz3 : IsZip h3 z TI TO .ellipsis := kp3 _ _ D.i3z.symm D.TOz.symm hz2
  have s1_3 := s1_2.at fun o e => kp3 _ o D.i3i1.symm D.i1TO e
  have q1_3 := q1_2.at fun o e => kp3 _ o D.l1i3 D.l1TO e
  have s2_3 := s2_2.at fun o e => kp3 _ o D.i3i2.symm D.i2TO e
  have q2_3 := q2_2.at fun o e => kp3 _ o D.l2i3 D.l2TO e
  have s3_3 := sA3.at fun o e => bB3.extBut _ _ D.i3TO e
  have q3_3 := q3_2.at fun o e => kp3 _ o D.l3i3 D.l3TO e
  refine wpAny_bind (wpAny_seqItems hTO3 rfl ?_)
  refine wpAny_bind (wpAny_newTuple ?_)
  have hsz : h3.objs.size = s.heap.objs.size := by rw [bB3.1, bA3.1, bB2.1, bA2.1, bB1.1, bA1.1, hs0.1]
  have hk : (∀ c o, c ≠ z → c ≠ TO → c ≠ i1 → c ≠ i2 → c ≠ i3 → s.heap.get? c = some o → h3.get? c = some o) := fun c o c1 c2 d1 d2 d3 e => kp3 c o d3 c2 (kp2 c o d2 c2 (kp1 c o d1 c2 (kp0 c o c1 e)))
  have hzlt : z < h3.objs.size := Heap.lt_size hz3
  show wpAny _ _ (Builtin.SmallTypes.ownedTupleHandOut (.ref z) (.ref h3.objs.size) >>= _) _ _ _
  refine wpAny_bind ?_
  unfold Builtin.SmallTypes.ownedTupleHandOut
  have hz6 : IsZip (h3.push { cls := .type "tuple", data := .seq #[y1, y2, y3] }) z TI TO .ellipsis := Heap.get?_push_of_some _ hz3
  refine wpAny_bind (wpAny_setField_rec hz6 (by simp) fun h7 hz7 hs7 => ?_)
  replace hz7 : IsZip h7 z TI TO (rawInt h3.objs.size) := hz7
  refine wpAny_setField_rec hz7 (by simp) fun h8 hz8 hs8 => ?_
  replace hz8 : IsZip h8 z TI TO (rawInt h3.objs.size) := hz8
  have up : ∀ c o, c ≠ z → h3.get? c = some o → h8.get? c = some o := fun c o c1 e => hs8.extBut _ _ c1 (hs7.extBut _ _ c1 (Heap.get?_push_of_some _ e))
  have hT8 : IsT h8 h3.objs.size #[y1, y2, y3] := hs8.extBut _ _ (Nat.ne_of_gt hzlt) (hs7.extBut _ _ (Nat.ne_of_gt hzlt) (Heap.get?_push_size _ rfl))
  have hz8s : h8.objs.size = h3.objs.size + 1 := by rw [hs8.1, hs7.1, Heap.size_push]
  rw [hsz] at hz8 hT8 hz8s
  refine wpAny_pure ⟨_, rfl, ?_⟩
  show Q (.ref h3.objs.size) _
  rw [hsz]
  exact hQ h8 hz8 (up _ _ D.TOz hTO3) (s1_3.at fun o e => up _ o D.i1z e) (s2_3.at fun o e => up _ o D.i2z e) (s3_3.at fun o e => up _ o D.i3z e) hT8 hz8s fun c o c1 c2 d1 d2 d3 e => up c o c1 (hk c o c1 c2 d1 d2 d3 e)
theorem zip3_end {z TI TO i1 i2 i3 l1 l2 l3 : Addr} {d1 d2 d3 : Bool} {k0 : Nat} {xs1 xs2 xs3 : Array Value} {a1 a2 a3 : Value} {Q : Fin → Shared → Prop} (hh : A.handled = none) (D : Ap3 z TI TO i1 i2 i3 l1 l2 l3)
    (hz : IsZip s.heap z TI TO .none) (hTI : IsT s.heap TI #[.ref i1, .ref i2, .ref i3]) (hTO : IsT s.heap TO #[a1, a2, a3])
    (s1 : SIk d1 s.heap i1 l1 k0) (s2 : SIk d2 s.heap i2 l2 k0) (s3 : SIk d3 s.heap i3 l3 k0) (q1 : SAk d1 s.heap l1 xs1) (q2 : SAk d2 s.heap l2 xs2) (q3 : SAk d3 s.heap l3 xs3) (hend : xs1[k0]? = none ∨ xs2[k0]? = none ∨ xs3[k0]? = none)
    (hE : ∀ h' e, (∀ c o, c ≠ z → c ≠ TO → c ≠ i1 → c ≠ i2 → c ≠ i3 → s.heap.get? c = some o → h'.get? c = some o) → (∃ o, h'.get? e = some o ∧ o.cls = .type "StopIteration") → E (.ref e) { s with heap := h' }) :
    wpAny (model prog w) A (Builtin.«zip.__next__» ⟨[.ref z], []⟩) Q E s := by
  show wpAny _ _ (field (.ref z) 2 >>= _) _ _ _
  refine wpAny_bind (wpAny_field hz rfl (x := .bool false) rfl ?_)
  show wpAny _ _ (field (.ref z) 3 >>= _) _ _ _
  refine wpAny_bind (wpAny_field hz rfl (x := .ref TI) rfl ?_)
  refine wpAny_bind (wpAny_seqItems hTI rfl ?_)
  show wpAny _ _ (Builtin.SmallTypes.ownedTupleIsFree (.ref z) >>= _) _ _ _
  refine wpAny_bind ?_
  unfold Builtin.SmallTypes.ownedTupleIsFree
  refine wpAny_bind (wpAny_field hz rfl (x := .none) rfl (wpAny_pure ?_))
  simp only [if_true]
  refine wpAny_bind (wpAny_rule ?_)
  refine wpAny_bind (wpAny_field hz rfl (x := .ref TO) rfl ?_)
  refine wpAny_bind (wpAny_setField_rec hz (by simp) fun h0 hz0 hs0 => ?_)
  replace hz0 : IsZip h0 z TI TO .ellipsis := hz0
  have kp0 : ∀ c o, c ≠ z → s.heap.get? c = some o → h0.get? c = some o := fun c o c1 e => hs0.extBut _ _ c1 e
  refine wpAny_bind ?_
  simp only [List.zipIdx_cons, List.zipIdx_nil, List.forIn_cons, List.forIn_nil]
  have s1_0 := s1.at fun o e => kp0 _ o D.i1z e
  have q1_0 := q1.at fun o e => kp0 _ o D.l1z e
  have s2_0 := s2.at fun o e => kp0 _ o D.i2z e
  have q2_0 := q2.at fun o e => kp0 _ o D.l2z e
  have s3_0 := s3.at fun o e => kp0 _ o D.i3z e
  have q3_0 := q3.at fun o e => kp0 _ o D.l3z e
  have hTO0 := kp0 _ _ D.TOz hTO
  refine wpAny_bind (wpAny_bind (wpAny_onRaise ?_))
  show wpAny _ _ (Builtin.SmallTypes.nextOf (.ref i1) >>= _) _ _ _
  cases e1 : xs1[k0]? with
  | none =>
    refine wpAny_bind (nextOf_end hh s1_0 q1_0 e1 fun hX e bX he => ?_)
    obtain ⟨oe, hoe, hce⟩ := he
    have hzX : IsZip hX z TI TO .ellipsis := bX _ _ D.i1z.symm hz0
    have hez : e ≠ z := fun x => by subst x; rw [hzX] at hoe; cases hoe; simp at hce
    exact wpAny_setField_rec hzX (by simp) fun h3 _ hs3 => hE h3 e (fun c o c1 c2 d1 d2 d3 x => hs3.extBut _ _ c1 (bX _ _ d1 (kp0 c o c1 x))) ⟨oe, hs3.extBut _ _ hez hoe, hce⟩
  | some y1 =>
    refine wpAny_bind (nextOf_item s1_0 q1_0 e1 fun hA1 sA1 bA1 => wpAny_pure ?_)
    have hTOA1 := bA1.extBut _ _ D.i1TO.symm hTO0
    refine wpAny_bind (wpAny_seqItems hTOA1 rfl ?_)
    refine wpAny_bind (updateSeq_t hTOA1 fun h1 hTO1 bB1 => ?_)
    refine wpAny_bind (wpAny_letGo (wpAny_pure ?_))
    have kp1 : ∀ c o, c ≠ i1 → c ≠ TO → h0.get? c = some o → h1.get? c = some o := fun c o c1 c2 e => bB1.extBut _ _ c2 (bA1.extBut _ _ c1 e)
    have hz1 : IsZip h1 z TI TO .ellipsis := kp1 _ _ D.i1z.symm D.TOz.symm hz0
    have s2_1 := s2_0.at fun o e => kp1 _ o D.i2i1 D.i2TO e
    have q2_1 := q2_0.at fun o e => kp1 _ o D.l2i1 D.l2TO e
    have s3_1 := s3_0.at fun o e => kp1 _ o D.i3i1 D.i3TO e
    have q3_1 := q3_0.at fun o e => kp1 _ o D.l3i1 D.l3TO e
    refine wpAny_bind (wpAny_bind (wpAny_onRaise ?_))
    show wpAny _ _ (Builtin.SmallTypes.nextOf (.ref i2) >>= _) _ _ _
    cases e2 : xs2[k0]? with
    | none =>
      refine wpAny_bind (nextOf_end hh s2_1 q2_1 e2 fun hX e bX he => ?_)
      obtain ⟨oe, hoe, hce⟩ := he
      have hzX : IsZip hX z TI TO .ellipsis := bX _ _ D.i2z.symm hz1
      have hez : e ≠ z := fun x => by subst x; rw [hzX] at hoe; cases hoe; simp at hce
      exact wpAny_setField_rec hzX (by simp) fun h3 _ hs3 => hE h3 e (fun c o c1 c2 d1 d2 d3 x => hs3.extBut _ _ c1 (bX _ _ d2 (kp1 c o d1 c2 (kp0 c o c1 x)))) ⟨oe, hs3.extBut _ _ hez hoe, hce⟩
    | some y2 =>
      refine wpAny_bind (nextOf_item s2_1 q2_1 e2 fun hA2 sA2 bA2 => wpAny_pure ?_)
      have hTOA2 := bA2.extBut _ _ D.i2TO.symm hTO1
      refine wpAny_bind (wpAny_seqItems hTOA2 rfl ?_)
      refine wpAny_bind (updateSeq_t hTOA2 fun h2 hTO2 bB2 => ?_)
      refine wpAny_bind (wpAny_letGo (wpAny_pure ?_))
      have kp2 : ∀ c o, c ≠ i2 → c ≠ TO → h1.get? c = some o → h2.get? c = some o := fun c o c1 c2 e => bB2.extBut _ _ c2 (bA2.extBut _ _ c1 e)
      have hz2 : IsZip h2 z TI TO .ellipsis := kp2 _ _ D.i2z.symm D.TOz.symm hz1
      have s3_2 := s3_1.at fun o e => kp2 _ o D.i3i2 D.i3TO e
      have q3_2 := q3_1.at fun o e => kp2 _ o D.l3i2 D.l3TO e
      refine wpAny_bind (wpAny_bind (wpAny_onRaise ?_))
      show wpAny _ _ (Builtin.SmallTypes.nextOf (.ref i3) >>= _) _ _ _
      have e3 : xs3[k0]? = none := by
        rcases hend with h | h | h
        · rw [e1] at h; cases h
        · rw [e2] at h; cases h
        · exact h
      refine wpAny_bind (nextOf_end hh s3_2 q3_2 e3 fun hX e bX he => ?_)
      obtain ⟨oe, hoe, hce⟩ := he
      have hzX : IsZip hX z TI TO .ellipsis := bX _ _ D.i3z.symm hz2
      have hez : e ≠ z := fun x => by subst x; rw [hzX] at hoe; cases hoe; simp at hce
      exact wpAny_setField_rec hzX (by simp) fun h3 _ hs3 => hE h3 e (fun c o c1 c2 d1 d2 d3 x => hs3.extBut _ _ c1 (bX _ _ d3 (kp2 c o d2 c2 (kp1 c o d1 c2 (kp0 c o c1 x))))) ⟨oe, hs3.extBut _ _ hez hoe, hce⟩
theorem pyNext_zip3_item {z TI TO i1 i2 i3 l1 l2 l3 : Addr} {d1 d2 d3 : Bool} {k0 : Nat} {xs1 xs2 xs3 : Array Value} {a1 a2 a3 : Value} {y1 y2 y3 : Value} {Q : Option Value → Shared → Prop} (D : Ap3 z TI TO i1 i2 i3 l1 l2 l3)
    (hz : IsZip s.heap z TI TO .none) (hTI : IsT s.heap TI #[.ref i1, .ref i2, .ref i3]) (hTO : IsT s.heap TO #[a1, a2, a3])
    (s1 : SIk d1 s.heap i1 l1 k0) (s2 : SIk d2 s.heap i2 l2 k0) (s3 : SIk d3 s.heap i3 l3 k0) (q1 : SAk d1 s.heap l1 xs1) (q2 : SAk d2 s.heap l2 xs2) (q3 : SAk d3 s.heap l3 xs3) (e1 : xs1[k0]? = some y1) (e2 : xs2[k0]? = some y2) (e3 : xs3[k0]? = some y3)
    (hQ : ∀ h', IsZip h' z TI TO (rawInt s.heap.objs.size) → IsT h' TO #[y1, y2, y3] → SIk d1 h' i1 l1 (k0 + 1) → SIk d2 h' i2 l2 (k0 + 1) → SIk d3 h' i3 l3 (k0 + 1) → IsT h' s.heap.objs.size #[y1, y2, y3] → h'.objs.size = s.heap.objs.size + 1 →
      (∀ c o, c ≠ z → c ≠ TO → c ≠ i1 → c ≠ i2 → c ≠ i3 → s.heap.get? c = some o → h'.get? c = some o) → Q (some (.ref s.heap.objs.size)) { s with heap := h' }) :
    wpAny (model prog w) A (pyNext (.ref z)) Q E s := by
  have hT : s.TypeIs (.ref z) "zip" := ⟨_, hz, rfl⟩
  unfold pyNext
  exact wpAny_bind (wpAny_attempt (wpAny_callSpecial?_slot (name := Str.ofString "__next__") hT F.slot_zip_next
    (wpAny_call_entry F.slot_zip_next hT F.entry_zip_next
      (zip3_item D hz hTI hTO s1 s2 s3 q1 q2 q3 e1 e2 e3 fun h' b1 b2 c1 c2 c3 b3 b4 b5 => wpAny_pure (hQ h' b1 b2 c1 c2 c3 b3 b4 b5)) (F.args_zip_next_1 _))))
theorem pyNext_zip3_end {z TI TO i1 i2 i3 l1 l2 l3 : Addr} {d1 d2 d3 : Bool} {k0 : Nat} {xs1 xs2 xs3 : Array Value} {a1 a2 a3 : Value} {Q : Option Value → Shared → Prop} (hh : A.handled = none) (D : Ap3 z TI TO i1 i2 i3 l1 l2 l3)
    (hz : IsZip s.heap z TI TO .none) (hTI : IsT s.heap TI #[.ref i1, .ref i2, .ref i3]) (hTO : IsT s.heap TO #[a1, a2, a3])
    (s1 : SIk d1 s.heap i1 l1 k0) (s2 : SIk d2 s.heap i2 l2 k0) (s3 : SIk d3 s.heap i3 l3 k0) (q1 : SAk d1 s.heap l1 xs1) (q2 : SAk d2 s.heap l2 xs2) (q3 : SAk d3 s.heap l3 xs3) (hend : xs1[k0]? = none ∨ xs2[k0]? = none ∨ xs3[k0]? = none)
    (hQ : ∀ h', (∀ c o, c ≠ z → c ≠ TO → c ≠ i1 → c ≠ i2 → c ≠ i3 → s.heap.get? c = some o → h'.get? c = some o) → Q none { s with heap := h' }) : wpAny (model prog w) A (pyNext (.ref z)) Q E s := by
  have hT : s.TypeIs (.ref z) "zip" := ⟨_, hz, rfl⟩
  unfold pyNext
  refine wpAny_bind (wpAny_attempt (wpAny_callSpecial?_slot (name := Str.ofString "__next__") hT F.slot_zip_next
    (wpAny_call_entry F.slot_zip_next hT F.entry_zip_next (zip3_end hh D hz hTI hTO s1 s2 s3 q1 q2 q3 hend fun h' e hk he => ?_) (F.args_zip_next_1 _))))
  obtain ⟨o, ho, hc⟩ := he
  refine wpAny_bind (wpAny_isInstance (T := "StopIteration") (b := true) ⟨o, ho, hc⟩ isSubtype_stop ?_)
  exact wpAny_pure (hQ _ hk)
end
abbrev z3H0 (h : Heap) : Heap := h
abbrev z3H1 (h : Heap) (d1 : Bool) (d2 : Bool) (d3 : Bool) (l1 : Addr) (l2 : Addr) (l3 : Addr) : Heap := (h).push (itObj d1 l1)
abbrev z3H2 (h : Heap) (d1 : Bool) (d2 : Bool) (d3 : Bool) (l1 : Addr) (l2 : Addr) (l3 : Addr) : Heap := (z3H1 h d1 d2 d3 l1 l2 l3).push (itObj d2 l2)
abbrev z3H3 (h : Heap) (d1 : Bool) (d2 : Bool) (d3 : Bool) (l1 : Addr) (l2 : Addr) (l3 : Addr) : Heap := (z3H2 h d1 d2 d3 l1 l2 l3).push (itObj d3 l3)
abbrev z3HT (h : Heap) (d1 : Bool) (d2 : Bool) (d3 : Bool) (l1 : Addr) (l2 : Addr) (l3 : Addr) : Heap := (z3H3 h d1 d2 d3 l1 l2 l3).push { cls := .type "tuple", data := .seq #[.ref h.objs.size, .ref (z3H1 h d1 d2 d3 l1 l2 l3).objs.size, .ref (z3H2 h d1 d2 d3 l1 l2 l3).objs.size] }
abbrev z3HO (h : Heap) (d1 : Bool) (d2 : Bool) (d3 : Bool) (l1 : Addr) (l2 : Addr) (l3 : Addr) : Heap := (z3HT h d1 d2 d3 l1 l2 l3).push { cls := .type "tuple", data := .seq #[.none, .none, .none] }
abbrev z3HZ (h : Heap) (d1 : Bool) (d2 : Bool) (d3 : Bool) (l1 : Addr) (l2 : Addr) (l3 : Addr) : Heap := (z3HO h d1 d2 d3 l1 l2 l3).push { cls := .type "zip", data := .fields #[.none, .bool false, .bool false, .ref (z3H3 h d1 d2 d3 l1 l2 l3).objs.size, .ref (z3HT h d1 d2 d3 l1 l2 l3).objs.size] }
theorem meets_zip3 (d1 : Bool) (d2 : Bool) (d3 : Bool) (l1 : Addr) (l2 : Addr) (l3 : Addr) (xs1 xs2 xs3 : Array Value) :
    Meets (Builtin.«zip.__new__» ⟨[.type "zip", .ref l1, .ref l2, .ref l3], []⟩) (fun _ R s => SAk d1 s.heap l1 xs1 ∧ SAk d2 s.heap l2 xs2 ∧ SAk d3 s.heap l3 xs3 ∧
      R (.ok (.ret (.ref (z3HO s.heap d1 d2 d3 l1 l2 l3).objs.size))) { s with heap := z3HZ s.heap d1 d2 d3 l1 l2 l3 }) :=
  .of_wp fun prog w A R s h => by
    obtain ⟨hp, g, d, tk, os⟩ := s; obtain ⟨q1, q2, q3, h⟩ := h
    have hsub := sub_zip
    have L1 : SAk d1 (Shared.heap ⟨hp, g, d, tk, os⟩) l1 xs1 := q1.at fun o e => e
    have L2 : SAk d2 (Shared.heap ⟨(hp).push (itObj d1 l1), g, d, tk, os⟩) l2 xs2 := q2.at fun o e => Heap.get?_push_of_some _ (e)
    have L3 : SAk d3 (Shared.heap ⟨((hp).push (itObj d1 l1)).push (itObj d2 l2), g, d, tk, os⟩) l3 xs3 := q3.at fun o e => Heap.get?_push_of_some _ (Heap.get?_push_of_some _ (e))
    wp_walk using pyIter_k L1, pyIter_k L2, pyIter_k L3
    exact ⟨_, rfl, h⟩
section
set_option Elab.async false
variable {prog : Program} {w : World} {A : Around} {E : Value → Shared → Prop} {s : Shared}
theorem call_zip2 {d1 d2 : Bool} {l1 l2 : Addr} {xs1 xs2 : Array Value} {Q : Value → Shared → Prop} (q1 : SAk d1 s.heap l1 xs1) (q2 : SAk d2 s.heap l2 xs2)
    (h : ∀ h', IsZip h' (s.heap.objs.size + 4) (s.heap.objs.size + 2) (s.heap.objs.size + 3) .none → IsT h' (s.heap.objs.size + 2) #[.ref s.heap.objs.size, .ref (s.heap.objs.size + 1)] → IsT h' (s.heap.objs.size + 3) #[.none, .none] → SIk d1 h' s.heap.objs.size l1 0 → SIk d2 h' (s.heap.objs.size + 1) l2 0 → h'.objs.size = s.heap.objs.size + 5 →
      (∀ c o, s.heap.get? c = some o → h'.get? c = some o) → Q (.ref (s.heap.objs.size + 4)) { s with heap := h' }) :
    wpAny (model prog w) A (call (.type "zip") [.ref l1, .ref l2]) Q E s := by
  refine callType_new F.called_zip (by decide) (F.typeCall_zip_2 _ _) (F.newCall_zip_2 _ _) (fun obj => F.args_object_init_3 obj _ _) F.entry_zip_new
    (meets_zip2 d1 d2 l1 l2 xs1 xs2) ⟨q1, q2, ?_⟩
  have w1 : (z2H1 s.heap d1 d2 l1 l2).objs.size = s.heap.objs.size + 1 := Heap.size_push ..
  have w2 : (z2H2 s.heap d1 d2 l1 l2).objs.size = s.heap.objs.size + 2 := by rw [Heap.size_push, w1]
  have w3 : (z2HT s.heap d1 d2 l1 l2).objs.size = s.heap.objs.size + 3 := by rw [Heap.size_push, w2]
  have w4 : (z2HO s.heap d1 d2 l1 l2).objs.size = s.heap.objs.size + 4 := by rw [Heap.size_push, w3]
  have w5 : (z2HZ s.heap d1 d2 l1 l2).objs.size = s.heap.objs.size + 5 := by rw [Heap.size_push, w4]
  have g1 : (z2HZ s.heap d1 d2 l1 l2).get? s.heap.objs.size = some (itObj d1 l1) := Heap.get?_push_of_some _ (Heap.get?_push_of_some _ (Heap.get?_push_of_some _ (Heap.get?_push_of_some _ (Heap.get?_push_size _ (itObj_freed d1 l1)))))
  have g2 : (z2HZ s.heap d1 d2 l1 l2).get? (z2H1 s.heap d1 d2 l1 l2).objs.size = some (itObj d2 l2) := Heap.get?_push_of_some _ (Heap.get?_push_of_some _ (Heap.get?_push_of_some _ (Heap.get?_push_size _ (itObj_freed d2 l2))))
  have gT : (z2HZ s.heap d1 d2 l1 l2).get? (z2H2 s.heap d1 d2 l1 l2).objs.size = some _ := Heap.get?_push_of_some _ (Heap.get?_push_of_some _ (Heap.get?_push_size _ rfl))
  have gO : (z2HZ s.heap d1 d2 l1 l2).get? (z2HT s.heap d1 d2 l1 l2).objs.size = some _ := Heap.get?_push_of_some _ (Heap.get?_push_size _ rfl)
  have gZ : (z2HZ s.heap d1 d2 l1 l2).get? (z2HO s.heap d1 d2 l1 l2).objs.size = some _ := Heap.get?_push_size _ rfl
  show _ ∧ _
  rw [w2, w3, w4] at gZ
  rw [w1, w2] at gT
  rw [w3] at gO
  rw [w1] at g2
  rw [w4]
  exact ⟨⟨_, gZ, rfl⟩, h _ gZ gT gO (SIk.start g1) (SIk.start g2) w5 fun c o x => Heap.get?_push_of_some _ (Heap.get?_push_of_some _ (Heap.get?_push_of_some _ (Heap.get?_push_of_some _ (Heap.get?_push_of_some _ (x)))))⟩
end
theorem typeCall_zip_3 (a b c : Value) : checkTypeCall "zip" ⟨[a, b, c], []⟩ = pure () := by kernel_rfl
theorem newCall_zip_3 (a b c : Value) : checkBuiltinCall "zip.__new__" ⟨[.type "zip", a, b, c], []⟩ = pure () := by kernel_rfl
theorem args_object_init_4 (a b c d : Value) : argsOk "object.__init__" ⟨[a, b, c, d], []⟩ := by
  unfold argsOk; rw [signature?_of (id := "object.__init__") (n := ['_', '_', 't', 'i', 'n', 'i', '_', '_']) (o := ['t', 'c', 'e', 'j', 'b', 'o']) (by kernel_rfl) F.owner_object]; kernel_rfl
section
set_option Elab.async false
variable {prog : Program} {w : World} {A : Around} {E : Value → Shared → Prop} {s : Shared}
theorem call_zip3 {d1 d2 d3 : Bool} {l1 l2 l3 : Addr} {xs1 xs2 xs3 : Array Value} {Q : Value → Shared → Prop} (q1 : SAk d1 s.heap l1 xs1) (q2 : SAk d2 s.heap l2 xs2) (q3 : SAk d3 s.heap l3 xs3)
    (h : ∀ h', IsZip h' (s.heap.objs.size + 5) (s.heap.objs.size + 3) (s.heap.objs.size + 4) .none → IsT h' (s.heap.objs.size + 3) #[.ref s.heap.objs.size, .ref (s.heap.objs.size + 1), .ref (s.heap.objs.size + 2)] → IsT h' (s.heap.objs.size + 4) #[.none, .none, .none] → SIk d1 h' s.heap.objs.size l1 0 → SIk d2 h' (s.heap.objs.size + 1) l2 0 → SIk d3 h' (s.heap.objs.size + 2) l3 0 → h'.objs.size = s.heap.objs.size + 6 →
      (∀ c o, s.heap.get? c = some o → h'.get? c = some o) → Q (.ref (s.heap.objs.size + 5)) { s with heap := h' }) :
    wpAny (model prog w) A (call (.type "zip") [.ref l1, .ref l2, .ref l3]) Q E s := by
  refine callType_new F.called_zip (by decide) (typeCall_zip_3 _ _ _) (newCall_zip_3 _ _ _) (fun obj => args_object_init_4 obj _ _ _) F.entry_zip_new
    (meets_zip3 d1 d2 d3 l1 l2 l3 xs1 xs2 xs3) ⟨q1, q2, q3, ?_⟩
  have w1 : (z3H1 s.heap d1 d2 d3 l1 l2 l3).objs.size = s.heap.objs.size + 1 := Heap.size_push ..
  have w2 : (z3H2 s.heap d1 d2 d3 l1 l2 l3).objs.size = s.heap.objs.size + 2 := by rw [Heap.size_push, w1]
  have w3 : (z3H3 s.heap d1 d2 d3 l1 l2 l3).objs.size = s.heap.objs.size + 3 := by rw [Heap.size_push, w2]
  have w4 : (z3HT s.heap d1 d2 d3 l1 l2 l3).objs.size = s.heap.objs.size + 4 := by rw [Heap.size_push, w3]
  have w5 : (z3HO s.heap d1 d2 d3 l1 l2 l3).objs.size = s.heap.objs.size + 5 := by rw [Heap.size_push, w4]
  have w6 : (z3HZ s.heap d1 d2 d3 l1 l2 l3).objs.size = s.heap.objs.size + 6 := by rw [Heap.size_push, w5]
  have g1 : (z3HZ s.heap d1 d2 d3 l1 l2 l3).get? s.heap.objs.size = some (itObj d1 l1) := Heap.get?_push_of_some _ (Heap.get?_push_of_some _ (Heap.get?_push_of_some _ (Heap.get?_push_of_some _ (Heap.get?_push_of_some _ (Heap.get?_push_size _ (itObj_freed d1 l1))))))
  have g2 : (z3HZ s.heap d1 d2 d3 l1 l2 l3).get? (z3H1 s.heap d1 d2 d3 l1 l2 l3).objs.size = some (itObj d2 l2) := Heap.get?_push_of_some _ (Heap.get?_push_of_some _ (Heap.get?_push_of_some _ (Heap.get?_push_of_some _ (Heap.get?_push_size _ (itObj_freed d2 l2)))))
  have g3 : (z3HZ s.heap d1 d2 d3 l1 l2 l3).get? (z3H2 s.heap d1 d2 d3 l1 l2 l3).objs.size = some (itObj d3 l3) := Heap.get?_push_of_some _ (Heap.get?_push_of_some _ (Heap.get?_push_of_some _ (Heap.get?_push_size _ (itObj_freed d3 l3))))
  have gT : (z3HZ s.heap d1 d2 d3 l1 l2 l3).get? (z3H3 s.heap d1 d2 d3 l1 l2 l3).objs.size = some _ := Heap.get?_push_of_some _ (Heap.get?_push_of_some _ (Heap.get?_push_size _ rfl))
  have gO : (z3HZ s.heap d1 d2 d3 l1 l2 l3).get? (z3HT s.heap d1 d2 d3 l1 l2 l3).objs.size = some _ := Heap.get?_push_of_some _ (Heap.get?_push_size _ rfl)
  have gZ : (z3HZ s.heap d1 d2 d3 l1 l2 l3).get? (z3HO s.heap d1 d2 d3 l1 l2 l3).objs.size = some _ := Heap.get?_push_size _ rfl
  show _ ∧ _
  rw [w3, w4, w5] at gZ
  rw [w1, w2, w3] at gT
  rw [w4] at gO
  rw [w1] at g2
  rw [w2] at g3
  rw [w5]
  exact ⟨⟨_, gZ, rfl⟩, h _ gZ gT gO (SIk.start g1) (SIk.start g2) (SIk.start g3) w6 fun c o x => Heap.get?_push_of_some _ (Heap.get?_push_of_some _ (Heap.get?_push_of_some _ (Heap.get?_push_of_some _ (Heap.get?_push_of_some _ (Heap.get?_push_of_some _ (x))))))⟩
end

end ZP
namespace L2
open PySem PySem.Spec PyProof.Rows ZP
/-- a list or a tuple that is read -/
def SqK (K : PySem.W.Frag) (kd : Bool) (H : Hp) (a : Addr) (xs : List V) : Prop := match kd with
  | true => SqT K H a xs
  | false => SqL K H a xs
theorem Inv.seqk {X : Cx} {pins : List (Addr × Obj)} {σ : L2.St} {H : Hp} {s : Shared} {kd : Bool} {a : Addr} {xs : List V} (I : Inv X pins σ H s) (h : SqK X.K kd H a xs) : ∃ its : List Value, Vals xs its ∧ SAk kd s.heap a its.toArray ∧ xs.length ≤ sizeLine := by
  cases kd with
  | true =>
    obtain ⟨its, r, p, z⟩ := I.tuple h
    exact ⟨its, r, p, z⟩
  | false =>
    obtain ⟨its, r, p, z⟩ := I.list h
    exact ⟨its, r, p.isList, z⟩
theorem Inv.seqk_inj {X : Cx} {pins : List (Addr × Obj)} {σ : L2.St} {H : Hp} {s : Shared} {kd : Bool} {a : Addr} {xs ys : List V} (I : Inv X pins σ H s) (h : SqK X.K kd H a xs) (h' : SqK X.K kd H a ys) : xs = ys := by
  cases kd with
  | true => exact I.tuple_inj h h'
  | false => exact I.list_inj h h'

def Iz2 (K : PySem.W.Frag) (d1 d2 : Bool) (l1 l2 : Addr) : It :=
  ⟨fun i H => ∃ (x1 x2 : List V) (v1 v2 : V), SqK K d1 H l1 x1 ∧ SqK K d2 H l2 x2 ∧ x1[i]? = some v1 ∧ x2[i]? = some v2,
    fun i H v H' => ∃ (T : Addr) (v1 v2 : V), v = .ref T ∧ H T = none ∧ H' = upd H T (.tup [v1, v2]) ∧ (∀ xs, SqK K d1 H l1 xs → xs[i]? = some v1) ∧ (∀ xs, SqK K d2 H l2 xs → xs[i]? = some v2),
    fun i H => ∃ (x1 x2 : List V), SqK K d1 H l1 x1 ∧ SqK K d2 H l2 x2 ∧ (x1.length ≤ i ∨ x2.length ≤ i)⟩
theorem turn_z2 {P : Program} {w : World} {K : PySem.W.Frag} {elts : List Expr} {kk : Nat} {tpos : Pos} {d1 d2 : Bool} {l1 l2 z TI TO i1 i2 : Addr} (D : Ap2 z TI TO i1 i2 l1 l2) :
    Turn P w K (.Tuple elts kk tpos) (Iz2 K d1 d2 l1 l2) [z, TI, TO, i1, i2] z (fun i h => IsZip h z TI TO .none ∧ IsT h TI #[.ref i1, .ref i2] ∧ (∃ a1 a2, IsT h TO #[a1, a2]) ∧ SIk d1 h i1 l1 i ∧ SIk d2 h i2 l2 i) where
  mem := by simp
  obj := fun i h st c hc => by
    obtain ⟨hz, hTI, ⟨a1, a2, hTO⟩, s1, s2⟩ := st
    have e' : c = z ∨ c = TI ∨ c = TO ∨ c = i1 ∨ c = i2 := by simpa using hc
    rcases e' with q | q | q | q | q
    · rw [q]; exact ⟨_, hz, fun v q => nomatch q⟩
    · rw [q]; exact ⟨_, hTI, fun v q => nomatch q⟩
    · rw [q]; exact ⟨_, hTO, fun v q => nomatch q⟩
    · rw [q]; obtain ⟨o, vs, e, d⟩ := s1.obj; exact ⟨o, e, fun v q => by rw [d] at q; cases q⟩
    · rw [q]; obtain ⟨o, vs, e, d⟩ := s2.obj; exact ⟨o, e, fun v q => by rw [d] at q; cases q⟩
  keep := fun i h h' st k => by
    obtain ⟨hz, hTI, ⟨a1, a2, hTO⟩, s1, s2⟩ := st
    exact ⟨k z (by simp) _ hz, k TI (by simp) _ hTI, ⟨a1, a2, k TO (by simp) _ hTO⟩, s1.at fun o q => k i1 (by simp) o q, s2.at fun o q => k i2 (by simp) o q⟩
  item := by
    intro X hP hw hK hc i pins s σ H E I hf st hg
    subst hP hw hK
    obtain ⟨hz, hTI, ⟨a1, a2, hTO⟩, s1, s2⟩ := st
    obtain ⟨x1, x2, v1, v2, hq1, hq2, hv1, hv2⟩ := hg
    obtain ⟨its1, rv1, p1, _⟩ := I.seqk hq1
    obtain ⟨u1, hu1, ru1⟩ := rv1.get hv1
    obtain ⟨its2, rv2, p2, _⟩ := I.seqk hq2
    obtain ⟨u2, hu2, ru2⟩ := rv2.get hv2
    have hzl : z < s.heap.objs.size := Heap.lt_size hz
    refine pyNext_zip2_item D hz hTI hTO s1 s2 p1 p2 (y1 := u1) (y2 := u2) (by simpa using hu1) (by simpa using hu2) fun h' z' TO' t1 t2 hT hsz hk => ?_
    refine ⟨_, rfl, wpAny_letOwnedTupleGo_zip (s := { s with heap := h' }) z' fun h'' z'' sb => ?_⟩
    have hT2 : h''.get? s.heap.objs.size = some { cls := .type "tuple", data := .seq #[u1, u2] } := (sb.2 _ (Nat.ne_of_gt hzl)).trans hT
    have new : ObjOk X.prog X.w (upd H s.heap.objs.size (.tup [v1, v2])) h'' s.heap.objs.size (.tup [v1, v2]) :=
      ⟨by show 2 ≤ sizeLine; decide, [u1, u2], .cons ru1 (.cons ru2 (.nil)), ⟨_, hT2, rfl, _, rfl⟩⟩
    have I1 : Inv X pins σ (upd H s.heap.objs.size (.tup [v1, v2])) { s with heap := h'' } :=
      I.turnedNew (t' := s.toks) (ch := [z, TI, TO, i1, i2]) (fun c o hb q => (sb.2 c (fun q' => hb (by simp [q']))).trans (hk c o (fun q' => hb (by simp [q'])) (fun q' => hb (by simp [q'])) (fun q' => hb (by simp [q'])) (fun q' => hb (by simp [q'])) q)) hf (Nat.le_refl _) new
    refine ⟨.ref s.heap.objs.size, _, I1, rfl, ⟨_, v1, v2, rfl, I.hok.fresh (Nat.le_refl _), rfl, fun l hl => by rw [I.seqk_inj hl hq1]; exact hv1, fun l hl => by rw [I.seqk_inj hl hq2]; exact hv2⟩, ⟨z'', ?_, ⟨u1, u2, ?_⟩, ?_, ?_⟩, fun c hcm => ?_⟩
    · exact (sb.2 _ D.TIz).trans (hk _ _ D.TIz D.TOTI.symm D.i1TI.symm D.i2TI.symm hTI)
    · exact (sb.2 _ D.TOz).trans TO'
    · exact t1.at fun o q => (sb.2 _ D.i1z).trans q
    · exact t2.at fun o q => (sb.2 _ D.i2z).trans q
    · have hlt : c < s.heap.objs.size := by
        have e' : c = z ∨ c = TI ∨ c = TO ∨ c = i1 ∨ c = i2 := by simpa using hcm
        rcases e' with q | q | q | q | q
        · rw [q]; exact hzl
        · rw [q]; exact Heap.lt_size hTI
        · rw [q]; exact Heap.lt_size hTO
        · rw [q]; obtain ⟨_, _, e1, _⟩ := s1.obj; exact Heap.lt_size e1
        · rw [q]; obtain ⟨_, _, e1, _⟩ := s2.obj; exact Heap.lt_size e1
      rw [upd_ne (Nat.ne_of_lt hlt)]
      exact (hf c hcm).1
  done := by
    intro X hP hw hK hc i pins s σ H E I hf st hg
    subst hP hw hK
    obtain ⟨hz, hTI, ⟨a1, a2, hTO⟩, s1, s2⟩ := st
    obtain ⟨x1, x2, hq1, hq2, hend⟩ := hg
    obtain ⟨its1, rv1, p1, _⟩ := I.seqk hq1
    have w1 := rv1.length
    obtain ⟨its2, rv2, p2, _⟩ := I.seqk hq2
    have w2 := rv2.length
    have he : its1.toArray[i]? = none ∨ its2.toArray[i]? = none := by
      rcases hend with q | q
      · exact .inl (by simp; omega)
      · exact .inr (by simp; omega)
    exact pyNext_zip2_end (I.ok.hd hc) D hz hTI hTO s1 s2 p1 p2 he fun h' hk => ⟨rfl, I.turnedL (t' := s.toks) (ch := [z, TI, TO, i1, i2]) (fun c o hb q =>
      hk c o (fun q' => hb (by simp [q'])) (fun q' => hb (by simp [q'])) (fun q' => hb (by simp [q'])) (fun q' => hb (by simp [q'])) q) hf⟩
  self := fun A i s Q E st h => wpAny_pyIter_zip st.1 h
def iZk2 (K : PySem.W.Frag) (ta : TA) : TI := fun σ H R => ta σ H fun vs H1 => ∃ (d1 d2 : Bool) (l1 l2 : Addr) (x1 x2 : List V), vs = [.ref l1, .ref l2] ∧ SqK K d1 H1 l1 x1 ∧ SqK K d2 H1 l2 x2 ∧ R (Iz2 K d1 d2 l1 l2) H1
theorem pi_z2 {X : Cx} {e1 e2 : Expr} {ta : TA} {p pos tpos : Pos} {elts : List Expr} {kk : Nat} (hg : Gl X "zip") (hm : X.mg "zip" = none) (ha : PA X [e1, e2] ta)
    (hs : starEach [e1, e2] X.env = (false, eval e1 X.env) :: starEach [e2] X.env := by rfl) (hpl : (backTo pos (starEach [e2] X.env)).any (·.1) = false := by rfl) :
    PI X (.Tuple elts kk tpos) (.Call (.Name "zip" p) [e1, e2] [] pos) (iZk2 X.K ta) := by
  refine ⟨fun pins s σ H R I h => ?_⟩
  refine Call_ (ld_blt I hg hm PyProof.Rows.boot_zip (PyProof.Rows.callWith_type1 (thn (ha.run pos pins s σ H _ I h) fun us s1 ⟨vs, H1, I1, r1, q1⟩ => ?_) hs hpl))
  obtain ⟨d1, d2, l1, l2, x1, x2, ex, hq1, hq2, q⟩ := q1
  subst ex
  cases r1 with
  | cons r r1 =>
    cases r
    cases r1 with
    | cons r r1 =>
      cases r
      cases r1
      have fresh5 : ∀ c, c ∈ [s1.heap.objs.size + 4, s1.heap.objs.size + 2, s1.heap.objs.size + 3, s1.heap.objs.size, s1.heap.objs.size + 1] → FpOk X pins H1 c := fun c hcm => by
        have hle : s1.heap.objs.size ≤ c := by
          simp only [List.mem_cons, List.not_mem_nil, or_false] at hcm
          omega
        exact I1.fpOk hle (I1.hok.fresh hle)
      obtain ⟨its1, rv1, p1, _⟩ := I1.seqk hq1
      obtain ⟨its2, rv2, p2, _⟩ := I1.seqk hq2
      refine call_zip2 p1 p2 fun h' hz hTI hTO t1 t2 hsz hk => wpAny_pyIter_zip hz ?_
      have I2 : Inv X pins σ H1 { s1 with heap := h' } := I1.kept (t' := s1.toks) hk
      have b1 : @LT.lt Nat _ l1 s1.heap.objs.size := p1.lt
      have b2 : @LT.lt Nat _ l2 s1.heap.objs.size := p2.lt
      have D : Ap2 (s1.heap.objs.size + 4) (s1.heap.objs.size + 2) (s1.heap.objs.size + 3) (s1.heap.objs.size) (s1.heap.objs.size + 1) l1 l2 := ⟨(show @Ne Nat (s1.heap.objs.size + 2) (s1.heap.objs.size + 4) by omega), (show @Ne Nat (s1.heap.objs.size + 3) (s1.heap.objs.size + 4) by omega), (show @Ne Nat (s1.heap.objs.size + 3) (s1.heap.objs.size + 2) by omega), (show @Ne Nat (s1.heap.objs.size) (s1.heap.objs.size + 4) by omega), (show @Ne Nat (s1.heap.objs.size) (s1.heap.objs.size + 2) by omega), (show @Ne Nat (s1.heap.objs.size) (s1.heap.objs.size + 3) by omega), (show @Ne Nat (s1.heap.objs.size + 1) (s1.heap.objs.size + 4) by omega), (show @Ne Nat (s1.heap.objs.size + 1) (s1.heap.objs.size + 2) by omega), (show @Ne Nat (s1.heap.objs.size + 1) (s1.heap.objs.size + 3) by omega), (show @Ne Nat (s1.heap.objs.size + 1) (s1.heap.objs.size) by omega), (show @Ne Nat (l1) (s1.heap.objs.size + 4) by omega), (show @Ne Nat (l1) (s1.heap.objs.size + 3) by omega), (show @Ne Nat (l1) (s1.heap.objs.size) by omega), (show @Ne Nat (l1) (s1.heap.objs.size + 1) by omega), (show @Ne Nat (l2) (s1.heap.objs.size + 4) by omega), (show @Ne Nat (l2) (s1.heap.objs.size + 3) by omega), (show @Ne Nat (l2) (s1.heap.objs.size) by omega), (show @Ne Nat (l2) (s1.heap.objs.size + 1) by omega)⟩
      exact ⟨s1.heap.objs.size + 4, [s1.heap.objs.size + 4, s1.heap.objs.size + 2, s1.heap.objs.size + 3, s1.heap.objs.size, s1.heap.objs.size + 1], _, _, H1, rfl, I2, turn_z2 (K := X.K) D, ⟨hz, hTI, ⟨_, _, hTO⟩, t1, t2⟩, fresh5, q⟩
def Iz3 (K : PySem.W.Frag) (d1 d2 d3 : Bool) (l1 l2 l3 : Addr) : It :=
  ⟨fun i H => ∃ (x1 x2 x3 : List V) (v1 v2 v3 : V), SqK K d1 H l1 x1 ∧ SqK K d2 H l2 x2 ∧ SqK K d3 H l3 x3 ∧ x1[i]? = some v1 ∧ x2[i]? = some v2 ∧ x3[i]? = some v3,
    fun i H v H' => ∃ (T : Addr) (v1 v2 v3 : V), v = .ref T ∧ H T = none ∧ H' = upd H T (.tup [v1, v2, v3]) ∧ (∀ xs, SqK K d1 H l1 xs → xs[i]? = some v1) ∧ (∀ xs, SqK K d2 H l2 xs → xs[i]? = some v2) ∧ (∀ xs, SqK K d3 H l3 xs → xs[i]? = some v3),
    fun i H => ∃ (x1 x2 x3 : List V), SqK K d1 H l1 x1 ∧ SqK K d2 H l2 x2 ∧ SqK K d3 H l3 x3 ∧ (x1.length ≤ i ∨ x2.length ≤ i ∨ x3.length ≤ i)⟩
theorem turn_z3 {P : Program} {w : World} {K : PySem.W.Frag} {elts : List Expr} {kk : Nat} {tpos : Pos} {d1 d2 d3 : Bool} {l1 l2 l3 z TI TO i1 i2 i3 : Addr} (D : Ap3 z TI TO i1 i2 i3 l1 l2 l3) :
    Turn P w K (.Tuple elts kk tpos) (Iz3 K d1 d2 d3 l1 l2 l3) [z, TI, TO, i1, i2, i3] z (fun i h => IsZip h z TI TO .none ∧ IsT h TI #[.ref i1, .ref i2, .ref i3] ∧ (∃ a1 a2 a3, IsT h TO #[a1, a2, a3]) ∧ SIk d1 h i1 l1 i ∧ SIk d2 h i2 l2 i ∧ SIk d3 h i3 l3 i) where
  mem := by simp
  obj := fun i h st c hc => by
    obtain ⟨hz, hTI, ⟨a1, a2, a3, hTO⟩, s1, s2, s3⟩ := st
    have e' : c = z ∨ c = TI ∨ c = TO ∨ c = i1 ∨ c = i2 ∨ c = i3 := by simpa using hc
    rcases e' with q | q | q | q | q | q
    · rw [q]; exact ⟨_, hz, fun v q => nomatch q⟩
    · rw [q]; exact ⟨_, hTI, fun v q => nomatch q⟩
    · rw [q]; exact ⟨_, hTO, fun v q => nomatch q⟩
    · rw [q]; obtain ⟨o, vs, e, d⟩ := s1.obj; exact ⟨o, e, fun v q => by rw [d] at q; cases q⟩
    · rw [q]; obtain ⟨o, vs, e, d⟩ := s2.obj; exact ⟨o, e, fun v q => by rw [d] at q; cases q⟩
    · rw [q]; obtain ⟨o, vs, e, d⟩ := s3.obj; exact ⟨o, e, fun v q => by rw [d] at q; cases q⟩
  keep := fun i h h' st k => by
    obtain ⟨hz, hTI, ⟨a1, a2, a3, hTO⟩, s1, s2, s3⟩ := st
    exact ⟨k z (by simp) _ hz, k TI (by simp) _ hTI, ⟨a1, a2, a3, k TO (by simp) _ hTO⟩, s1.at fun o q => k i1 (by simp) o q, s2.at fun o q => k i2 (by simp) o q, s3.at fun o q => k i3 (by simp) o q⟩
  item := by
    intro X hP hw hK hc i pins s σ H E I hf st hg
    subst hP hw hK
    obtain ⟨hz, hTI, ⟨a1, a2, a3, hTO⟩, s1, s2, s3⟩ := st
    obtain ⟨x1, x2, x3, v1, v2, v3, hq1, hq2, hq3, hv1, hv2, hv3⟩ := hg
    obtain ⟨its1, rv1, p1, _⟩ := I.seqk hq1
    obtain ⟨u1, hu1, ru1⟩ := rv1.get hv1
    obtain ⟨its2, rv2, p2, _⟩ := I.seqk hq2
    obtain ⟨u2, hu2, ru2⟩ := rv2.get hv2
    obtain ⟨its3, rv3, p3, _⟩ := I.seqk hq3
    obtain ⟨u3, hu3, ru3⟩ := rv3.get hv3
    have hzl : z < s.heap.objs.size := Heap.lt_size hz
    refine pyNext_zip3_item D hz hTI hTO s1 s2 s3 p1 p2 p3 (y1 := u1) (y2 := u2) (y3 := u3) (by simpa using hu1) (by simpa using hu2) (by simpa using hu3) fun h' z' TO' t1 t2 t3 hT hsz hk => ?_
    refine ⟨_, rfl, wpAny_letOwnedTupleGo_zip (s := { s with heap := h' }) z' fun h'' z'' sb => ?_⟩
    have hT2 : h''.get? s.heap.objs.size = some { cls := .type "tuple", data := .seq #[u1, u2, u3] } := (sb.2 _ (Nat.ne_of_gt hzl)).trans hT
    have new : ObjOk X.prog X.w (upd H s.heap.objs.size (.tup [v1, v2, v3])) h'' s.heap.objs.size (.tup [v1, v2, v3]) :=
      ⟨by show 3 ≤ sizeLine; decide, [u1, u2, u3], .cons ru1 (.cons ru2 (.cons ru3 (.nil))), ⟨_, hT2, rfl, _, rfl⟩⟩
    have I1 : Inv X pins σ (upd H s.heap.objs.size (.tup [v1, v2, v3])) { s with heap := h'' } :=
      I.turnedNew (t' := s.toks) (ch := [z, TI, TO, i1, i2, i3]) (fun c o hb q => (sb.2 c (fun q' => hb (by simp [q']))).trans (hk c o (fun q' => hb (by simp [q'])) (fun q' => hb (by simp [q'])) (fun q' => hb (by simp [q'])) (fun q' => hb (by simp [q'])) (fun q' => hb (by simp [q'])) q)) hf (Nat.le_refl _) new
    refine ⟨.ref s.heap.objs.size, _, I1, rfl, ⟨_, v1, v2, v3, rfl, I.hok.fresh (Nat.le_refl _), rfl, fun l hl => by rw [I.seqk_inj hl hq1]; exact hv1, fun l hl => by rw [I.seqk_inj hl hq2]; exact hv2, fun l hl => by rw [I.seqk_inj hl hq3]; exact hv3⟩, ⟨z'', ?_, ⟨u1, u2, u3, ?_⟩, ?_, ?_, ?_⟩, fun c hcm => ?_⟩
    · exact (sb.2 _ D.TIz).trans (hk _ _ D.TIz D.TOTI.symm D.i1TI.symm D.i2TI.symm D.i3TI.symm hTI)
    · exact (sb.2 _ D.TOz).trans TO'
    · exact t1.at fun o q => (sb.2 _ D.i1z).trans q
    · exact t2.at fun o q => (sb.2 _ D.i2z).trans q
    · exact t3.at fun o q => (sb.2 _ D.i3z).trans q
    · have hlt : c < s.heap.objs.size := by
        have e' : c = z ∨ c = TI ∨ c = TO ∨ c = i1 ∨ c = i2 ∨ c = i3 := by simpa using hcm
        rcases e' with q | q | q | q | q | q
        · rw [q]; exact hzl
        · rw [q]; exact Heap.lt_size hTI
        · rw [q]; exact Heap.lt_size hTO
        · rw [q]; obtain ⟨_, _, e1, _⟩ := s1.obj; exact Heap.lt_size e1
        · rw [q]; obtain ⟨_, _, e1, _⟩ := s2.obj; exact Heap.lt_size e1
        · rw [q]; obtain ⟨_, _, e1, _⟩ := s3.obj; exact Heap.lt_size e1
      rw [upd_ne (Nat.ne_of_lt hlt)]
      exact (hf c hcm).1
  done := by
    intro X hP hw hK hc i pins s σ H E I hf st hg
    subst hP hw hK
    obtain ⟨hz, hTI, ⟨a1, a2, a3, hTO⟩, s1, s2, s3⟩ := st
    obtain ⟨x1, x2, x3, hq1, hq2, hq3, hend⟩ := hg
    obtain ⟨its1, rv1, p1, _⟩ := I.seqk hq1
    have w1 := rv1.length
    obtain ⟨its2, rv2, p2, _⟩ := I.seqk hq2
    have w2 := rv2.length
    obtain ⟨its3, rv3, p3, _⟩ := I.seqk hq3
    have w3 := rv3.length
    have he : its1.toArray[i]? = none ∨ its2.toArray[i]? = none ∨ its3.toArray[i]? = none := by
      rcases hend with q | q | q
      · exact .inl (by simp; omega)
      · exact .inr (.inl (by simp; omega))
      · exact .inr (.inr (by simp; omega))
    exact pyNext_zip3_end (I.ok.hd hc) D hz hTI hTO s1 s2 s3 p1 p2 p3 he fun h' hk => ⟨rfl, I.turnedL (t' := s.toks) (ch := [z, TI, TO, i1, i2, i3]) (fun c o hb q =>
      hk c o (fun q' => hb (by simp [q'])) (fun q' => hb (by simp [q'])) (fun q' => hb (by simp [q'])) (fun q' => hb (by simp [q'])) (fun q' => hb (by simp [q'])) q) hf⟩
  self := fun A i s Q E st h => wpAny_pyIter_zip st.1 h
def iZk3 (K : PySem.W.Frag) (ta : TA) : TI := fun σ H R => ta σ H fun vs H1 => ∃ (d1 d2 d3 : Bool) (l1 l2 l3 : Addr) (x1 x2 x3 : List V), vs = [.ref l1, .ref l2, .ref l3] ∧ SqK K d1 H1 l1 x1 ∧ SqK K d2 H1 l2 x2 ∧ SqK K d3 H1 l3 x3 ∧ R (Iz3 K d1 d2 d3 l1 l2 l3) H1
theorem pi_z3 {X : Cx} {e1 e2 e3 : Expr} {ta : TA} {p pos tpos : Pos} {elts : List Expr} {kk : Nat} (hg : Gl X "zip") (hm : X.mg "zip" = none) (ha : PA X [e1, e2, e3] ta)
    (hs : starEach [e1, e2, e3] X.env = (false, eval e1 X.env) :: starEach [e2, e3] X.env := by rfl) (hpl : (backTo pos (starEach [e2, e3] X.env)).any (·.1) = false := by rfl) :
    PI X (.Tuple elts kk tpos) (.Call (.Name "zip" p) [e1, e2, e3] [] pos) (iZk3 X.K ta) := by
  refine ⟨fun pins s σ H R I h => ?_⟩
  refine Call_ (ld_blt I hg hm PyProof.Rows.boot_zip (PyProof.Rows.callWith_type1 (thn (ha.run pos pins s σ H _ I h) fun us s1 ⟨vs, H1, I1, r1, q1⟩ => ?_) hs hpl))
  obtain ⟨d1, d2, d3, l1, l2, l3, x1, x2, x3, ex, hq1, hq2, hq3, q⟩ := q1
  subst ex
  cases r1 with
  | cons r r1 =>
    cases r
    cases r1 with
    | cons r r1 =>
      cases r
      cases r1 with
      | cons r r1 =>
        cases r
        cases r1
        have fresh5 : ∀ c, c ∈ [s1.heap.objs.size + 5, s1.heap.objs.size + 3, s1.heap.objs.size + 4, s1.heap.objs.size, s1.heap.objs.size + 1, s1.heap.objs.size + 2] → FpOk X pins H1 c := fun c hcm => by
          have hle : s1.heap.objs.size ≤ c := by
            simp only [List.mem_cons, List.not_mem_nil, or_false] at hcm
            omega
          exact I1.fpOk hle (I1.hok.fresh hle)
        obtain ⟨its1, rv1, p1, _⟩ := I1.seqk hq1
        obtain ⟨its2, rv2, p2, _⟩ := I1.seqk hq2
        obtain ⟨its3, rv3, p3, _⟩ := I1.seqk hq3
        refine call_zip3 p1 p2 p3 fun h' hz hTI hTO t1 t2 t3 hsz hk => wpAny_pyIter_zip hz ?_
        have I2 : Inv X pins σ H1 { s1 with heap := h' } := I1.kept (t' := s1.toks) hk
        have b1 : @LT.lt Nat _ l1 s1.heap.objs.size := p1.lt
        have b2 : @LT.lt Nat _ l2 s1.heap.objs.size := p2.lt
        have b3 : @LT.lt Nat _ l3 s1.heap.objs.size := p3.lt
        have D : Ap3 (s1.heap.objs.size + 5) (s1.heap.objs.size + 3) (s1.heap.objs.size + 4) (s1.heap.objs.size) (s1.heap.objs.size + 1) (s1.heap.objs.size + 2) l1 l2 l3 := ⟨(show @Ne Nat (s1.heap.objs.size + 3) (s1.heap.objs.size + 5) by omega), (show @Ne Nat (s1.heap.objs.size + 4) (s1.heap.objs.size + 5) by omega), (show @Ne Nat (s1.heap.objs.size + 4) (s1.heap.objs.size + 3) by omega), (show @Ne Nat (s1.heap.objs.size) (s1.heap.objs.size + 5) by omega), (show @Ne Nat (s1.heap.objs.size) (s1.heap.objs.size + 3) by omega), (show @Ne Nat (s1.heap.objs.size) (s1.heap.objs.size + 4) by omega), (show @Ne Nat (s1.heap.objs.size + 1) (s1.heap.objs.size + 5) by omega), (show @Ne Nat (s1.heap.objs.size + 1) (s1.heap.objs.size + 3) by omega), (show @Ne Nat (s1.heap.objs.size + 1) (s1.heap.objs.size + 4) by omega), (show @Ne Nat (s1.heap.objs.size + 1) (s1.heap.objs.size) by omega), (show @Ne Nat (s1.heap.objs.size + 2) (s1.heap.objs.size + 5) by omega), (show @Ne Nat (s1.heap.objs.size + 2) (s1.heap.objs.size + 3) by omega), (show @Ne Nat (s1.heap.objs.size + 2) (s1.heap.objs.size + 4) by omega), (show @Ne Nat (s1.heap.objs.size + 2) (s1.heap.objs.size) by omega), (show @Ne Nat (s1.heap.objs.size + 2) (s1.heap.objs.size + 1) by omega), (show @Ne Nat (l1) (s1.heap.objs.size + 5) by omega), (show @Ne Nat (l1) (s1.heap.objs.size + 4) by omega), (show @Ne Nat (l1) (s1.heap.objs.size) by omega), (show @Ne Nat (l1) (s1.heap.objs.size + 1) by omega), (show @Ne Nat (l1) (s1.heap.objs.size + 2) by omega), (show @Ne Nat (l2) (s1.heap.objs.size + 5) by omega), (show @Ne Nat (l2) (s1.heap.objs.size + 4) by omega), (show @Ne Nat (l2) (s1.heap.objs.size) by omega), (show @Ne Nat (l2) (s1.heap.objs.size + 1) by omega), (show @Ne Nat (l2) (s1.heap.objs.size + 2) by omega), (show @Ne Nat (l3) (s1.heap.objs.size + 5) by omega), (show @Ne Nat (l3) (s1.heap.objs.size + 4) by omega), (show @Ne Nat (l3) (s1.heap.objs.size) by omega), (show @Ne Nat (l3) (s1.heap.objs.size + 1) by omega), (show @Ne Nat (l3) (s1.heap.objs.size + 2) by omega)⟩
        exact ⟨s1.heap.objs.size + 5, [s1.heap.objs.size + 5, s1.heap.objs.size + 3, s1.heap.objs.size + 4, s1.heap.objs.size, s1.heap.objs.size + 1, s1.heap.objs.size + 2], _, _, H1, rfl, I2, turn_z3 (K := X.K) D, ⟨hz, hTI, ⟨_, _, _, hTO⟩, t1, t2, t3⟩, fresh5, q⟩
end L2
end
section
set_option Elab.async false
set_option Elab.async false
set_option linter.all false
set_option maxRecDepth 100000
set_option maxHeartbeats 1000000
/-! Zq: zip and enumerate lifted. -/
namespace Y
open PySem PySem.Spec PyProof.Rows L2
section
set_option Elab.async false
variable {X : Cx} {G : Glo} {E : XK}
theorem seqOf_rel {S F : Hp} {ρ : List Addr} {H : Hp} {st s : Store} {u : V} {v : Val} {ds : List D} (rp : Rep G S F ρ H st) (h : VR G F ρ u v) (e : seqOf v st = .ok ds s) : s = st ∧ ∃ (kd : Bool) (a : Addr) (xs : List V), u = .ref a ∧ (∀ H', Exn F H' → SqK G.K kd H' a xs) ∧ DtA F xs ds := by
  cases v with
  | o _ => cases e
  | s _ => cases e
  | d x =>
    cases x with
    | list es =>
      have e' : R.ok es st = R.ok ds s := e
      injection e' with e1 e2
      subst e1 e2
      obtain ⟨a, xs, rfl, ha, hd⟩ := dt_list h
      exact ⟨rfl, false, a, xs, rfl, fun H' ex => SqL.of (ex _ _ ha), hd⟩
    | tuple es =>
      have e' : R.ok es st = R.ok ds s := e
      injection e' with e1 e2
      subst e1 e2
      obtain ⟨a, xs, rfl, ha, hd⟩ := dt_tup h
      exact ⟨rfl, true, a, xs, rfl, fun H' ex => SqT.of (ex _ _ ha), hd⟩
    | none => cases e
    | bool _ => cases e
    | int _ => cases e
    | str _ => cases e
    | dict _ => cases e
theorem seqOf_ex {v : Val} {st s : Store} {c : Nat} (e : seqOf v st = .ex c s) : False := by
  cases v with
  | o _ => cases e
  | s _ => cases e
  | d x => cases x <;> cases e
theorem out_seq {S F : Hp} {ρ : List Addr} {st : Store} {γ δ : Type} {Rk : Hp → List Addr → δ → γ → Prop} {Qk : δ → Hp → Prop} {v : Val} {f : List D → M γ} (o : out G S F ρ Rk Qk E (bd (seqOf v) f st)) : ∃ ds, seqOf v st = .ok ds st ∧ out G S F ρ Rk Qk E (f ds st) := by
  unfold bd at o
  cases e : seqOf v st with
  | bad => rw [e] at o; exact o.elim
  | ex c s => exact (seqOf_ex e).elim
  | ok ds s =>
    rw [e] at o
    have : s = st := by
      cases v with
      | o _ => cases e
      | s _ => cases e
      | d x =>
        cases x with
        | list es => injection e with _ e2; exact e2.symm
        | tuple es => injection e with _ e2; exact e2.symm
        | none => cases e
        | bool _ => cases e
        | int _ => cases e
        | str _ => cases e
        | dict _ => cases e
    subst this
    exact ⟨ds, rfl, o⟩
theorem zip2_len : ∀ (a b : List D), (zip2 a b).length = min a.length b.length
  | [], b => by simp [zip2]
  | _ :: _, [] => by simp [zip2]
  | x :: xs, y :: ys => by
    simp only [zip2, List.length_cons, zip2_len xs ys]
    omega
theorem zip2_get : ∀ {a b : List D} {i : Nat} {x y : D}, a[i]? = some x → b[i]? = some y → (zip2 a b)[i]? = some (.d (.tuple [x, y]))
  | [], _, _, _, _, h, _ => by simp at h
  | _ :: _, [], _, _, _, _, h => by simp at h
  | x :: xs, y :: ys, 0, _, _, h, h' => by simp at h h'; subst h h'; rfl
  | x :: xs, y :: ys, i + 1, _, _, h, h' => by
    simp only [zip2, List.getElem?_cons_succ]
    exact zip2_get (by simpa using h) (by simpa using h')
theorem zip3_len : ∀ (a b c : List D), (zip3 a b c).length = min a.length (min b.length c.length)
  | [], b, c => by simp [zip3]
  | _ :: _, [], c => by simp [zip3]
  | _ :: _, _ :: _, [] => by simp [zip3]
  | x :: xs, y :: ys, z :: zs => by
    simp only [zip3, List.length_cons, zip3_len xs ys zs]
    omega
theorem zip3_get : ∀ {a b c : List D} {i : Nat} {x y z : D}, a[i]? = some x → b[i]? = some y → c[i]? = some z → (zip3 a b c)[i]? = some (.d (.tuple [x, y, z]))
  | [], _, _, _, _, _, _, h, _, _ => by simp at h
  | _ :: _, [], _, _, _, _, _, _, h, _ => by simp at h
  | _ :: _, _ :: _, [], _, _, _, _, _, _, h => by simp at h
  | x :: xs, y :: ys, z :: zs, 0, _, _, _, h, h', h'' => by simp at h h' h''; subst h h' h''; rfl
  | x :: xs, y :: ys, z :: zs, i + 1, _, _, _, h, h', h'' => by
    simp only [zip3, List.getElem?_cons_succ]
    exact zip3_get (by simpa using h) (by simpa using h') (by simpa using h'')
theorem jw_zip2 {F : Hp} {ρ : List Addr} {d1 d2 : Bool} {l1 l2 : Addr} {x1 x2 : List V} {e1 e2 : List D} (q1 : ∀ H', Exn F H' → SqK G.K d1 H' l1 x1) (q2 : ∀ H', Exn F H' → SqK G.K d2 H' l2 x2) (h1 : DtA F x1 e1) (h2 : DtA F x2 e2) : JW G F ρ (Iz2 G.K d1 d2 l1 l2) (zip2 e1 e2) := by
  have w1 := h1.length
  have w2 := h2.length
  refine ⟨fun i H hi ex => ?_, fun H ex => ?_, fun i H x H' hi ex y => ?_⟩
  · rw [zip2_len] at hi
    have a1 : i < x1.length := by omega
    have a2 : i < x2.length := by omega
    exact ⟨x1, x2, x1[i], x2[i], q1 H ex, q2 H ex, by simp [a1], by simp [a2]⟩
  · exact ⟨x1, x2, q1 H ex, q2 H ex, by rw [zip2_len]; omega⟩
  · obtain ⟨T, v1, v2, rfl, hT, rfl, f1, f2⟩ := y
    obtain ⟨y1, z1, t1⟩ := h1.get' (f1 x1 (q1 H ex))
    obtain ⟨y2, z2, t2⟩ := h2.get' (f2 x2 (q2 H ex))
    exact .inr ⟨T, [v1, v2], [y1, y2], hT, rfl, rfl, zip2_get z1 z2, .cons t1 (.cons t2 .nil)⟩
theorem jw_zip3 {F : Hp} {ρ : List Addr} {d1 d2 d3 : Bool} {l1 l2 l3 : Addr} {x1 x2 x3 : List V} {e1 e2 e3 : List D} (q1 : ∀ H', Exn F H' → SqK G.K d1 H' l1 x1) (q2 : ∀ H', Exn F H' → SqK G.K d2 H' l2 x2) (q3 : ∀ H', Exn F H' → SqK G.K d3 H' l3 x3) (h1 : DtA F x1 e1) (h2 : DtA F x2 e2) (h3 : DtA F x3 e3) : JW G F ρ (Iz3 G.K d1 d2 d3 l1 l2 l3) (zip3 e1 e2 e3) := by
  have w1 := h1.length
  have w2 := h2.length
  have w3 := h3.length
  refine ⟨fun i H hi ex => ?_, fun H ex => ?_, fun i H x H' hi ex y => ?_⟩
  · rw [zip3_len] at hi
    have a1 : i < x1.length := by omega
    have a2 : i < x2.length := by omega
    have a3 : i < x3.length := by omega
    exact ⟨x1, x2, x3, x1[i], x2[i], x3[i], q1 H ex, q2 H ex, q3 H ex, by simp [a1], by simp [a2], by simp [a3]⟩
  · exact ⟨x1, x2, x3, q1 H ex, q2 H ex, q3 H ex, by rw [zip3_len]; omega⟩
  · obtain ⟨T, v1, v2, v3, rfl, hT, rfl, f1, f2, f3⟩ := y
    obtain ⟨y1, z1, t1⟩ := h1.get' (f1 x1 (q1 H ex))
    obtain ⟨y2, z2, t2⟩ := h2.get' (f2 x2 (q2 H ex))
    obtain ⟨y3, z3, t3⟩ := h3.get' (f3 x3 (q3 H ex))
    exact .inr ⟨T, [v1, v2, v3], [y1, y2, y3], hT, rfl, rfl, zip3_get z1 z2 z3, .cons t1 (.cons t2 (.cons t3 .nil))⟩
theorem qi_zip2 {e1 e2 : Expr} {f : Y.A} {p pos tpos : Pos} {elts : List Expr} {kk : Nat} (hg : Gl X "zip") (hm : X.mg "zip" = none) (ha : PA X [e1, e2] (lA G E f)) (hs : starEach [e1, e2] X.env = (false, eval e1 X.env) :: starEach [e2] X.env := by rfl) (hpl : (backTo pos (starEach [e2] X.env)).any (·.1) = false := by rfl) (hK : X.K = G.K := by rfl) :
    PI X (.Tuple elts kk tpos) (.Call (.Name "zip" p) [e1, e2] [] pos) (lI G E (iCall kZip2 f)) := by
  refine PI.imp (pi_z2 hg hm ha hs hpl) fun σ H Q ⟨S, F, ρ, loc, st, rp, l, o⟩ => ⟨S, F, ρ, loc, st, rp, l, out.imp (fun x H1 h1 => ?_) (out.bd (Rl := VRs G) o)⟩
  obtain ⟨F1, ρ1, as, st1, g1, r1, v1, o1⟩ := h1
  unfold kZip2 at o1
  split at o1
  · cases v1 with
    | cons h1 hr =>
      cases hr with
      | cons h2 hr =>
        cases hr
        obtain ⟨ds1, e1, o2⟩ := out_seq o1
        obtain ⟨ds2, e2, o3⟩ := out_seq o2
        obtain ⟨_, k1, a1, xs1, rfl, q1, t1⟩ := seqOf_rel r1 h1 e1
        obtain ⟨_, k2, a2, xs2, rfl, q2, t2⟩ := seqOf_rel r1 h2 e2
        rw [hK]
        exact ⟨k1, k2, a1, a2, xs1, xs2, rfl, q1 H1 r1.ex, q2 H1 r1.ex, out.at (v := zip2 ds1 ds2) o3 r1 (jw_zip2 q1 q2 t1 t2)⟩
  · exact o1.elim
theorem qi_zip3 {e1 e2 e3 : Expr} {f : Y.A} {p pos tpos : Pos} {elts : List Expr} {kk : Nat} (hg : Gl X "zip") (hm : X.mg "zip" = none) (ha : PA X [e1, e2, e3] (lA G E f)) (hs : starEach [e1, e2, e3] X.env = (false, eval e1 X.env) :: starEach [e2, e3] X.env := by rfl) (hpl : (backTo pos (starEach [e2, e3] X.env)).any (·.1) = false := by rfl) (hK : X.K = G.K := by rfl) :
    PI X (.Tuple elts kk tpos) (.Call (.Name "zip" p) [e1, e2, e3] [] pos) (lI G E (iCall kZip3 f)) := by
  refine PI.imp (pi_z3 hg hm ha hs hpl) fun σ H Q ⟨S, F, ρ, loc, st, rp, l, o⟩ => ⟨S, F, ρ, loc, st, rp, l, out.imp (fun x H1 h1 => ?_) (out.bd (Rl := VRs G) o)⟩
  obtain ⟨F1, ρ1, as, st1, g1, r1, v1, o1⟩ := h1
  unfold kZip3 at o1
  split at o1
  · cases v1 with
    | cons h1 hr =>
      cases hr with
      | cons h2 hr =>
        cases hr with
        | cons h3 hr =>
          cases hr
          obtain ⟨ds1, e1, o2⟩ := out_seq o1
          obtain ⟨ds2, e2, o3⟩ := out_seq o2
          obtain ⟨ds3, e3, o4⟩ := out_seq o3
          obtain ⟨_, k1, a1, xs1, rfl, q1, t1⟩ := seqOf_rel r1 h1 e1
          obtain ⟨_, k2, a2, xs2, rfl, q2, t2⟩ := seqOf_rel r1 h2 e2
          obtain ⟨_, k3, a3, xs3, rfl, q3, t3⟩ := seqOf_rel r1 h3 e3
          rw [hK]
          exact ⟨k1, k2, k3, a1, a2, a3, xs1, xs2, xs3, rfl, q1 H1 r1.ex, q2 H1 r1.ex, q3 H1 r1.ex, out.at (v := zip3 ds1 ds2 ds3) o4 r1 (jw_zip3 q1 q2 q3 t1 t2 t3)⟩
  · exact o1.elim
/-! ### enumerate of a list -/
theorem enum_len : ∀ (n : Nat) (a : List D), (enumF n a).length = a.length
  | _, [] => rfl
  | n, _ :: xs => by simp [enumF, enum_len (n + 1) xs]
theorem enum_get : ∀ {n : Nat} {a : List D} {i : Nat} {x : D}, a[i]? = some x → (enumF n a)[i]? = some (.d (.tuple [.int ((n + i : Nat) : Int), x]))
  | _, [], _, _, h => by simp at h
  | n, _ :: _, 0, _, h => by simp at h; subst h; rfl
  | n, y :: ys, i + 1, x, h => by
    simp only [enumF, List.getElem?_cons_succ]
    rw [enum_get (n := n + 1) (by simpa using h)]
    have : n + 1 + i = n + (i + 1) := by omega
    rw [this]
theorem jw_enumL {F : Hp} {ρ : List Addr} {a : Addr} {x1 : List V} {e1 : List D} (ha : F a = some (.lst x1)) (h1 : DtA F x1 e1) : JW G F ρ (Ite G.K a) (enumF 0 e1) := by
  have w1 := h1.length
  refine ⟨fun i H hi ex => ?_, fun H ex => ?_, fun i H x H' hi ex y => ?_⟩
  · rw [enum_len] at hi
    have a1 : i < x1.length := by omega
    exact ⟨x1, x1[i], SqL.of (ex _ _ ha), by simp [a1]⟩
  · exact ⟨x1, SqL.of (ex _ _ ha), by rw [enum_len]; omega⟩
  · obtain ⟨T, v1, rfl, hT, rfl, f1⟩ := y
    obtain ⟨y1, z1, t1⟩ := h1.get' (f1 x1 (SqL.of (ex _ _ ha)))
    refine .inr ⟨T, [.int (i : Nat), v1], [.int (i : Int), y1], hT, rfl, rfl, ?_, .cons (.int _) (.cons t1 .nil)⟩
    have := enum_get (n := 0) z1
    rw [Nat.zero_add] at this
    exact this
theorem qi_enumL {e1 : Expr} {f : Y.A} {p pos tpos : Pos} {elts : List Expr} {kk : Nat} (hg : Gl X "enumerate") (hm : X.mg "enumerate" = none) (ha : PA X [e1] (lA G E f)) (hs : starEach [e1] X.env = [(false, eval e1 X.env)] := by rfl) (hK : X.K = G.K := by rfl) :
    PI X (.Tuple elts kk tpos) (.Call (.Name "enumerate" p) [e1] [] pos) (lI G E (iCall kEnumL f)) := by
  refine PI.imp (pi_enum hg hm ha hs) fun σ H Q ⟨S, F, ρ, loc, st, rp, l, o⟩ => ⟨S, F, ρ, loc, st, rp, l, out.imp (fun x H1 h1 => ?_) (out.bd (Rl := VRs G) o)⟩
  obtain ⟨F1, ρ1, as, st1, g1, r1, v1, o1⟩ := h1
  unfold kEnumL at o1
  split at o1
  · rename_i ds
    cases v1 with
    | cons h1 hr =>
      cases hr
      obtain ⟨a, xs, rfl, ha, hd⟩ := dt_list h1
      rw [hK]
      exact ⟨a, xs, rfl, SqL.of (r1.ex _ _ ha), out.at (v := enumF 0 ds) o1 r1 (jw_enumL ha hd)⟩
  · exact o1.elim
end
end Y
end
section
set_option Elab.async false
set_option Elab.async false
set_option linter.all false
set_option maxRecDepth 100000
set_option maxHeartbeats 1000000
/-! Cal: defs that call each other, constants, refusals. -/
namespace Y
open PySem PySem.Spec PyProof.Rows L2
/-- a def of the program that keeps its plain reading -/
structure DefOk (P : Program) (w : World) (mg : Str → Option Value) (base : Heap) (G : Glo) (k : Nat) (x : Str) (n : Nat) (sem : List Val → M Val) : Prop where
  ex : ∃ (f : Addr) (fd : FuncData) (ps : List Str), FnOk P w G.K mg base (L2N.CX P w) k f fd ps (spF G n sem) ∧ mg x = some (.ref f) ∧ PySem.W.keepIn G.K (.ref f) = true ∧ Binds G.K fd ps []
/-- where a def stands -/
structure DefAt (mg : Str → Option Value) (K : PySem.W.Frag) (x : Str) (st : Stmt) (ps : List Str) : Prop where
  ex : ∃ (f : Addr) (fd : FuncData), Fun K x x st f fd ∧ mg x = some (.ref f) ∧ Binds K fd ps []
section
set_option Elab.async false
variable {P : Program} {w : World} {mg : Str → Option Value} {base : Heap} {G : Glo}
theorem def_ok {x : Str} {st : Stmt} {N ps : List Str} {k n : Nat} {b : Y.S} (At : DefAt mg G.K x st ps) (Sc : FnScope N ps (defScope st)) (hn : n = ps.length) (hN : n ≤ N.length)
    (hb : ∀ (f : Addr) (cdv : Value) (A : Around) (outer : List Env) (s : Shared) (H : Hp) (E : XK), Room k (A.deeper (envOfC x (defScope st) s.heap.objs.size f cdv)) → PSs (cxOf (L2N.CX P w) P w G.K mg base N x (defScope st) f cdv A outer s H E) (defBody st) (lS G E b)) :
    DefOk P w mg base G (k + 1) x n (runF N.length b) := by
  obtain ⟨f, fd, Fn, hm, hbd⟩ := At.ex
  exact ⟨f, fd, ps, fn_ok Fn Sc hn hN fun cdv A outer s H E hr => hb f cdv A outer s H E hr, hm, Fn.kp, hbd⟩
theorem law_ok {x : Str} {st : Stmt} {N ps : List Str} {k n : Nat} {b : Y.S} {f : Addr} {fd : FuncData} (Fn : Fun G.K x x st f fd) (Sc : FnScope N ps (defScope st)) (hn : n = ps.length) (hN : n ≤ N.length)
    (hb : ∀ (f : Addr) (cdv : Value) (A : Around) (outer : List Env) (s : Shared) (H : Hp) (E : XK), Room k (A.deeper (envOfC x (defScope st) s.heap.objs.size f cdv)) → PSs (cxOf (L2N.CX P w) P w G.K mg base N x (defScope st) f cdv A outer s H E) (defBody st) (lS G E b)) :
    FnOk P w G.K mg base (L2N.CX P w) (k + 1) f fd ps (spF G n (runF N.length b)) := fn_ok Fn Sc hn hN fun cdv A outer s H E hr => hb f cdv A outer s H E hr
theorem law_okT {x : Str} {st : Stmt} {N ps : List Str} {k n : Nat} {b : Y.S} {f : Addr} {cdv oc kV doc pm ct : Value} {od an : Option Addr} {osl : Array (Option Value)} (lk : G.K.lookup f = some ⟨oc, od, .func (PySem.W.fnOf x x (defArgs st) (defBody st) (defScope st) .none kV doc pm an cdv ct), osl⟩) (hcd : PySem.W.codeIn G.K cdv x = true) (Sc : FnScope N ps (defScope st)) (hn : n = ps.length) (hN : n ≤ N.length)
    (hb : ∀ (A : Around) (outer : List Env) (s : Shared) (H : Hp) (E : XK), Room k (A.deeper (envOfC x (defScope st) s.heap.objs.size f cdv)) → PSs (cxOf (L2N.CX P w) P w G.K mg base N x (defScope st) f cdv A outer s H E) (defBody st) (lS G E b)) :
    FnOk P w G.K mg base (L2N.CX P w) (k + 1) f (PySem.W.fnOf x x (defArgs st) (defBody st) (defScope st) .none kV doc pm an cdv ct) ps (spF G n (runF N.length b)) := by
  refine fn_of lk hcd Sc (fun vs H Q E h => ?_) fun A outer s H vs Q E hr h => ⟨lS G E b, hb A outer s H E hr, fn_body hN h⟩
  obtain ⟨S, F, ρ, st, as, rp, vr, hl, o⟩ := h
  rw [vr.length, hl, hn]
theorem DefOk.eq {k : Nat} {x : Str} {n : Nat} {sem sem' : List Val → M Val} (h : DefOk P w mg base G k x n sem) (e : sem = sem') : DefOk P w mg base G k x n sem' := e ▸ h
end
section
set_option Elab.async false
variable {X : Cx} {G : Glo} {E : XK}
theorem qe_callD {k j n : Nat} {sem : List Val → M Val} {x : Str} {p pos : Pos} {e : Expr} {es : List Expr} {fa : Y.A} (D : DefOk X.prog X.w X.mg X.base G k x n sem) (hr : Room j X.A) (hj : k ≤ j) (hg : Gl X x) (hx : ∀ σ, PassesAt (L2N.CX X.prog X.w) X σ E) (ha : PA X (e :: es) (lA G E fa)) (hK : X.K = G.K := by rfl)
    (hdb : (x == ("__debug__" : Str)) = false := by decide) (he : starEach (e :: es) X.env = (false, eval e X.env) :: starEach es X.env := by rfl) (hpl : (backTo pos (starEach es X.env)).any (·.1) = false := by rfl) :
    PE X (.Call (.Name x p) (e :: es) [] pos) (lE G E (eB (fixN n sem) fa)) := by
  obtain ⟨f, fd, ps, Fo, hm, hk, hb⟩ := D.ex
  rw [← hK] at Fo hk hb
  exact qe_call Fo (hr.mono hj) hg hm hk hb hx ha hdb he hpl
theorem qe_gI {x : Str} {i : Int} {pos : Pos} (hm : ∃ t, X.mg x = some (.int i t)) (hg : Gl X x) (hd : (x == ("__debug__" : Str)) = false := by decide) : PE X (.Name x pos) (lE G E (eC (.int i))) := by
  obtain ⟨t, hm⟩ := hm
  exact qe_gint hg hm ⟨t, rfl⟩ hd
theorem qe_gS {x : Str} {i : Str} {pos : Pos} (hm : ∃ t, X.mg x = some (.str i t)) (hg : Gl X x) (hd : (x == ("__debug__" : Str)) = false := by decide) : PE X (.Name x pos) (lE G E (eC (.str i))) := by
  obtain ⟨t, hm⟩ := hm
  exact qe_gstr hg hm ⟨t, rfl⟩ hd
/-- a < b < c as a test -/
theorem qt_chain {op op' : CmpOp} {r r' : R2} {f f' : Val → Val → M Val} {a b c : Expr} {fa fb fc : Y.E} {pos : Pos} (ho : OpR X (compareOp op) r) (hs : OSnd G r f) (ho' : OpR X (compareOp op') r') (hs' : OSnd G r' f') (ha : PE X a (lE G E fa)) (hb : PE X b (lE G E fb)) (hc : PE X c (lE G E fc))
    (hm : lastMarks [op, op'] [b, c] = false := by rfl) : PT X (.Compare a [op, op'] [b, c] pos) (lT G E (tV (eCh f f' fa fb fc))) := by
  refine PT.imp (pt_chain ho ho' ha hb hc hm) fun σ H Q ⟨S, F, ρ, loc, st, rp, l, o⟩ => ?_
  have o2 := out.bd (Rl := VR G) o
  refine ⟨S, F, ρ, loc, st, rp, l, out.imp (fun x H1 h1 => ?_) (out.bd (Rl := VR G) o2)⟩
  obtain ⟨F1, ρ1, a, st1, g1, r1, v1, o1⟩ := h1
  refine ⟨S, F1, ρ1, loc, st1, r1, l.mono g1, out.imp (fun y H2 h2 => ?_) (out.bd (Rl := VR G) o1)⟩
  obtain ⟨F2, ρ2, b, st2, g2, r2, v2, o2⟩ := h2
  refine hs S F2 ρ2 H2 st2 x y a b _ E r2 (v1.mono g2) v2 (out.imp (fun z H3 h3 => ?_) (out.bd (Rl := VR G) o2))
  obtain ⟨F3, ρ3, c, st3, g3, r3, v3, o3⟩ := h3
  obtain ⟨k, hx, F4, ρ4, b', st4, g4, r4, v4, o4⟩ := asB_of r3 v3 (out.bd (Rl := BR) o3)
  refine ⟨k, hx, ?_⟩
  cases v4
  cases k with
  | false =>
    obtain ⟨F5, ρ5, a5, st5, g5, r5, v5, o5⟩ := out.at (v := vB false) (u := V.bl false) o4 r4 (.bl false)
    obtain ⟨c, hc, q⟩ := asB_of r5 v5 o5
    cases hc
    exact ⟨false, rfl, q⟩
  | true =>
    refine ⟨S, F4, ρ4, loc, st4, r4, l.mono (((g1.trans g2).trans g3).trans g4), out.imp (fun w H5 h5 => ?_) (out.bd (Rl := VR G) o4)⟩
    obtain ⟨F5, ρ5, e5, st5, g5, r5, v5, o5⟩ := h5
    refine hs' S F5 ρ5 H5 st5 y w b e5 _ E r5 (v2.mono ((g3.trans g4).trans g5)) v5 (out.imp (fun z6 H6 h6 => ?_) o5)
    obtain ⟨F6, ρ6, a6, st6, g6, r6, v6, o6⟩ := h6
    exact asB_of r6 v6 o6
end
/-! ### refusals -/
/-- an own class of errors, the c-th -/
structure ExcF (mg : Str → Option Value) (K : PySem.W.Frag) (x : Str) (C : Addr) : Prop where
  g : mg x = some (.ref C)
  x : PySem.W.excIn K C [.type "ValueError", .type "Exception", .type "BaseException", .type "object"] "ValueError.__new__" = true
  k : PySem.W.keepIn K (.ref C) = true
  b : PySem.W.subIn K (.ref C) (.type "BaseException") = some true
  t : PySem.W.typeIn K (.ref C) = some (.type "type")
theorem qs_raiseX {X : Cx} {G : Glo} {E : XK} {W : WX} {x m : Str} {c j : Nat} {p p2 pos pos2 : Pos} (F : ExcF X.mg X.K x (G.cl c)) (hc : X.calm = true) (tk : L2N.Takes X W) (hW : ∀ cls d σ H, E cls d H → W cls d σ H) (hg : Gl X x) (hdb : (x == ("__debug__" : Str)) = false := by decide) :
    PS X (.Raise (some (.Call (.Name x p) [.Constant (.str m) j p2] [] pos)) none pos2) (lS G E (sRaise c)) :=
  qs_raise hc tk (L2N.pmk_own PySem.F.excBase_ValueError F.x F.g F.k (raises_own F.b F.t) hg hdb) hW
/-! ### the end -/
theorem exc_mk {K : PySem.W.Frag} {h : Heap} {mg : Str → Option Value} {x : Str} {C : Addr} (X : K.In h) (G : h.Ns mainGlobals mg) (a : PySem.W.nsIn K mainGlobals x = some (some (.ref C))) (x1 : PySem.W.excIn K C [.type "ValueError", .type "Exception", .type "BaseException", .type "object"] "ValueError.__new__" = true)
    (k : PySem.W.keepIn K (.ref C) = true) (b : PySem.W.subIn K (.ref C) (.type "BaseException") = some true) (t : PySem.W.typeIn K (.ref C) = some (.type "type")) : ExcF mg K x C := ⟨PySem.W.mg_of X G a, x1, k, b, t⟩
theorem at_mk {K : PySem.W.Frag} {h : Heap} {mg : Str → Option Value} {x : Str} {st : Stmt} {f : Addr} {fd : FuncData} {ps : List Str} (X : K.In h) (G : h.Ns mainGlobals mg) (a : PySem.W.nsIn K mainGlobals x = some (some (.ref f))) (F : Fun K x x st f fd) (b : Binds K fd ps []) : DefAt mg K x st ps := ⟨f, fd, F, PySem.W.mg_of X G a, b⟩
/-- what a law's def promises, wherever its classes stand -/
def spL (K : PySem.W.Frag) (T : List (Addr × Str)) (sem : List Val → M Val) : Sp := fun vs H Q E => ∀ cl ic, spF ⟨K, T, cl, ic⟩ 1 sem vs H Q E
theorem spL_true {K : PySem.W.Frag} {sem : List Val → M Val} {H : Hp} {a : Addr} {ns : List Int} (hO : Only H) (hS : SqL K H a (ns.map V.int)) (ht : ∃ st, sem [.s ns] [] = .ok (.d (.bool true)) st) : spL K [] sem [.ref a] H (fun v _ => v = .bl true) fun _ _ _ => False := by
  intro cl ic
  obtain ⟨st, e⟩ := ht
  refine ⟨fun _ => none, H, [], [], [.s ns], ⟨(fun a o h => by cases h), fun _ _ h => h, fun a ps h => ?_, rfl, List.nodup_nil, (fun k ob h => by simp at h), (fun p hp => by cases hp)⟩, .cons ⟨a, rfl, hS⟩ .nil, rfl, ?_⟩
  · rcases hO a with h1 | ⟨o, xs, h1⟩
    · rw [h1] at h; cases h
    · rw [h1] at h; cases h
  · rw [e]
    intro F1 ρ1 u H1 g r v
    cases v
    rfl
theorem cx_false {P : Program} {w : World} {H : Hp} {s : Shared} {e : Value} {s' : Shared} (h : L2N.CX P w [] H s (fun _ _ _ => False) e s') : False := by
  obtain ⟨a, B, H', cls, d, _, _, _, _, _, _, _, z⟩ := h
  exact z
end Y
end
section
set_option Elab.async false
set_option Elab.async false
set_option linter.all false
set_option maxRecDepth 100000
set_option maxHeartbeats 2000000
/-! Hod: lists walked, summed, read into new lists while an exception is handled. -/
namespace Y
open PySem PySem.Spec PyProof.Rows L2
section
set_option Elab.async false
variable {prog : Program} {w : World} {A : Around} {E : Value → Shared → Prop} {s : Shared}
theorem hot_ne {x1 it l : Addr} {i : Nat} {h : Heap} (hot : HotX.HotAt A x1 h) (hit : h.IsListIter it l i) : x1 ≠ it := fun e => by
  obtain ⟨_, o, vs, ho, hd, h2⟩ := hot
  obtain ⟨o', ho', _, hd'⟩ := hit
  rw [e, ho'] at ho
  cases ho
  rw [hd'] at hd
  cases hd
  simp at h2
/-- the list is at its end -/
theorem end_hot {it l x1 : Addr} {i : Nat} {items : Array Value} {Q : Option Value → Shared → Prop} (hot : HotX.HotAt A x1 s.heap) (hit : s.heap.IsListIter it l i) (hl : s.heap.IsList l items) (hx : items[i]? = none)
    (k : ∀ h', Heap.ExtBut it s.heap h' → Q none { s with heap := h' }) : wpAny (model prog w) A (pyNext (.ref it)) Q E s := by
  have hne := hot_ne hot hit
  obtain ⟨hh, o1, v1, g1, d1, c1⟩ := hot
  obtain ⟨oi, gi, ci, di⟩ := id hit
  obtain ⟨ol, gl, _, nl, dl⟩ := hl
  unfold pyNext
  refine wpAny_bind (wpAny_attempt (wpAny_callSpecial?_slot (name := Str.ofString "__next__") hit.typeIs slot_listiter_next (wpAny_call_entry slot_listiter_next hit.typeIs entry_listiter_next ?q (args_listiter_next _))))
  show wpAny _ _ (field (.ref it) 0 >>= _) _ _ s
  apply wpAny_bind
  refine wpAny_field gi di (x := .ref l) rfl ?_
  show wpAny _ _ (if (Value.ref l == Value.none) = true then _ else _) _ _ s
  rw [if_neg (fun z : (Value.ref l == Value.none) = true => absurd z Bool.false_ne_true)]
  show wpAny _ _ (field (.ref it) 1 >>= _) _ _ s
  apply wpAny_bind
  refine wpAny_field gi di (x := .int i 0) rfl ?_
  show wpAny _ _ (seqItems? (.ref l) >>= _) _ _ s
  apply wpAny_bind
  refine wpAny_seqItems gl dl ?_
  simp only [Int.toNat_natCast, hx]
  apply wpAny_bind
  apply wpAny_rule
  apply wpAny_bind
  refine wpAny_setField gi di (by simp) ?_
  show wpAny _ _ (newExc (.type "StopIteration") [] >>= _) _ _ _
  apply wpAny_bind
  simp only [newExc, newTuple]
  apply wpAny_bind
  refine wpAny_newObj_type ?_ (by size_fits)
  refine wpAny_bind (m := firstArgMember _ _) (wpAny_of_eq (a := Value.none) (by simp only [firstArgMember] <;> rfl) ?_)
  refine wpAny_newObj_type ?_ (by size_fits)
  have g1' := (Heap.SameBut.update (h := s.heap) (a := it) (f := Obj.mapFields (·.setIfInBounds 0 Value.none))).extBut x1 o1 hne g1
  refine HotX.raiseNew_hot ⟨hh, o1, v1, Heap.get?_push_of_some _ (Heap.get?_push_of_some _ g1'), d1, c1⟩ (Nat.ne_of_lt (Heap.lt_size (Heap.get?_push_of_some _ g1'))) (Heap.get?_push_size _ rfl) rfl (by simp; omega) ?_
  apply wpAny_bind
  refine wpAny_isInstance (T := "StopIteration") (b := true) ⟨_, Heap.get?_update_self _ (Heap.get?_push_size _ rfl) rfl, rfl⟩ isSubtype_stop ?_
  refine wpAny_pure (k _ fun b o hb e => ?_)
  have e' := Heap.get?_push_of_some { cls := Value.type "tuple", data := .seq ([] : List Value).toArray } ((Heap.SameBut.update (h := s.heap) (a := it) (f := Obj.mapFields (·.setIfInBounds 0 Value.none))).extBut b o hb e)
  rw [Heap.get?_update_other _ _ (Nat.ne_of_gt (Heap.lt_size e'))]
  exact Heap.get?_push_of_some _ e'
theorem walks_hot {x1 : Addr} (hh : A.handled = some (.ref x1)) (I ax : Addr) (hne : ax ≠ I) (items : Array Value) :
    Walks prog w A I [I, ax, x1] [I] items.size (fun i v => items[i]? = some v) (fun i h => (h.IsListIter I ax i ∧ h.IsList ax items) ∧ HotX.HotAt A x1 h) where
  sub := fun b hb => by simp at hb; simp [hb]
  frame := fun _ _ _ st hk => ⟨⟨st.1.1.at fun o e => hk I (by simp) o e, st.1.2.at fun o e => hk ax (by simp) o e⟩, by
    obtain ⟨h1, o, vs, h2, h3, h4⟩ := st.2
    exact ⟨h1, o, vs, hk x1 (by simp) o h2, h3, h4⟩⟩
  item := fun i s Q E hi st hQ => by
    have ne1 := hot_ne st.2 st.1.1
    obtain ⟨h1, o, vs, h2, h3, h4⟩ := st.2
    refine wpAny_pyNext_list_item st.1.1 st.1.2 (x := items[i]) (by simp [hi]) fun h' a b => ?_
    exact hQ _ h' s.toks (by simp [hi]) ⟨⟨a, st.1.2.extBut b.extBut hne⟩, h1, o, vs, b.extBut x1 o ne1 h2, h3, h4⟩ fun c o hc e => b.extBut c o (fun z => hc (by simp [z])) e
  done := fun s Q E st hQ => end_hot st.2 st.1.1 st.1.2 (by simp) fun h' e => hQ h' s.toks fun b o hb e' => e b o (fun z => hb (by simp [z])) e'
  self := fun _ _ _ _ st hQ => wpAny_pyIter_listiter st.1.1 hQ
theorem sum_hot {l x1 : Addr} {its : List Value} {ns : List Int} {Q : Value → Shared → Prop} (hot : HotX.HotAt A x1 s.heap) (hl : s.heap.IsList l its.toArray) (hi : IntsAre its ns)
    (h : ∀ h' tk t', (∀ b o, s.heap.get? b = some o → h'.get? b = some o) → Q (.int ns.sum t') { s with heap := h', toks := tk }) : wpAny (model prog w) A (call (.builtin "sum") [.ref l]) Q E s := by
  obtain ⟨xs, e⟩ := hi.allInts.items
  have hn : numsOf (intItems xs).toList = ns := e ▸ hi.numsOf
  rw [nums_intItems] at hn
  rw [e] at hl
  obtain ⟨hh, o, vs, g, d, c⟩ := hot
  refine call_sum_walkG (iter_intList hl fun s₂ es st hfp hlI => ?_)
  subst es
  refine ⟨_, _, _, _, _, _, numAt xs, rfl, walks_hot (A := A.in1) (x1 := x1) hh _ l hlI (intItems xs), ⟨st, hh, o, vs, Heap.get?_push_of_some _ g, d, c⟩, fun b hb => ?_, (fun _ _ => intItems_at), fun h' tk t' hk => ?_⟩
  · rcases List.mem_cons.mp hb with z | hb
    · exact hfp b (by simp [z])
    rcases List.mem_cons.mp hb with z | hb
    · exact hfp b (by simp [z])
    · have z : b = x1 := by simpa using hb
      rw [z]
      exact Heap.lt_size (Heap.get?_push_of_some _ g)
  · have q := h h' tk t' (old_kept hk)
    have en : (intItems xs).size = xs.size := by simp [intItems]
    rw [en, preSum_eq, List.take_of_length_le (by simp), hn]
    exact q
end
/-! ### in a context where an exception is handled -/
section
set_option Elab.async false
variable {X : Cx}
theorem cr_sumH (hc : L2H.HotC X) : CallR X (.builtin "sum") (rSum X.K) := by
  intro pins s σ H vs us Q I r h
  obtain ⟨a, ns, rfl, hs, q⟩ := h
  obtain ⟨its, rv, hl, _⟩ := I.list hs
  obtain ⟨x1, hot⟩ := hc.at I
  rw [Vals.ref1 r]
  exact sum_hot hot hl.isList rv.ints fun h' tk t' hk => ⟨V.int ns.sum, H, I.kept hk, ⟨t', rfl⟩, q⟩
theorem vals_bl : ∀ {bs : List Bool} {us : List Value}, Vals (bs.map V.bl) us → us = bs.map Value.bool
  | [], _, .nil => rfl
  | b :: bs, _, .cons r rr => by
    cases r
    rw [vals_bl rr]
    rfl
/-- sum([int(x) for x in y]), y a list of truths -/
def numB (bs : List Bool) : Int := (bs.map fun b => if b = true then (1 : Int) else 0).sum
theorem ints_of_pairs : ∀ {bs : List Bool} {ys : List Value}, Paired (fun (v u : Value) => ∃ (b : Bool) (t : Tok), v = .bool b ∧ u = .int (if b then 1 else 0) t) (bs.map Value.bool) ys → IntsAre ys (bs.map fun b => if b = true then (1 : Int) else 0)
  | [], _, .nil => .nil
  | b :: bs, _, .cons h t => by
    obtain ⟨b', u, e1, e2⟩ := h
    cases e1
    rw [e2]
    exact .cons _ _ (ints_of_pairs t)
theorem pe_sumH {i : Nat} {x y : Str} {px py pi px2 ps pos pos2 cpos : Pos} {scope : Scope} (hc : L2H.HotC X) (hk : scope.kind = .function) (hfr : ∀ z ∈ scope.names, z.2 ≠ .free) (hce : ∀ z ∈ scope.names, z.2 ≠ .cell) (hlo : ∀ z ∈ scope.names, z.2 = .local → scope.names.lookup z.1 = some .local) (hx : scope.names.lookup x = some .local) (hi : scope.names.lookup ("int" : Str) = some .globalImplicit)
    (hg : Gl X "sum") (hms : X.mg "sum" = none) (hm : X.mg "int" = none) (hN : X.N[i]? = some y) (hv : Vis X.env.scope y) (hd : (x == ("__debug__" : Str)) = false) (hd1 : (y == ("__debug__" : Str)) = false) (hd2 : (y == ("__classdict__" : Str)) = false) :
    PE X (.Call (.Name "sum" ps) [.ListComp (.Call (.Name "int" pi) [.Name x px2] [] cpos) [⟨.Name x px, .Name y py, [], 0⟩] scope pos] [] pos2)
      (fun σ H Q => ∃ (a : Addr) (bs : List Bool), σ[i]? = some (some (.ref a)) ∧ SqL X.K H a (bs.map V.bl) ∧ Q (.int (numB bs)) H) := by
  refine ⟨fun pins s σ H Q I h => ?_⟩
  obtain ⟨a, bs, hσ, hs, q⟩ := h
  refine wpAny_Call_Name_kw (ld_blt I hg hms boot_sum ?_)
  refine PyProof.Rows.callWith_builtin1 ?_ (by rfl) (by rfl)
  refine Calls.spliced_cons ?_
  refine wpAny_ListComp_walk (fun _ => true) (fun v u => ∃ (b : Bool) (t : Tok), v = .bool b ∧ u = .int (if b then 1 else 0) t) hfr hce hk hlo hx ?_
  refine thn ((pe_var (pos := py) (i := i) hN hv hd1 hd2).run pins s σ H (fun v H1 => v = .ref a ∧ H1 = H) I ⟨.ref a, hσ, rfl, rfl⟩) fun u s1 ⟨v, H1, I1, r1, ev, eH⟩ => ?_
  subst ev
  rw [eH] at I1
  obtain rfl : u = Value.ref a := r1
  obtain ⟨its, rv, hl, hz⟩ := I1.list hs
  obtain rfl := vals_bl rv
  have hl' := hl.isList
  obtain ⟨x1, hot⟩ := hc.at I1
  obtain ⟨hh, o, vs, g, d, c⟩ := hot
  have lta : a < s1.heap.objs.size := by obtain ⟨_, e, _⟩ := hl'; exact Heap.lt_size e
  refine wpAny_pyIter_list hl' ?_
  refine ⟨s1.heap.objs.size, _, _, _, _, _, rfl, walks_hot (x1 := x1) hh _ a (Nat.ne_of_lt lta) (bs.map Value.bool).toArray, ?_, ⟨⟨⟨_, Heap.get?_push_size _ rfl, rfl, rfl⟩, hl'.push _⟩, hh, o, vs, Heap.get?_push_of_some _ g, d, c⟩, fun b hb => ?_, ⟨fun C i v s3 m3 E' hP hns hmx hkp htk => ?_, fun C i v s3 m3 E' hP _ hns hmx hkp htk => ?_⟩, fun D h' tk ys us hD hlD hpD hlen hP hF hkp => ?_⟩
  · simpa using hz
  · rw [Heap.size_push]
    rcases List.mem_cons.mp hb with z | hb
    · rw [z]; exact Nat.lt_succ_self _
    rcases List.mem_cons.mp hb with z | hb
    · rw [z]; exact Nat.lt_succ_of_lt lta
    · have z : b = x1 := by simpa using hb
      rw [z]
      exact Nat.lt_succ_of_lt (Heap.lt_size g)
  · exact wpAny_pure ⟨rfl, s3.heap, s3.toks, rfl, fun _ _ e => e⟩
  · have ev : ∃ b, v = Value.bool b := by
      have hP : (bs.map Value.bool).toArray[i]? = some v := hP
      rw [List.getElem?_toArray, List.getElem?_map] at hP
      obtain ⟨b, _, e⟩ := Option.map_eq_some_iff.mp hP
      exact ⟨b, e.symm⟩
    obtain ⟨b, rfl⟩ := ev
    have kp : ∀ b o, s1.heap.get? b = some o → s3.heap.get? b = some o := fun b o e => hkp b o (by simpa using Nat.ne_of_lt (Heap.lt_size e)) (Heap.get?_push_of_some _ e)
    obtain ⟨mb, b1, b2⟩ := I1.mod.blt
    refine wpAny_Call_Name_kw (Calls.Name_function_global (env := compEnv scope C X.env) hk hi (Calls.loadGlobal_builtin (mg := X.mg) (mb := mb) (v := .type "int") ?_ hm ?_ ((b2 "int" (by decide)).trans (by decide +kernel)) ?_))
    · show s3.heap.Ns X.env.globals X.mg
      rw [I1.ok.glob]
      exact (I1.mod.glob.keeps I1.bk).keeps kp
    · show s3.heap.Ns X.env.builtins mb
      rw [I1.ok.blt]
      exact (b1.keeps I1.bk).keeps kp
    · refine PyProof.Rows.callWith_type1 ?_ (by rfl) (by rfl)
      refine Calls.spliced_cons (wpAny_Name (wpAny_loadName_local (env := compEnv scope C X.env) hk hx hns hmx ?_) hd)
      refine Calls.spliced_nil (call_int_bool ⟨⟨b, _, rfl, rfl⟩, s3.heap, s3.toks + 1, rfl, fun _ _ e => e⟩)
  · have kp : ∀ b o, s1.heap.get? b = some o → h'.get? b = some o := fun b o e => hkp b o (by simpa using Nat.ne_of_lt (Heap.lt_size e)) (Heap.get?_push_of_some _ e)
    refine Calls.spliced_nil ?_
    have eus : us = bs.map Value.bool := by
      refine List.ext_getElem? fun j => ?_
      cases hj : us[j]? with
      | some v =>
        have := hP j v hj
        rw [List.getElem?_toArray] at this
        exact this.symm
      | none =>
        have h1 : us.length ≤ j := List.getElem?_eq_none_iff.mp hj
        have h2 : us.length = (bs.map Value.bool).toArray.size := hlen
        rw [List.getElem?_eq_none (by simpa using (by rw [h2] at h1; simpa using h1))]
    subst eus
    have hF : Paired _ ((bs.map Value.bool).filter fun _ => true) ys.toList := hF
    rw [List.filter_eq_self.mpr fun _ _ => rfl] at hF
    have I2 : Inv X pins σ H { s1 with heap := h', toks := tk } := I1.kept kp
    obtain ⟨x1, hot⟩ := hc.at I2
    refine sum_hot (its := ys.toList) (ns := bs.map fun b => if b = true then (1 : Int) else 0) hot (by simpa using hlD) (ints_of_pairs hF) fun h2 tk2 t2 k2 => ⟨V.int (numB bs), H, I2.kept k2, ⟨t2, rfl⟩, q⟩
/-! ### isinstance of the handled exception -/
theorem call_isP {a D : Addr} {oe : Obj} (hp : (a, oe) ∈ X.pn) (C : ExcC X.K D) (hz : oe.cls = .ref D ∧ oe.dict = none) (hf : ∃ vs, oe.data = .fields vs) : CallR X (.builtin "isinstance") (rIsE X.K D a) := by
  intro pins s σ H xs us Q I r h
  obtain ⟨c, cv, b, rfl, hcv, e, q⟩ := h
  match us, r with
  | [u1, u2], .cons rx (.cons rt .nil) =>
    cases rx
    obtain rfl := hcv _ rt
    have hget := (I.pin (a, oe) (List.mem_append_left _ hp)).1
    have J : PySem.W.InstAt s.heap a oe D none := by
      obtain ⟨vs, hv⟩ := hf
      obtain ⟨oc, od, oda, osl⟩ := oe
      obtain ⟨h1, h2⟩ := hz
      dsimp only at h1 h2 hv
      subst h1 h2 hv
      exact ⟨hget, rfl, rfl, trivial⟩
    exact PySem.W.kia_one (PySem.W.handS_kitx_exc C.hg C.hk C.hs C.hd C.ha C.hn C.ht C.hm) I.kIn J e (fun z => nomatch z) fun tk => ⟨V.bl b, H, I.kept (t' := tk) fun _ _ z => z, rfl, q⟩
/-- the exception at a, of the class at D -/
structure ExcAt (X : Cx) (a D : Addr) : Prop where
  ex : ∃ oe : Obj, (a, oe) ∈ X.pn ∧ (oe.cls = .ref D ∧ oe.dict = none) ∧ ∃ vs, oe.data = .fields vs
  c : ExcC X.K D
def tIsE (a : Addr) (b : Bool) : TE := fun σ H Q => σ[0]? = some (some (.ref a)) ∧ Q (.bl b) H
theorem pe_isE {a D C : Addr} {b : Bool} {e x : Str} {p p2 p3 pos : Pos} (Ea : ExcAt X a D) (hm : X.mg x = some (.ref C)) (hk : PySem.W.kitOne X.K (.ref D) (.ref C) = some b) (hi : X.mg "isinstance" = none) (hgi : Gl X "isinstance" := by rfl) (hg : Gl X x := by rfl) (hN : X.N[0]? = some e := by rfl)
    (hv : Vis X.env.scope e := by first | exact Or.inl rfl | exact Or.inr (Or.inl rfl) | exact Or.inr (Or.inr rfl)) (hd : (e == ("__debug__" : Str)) = false := by decide) (hcd : (e == ("__classdict__" : Str)) = false := by decide) (hdx : (x == ("__debug__" : Str)) = false := by decide)
    (he : starEach [.Name e p2, .Name x p3] X.env = (false, eval (.Name e p2) X.env) :: starEach [.Name x p3] X.env := by rfl) (hpl : (backTo pos (starEach [.Name x p3] X.env)).any (·.1) = false := by rfl) :
    PE X (.Call (.Name "isinstance" p) [.Name e p2, .Name x p3] [] pos) (tIsE a b) := by
  obtain ⟨oe, h1, h2, h3⟩ := Ea.ex
  refine PE.imp (pe_callB (call_isP h1 Ea.c h2 h3) hgi hi (by decide +kernel) (pa_cons (pe_var (i := 0) hN hv hd hcd) (pa_cons (pe_glob hg hm (v := .ref C) rfl hdx) pa_nil)) (by decide) (by decide) he hpl) fun σ H Q ⟨hσ, q⟩ => ?_
  exact ⟨.ref a, hσ, .ref C, .ref C, b, rfl, fun u r => r, hk, q⟩
theorem pe_isV {a D : Addr} {b : Bool} {e x : Str} {T : String} {p p2 p3 pos : Pos} (Ea : ExcAt X a D) (hm : X.mg x = none) (hT : bootBuiltins x = some (.type T)) (hk : PySem.W.kitOne X.K (.ref D) (.type T) = some b) (hi : X.mg "isinstance" = none) (hgi : Gl X "isinstance" := by rfl) (hg : Gl X x := by rfl) (hN : X.N[0]? = some e := by rfl)
    (hv : Vis X.env.scope e := by first | exact Or.inl rfl | exact Or.inr (Or.inl rfl) | exact Or.inr (Or.inr rfl)) (hd : (e == ("__debug__" : Str)) = false := by decide) (hcd : (e == ("__classdict__" : Str)) = false := by decide) (hn : x ≠ "__name__" := by decide) (hdx : (x == ("__debug__" : Str)) = false := by decide)
    (he : starEach [.Name e p2, .Name x p3] X.env = (false, eval (.Name e p2) X.env) :: starEach [.Name x p3] X.env := by rfl) (hpl : (backTo pos (starEach [.Name x p3] X.env)).any (·.1) = false := by rfl) :
    PE X (.Call (.Name "isinstance" p) [.Name e p2, .Name x p3] [] pos) (tIsE a b) := by
  obtain ⟨oe, h1, h2, h3⟩ := Ea.ex
  refine PE.imp (pe_callB (call_isP h1 Ea.c h2 h3) hgi hi (by decide +kernel) (pa_cons (pe_var (i := 0) hN hv hd hcd) (pa_cons (pe_bltn hg hm hT (v := .ty T) rfl hn hdx) pa_nil)) (by decide) (by decide) he hpl) fun σ H Q ⟨hσ, q⟩ => ?_
  exact ⟨.ref a, hσ, .ty T, .type T, b, rfl, fun u r => r, hk, q⟩
end
/-! ### a def run once, while the exception p is handled -/
theorem run_hot {CX : CXT} {P : Program} {w : World} {K : PySem.W.Frag} {mg : Str → Option Value} {base : Heap} {k : Nat} {x : Str} {st : Stmt} {f : Addr} {fd : FuncData} {N ps : List Str} {A : Around} {outer : List Env} {s : Shared} {H : Hp} {us : List Value} {vs : List V} {Q : VK} {E : XK} {p : Addr × Obj} {t : TS}
    (Fn : Fun K x x st f fd) (S : FnScope N ps (defScope st)) (hr : L2H.RoomH (k + 1) A) (hpin : L2H.PinOk outer H s p) (e0 : Env0 P w K mg base A outer s H) (hb : BindsTo s fd ⟨us, []⟩ (ps.zip us)) (r : Vals vs us) (hl : vs.length = ps.length)
    (ht : ∀ cdv, PSs (L2H.cxH CX P w K mg base N x (defScope st) f cdv A outer s H E p) (defBody st) t) (hq : t { nx := fun _ H' => Q .non H', rt := Q } (L2.start N vs) H) :
    codeAny (model P w) A (.call (.ref f) ⟨us, []⟩) (CR CX outer P w H s Q E) s := by
  obtain ⟨oc, od, kV, doc, pm, an, cdv, ct, osl, rfl, lk, hcd⟩ := Fn.ex
  have KX : K.In s.heap := e0.mod.kin.keeps fun b o e => (e0.bs b o e).1
  have lim := e0.mod.nolimit.keeps fun b o e => (e0.bs b o e).1
  refine codeAny_call_function hr.depth (KX _ _ lk) rfl S.co S.gen rfl (PySem.W.codeRec_of KX hcd) (hb _ _ _ _ (wpAny_newFunctionEnv_cells S.kind (fun y hy => ?_) fun env he s1 xc => ?_))
  · rcases S.par y.1 (List.of_mem_zip (a := y.1) (b := y.2) hy).1 with q | q
    · exact .inl q
    · exact .inr ⟨q, PySem.W.cellsFrom_some _ _ _ (.inl q)⟩
  · subst he
    refine ⟨lim.keeps xc.toInCall.keep, codeAny_func (wpAny_mono ((ht cdv).run [] s1 _ H _ (L2H.inv_startH S hpin e0 hl r xc) hq) (fun fl s' hs => ?_) fun e s' hs => hs)⟩
    cases fl with
    | ret u =>
      obtain ⟨v, σ', H', J, rv, q⟩ := hs
      exact ⟨v, H', J.os, J.bare, J.base, J.hok, rv, q⟩
    | next =>
      obtain ⟨σ', H', J, q⟩ := hs
      exact ⟨V.non, H', J.os, J.bare, J.base, J.hok, rfl, q⟩
    | brk => exact (let ⟨_, _, _, q⟩ := hs; False.elim q)
    | cont => exact (let ⟨_, _, _, q⟩ := hs; False.elim q)
/-- x(e) in the suite, e the exception -/
theorem pe_hot {X : Cx} {CX : CXT} {k : Nat} {x e : Str} {st : Stmt} {f : Addr} {fd : FuncData} {N ps : List Str} {i : Nat} {p : Addr × Obj} {t : TS} {q q2 pos : Pos} (Fn : Fun X.K x x st f fd) (S : FnScope N ps (defScope st)) (hps : ps.length = 1) (hr : L2H.RoomH (k + 1) X.A) (hot : L2H.Hot1 X.A p) (hp : p ∈ X.pn) (hg : Gl X x) (hm : X.mg x = some (.ref f)) (hb : Binds X.K fd ps [])
    (ht : ∀ cdv outer s H E, PSs (L2H.cxH CX X.prog X.w X.K X.mg X.base N x (defScope st) f cdv X.A outer s H E p) (defBody st) t) (hx : ∀ σ, PassesAt CX X σ EF) (hN : X.N[i]? = some e) (hv : Vis X.env.scope e)
    (hd : (e == ("__debug__" : Str)) = false) (hcd : (e == ("__classdict__" : Str)) = false) (hdb : (x == ("__debug__" : Str)) = false) (he : starEach [.Name e q2] X.env = (false, eval (.Name e q2) X.env) :: starEach [] X.env := by rfl) (hpl : (backTo pos (starEach [] X.env)).any (·.1) = false := by rfl) :
    PE X (.Call (.Name x q) [.Name e q2] [] pos) (fun σ H Q => ∃ v, σ[i]? = some (some v) ∧ t { nx := fun _ H' => Q .non H', rt := Q } (L2.start N [v]) H) := by
  refine ⟨fun pins s σ H Q I h => ?_⟩
  refine wpAny_Call_Name_kw (ld_glob I hg hm ?_ hdb)
  refine PySem.W.callWith_K (h₀ := X.base) I.ok.mod.kin Fn.kp ?_ he hpl
  refine thn ((pa_cons (pe_var (i := i) (pos := q2) hN hv hd hcd) pa_nil).run pos pins s σ H (fun vs H1 => ∃ v, vs = [v] ∧ t { nx := fun _ H' => Q .non H', rt := Q } (L2.start N [v]) H1) I (by obtain ⟨v, h1, h2⟩ := h; exact ⟨v, h1, v, rfl, h2⟩)) fun us s1 ⟨vs, H1, I1, r, v, ev, q⟩ => ⟨I1.kIn, ?_⟩
  subst ev
  have hlu : us.length = ps.length := by rw [← r.length, hps]; rfl
  have b := hb s1 us I1.kIn (by rw [List.append_nil]; exact hlu)
  rw [List.append_nil] at b
  have P1 := I1.pin p (List.mem_append_left _ hp)
  have hpin : L2H.PinOk X.stack H1 s1 p := ⟨P1.1, P1.2.1, fun hm => (List.mem_cons.mp (I1.stkSub p.1 hm)).elim P1.2.2.1 P1.2.2.2.1, P1.2.2.2.2⟩
  refine wpAny_call (codeAny_mono (run_hot (E := EF) (t := t) Fn S hr hpin I1.env0 b r (by rw [hps]; rfl) (fun cdv => ht cdv X.stack s1 H1 EF) q) fun r s' hq => ?_)
  cases r with
  | error e => exact hx σ pins H1 s1 e s' I1 hq
  | ok fl =>
    cases fl with
    | ret u => exact I1.after hq
    | next => exact False.elim hq
    | brk => exact False.elim hq
    | cont => exact False.elim hq
/-! ### the law's _law_term -/
/-- what the ten classes are to one another -/
structure TermF (mg : Str → Option Value) (K : PySem.W.Frag) (cl : Nat → Addr) : Prop where
  g1 : mg "BadMoves" = some (.ref (cl 1))
  g2 : mg "BadStanding" = some (.ref (cl 2))
  g3 : mg "BadNumber" = some (.ref (cl 3))
  g4 : mg "BadRow" = some (.ref (cl 4))
  g5 : mg "BadWeights" = some (.ref (cl 5))
  g6 : mg "BadRound" = some (.ref (cl 6))
  g7 : mg "Endless" = some (.ref (cl 7))
  g8 : mg "Nothing" = some (.ref (cl 8))
  g9 : mg "Full" = some (.ref (cl 9))
  g10 : mg "BadText" = some (.ref (cl 10))
  bi : mg "isinstance" = none
  bs : mg "sum" = none
  bn : mg "int" = none
  bv : mg "ValueError" = none
/-- what one class must say so that its errors are told -/
structure TermC (K : PySem.W.Frag) (cl : Nat → Addr) (c : Nat) : Prop where
  lo : 1 ≤ c
  hi : c ≤ 10
  e : ExcC K (cl c)
  k : ∀ j, 1 ≤ j → j ≤ 10 → PySem.W.kitOne K (.ref (cl c)) (.ref (cl j)) = some (decide (j = c))
  v : PySem.W.kitOne K (.ref (cl c)) (.type "ValueError") = some true
theorem term_num {c : Nat} (h1 : 1 ≤ c) (h2 : c ≤ 10) : numB [decide (1 = c), decide (2 = c), decide (3 = c), decide (4 = c), decide (5 = c), decide (6 = c), decide (7 = c), decide (8 = c), decide (9 = c), decide (10 = c)] = 1 := by
  have : c = 1 ∨ c = 2 ∨ c = 3 ∨ c = 4 ∨ c = 5 ∨ c = 6 ∨ c = 7 ∨ c = 8 ∨ c = 9 ∨ c = 10 := by omega
  rcases this with rfl | rfl | rfl | rfl | rfl | rfl | rfl | rfl | rfl | rfl <;> rfl
theorem term_ix {c : Nat} (h1 : 1 ≤ c) (h2 : c ≤ 10) : ([V.bl (decide (1 = c)), V.bl (decide (2 = c)), V.bl (decide (3 = c)), V.bl (decide (4 = c))] ++ [V.bl (decide (5 = c)), V.bl (decide (6 = c))] ++ [V.bl (decide (7 = c)), V.bl (decide (8 = c)), V.bl (decide (9 = c)), V.bl (decide (10 = c))])[c - 1]? = some (V.bl true) ∧ (∀ (m : Nat) (z' : V), m < c - 1 → ([V.bl (decide (1 = c)), V.bl (decide (2 = c)), V.bl (decide (3 = c)), V.bl (decide (4 = c))] ++ [V.bl (decide (5 = c)), V.bl (decide (6 = c))] ++ [V.bl (decide (7 = c)), V.bl (decide (8 = c)), V.bl (decide (9 = c)), V.bl (decide (10 = c))])[m]? = some z' → eqV z' (V.bl true) = false) ∧
    L2.atI ([V.str "BadMoves", V.str "BadStanding", V.str "BadNumber", V.str "BadRow", V.str "BadWeights", V.str "BadRound"] ++ [V.str "Endless", V.str "Nothing", V.str "Full", V.str "BadText"]) ((c - 1 : Nat) : Int) = some (V.str (kindN c)) := by
  have : c = 1 ∨ c = 2 ∨ c = 3 ∨ c = 4 ∨ c = 5 ∨ c = 6 ∨ c = 7 ∨ c = 8 ∨ c = 9 ∨ c = 10 := by omega
  refine ⟨?_, ?_, ?_⟩
  · rcases this with rfl | rfl | rfl | rfl | rfl | rfl | rfl | rfl | rfl | rfl <;> rfl
  · intro m z' hm hz
    have hm' : m = 0 ∨ m = 1 ∨ m = 2 ∨ m = 3 ∨ m = 4 ∨ m = 5 ∨ m = 6 ∨ m = 7 ∨ m = 8 := by omega
    rcases hm' with rfl | rfl | rfl | rfl | rfl | rfl | rfl | rfl | rfl <;> (cases hz; show (decide _ == true) = false; rw [decide_eq_false (by omega)]; rfl)
  · rcases this with rfl | rfl | rfl | rfl | rfl | rfl | rfl | rfl | rfl | rfl <;> rfl
def tTerm (a : Addr) (c : Nat) : TS := fun D σ H => σ = [some (.ref a), none, none] ∧ ∀ p H', (∀ b o, H b = some o → H' b = some o) → H p = none → H' p = some (.tup [.str "refused", .str (kindN c)]) → D.rt (.ref p) H'
end Y
end
section
set_option Elab.async false
set_option Elab.async false
set_option linter.all false
set_option maxRecDepth 100000
set_option maxHeartbeats 2000000
/-! Tld: told(lambda: ..): what the lambda gives, or the kind of its refusal. -/
namespace Y
open PySem PySem.Spec PyProof.Rows L2
/-- the lambda's context: what it raises lies as L2N.CX says -/
abbrev lamX (X : Cx) (A : Around) (outer : List Env) (s : Shared) (H : Hp) (E : XK) (scope : Scope) (f c' : Addr) : Cx :=
  (LamX.lamCx X A outer s H E scope f c').tr [] (fun e s' => wpAny (model X.prog X.w) (A.deeper (LamX.lamEnv X scope s.heap.objs.size f c')) (leaving (LamX.lamEnv X scope s.heap.objs.size f c') e) (fun _ s'' => L2N.CX X.prog X.w outer H s E e s'') (fun e' s'' => L2N.CX X.prog X.w outer H s E e' s'') s')
theorem takesLam {X : Cx} {A : Around} {outer : List Env} {s : Shared} {H : Hp} {E : XK} {scope : Scope} {f c' : Addr} : L2N.Takes (lamX X A outer s H E scope f c') (fun cls d _ H => E cls d H) := L2N.takes_of rfl rfl rfl rfl
/-- all that told needs -/
structure ToldF (mg : Str → Option Value) (K : PySem.W.Frag) (cl : Nat → Addr) (cs : List Nat) (sT sM : Stmt) : Prop where
  t : ∃ (g : Addr) (fd : FuncData), Fun K "_law_told" "_law_told" sT g fd ∧ mg "_law_told" = some (.ref g) ∧ Binds K fd ["deed"] []
  m : ∃ (g : Addr) (fd : FuncData), Fun K "_law_term" "_law_term" sM g fd ∧ mg "_law_term" = some (.ref g) ∧ Binds K fd ["e"] []
  st : FnScope ["deed", "e"] ["deed"] (defScope sT)
  sm : FnScope ["e", "flags", "kinds"] ["e"] (defScope sM)
  le : (defScope sT).names.lookup ("e" : Str) = some .local
  ld : Vis (defScope sT) ("deed" : Str)
  gm : (defScope sT).names.lookup ("MoveError" : Str) = some .globalImplicit
  gt : (defScope sT).names.lookup ("_law_term" : Str) = some .globalImplicit
  bt : ∃ p1 p2 p3 p4 p5 p6 p7 p8 p9 p10 : Pos, defBody sT = [.Try [.Return (some (.Call (.Name "deed" p1) [] [] p2)) p3] [.ExceptHandler (some (.Name "MoveError" p4)) (some "e") [.Return (some (.Call (.Name "_law_term" p5) [.Name "e" p6] [] p7)) p8] p9] [] [] p10]
  bm : ∀ (P : Program) (w : World) (base : Heap) (f : Addr) (cdv : Value) (A : Around) (outer : List Env) (s : Shared) (H0 : Hp) (E : XK) (a : Addr) (oe : Obj) (c : Nat), c ∈ cs → L2H.Hot1 A (a, oe) → (oe.cls = .ref (cl c) ∧ oe.dict = none) → (∃ vs, oe.data = .fields vs) →
    PSs (L2H.cxH (L2N.CX P w) P w K mg base ["e", "flags", "kinds"] "_law_term" (defScope sM) f cdv A outer s H0 E (a, oe)) (defBody sM) (tTerm a c)
  ex : ∃ M : Addr, mg "MoveError" = some (.ref M) ∧ ∀ c ∈ cs, PySem.W.exmOne K (.ref (cl c)) (.ref M) = some true
section
set_option Elab.async false
variable {X : Cx}
/-- x(), x the lambda, in the def that got it -/
theorem pe_deed {pins : List (Addr × Obj)} {σ : L2.St} {H : Hp} {s : Shared} {CXg : CXT} {Eg : XK} {Ng : List Str} {qg : Str} {sg : Scope} {g f c' : Addr} {cdg pm ctv : Value} {params : Arguments} {body : Expr} {scope : Scope} {k i : Nat} {a : Str} {pn : List (Addr × Obj)} {xe : Value → Shared → Prop} {W : WX} {t : XK → TE} {p1 p2 : Pos}
    (I : Inv X pins σ H s) (L : LamX.LamS X.env.scope scope) (hf : s.heap.get? f = some (PySem.W.kla_obj "<lambda>" (X.env.qual ++ "<lambda>") params body scope (cloFrom X.env.cells scope.names []) pm c' ctv)) (hfn : H f = none) (hfr : f ∉ frs X.stack)
    (hbind : bindArgs (PySem.W.kla_fn "<lambda>" (X.env.qual ++ "<lambda>") params body scope (cloFrom X.env.cells scope.names []) pm (.ref c') ctv) ⟨[], []⟩ = pure [])
    (tk : L2N.Takes ((cxOf CXg X.prog X.w X.K X.mg X.base Ng qg sg g cdg X.A X.stack s H Eg).tr pn xe) W) (hr : Room (k + 1) (X.A.deeper (envOfC qg sg s.heap.objs.size g cdg)))
    (hbody : ∀ (A : Around) (outer : List Env) (s : Shared) (H : Hp) (E : XK), Room k (A.deeper (LamX.lamEnv X scope s.heap.objs.size f c')) → PE (lamX X A outer s H E scope f c') body (t E))
    (hN : Ng[i]? = some a) (hv : Vis sg a) (hd : (a == ("__debug__" : Str)) = false) (hcd : (a == ("__classdict__" : Str)) = false) :
    PE ((cxOf CXg X.prog X.w X.K X.mg X.base Ng qg sg g cdg X.A X.stack s H Eg).tr pn xe) (.Call (.Name a p1) [] [] p2)
      (fun σZ HZ Q => σZ[i]? = some (some (.ref f)) ∧ HZ c' = some (LamX.CodeO c' (X.env.qual ++ "<lambda>")) ∧ t (WE W σZ) σ HZ Q) := by
  refine ⟨fun pinsZ sZ σZ HZ Q IZ ⟨hs, hc, ht⟩ => ?_⟩
  refine wpAny_Call_Name_kw (thn ((pe_var (pos := p1) (i := i) hN hv hd hcd).run pinsZ sZ σZ HZ (fun v H1 => v = .ref f ∧ H1 = HZ) IZ ⟨.ref f, hs, rfl, rfl⟩) fun u s1 ⟨v, H1, I1, r1, ev, eH⟩ => ?_)
  subst ev
  rw [eH] at I1
  obtain rfl : u = Value.ref f := r1
  have un : Un (frs X.stack) [] H HZ s.heap s1.heap := I1.base
  have of1 := un.keep f _ hf hfn hfr (fun z => nomatch (show f ∈ ([] : List Addr) from z))
  obtain ⟨⟨oc, vs, tq, hoc, hdc, hvc⟩, _, _⟩ := I1.hok c' _ hc
  refine PySem.W.callWith_F0 ⟨_, _, _, _, of1⟩ (wpAny_call (codeAny_mono (R := CR (L2N.CX X.prog X.w) (envOfC qg sg s.heap.objs.size g cdg :: X.stack) X.prog X.w HZ s1 Q (WE W σZ)) ?_ fun r s' hq => ?_))
  · refine PySem.W.kla_callFunE hr.depth of1 rfl L.co L.gen rfl ⟨c', oc, vs, tq, rfl, hoc, hdc, hvc⟩ ?_
    rw [show ({ pos := [] ++ [] } : Args) = ⟨[], []⟩ from rfl, hbind]
    refine wpAny_pure (wpAny_newFunctionEnv (fun y hy => (L.own y hy).2) (fun y hy => absurd hy (by simp)) (fun h₁ hns hsb => ⟨I1.nolimit.fresh _ hsb, ?_⟩) L.kind)
    have kp : ∀ b o, s1.heap.get? b = some o → h₁.get? b = some o := fun b o e => hsb.extBut b o (Nat.ne_of_lt (Heap.lt_size e)) (Heap.get?_push_of_some _ e)
    have J := LamX.lam_start2 (E := WE W σZ) (f := f) (c' := c') (tk := s1.toks + ([] : List (Str × Value)).length) I L I1.env0 hr.hd un hns kp
    refine PySem.W.kla_codeExpr (wpAny_mono ((hbody _ _ s1 HZ (WE W σZ) (hr.deeper _)).run [] _ _ HZ Q (J.toTry _) ht) (fun v s' hq => ?_) fun e s' hq => hq)
    obtain ⟨w', H', J', rv, q⟩ := hq
    exact ⟨w', H', J'.os, J'.bare, J'.base, J'.hok, rv, q⟩
  · cases r with
    | error e => exact L2N.passAt tk σZ pinsZ HZ s1 e s' I1 hq
    | ok fl =>
      cases fl with
      | ret u => exact I1.after hq
      | next => exact False.elim hq
      | brk => exact False.elim hq
      | cont => exact False.elim hq
variable {G : Glo} {E : XK}
theorem Rep.extN {S F : Hp} {ρ : List Addr} {H H1 : Hp} {st : Store} (r : Rep G S F ρ H st) (e : LamX.ExtN H H1) (t : LamX.Tabs G.T H1) : Rep G S F ρ H1 st where
  sd := fun a o h => by
    obtain ⟨h1, h2, h3, h4⟩ := r.sd a o h
    exact ⟨e a o h1 h4, h2, h3, h4⟩
  ex := fun a o h => e a o (r.ex a o h) fun ps z => r.nt a ps (z ▸ h)
  nt := r.nt
  len := r.len
  nd := r.nd
  own := fun k ob h => by
    obtain ⟨a, ho, h1, h2, h3, h4⟩ := r.own k ob h
    refine ⟨a, ho, h1, h2, e a ho h3 fun ps z => ?_, h4⟩
    cases ob with
    | lst xs => obtain ⟨vs, e1, _⟩ := h4; rw [e1] at z; cases z
    | ins C fs => obtain ⟨dx, fv, e1, _⟩ := h4; rw [e1] at z; cases z
    | gone => obtain ⟨vs, e1⟩ := h4; rw [e1] at z; cases z
    | tup xs => obtain ⟨vs, e1, _⟩ := h4; rw [e1] at z; cases z
    | dct xs => obtain ⟨vs, e1, _⟩ := h4; rw [e1] at z; cases z
  tab := t
/-- one more tuple of texts -/
theorem Rep.term {S F : Hp} {ρ : List Addr} {H H' : Hp} {st : Store} {p : Addr} {x y : Str} (r : Rep G S F ρ H st) (e : ∀ b o, H b = some o → H' b = some o) (hn : H p = none) (hp : H' p = some (.tup [.str x, .str y])) :
    ∃ F', Gr F ρ F' ρ ∧ Rep G S F' ρ H' st ∧ VR G F' ρ (.ref p) (.d (.tuple [.str x, .str y])) := by
  obtain ⟨r1, g1⟩ := r.new (o := .tup [.str x, .str y]) hn (fun ps z => by cases z)
  have en : ∀ b o, upd H p (.tup [.str x, .str y]) b = some o → H' b = some o := fun b o h => by
    by_cases hb : b = p
    · subst hb
      rw [upd_same] at h
      cases h
      exact hp
    · rw [upd_ne hb] at h
      exact e b o h
  exact ⟨_, g1, r1.extN (LamX.ExtN.of en) (r1.tab.ext en), .tup upd_same (.cons (.str x) (.cons (.str y) .nil))⟩
theorem takesN {X : Cx} : L2N.Takes X (fun _ _ _ _ => False) := fun _ _ x => by
  obtain ⟨_, _, _, _, _, _, _, _, _, _, _, _, _, _, _, _, z⟩ := x
  exact z.elim
/-- told(lambda: body) -/
theorem qe_told {cs : List Nat} {sT sM : Stmt} {c P : Addr} {k : Nat} {params : Arguments} {body : Expr} {scope : Scope} {fb : Y.E} {p lpos pos : Pos} (TF : ToldF X.mg X.K G.cl cs sT sM) (hg : Gl X "_law_told")
    (TB : LamX.TabB X.base X.mg c P) (hcode : X.env.code = .ref c) (hmT : (P, X.env.qual ++ "<lambda>") ∈ G.T) (hu : ∀ p ∈ G.T, p.1 = P → p.2 = X.env.qual ++ "<lambda>") (hr : Room (k + 3) X.A) (L : LamX.LamS X.env.scope scope) (hdef : defaultsOf params X.env = ([], []))
    (hbind : ∀ (q : Str) (cl : List (Str × Addr)) (pm cv ctv : Value), bindArgs (PySem.W.kla_fn "<lambda>" q params body scope cl pm cv ctv) ⟨[], []⟩ = pure [])
    (hbody : ∀ (A : Around) (outer : List Env) (s : Shared) (H : Hp) (E : XK) (f c' : Addr), Room k (A.deeper (LamX.lamEnv X scope s.heap.objs.size f c')) → PE (lamX X A outer s H E scope f c') body (lE G E fb)) :
    PE X (.Call (.Name "_law_told" p) [.Lambda params body scope lpos] [] pos) (lE G E (eTold cs fb)) := by
  refine ⟨fun pins s σ H Q I h => ?_⟩
  obtain ⟨S, F, ρ, loc, st, rp, l, o⟩ := h
  obtain ⟨g, fdT, FT, mT, bT⟩ := TF.t
  obtain ⟨f2, fdM, FM, mM, bM⟩ := TF.m
  obtain ⟨M, gM, exM⟩ := TF.ex
  obtain ⟨p1, p2, p3, p4, p5, p6, p7, p8, p9, p10, hbd⟩ := TF.bt
  refine wpAny_Call_Name_kw (ld_glob I hg mT ?_ (by decide))
  refine PySem.W.callWith_K (h₀ := X.base) I.ok.mod.kin FT.kp ?_ (by rfl) (by rfl)
  refine Calls.spliced_cons (LamX.lam_make2 I TB hcode hmT hu rp.tab hdef (L.has I.ok) fun f c' pm' ctv H1 s' I1 eN T1 hf hfn hfr hco => ?_)
  refine Calls.spliced_nil ⟨I1.kIn, ?_⟩
  have rp1 := rp.extN eN T1
  obtain ⟨oc, od, kV, doc, pm, an, cdv, ct, osl, rfl, lk, hcd⟩ := FT.ex
  have rc : codeAny (model X.prog X.w) X.A (.call (.ref g) ⟨[.ref f], []⟩) (CR (L2N.CX X.prog X.w) X.stack X.prog X.w H1 s' Q EF) s' := by
    refine LamX.run_ofS (k := k + 2) (N := ["deed", "e"]) (ps := ["deed"]) (us := [.ref f]) (vs := [.ref f]) lk hcd TF.st hr I1.env0 (bT s' [.ref f] I1.kIn rfl) (.cons rfl .nil) rfl fun hr' => ?_
    rw [hbd]
    refine ⟨_, pss_one (L2N.ps_try_as (X := cxOf (L2N.CX X.prog X.w) X.prog X.w X.K X.mg X.base ["deed", "e"] "_law_told" (defScope sT) g cdv X.A X.stack s' H1 EF) (i := 1) (c := .ref M)
      (tb := fun W D σZ HZ => σZ[0]? = some (some (.ref f)) ∧ HZ c' = some (LamX.CodeO c' (X.env.qual ++ "<lambda>")) ∧ lE G (WE W σZ) fb σ HZ D.rt)
      (ts := fun a cls d D σZ HZ => ∃ c ∈ cs, cls = .ref (G.cl c) ∧ d = none ∧ σZ[1]? = some (some (.ref a)) ∧ ∀ p H', (∀ b o, HZ b = some o → H' b = some o) → HZ p = none → H' p = some (.tup [.str "refused", .str (kindN c)]) → D.rt (.ref p) H')
      (Wout := fun _ _ _ _ => False) rfl rfl TF.st.nd rfl TF.le ⟨TF.gm, by decide, .inl gM⟩ takesN (fun W pn xe tk _ => ?_) (fun a oe cls d pn hz hf => ?_)), ?_⟩
    · exact pss_one (ps_ret (pe_deed (i := 0) (k := k) (t := fun E => lE G E fb) I1 L hf hfn hfr (hbind _ _ _ _ _) tk (hr'.mono (by omega)) (fun A outer s H E hr2 => hbody A outer s H E f c' hr2) rfl TF.ld (by decide) (by decide)))
    · refine ⟨fun pinsZ sZ σZ HZ DZ IZ hZ => ?_⟩
      obtain ⟨c, hc, rfl, rfl, h1, hq⟩ := hZ
      have hot : L2H.Hot1 ((cxOf (L2N.CX X.prog X.w) X.prog X.w X.K X.mg X.base ["deed", "e"] "_law_told" (defScope sT) g cdv X.A X.stack s' H1 EF).suite a ((a, oe) :: pn)).A (a, oe) := by
        obtain ⟨vs, hv⟩ := hf
        exact ⟨rfl, vs, hv, hz.2.2 vs hv⟩
      have pt := pss_one (ps_ret (pos := p8) (pe_hot (X := (cxOf (L2N.CX X.prog X.w) X.prog X.w X.K X.mg X.base ["deed", "e"] "_law_told" (defScope sT) g cdv X.A X.stack s' H1 EF).suite a ((a, oe) :: pn)) (CX := L2N.CX X.prog X.w) (k := 0) (t := tTerm a c) (i := 1) (q := p5) (q2 := p6) (pos := p7) FM TF.sm rfl ⟨(hr'.mono (show 1 ≤ k + 2 by omega)).dp, (hr'.mono (show 1 ≤ k + 2 by omega)).un⟩ hot List.mem_cons_self TF.gt mM bM
        (fun cdv outer s H E => TF.bm X.prog X.w X.base f2 cdv _ outer s H E a oe c hc hot ⟨hz.1, hz.2.1⟩ hf) pasF rfl (.inl TF.le) (by decide) (by decide) (by decide)))
      exact pt.run pinsZ sZ σZ HZ DZ IZ ⟨.ref a, h1, rfl, hq⟩
    · refine ⟨rfl, hco, S, F, ρ, loc, st, rp1, l, ?_⟩
      unfold eTold at o
      cases e : fb loc st with
      | ok v st' => rw [e] at o; exact o
      | bad => rw [e] at o; exact o
      | ex c st' =>
        rw [e] at o
        dsimp only at o
        split at o
        · rename_i hc
          intro F' ρ' H' gr rr
          refine ⟨true, exM c hc, fun _ a na => ⟨c, hc, rfl, rfl, rfl, fun p H'' ext hn hp => ?_⟩, fun z => nomatch z⟩
          obtain ⟨F'', g'', r'', v''⟩ := rr.term ext hn hp
          exact o F'' ρ' H'' (.ref p) (gr.trans g'') r'' v''
        · exact o.elim
  refine wpAny_call (codeAny_mono rc fun r s2 hq => ?_)
  cases r with
  | error e => exact (pasF (X := X) σ pins H1 s' e s2 I1 hq)
  | ok fl =>
    cases fl with
    | ret u => exact I1.after hq
    | next => exact False.elim hq
    | brk => exact False.elim hq
    | cont => exact False.elim hq
end
theorem spL_trueT {K : PySem.W.Frag} {sem : List Val → M Val} {H : Hp} {a P : Addr} {q : Str} {ns : List Int} (hT : H P = some (.tbl #[])) (hS : SqL K H a (ns.map V.int)) (ht : ∃ st, sem [.s ns] [] = .ok (.d (.bool true)) st) : spL K [(P, q)] sem [.ref a] H (fun v _ => v = .bl true) fun _ _ _ => False := by
  intro cl ic
  obtain ⟨st, e⟩ := ht
  let F : Hp := fun b => match H b with
    | some (.tbl _) => none
    | o => o
  have fH : ∀ b o, F b = some o → H b = some o := fun b o h => by
    have h : (match H b with | some (.tbl _) => none | o => o) = some o := h
    split at h
    · cases h
    · exact h
  have nF : ∀ b ps, F b ≠ some (.tbl ps) := fun b ps h => by
    have h : (match H b with | some (.tbl _) => none | o => o) = some (.tbl ps) := h
    split at h
    · cases h
    · rename_i hn; exact hn ps h
  have gF : ∀ b o, H b = some o → (∀ ps, o ≠ .tbl ps) → F b = some o := fun b o h hn => by
    show (match H b with | some (.tbl _) => none | o => o) = some o
    rw [h]
    split
    · rename_i ps hz; cases hz; exact absurd rfl (hn ps)
    · rfl
  have hS' : SqL K F a (ns.map V.int) := by
    rcases hS with (h | ⟨o, h⟩) | h
    · exact .inl (.inl (gF _ _ h fun ps z => by cases z))
    · exact .inl (.inr ⟨o, gF _ _ h fun ps z => by cases z⟩)
    · exact .inr h
  refine ⟨fun _ => none, F, [], [], [.s ns], ⟨(fun a o h => by cases h), fH, nF, rfl, List.nodup_nil, (fun k ob h => by simp at h), fun p hp => ?_⟩, .cons ⟨a, rfl, hS'⟩ .nil, rfl, ?_⟩
  · have hp : p = (P, q) := by simpa using hp
    rw [hp]
    exact LamX.TabS.nil hT
  · rw [e]
    intro F1 ρ1 u H1 g r v
    cases v
    rfl
end Y
end
section
set_option Elab.async false
set_option linter.all false
/-! Sx: more words of the plain reading. -/
namespace Y
open PySem (PyData Str)
/-- x is True, x is False -/
def bIsB (b : Bool) : Val → M Val
  | .d (.bool c) => ret (vB (c == b))
  | _ => die
def bNotB (b : Bool) : Val → M Val
  | .d (.bool c) => ret (vB (!(c == b)))
  | _ => die
def bInt1 : List Val → M Val
  | [.d (.bool b)] => ret (vI (if b then 1 else 0))
  | [.d (.int i)] => ret (vI i)
  | _ => die
/-- a list or a tuple of whole numbers -/
def seqI : Val → M (List Int)
  | .d (.list ds) => oget (toIs ds)
  | .d (.tuple ds) => oget (toIs ds)
  | _ => die
def bSumS : List Val → M Val
  | [v] => bd (seqI v) fun ns => ret (vI ns.sum)
  | _ => die
def minI : List Int → Option Int
  | [] => none
  | x :: r => some (r.foldl min x)
def bMinS : List Val → M Val
  | [v] => bd (seqI v) fun ns => bd (oget (minI ns)) fun m => ret (vI m)
  | _ => die
/-- an own list + a list -/
def bAddO : Val → Val → M Val
  | .o k, .d (.list ys) => fun st => match st[k]? with
    | some (.lst xs) => (match toDs xs with
      | some ds => if ds.length + ys.length ≤ lim then .ok (.d (.list (ds ++ ys))) st else .bad
      | none => .bad)
    | _ => .bad
  | a, b => bAdd a b
/-- enumerate of a list or a tuple -/
def kEnumS : List Val → M (List Val)
  | [.d (.list ds)] => ret (enumF 0 ds)
  | [.d (.tuple ds)] => ret (enumF 0 ds)
  | _ => die
/-- an own list becomes data: nobody changes it from now on -/
def bFrz : Val → M Val
  | .o k => fun st => match st[k]? with
    | some (.lst xs) => (match toDs xs with
      | some ds => if ds.length ≤ lim then .ok (.d (.list ds)) (st.set k .gone) else .bad
      | none => .bad)
    | _ => .bad
  | .d x => ret (.d x)
  | _ => die
theorem minI_spec : ∀ (r : List Int) (x : Int), r.foldl min x ∈ x :: r ∧ ∀ y ∈ x :: r, r.foldl min x ≤ y
  | [], x => by simp
  | y :: r, x => by
    obtain ⟨h1, h2⟩ := minI_spec r (min x y)
    refine ⟨?_, fun z hz => ?_⟩
    · show r.foldl min (min x y) ∈ _
      rcases List.mem_cons.mp h1 with e | e
      · rw [e]
        rcases Int.le_total x y with h | h
        · rw [Int.min_eq_left h]; simp
        · rw [Int.min_eq_right h]; simp
      · simp [e]
    · show r.foldl min (min x y) ≤ z
      have h0 := h2 (min x y) (by simp)
      rcases List.mem_cons.mp hz with e | hz
      · omega
      rcases List.mem_cons.mp hz with e | hz
      · omega
      · exact h2 z (by simp [hz])
end Y
end
section
set_option Elab.async false
set_option Elab.async false
set_option linter.all false
set_option maxRecDepth 100000
set_option maxHeartbeats 2000000
/-! Opx: rules for these words. -/
namespace Y
open PySem PySem.Spec PyProof.Rows L2
section
set_option Elab.async false
variable {X : Cx} {G : Glo}
theorem dt_bool {F : Hp} {u : V} {i : Bool} (h : Dt F u (.bool i)) : u = .bl i := by
  cases h with
  | bl _ => rfl
def rIsBl (k : Bool) : R2 := fun x y H Q => ∃ a b, x = .bl a ∧ y = .bl b ∧ Q (.bl (if k = true then !decide (a = b) else decide (a = b))) H
theorem qe_isB {E : XK} {a : Expr} {f : Y.E} {b : Bool} {j : Nat} {pos pos' : Pos} (h : PE X a (lE G E f)) (hm : behindInMarks .Is (.Constant (.bool b) j pos') = false := by rfl) : PE X (.Compare a [.Is] [.Constant (.bool b) j pos'] pos) (lE G E (eU (bIsB b) f)) := by
  refine PE.imp (pe_cmpR op_is_bl h pe_bl hm) fun σ H Q ⟨S, F, ρ, loc, st, rp, l, o⟩ => ⟨S, F, ρ, loc, st, rp, l, out.imp (fun x H1 h1 => ?_) (out.bd (Rl := VR G) o)⟩
  obtain ⟨F1, ρ1, a, st1, g1, r1, v1, o1⟩ := h1
  unfold bIsB at o1
  split at o1
  · rename_i c
    refine ⟨c, b, dt_bool v1, rfl, ?_⟩
    have e : decide (c = b) = (c == b) := by cases c <;> cases b <;> rfl
    rw [e]
    exact out.at (v := vB (c == b)) o1 r1 (.bl _)
  · exact o1.elim
theorem qe_notB {E : XK} {a : Expr} {f : Y.E} {b : Bool} {j : Nat} {pos pos' : Pos} (h : PE X a (lE G E f)) (hm : behindInMarks .IsNot (.Constant (.bool b) j pos') = false := by rfl) : PE X (.Compare a [.IsNot] [.Constant (.bool b) j pos'] pos) (lE G E (eU (bNotB b) f)) := by
  refine PE.imp (pe_cmpR op_isnot_bl h pe_bl hm) fun σ H Q ⟨S, F, ρ, loc, st, rp, l, o⟩ => ⟨S, F, ρ, loc, st, rp, l, out.imp (fun x H1 h1 => ?_) (out.bd (Rl := VR G) o)⟩
  obtain ⟨F1, ρ1, a, st1, g1, r1, v1, o1⟩ := h1
  unfold bNotB at o1
  split at o1
  · rename_i c
    refine ⟨c, b, dt_bool v1, rfl, ?_⟩
    have e : decide (c = b) = (c == b) := by cases c <;> cases b <;> rfl
    rw [e]
    exact out.at (v := vB (!(c == b))) o1 r1 (.bl _)
  · exact o1.elim
theorem qt_isB {E : XK} {a : Expr} {f : Y.E} {b : Bool} {j : Nat} {pos pos' : Pos} (h : PE X a (lE G E f)) (hm : behindInMarks .Is (.Constant (.bool b) j pos') = false := by rfl) : PT X (.Compare a [.Is] [.Constant (.bool b) j pos'] pos) (lT G E (tV (eU (bIsB b) f))) := by
  refine PT.imp (pt_cmpR op_is_bl h pe_bl hm) fun σ H Q ⟨S, F, ρ, loc, st, rp, l, o⟩ => ⟨S, F, ρ, loc, st, rp, l, ?_⟩
  have e : tV (eU (bIsB b) f) loc st = bd (f loc) (fun a => bd (bIsB b a) asB) st := by
    unfold tV eU bd
    cases f loc st <;> rfl
  rw [e] at o
  refine out.imp (fun x H1 h1 => ?_) (out.bd (Rl := VR G) o)
  obtain ⟨F1, ρ1, a, st1, g1, r1, v1, o1⟩ := h1
  cases a with
  | o k => exact o1.elim
  | s ns => exact o1.elim
  | d y =>
    cases y with
    | bool c =>
      refine ⟨c, b, dt_bool v1, rfl, _, rfl, ?_⟩
      have e : decide (c = b) = (c == b) := by cases c <;> cases b <;> rfl
      rw [e]
      exact out.at (v := (c == b)) o1 r1 rfl
    | _ => exact o1.elim
theorem qt_notB {E : XK} {a : Expr} {f : Y.E} {b : Bool} {j : Nat} {pos pos' : Pos} (h : PE X a (lE G E f)) (hm : behindInMarks .IsNot (.Constant (.bool b) j pos') = false := by rfl) : PT X (.Compare a [.IsNot] [.Constant (.bool b) j pos'] pos) (lT G E (tV (eU (bNotB b) f))) := by
  refine PT.imp (pt_cmpR op_isnot_bl h pe_bl hm) fun σ H Q ⟨S, F, ρ, loc, st, rp, l, o⟩ => ⟨S, F, ρ, loc, st, rp, l, ?_⟩
  have e : tV (eU (bNotB b) f) loc st = bd (f loc) (fun a => bd (bNotB b a) asB) st := by
    unfold tV eU bd
    cases f loc st <;> rfl
  rw [e] at o
  refine out.imp (fun x H1 h1 => ?_) (out.bd (Rl := VR G) o)
  obtain ⟨F1, ρ1, a, st1, g1, r1, v1, o1⟩ := h1
  cases a with
  | o k => exact o1.elim
  | s ns => exact o1.elim
  | d y =>
    cases y with
    | bool c =>
      refine ⟨c, b, dt_bool v1, rfl, _, rfl, ?_⟩
      have e : decide (c = b) = (c == b) := by cases c <;> cases b <;> rfl
      rw [e]
      exact out.at (v := (!(c == b))) o1 r1 rfl
    | _ => exact o1.elim
theorem bInt1_snd : BSnd G (fun xs H Q => (∃ i, xs = [.int i] ∧ Q (.int i) H) ∨ ∃ k, xs = [.bl k] ∧ Q (.int (if k then 1 else 0)) H) bInt1 := by
  intro S F ρ H st xs as Q E rp hx o
  unfold bInt1 at o
  split at o
  · rename_i b
    cases hx with
    | cons h hr =>
      cases hr
      rw [dt_bool h]
      exact .inr ⟨b, rfl, out.at (v := vI (if b then 1 else 0)) o rp (.int _)⟩
  · rename_i i
    cases hx with
    | cons h hr =>
      cases hr
      rw [dt_int h]
      exact .inl ⟨i, rfl, out.at (v := vI i) o rp (.int _)⟩
  · exact o.elim
theorem isTup_of {h : Heap} {a : Addr} {its : Array Value} (x : IsTup h a its) : h.IsTuple a its := by
  obtain ⟨o, h1, h2, n, h3⟩ := x
  exact ⟨o, h1, h2, n, h3⟩
/-! ### sums, least ones, of lists and tuples -/
def rSumS (K : PySem.W.Frag) : List V → Hp → VK → Prop := fun vs H Q => ∃ (a : Addr) (ns : List Int), vs = [V.ref a] ∧ (SqL K H a (ns.map V.int) ∨ SqT K H a (ns.map V.int)) ∧ Q (.int ns.sum) H
theorem cr_sumS (hc : X.calm = true) : CallR X (.builtin "sum") (rSumS X.K) := by
  intro pins s σ H vs us Q I r h
  obtain ⟨a, ns, rfl, hs | hs, q⟩ := h
  · exact cr_sum hc pins s σ H _ us Q I r ⟨a, ns, rfl, hs, q⟩
  · obtain ⟨its, rv, hl, _⟩ := I.tuple hs
    rw [Vals.ref1 r]
    obtain ⟨xs, e⟩ := rv.ints.allInts.items
    have hn : numsOf (intItems xs).toList = ns := e ▸ rv.ints.numsOf
    rw [nums_intItems] at hn
    rw [e] at hl
    refine PySem.W.ktm_sumG (I.ok.hd hc) (isTup_of hl) fun h' tk t' hk => ⟨.int ns.sum, H, I.kept hk, ⟨t', ?_⟩, q⟩
    rw [preSum_eq, List.take_of_length_le (by simp), hn]
def rMinS (K : PySem.W.Frag) : List V → Hp → VK → Prop := fun vs H Q => ∃ (a : Addr) (ns : List Int), vs = [V.ref a] ∧ (SqL K H a (ns.map V.int) ∨ SqT K H a (ns.map V.int)) ∧ 0 < ns.length ∧ ∀ m, m ∈ ns → (∀ y, y ∈ ns → m ≤ y) → Q (.int m) H
theorem min_tup {prog : Program} {w : World} {A : Around} {E : Value → Shared → Prop} {s : Shared} {t : Addr} {xs : Array (Int × Tok)} {Q : Value → Shared → Prop} (hh : A.handled = none) (ht : s.heap.IsTuple t (intItems xs)) (hne : 0 < xs.size)
    (h : ∀ v h' tk, (intItems xs)[argBest (fun i j => decide (numAt xs i < numAt xs j)) (xs.size - 1)]? = some v → (∀ b o, s.heap.get? b = some o → h'.get? b = some o) → Q v { s with heap := h', toks := tk }) :
    wpAny (model prog w) A (call (.builtin "min") [.ref t]) Q E s := by
  obtain ⟨o, ho, hc, n, hd⟩ := id ht
  have hnt : t ≠ s.heap.objs.size := Nat.ne_of_lt (Heap.lt_size ho)
  refine call_min_walk (wpAny_pyIter_tuple ht ?_)
  refine ⟨s.heap.objs.size, _, _, _, _, _, _, rfl, Walks.tuple (A := A.in1) hh _ t hnt (intItems xs), ⟨⟨_, Heap.get?_push_size _ rfl, rfl, rfl⟩, ht.at fun o e => Heap.get?_push_of_some _ e⟩, fun b hb => ?_, by simpa [intItems] using hne, CmpOf.ints_lt (numAt xs) (fun _ _ => intItems_at), fun v h' tk hP hk => ?_⟩
  · rcases List.mem_cons.mp hb with z | hb
    · rw [z]; exact Heap.lt_size (Heap.get?_push_size _ rfl)
    · have z : b = t := by simpa using hb
      rw [z]; exact Heap.lt_size (Heap.get?_push_of_some _ ho)
  · refine h v h' tk (by simpa [intItems] using hP) fun b o e => hk b o (fun hm => ?_) (Heap.get?_push_of_some _ e)
    have z : b = s.heap.objs.size := by simpa using hm
    exact absurd (z ▸ Heap.lt_size e) (Nat.lt_irrefl _)
theorem cr_minS (hc : X.calm = true) : CallR X (.builtin "min") (rMinS X.K) := by
  intro pins s σ H vs us Q I r h
  obtain ⟨a, ns, rfl, hs | hs, hne, q⟩ := h
  · exact cr_min hc pins s σ H _ us Q I r ⟨a, ns, rfl, hs, hne, q⟩
  · obtain ⟨its, rv, hl, _⟩ := I.tuple hs
    rw [Vals.ref1 r]
    obtain ⟨xs, e⟩ := rv.ints.allInts.items
    have hn : numsOf (intItems xs).toList = ns := e ▸ rv.ints.numsOf
    rw [nums_intItems] at hn
    rw [e] at hl
    subst hn
    have hsz : 0 < xs.size := by simpa using hne
    refine min_tup (I.ok.hd hc) (isTup_of hl) hsz fun v h' tk hv hk => ?_
    obtain ⟨t, rfl⟩ := intItems_at hv
    obtain ⟨h1, h2⟩ := argBest_lt (numAt xs) (xs.size - 1)
    refine ⟨V.int _, H, I.kept hk, ⟨t, rfl⟩, q _ ?_ fun y hy => ?_⟩
    · rw [numAt_eq]; exact PySem.getD_mem (by rw [List.length_map, Array.length_toList]; omega)
    · obtain ⟨j, hj, rfl⟩ := mem_getD hy
      rw [List.length_map, Array.length_toList] at hj
      rw [← numAt_eq]; exact h2 j (by omega)
theorem seqI_rel {S F : Hp} {ρ : List Addr} {H : Hp} {st s' : Store} {x : V} {a : Val} {ns : List Int} (rp : Rep G S F ρ H st) (h : VR G F ρ x a) (e : seqI a st = .ok ns s') : s' = st ∧ ∃ p, x = .ref p ∧ (SqL G.K H p (ns.map V.int) ∨ SqT G.K H p (ns.map V.int)) := by
  unfold seqI at e
  split at e
  · rename_i ds
    obtain ⟨p, us, rfl, ha, hu⟩ := dt_list h
    cases q : toIs ds with
    | none => rw [q] at e; cases e
    | some bs =>
      rw [q] at e
      have e' : R.ok bs st = R.ok ns s' := e
      cases e'
      have z := toIs_rel hu q
      subst z
      exact ⟨rfl, p, rfl, .inl (SqL.of (rp.ex _ _ ha))⟩
  · rename_i ds
    obtain ⟨p, us, rfl, ha, hu⟩ := dt_tup h
    cases q : toIs ds with
    | none => rw [q] at e; cases e
    | some bs =>
      rw [q] at e
      have e' : R.ok bs st = R.ok ns s' := e
      cases e'
      have z := toIs_rel hu q
      subst z
      exact ⟨rfl, p, rfl, .inr (SqT.of (rp.ex _ _ ha))⟩
  · cases e
theorem bSumS_snd : BSnd G (rSumS G.K) bSumS := by
  intro S F ρ H st xs as Q E rp hx o
  unfold bSumS at o
  split at o
  · rename_i v
    cases hx with
    | cons h hr =>
      cases hr
      cases e : seqI v st with
      | bad => unfold bd at o; rw [e] at o; exact o.elim
      | ex c s => exact absurd e (by unfold seqI; intro z; split at z <;> first | (cases q : toIs _ <;> (rw [q] at z; cases z)) | cases z)
      | ok ns s' =>
        unfold bd at o
        rw [e] at o
        obtain ⟨rfl, p, rfl, hs⟩ := seqI_rel rp h e
        exact ⟨p, ns, rfl, hs, out.at (v := vI ns.sum) o rp (.int _)⟩
  · exact o.elim
theorem bMinS_snd : BSnd G (rMinS G.K) bMinS := by
  intro S F ρ H st xs as Q E rp hx o
  unfold bMinS at o
  split at o
  · rename_i v
    cases hx with
    | cons h hr =>
      cases hr
      cases e : seqI v st with
      | bad => unfold bd at o; rw [e] at o; exact o.elim
      | ex c s => exact absurd e (by unfold seqI; intro z; split at z <;> first | (cases q : toIs _ <;> (rw [q] at z; cases z)) | cases z)
      | ok ns s' =>
        unfold bd at o
        rw [e] at o
        obtain ⟨rfl, p, rfl, hs⟩ := seqI_rel rp h e
        cases ns with
        | nil => exact o.elim
        | cons y r =>
          obtain ⟨m1, m2⟩ := minI_spec r y
          refine ⟨p, y :: r, rfl, hs, by simp, fun m hm hl => ?_⟩
          have em : m = r.foldl min y := Int.le_antisymm (hl _ m1) (m2 m hm)
          rw [em]
          exact out.at (v := vI (r.foldl min y)) o rp (.int _)
  · exact o.elim
/-! ### an own list + a list -/
theorem bAddO_snd : OSnd G (rAddA G.K) bAddO := by
  intro S F ρ H st x y a b Q E rp hx hy o
  unfold bAddO at o
  split at o
  · rename_i k ys
    obtain ⟨p, hp, rfl⟩ := hx
    obtain ⟨b, ws, rfl, hb, hw⟩ := dt_list hy
    cases q : st[k]? with
    | none => rw [q] at o; exact o.elim
    | some ob =>
      rw [q] at o
      cases ob with
      | ins _ _ => exact o.elim
      | gone => exact o.elim
      | tup _ => exact o.elim
      | dct _ => exact o.elim
      | lst xs =>
        dsimp only at o
        cases q2 : toDs xs with
        | none => rw [q2] at o; exact o.elim
        | some ds =>
          rw [q2] at o
          dsimp only at o
          obtain ⟨p', h', e1, e2, e3, us, e4, hu⟩ := rp.own k _ q
          rw [hp] at e1
          cases e1
          subst e4
          have hu' := toDs_rel hu q2
          by_cases hl : ds.length + ys.length ≤ lim
          · rw [if_pos hl] at o
            exact .inr (.inl ⟨p, b, us, ws, rfl, rfl, e3, rp.ex _ _ hb, sz (by rw [hu'.length, hw.length]; exact hl), fun r hr => out_lst rp (hu'.append hw) o r hr⟩)
          · rw [if_neg hl] at o
            exact o.elim
  · exact bAdd_snd S F ρ H st x y _ _ Q E rp hx hy o
end
end Y
end
section
set_option Elab.async false
set_option Elab.async false
set_option linter.all false
set_option maxRecDepth 100000
set_option maxHeartbeats 2000000
/-! Enu: enumerate of a list or a tuple. -/
namespace Y
open PySem PySem.Spec PyProof.Rows L2
theorem meets_enum1 {v : Value} {o : Obj} {H : Heap → Prop} (B : Begins v o H) :
    Meets (Builtin.«enumerate.__new__» ⟨[.type "enumerate", v], []⟩) (fun _ R s => H s.heap ∧ R (.ok (.ret (.ref (s.heap.push o).objs.size))) { s with heap := (s.heap.push o).push { cls := .type "enumerate", data := .fields #[.none, .bool false, .ref s.heap.objs.size, rawInt 0, .none, .none] } }) :=
  .of_wp fun prog w A R s hh => by
    obtain ⟨hp, g, d, tk, os⟩ := s
    obtain ⟨h1, h⟩ := hh
    have hsub := sub_enumerate
    have q1 : ∀ {A' : Around} {E : Value → Shared → Prop} {Q : Value → Shared → Prop}, Q (.ref hp.objs.size) ⟨hp.push o, g, d, tk, os⟩ → wpAny (model prog w) A' (pyIter v) Q E ⟨hp, g, d, tk, os⟩ := fun q => B.iter prog w _ _ ⟨hp, g, d, tk, os⟩ _ h1 q
    wp_walk using q1
    refine wpAny_stack_any fun st => wpAny_pure ?_
    split
    · rename_i c _ _ _ _ _
      cases (c == Value.type "enumerate") <;> (wp_walk using q1; exact ⟨_, rfl, h⟩)
    · wp_walk using q1
      exact ⟨_, rfl, h⟩
section
set_option Elab.async false
variable {prog : Program} {w : World} {A : Around} {E : Value → Shared → Prop} {s : Shared}
theorem call_enumT {t : Addr} {items : Array Value} {Q : Value → Shared → Prop} (ht : s.heap.IsTuple t items)
    (k : ∀ h', IsEnum h' (s.heap.objs.size + 1) s.heap.objs.size 0 .none → h'.IsTupleIter s.heap.objs.size t 0 → (∀ b o, s.heap.get? b = some o → h'.get? b = some o) → Q (.ref (s.heap.objs.size + 1)) { s with heap := h' }) :
    wpAny (model prog w) A (call (.type "enumerate") [.ref t]) Q E s := by
  refine callType_new F.called_enumerate (by decide) (F.typeCall_enumerate_1 _) (F.newCall_enumerate_1 _) (fun obj => F.args_object_init_2 obj _) F.entry_enumerate_new (meets_enum1 (begins_tuple t items)) ⟨ht, ?_⟩
  have hz : ∀ o : Obj, (s.heap.push o).objs.size = s.heap.objs.size + 1 := fun o => Heap.size_push ..
  show _ ∧ _
  rw [hz]
  have he : ∀ o : Obj, IsEnum ((s.heap.push o).push { cls := .type "enumerate", data := .fields #[.none, .bool false, .ref s.heap.objs.size, rawInt 0, .none, .none] }) (s.heap.objs.size + 1) s.heap.objs.size 0 .none := fun o => by
    have := Heap.get?_push_size (s.heap.push o) (o := { cls := .type "enumerate", data := .fields #[.none, .bool false, .ref s.heap.objs.size, rawInt 0, .none, .none] }) rfl
    rw [hz] at this
    exact this
  exact ⟨⟨_, he _, rfl⟩, k _ (he _) ⟨_, Heap.get?_push_of_some _ (Heap.get?_push_size _ rfl), rfl, rfl⟩ fun b o x => Heap.get?_push_of_some _ (Heap.get?_push_of_some _ x)⟩
end
/-- the tuple at a, the items in new pairs -/
def IteT (K : PySem.W.Frag) (a : Addr) : It :=
  ⟨fun i H => ∃ (xs : List V) (x : V), SqT K H a xs ∧ xs[i]? = some x,
   fun i H v H' => ∃ T x, v = .ref T ∧ H T = none ∧ H' = upd H T (.tup [.int (i : Nat), x]) ∧ ∀ xs, SqT K H a xs → xs[i]? = some x,
   fun i H => ∃ xs : List V, SqT K H a xs ∧ xs.length ≤ i⟩
theorem turn_enumT {P : Program} {w : World} {K : PySem.W.Frag} {elts : List Expr} {kk : Nat} {tpos : Pos} (a e it : Addr) :
    Turn P w K (.Tuple elts kk tpos) (IteT K a) [e, it] e (fun i h => (∃ old, IsEnum h e it ((i : Nat) : Int) old) ∧ h.IsTupleIter it a i ∧ e ≠ it) where
  mem := by simp
  obj := fun i h st b hb => by
    obtain ⟨⟨old, he⟩, ⟨o, ho, hc, hd⟩, _⟩ := st
    rcases List.mem_cons.mp hb with rfl | hb
    · exact ⟨_, he, fun v q => nomatch q⟩
    · obtain rfl := List.mem_singleton.mp hb
      exact ⟨o, ho, fun v q => by rw [hd] at q; cases q⟩
  keep := fun i h h' st k => by
    obtain ⟨⟨old, he⟩, ⟨o, ho, hc, hd⟩, hne⟩ := st
    exact ⟨⟨old, k e (by simp) _ he⟩, ⟨o, k it (by simp) _ ho, hc, hd⟩, hne⟩
  item := by
    intro X hP hw hK hc i pins s σ H E I hf st hg
    subst hP hw hK
    obtain ⟨⟨old, he⟩, hit, hne⟩ := st
    obtain ⟨xs, x, hq, hx⟩ := hg
    obtain ⟨its, rv, p, hz⟩ := I.tuple hq
    obtain ⟨u, hu, ru⟩ := rv.get hx
    have hel : e < s.heap.objs.size := Heap.lt_size he
    have hil : it < s.heap.objs.size := by obtain ⟨_, q, _⟩ := hit; exact Heap.lt_size q
    have hat : a ≠ it := by
      intro z
      obtain ⟨o1, g1, c1, d1⟩ := hit
      obtain ⟨o2, g2, c2, _⟩ := isTup_of p
      rw [z, g1] at g2
      cases g2
      rw [c1] at c2
      injection c2 with c2
      exact absurd c2 (by decide)
    have hae : e ≠ a := by
      intro z
      obtain ⟨o2, g2, c2, _⟩ := isTup_of p
      rw [← z] at g2
      have he' : s.heap.get? e = _ := he
      rw [he'] at g2
      cases g2
      injection c2 with c2
      exact absurd c2 (by decide)
    have D := Draws.tuple (prog := X.prog) (w := X.w) (A := X.A.in1) (I.ok.hd hc) it a hat its.toArray
    have hlt : i < its.toArray.size := by
      have := (List.getElem?_eq_some_iff.mp hu).1
      simpa using this
    refine wpAny_pyNext_enum_itemD D he ⟨hit, isTup_of p⟩ hlt hne (by simp [hne, hae]) fun y h' tk hy ho st' hT hsz hk => ?_
    have ey : y = u := by
      have hy : its.toArray[i]? = some y := hy
      rw [List.getElem?_toArray, hu] at hy
      exact (Option.some.inj hy).symm
    subst ey
    refine ⟨_, rfl, wpAny_letOwnedTupleGo_enum (s := { s with heap := h', toks := tk + 1 }) ho fun h'' he' sb => ?_⟩
    have hT2 : h''.get? s.heap.objs.size = some { cls := .type "tuple", data := .seq #[.int i tk, y] } := (sb.2 _ (Nat.ne_of_gt hel)).trans hT
    have new : ObjOk X.prog X.w (upd H s.heap.objs.size (.tup [.int (i : Nat), x])) h'' s.heap.objs.size (.tup [.int (i : Nat), x]) := ⟨by show 2 ≤ sizeLine; decide, [.int i tk, y], .cons ⟨_, rfl⟩ (.cons ru .nil), ⟨_, hT2, rfl, _, rfl⟩⟩
    have I1 : Inv X pins σ (upd H s.heap.objs.size (.tup [.int (i : Nat), x])) { s with heap := h'', toks := tk + 1 } :=
      I.turnedNew (ch := [e, it]) (fun b ob hb q => (sb.2 b (fun z => hb (by simp [z]))).trans (hk b ob (fun z => hb (by simp [z])) (fun z => hb (by simp [z])) q)) hf (Nat.le_refl _) new
    refine ⟨.ref s.heap.objs.size, _, I1, rfl, ⟨_, x, rfl, I.hok.fresh (Nat.le_refl _), rfl, fun ys hy => by rw [I.tuple_inj hy hq]; exact hx⟩, ⟨⟨y, ?_⟩, ?_, hne⟩, fun b hb => ?_⟩
    · have e1 : ((i + 1 : Nat) : Int) = (i : Int) + 1 := by omega
      rw [e1]; exact he'
    · obtain ⟨o1, g1, c1, d1⟩ := st'.1
      exact ⟨o1, (sb.2 it (Ne.symm hne)).trans g1, c1, d1⟩
    · have hb' : b < s.heap.objs.size := by
        rcases List.mem_cons.mp hb with rfl | hb
        · exact hel
        · obtain rfl := List.mem_singleton.mp hb
          exact hil
      rw [upd_ne (Nat.ne_of_lt hb')]
      exact (hf b hb).1
  done := by
    intro X hP hw hK hc i pins s σ H E I hf st hg
    subst hP hw hK
    obtain ⟨⟨old, he⟩, hit, hne⟩ := st
    obtain ⟨xs, hq, hx⟩ := hg
    obtain ⟨its, rv, p, hz⟩ := I.tuple hq
    obtain ⟨f0, f1, f2, f3, f4, f5⟩ := hf it (by simp)
    have hl := rv.length
    have D : Draws X.prog X.w X.A.in1 it [it, a] i (fun _ _ => True) (fun j h => (h.IsTupleIter it a j ∧ h.IsTuple a its.toArray) ∧ i ≤ j) :=
      { live := fun _ _ st => let ⟨o, ho, _⟩ := st.1.1; ⟨o, ho⟩
        frame := fun _ _ _ st hk => by
          obtain ⟨⟨⟨o, ho, c1, d1⟩, ⟨o2, ho2, c2, d2⟩⟩, hj⟩ := st
          exact ⟨⟨⟨o, hk it (by simp) _ ho, c1, d1⟩, ⟨o2, hk a (by simp) _ ho2, c2, d2⟩⟩, hj⟩
        item := fun j s Q E hj st hQ => absurd hj (Nat.not_lt.mpr st.2)
        done := fun s Q E st hE => wpAny_nextOf_tuple_end (I.ok.hd hc) st.1.1 st.1.2 (by simp; omega) fun h' e' a b => hE h' e' a b }
    exact wpAny_pyNext_enum_endD D he ⟨⟨hit, isTup_of p⟩, Nat.le_refl _⟩ fun h' eb => ⟨rfl, I.turned (t' := s.toks) (fun b o hb q => eb b o hb q) f0 f1 f3 f4 f5⟩
  self := fun A i s Q E st h => let ⟨⟨_, he⟩, _⟩ := st; wpAny_pyIter_enum he h
def iEnumS (K : PySem.W.Frag) (ta : TA) : TI := fun σ H R => ta σ H fun vs H1 => ∃ a xs, vs = [.ref a] ∧ ((SqL K H1 a xs ∧ R (Ite K a) H1) ∨ (SqT K H1 a xs ∧ R (IteT K a) H1))
theorem pi_enumS {X : Cx} {e : Expr} {ta : TA} {p pos tpos : Pos} {elts : List Expr} {kk : Nat} (hg : Gl X "enumerate") (hm : X.mg "enumerate" = none) (ha : PA X [e] ta) (hs : starEach [e] X.env = [(false, eval e X.env)] := by rfl) :
    PI X (.Tuple elts kk tpos) (.Call (.Name "enumerate" p) [e] [] pos) (iEnumS X.K ta) := by
  refine ⟨fun pins s σ H R I h => ?_⟩
  refine Call_ (ld_blt I hg hm boot_enumerate (PyProof.Rows.callWith_type1 (thn (ha.run pos pins s σ H _ I h) fun us s1 ⟨vs, H1, I1, r1, q1⟩ => ?_) hs rfl))
  obtain ⟨a, xs, ex, q⟩ := q1
  subst ex
  rw [Vals.ref1 r1]
  have fr : ∀ b ∈ [s1.heap.objs.size + 1, s1.heap.objs.size], FpOk X pins H1 b := fun b hb => by
    have hle : s1.heap.objs.size ≤ b := by
      rcases List.mem_cons.mp hb with rfl | hb
      · exact Nat.le_add_right _ _
      · obtain rfl := List.mem_singleton.mp hb
        exact Nat.le_refl _
    exact I1.fpOk hle (I1.hok.fresh hle)
  rcases q with ⟨hq, q⟩ | ⟨hq, q⟩
  · obtain ⟨its, rv, p', hz⟩ := I1.list hq
    refine call_enumerate_list p'.isList fun h' he hit hsz hk => wpAny_pyIter_enum he ?_
    have I2 : Inv X pins σ H1 { s1 with heap := h' } := I1.kept (t' := s1.toks) hk
    exact ⟨s1.heap.objs.size + 1, [s1.heap.objs.size + 1, s1.heap.objs.size], _, _, H1, rfl, I2, turn_enum a (s1.heap.objs.size + 1) s1.heap.objs.size, ⟨⟨.none, he⟩, hit, Nat.succ_ne_self _⟩, fr, q⟩
  · obtain ⟨its, rv, p', hz⟩ := I1.tuple hq
    refine call_enumT (isTup_of p') fun h' he hit hk => wpAny_pyIter_enum he ?_
    have I2 : Inv X pins σ H1 { s1 with heap := h' } := I1.kept (t' := s1.toks) hk
    exact ⟨s1.heap.objs.size + 1, [s1.heap.objs.size + 1, s1.heap.objs.size], _, _, H1, rfl, I2, turn_enumT a (s1.heap.objs.size + 1) s1.heap.objs.size, ⟨⟨.none, he⟩, hit, Nat.succ_ne_self _⟩, fr, q⟩
section
set_option Elab.async false
variable {X : Cx} {G : Glo} {E : XK}
theorem jw_enumT {F : Hp} {ρ : List Addr} {a : Addr} {x1 : List V} {e1 : List D} (ha : F a = some (.tup x1)) (h1 : DtA F x1 e1) : JW G F ρ (IteT G.K a) (enumF 0 e1) := by
  have w1 := h1.length
  refine ⟨fun i H hi ex => ?_, fun H ex => ?_, fun i H x H' hi ex y => ?_⟩
  · rw [enum_len] at hi
    have a1 : i < x1.length := by omega
    exact ⟨x1, x1[i], SqT.of (ex _ _ ha), by simp [a1]⟩
  · exact ⟨x1, SqT.of (ex _ _ ha), by rw [enum_len]; omega⟩
  · obtain ⟨T, v1, rfl, hT, rfl, f1⟩ := y
    obtain ⟨y1, z1, t1⟩ := h1.get' (f1 x1 (SqT.of (ex _ _ ha)))
    refine .inr ⟨T, [.int (i : Nat), v1], [.int (i : Int), y1], hT, rfl, rfl, ?_, .cons (.int _) (.cons t1 .nil)⟩
    have := enum_get (n := 0) z1
    rw [Nat.zero_add] at this
    exact this
theorem qi_enumS {e1 : Expr} {f : Y.A} {p pos tpos : Pos} {elts : List Expr} {kk : Nat} (hg : Gl X "enumerate") (hm : X.mg "enumerate" = none) (ha : PA X [e1] (lA G E f)) (hs : starEach [e1] X.env = [(false, eval e1 X.env)] := by rfl) (hK : X.K = G.K := by rfl) :
    PI X (.Tuple elts kk tpos) (.Call (.Name "enumerate" p) [e1] [] pos) (lI G E (iCall kEnumS f)) := by
  refine PI.imp (pi_enumS hg hm ha hs) fun σ H Q ⟨S, F, ρ, loc, st, rp, l, o⟩ => ⟨S, F, ρ, loc, st, rp, l, out.imp (fun x H1 h1 => ?_) (out.bd (Rl := VRs G) o)⟩
  obtain ⟨F1, ρ1, as, st1, g1, r1, v1, o1⟩ := h1
  unfold kEnumS at o1
  split at o1
  · rename_i ds
    cases v1 with
    | cons h1 hr =>
      cases hr
      obtain ⟨a, xs, rfl, ha, hd⟩ := dt_list h1
      rw [hK]
      exact ⟨a, xs, rfl, .inl ⟨SqL.of (r1.ex _ _ ha), out.at (v := enumF 0 ds) o1 r1 (jw_enumL ha hd)⟩⟩
  · rename_i ds
    cases v1 with
    | cons h1 hr =>
      cases hr
      obtain ⟨a, xs, rfl, ha, hd⟩ := dt_tup h1
      rw [hK]
      exact ⟨a, xs, rfl, .inr ⟨SqT.of (r1.ex _ _ ha), out.at (v := enumF 0 ds) o1 r1 (jw_enumT ha hd)⟩⟩
  · exact o1.elim
end
end Y
end
section
set_option Elab.async false
set_option Elab.async false
set_option linter.all false
set_option maxRecDepth 100000
set_option maxHeartbeats 2000000
/-! Frz: an own list becomes data. -/
namespace Y
open PySem PySem.Spec PyProof.Rows L2
theorem Rep.freeze {G : Glo} {S F : Hp} {ρ : List Addr} {H : Hp} {st : Store} (r : Rep G S F ρ H st) {k : Nat} {a : Addr} {xs : List Val} {vs : List V} (hk : st[k]? = some (.lst xs)) (ha : ρ[k]? = some a) (hh : H a = some (.lst vs)) : Rep G S (upd F a (.lst vs)) ρ H (st.set k .gone) ∧ Gr F ρ (upd F a (.lst vs)) ρ := by
  obtain ⟨a', h', e1, e2, e3, e4⟩ := r.own k _ hk
  rw [ha] at e1
  cases e1
  have fa : F a = none := e2.resolve_left (by intro z; cases z)
  have g : Gr F ρ (upd F a (.lst vs)) ρ := ⟨fun b u h => by rw [upd_ne (ne_of_none h fa)]; exact h, [], by simp⟩
  have hlt : k < st.length := (List.getElem?_eq_some_iff.mp hk).1
  refine ⟨⟨fun b u h => ?_, fun b u h => ?_, fun b ps h => ?_, by rw [List.length_set]; exact r.len, r.nd, fun j ob e => ?_, r.tab⟩, g⟩
  · obtain ⟨h1, h2, h3, h4⟩ := r.sd b u h
    have hb : b ≠ a := fun z => h3 (by rw [z]; exact List.mem_of_getElem? ha)
    exact ⟨h1, by rw [upd_ne hb]; exact h2, h3, h4⟩
  · by_cases hb : b = a
    · subst hb
      rw [upd_same] at h
      rw [hh]
      exact h
    · rw [upd_ne hb] at h
      exact r.ex b u h
  · by_cases hb : b = a
    · subst hb
      rw [upd_same] at h
      cases h
    · rw [upd_ne hb] at h
      exact r.nt b ps h
  · by_cases hj : k = j
    · subst hj
      rw [List.getElem?_set_self hlt] at e
      cases e
      exact ⟨a, _, ha, .inl rfl, hh, vs, rfl⟩
    · rw [List.getElem?_set_ne hj] at e
      obtain ⟨c, h, q1, q2, q3, q4⟩ := r.own j ob e
      have hc : c ≠ a := fun z => by
        subst z
        obtain ⟨i1, z1⟩ := List.getElem?_eq_some_iff.mp ha
        obtain ⟨i2, z2⟩ := List.getElem?_eq_some_iff.mp q1
        exact hj ((List.getElem_inj r.nd).mp (z1.trans z2.symm))
      exact ⟨c, h, q1, q2.imp id (fun z => by rw [upd_ne hc]; exact z), q3, q4.mono g⟩
theorem qe_frz {X : Cx} {G : Glo} {E : XK} {e : Expr} {f : Y.E} (h : PE X e (lE G E f)) : PE X e (lE G E (eU bFrz f)) := by
  refine PE.imp h fun σ H Q ⟨S, F, ρ, loc, st, rp, l, o⟩ => ⟨S, F, ρ, loc, st, rp, l, out.imp (fun x H1 h1 => ?_) (out.bd (Rl := VR G) o)⟩
  obtain ⟨F1, ρ1, v, st1, g1, r1, v1, o1⟩ := h1
  cases v with
  | d x => exact out.at (v := Val.d x) o1 r1 v1
  | s ns => exact o1.elim
  | o k =>
    obtain ⟨a, ha, rfl⟩ := v1
    have o1 : out G S F1 ρ1 (VR G) Q E (match st1[k]? with | some (.lst xs) => (match toDs xs with | some ds => if ds.length ≤ lim then R.ok (Val.d (.list ds)) (st1.set k .gone) else .bad | none => .bad) | _ => .bad) := o1
    cases q : st1[k]? with
    | none => rw [q] at o1; exact o1.elim
    | some ob =>
      rw [q] at o1
      cases ob with
      | ins _ _ => exact o1.elim
      | gone => exact o1.elim
      | tup _ => exact o1.elim
      | dct _ => exact o1.elim
      | lst xs =>
        dsimp only at o1
        cases q2 : toDs xs with
        | none => rw [q2] at o1; exact o1.elim
        | some ds =>
          rw [q2] at o1
          dsimp only at o1
          obtain ⟨p', h', e1, e2, e3, us, e4, hu⟩ := r1.own k _ q
          rw [ha] at e1
          cases e1
          subst e4
          have hu' := toDs_rel hu q2
          by_cases hl : ds.length ≤ lim
          · rw [if_pos hl] at o1
            obtain ⟨r2, g2⟩ := r1.freeze q ha e3
            exact o1 _ ρ1 _ (.ref a) g2 r2 (Dt.lst upd_same (hu'.mono g2.f))
          · rw [if_neg hl] at o1
            exact o1.elim
end Y
end
section
set_option Elab.async false
set_option linter.all false
/-! Sy: still more words of the plain reading. -/
namespace Y
open PySem (PyData Str)
/-- list(x): a list that nobody changes -/
def bList : List Val → M Val
  | [.d (.list ds)] => ret (.d (.list ds))
  | [.d (.tuple ds)] => ret (.d (.list ds))
  | _ => die
/-- [x] * n: a new list that may change -/
def bMulN : Val → Val → M Val
  | .d (.list xs), .d (.int k) => fun st => if -1000 ≤ k ∧ k ≤ 1000 ∧ xs.length ≤ 1000 then .ok (.o st.length) (st ++ [.lst ((repD k xs).map .d)]) else .bad
  | _, _ => die
/-- l.count(n): whole numbers -/
def bCnt : Val → Val → M Val
  | .d (.list ds), .d (.int k) => bd (oget (toIs ds)) fun ns => ret (vI (ns.count k : Nat))
  | _, _ => die
def chkD : Val → M (List D)
  | .d (.list ds) => ret ds
  | _ => die
def eCnt (o e : E) : E := fun loc => bd (o loc) fun x => bd (chkD x) fun ds => bd (e loc) fun y => bCnt (.d (.list ds)) y
/-- a, b, c = e, f, g -/
def sPar3 (i j l : Nat) (a b c : E) : S := fun loc => bd (a loc) fun u => bd (b loc) fun v => bd (c loc) fun w => ret (.nx, ((loc.set i (some u)).set j (some v)).set l (some w))
/-- a rest of which nothing is said -/
def sDie : S := fun _ => die
end Y
end
section
set_option Elab.async false
set_option Elab.async false
set_option linter.all false
set_option maxRecDepth 100000
set_option maxHeartbeats 2000000
/-! Cnt: list(x), [x] * n that may change, l.count(n), a rest that is not read. -/
namespace Y
open PySem PySem.Spec PyProof.Rows L2
section
set_option Elab.async false
variable {X : Cx} {G : Glo}
theorem bList_snd : BSnd G (fun xs H Q => ∃ p ys, xs = [.ref p] ∧ (SqL G.K H p ys ∨ SqT G.K H p ys) ∧ ∀ l, H l = none → Q (.ref l) (upd H l (.lst ys))) bList := by
  intro S F ρ H st xs as Q E rp hx o
  unfold bList at o
  split at o
  · rename_i ds
    cases hx with
    | cons h hr =>
      cases hr
      obtain ⟨a, us, rfl, ha, hu⟩ := dt_list h
      exact ⟨a, us, rfl, .inl (SqL.of (rp.ex _ _ ha)), fun p hp => out_lst rp hu o p hp⟩
  · rename_i ds
    cases hx with
    | cons h hr =>
      cases hr
      obtain ⟨a, us, rfl, ha, hu⟩ := dt_tup h
      exact ⟨a, us, rfl, .inr (SqT.of (rp.ex _ _ ha)), fun p hp => out_lst rp hu o p hp⟩
  · exact o.elim
theorem vrs_of_dt {F : Hp} {ρ : List Addr} : ∀ {us : List V} {ds : List D}, DtA F us ds → VRs G F ρ us (ds.map .d)
  | _, _, .nil => .nil
  | _, _, .cons h hr => .cons h (vrs_of_dt hr)
theorem bMulN_snd : OSnd G (rMulA G.K) bMulN := by
  intro S F ρ H st x y a b Q E rp hx hy o
  unfold bMulN at o
  split at o
  · rename_i xs k
    obtain ⟨a, us, rfl, ha, hu⟩ := dt_list hx
    rw [dt_int hy]
    by_cases hl : -1000 ≤ k ∧ k ≤ 1000 ∧ xs.length ≤ 1000
    · rw [if_pos hl] at o
      refine .inr (.inl ⟨a, k, us, rfl, rfl, rp.ex _ _ ha, by omega, by omega, ?_, fun p hp => out_own rp (vrs_of_dt (hu.rep k.toNat)) o p hp⟩)
      rw [hu.length, sizeLine_eq]
      have : xs.length * k.toNat ≤ 1000 * 1000 := Nat.mul_le_mul (by omega) (by omega)
      omega
    · rw [if_neg hl] at o
      exact o.elim
  · exact o.elim
theorem vals_ints : ∀ {ns : List Int} {us : List Value}, Vals (ns.map V.int) us → IntsAre us ns
  | [], _, .nil => .nil
  | n :: ns, _, .cons r t => by
    obtain ⟨tk, rfl⟩ := r
    exact .cons n tk (vals_ints t)
def rCnt (K : PySem.W.Frag) : V → List V → Hp → VK → Prop := fun x xs H Q => ∃ (a : Addr) (ns : List Int) (k : Int), x = V.ref a ∧ xs = [V.int k] ∧ SqL K H a (ns.map V.int) ∧ Q (.int (ns.count k : Nat)) H
theorem mt_cnt : MtR X "list.count" (rCnt X.K) := by
  intro pins s σ H x xs v us Q I rx rxs h
  obtain ⟨a, ns, k, rfl, rfl, hs, q⟩ := h
  cases rx
  obtain ⟨u, rfl, t, rfl⟩ := rxs.one
  obtain ⟨its, rv, p, hlen⟩ := I.list hs
  exact count_list_ints p.isList (vals_ints rv) ⟨.int (ns.count k : Nat), H, I.tok _, ⟨_, rfl⟩, q⟩
theorem toIs_vi {F : Hp} : ∀ {us : List V} {ds : List D} {ns : List Int}, DtA F us ds → toIs ds = some ns → us = ns.map V.int
  | _, [], _, .nil, e => by
    cases e
    rfl
  | _, .int i :: r, ns, .cons h hr, e => by
    have e : (toIs r).map (i :: ·) = some ns := e
    cases q : toIs r with
    | none => rw [q] at e; cases e
    | some ms =>
      rw [q] at e
      cases e
      rw [toIs_vi hr q, dt_int h]
      rfl
  | _, .none :: r, ns, .cons h hr, e => by cases e
  | _, .bool _ :: r, ns, .cons h hr, e => by cases e
  | _, .str _ :: r, ns, .cons h hr, e => by cases e
  | _, .list _ :: r, ns, .cons h hr, e => by cases e
  | _, .tuple _ :: r, ns, .cons h hr, e => by cases e
  | _, .dict _ :: r, ns, .cons h hr, e => by cases e
/-- l.count(n) -/
theorem qe_cnt {E : XK} {o e : Expr} {fo fe : Y.E} {apos cpos : Pos} (ho : PE X o (lE G E fo)) (he : PE X e (lE G E fe)) (hs0 : starEach [e] X.env = (false, eval e X.env) :: starEach [] X.env := by rfl) (hbase : attributeBase o "count" X.env (eval o X.env) = eval o X.env := by rfl)
    (hfew : ((backTo cpos (starEach [e] X.env)).all (fun x => !x.1) && (backToKw cpos (keywordEach [] X.env)).all (fun x => x.1.isSome) && decide (([e] : List Expr).length + ([] : List Keyword).length + (if ([] : List Keyword).isEmpty then 0 else 1) < 30)) = true := by rfl)
    (hline : (apos.endLine == cpos.line) = true := by rfl) (hK : X.K = G.K := by rfl) : PE X (.Call (.Attribute o "count" apos) [e] [] cpos) (lE G E (eCnt fo fe)) := by
  refine PE.imp (pe_bm PySem.F.plainAttrs_list PySem.F.slot_list_count PySem.F.type_list_count mt_cnt ho (pa_cons he pa_nil hs0) hbase hfew hline hs0 rfl) fun σ H Q ⟨S, F, ρ, loc, st, rp, l, ou⟩ => ⟨S, F, ρ, loc, st, rp, l, out.imp (fun ov H1 h1 => ?_) (out.bd (Rl := VR G) ou)⟩
  obtain ⟨F1, ρ1, a, st1, g1, r1, v1, o1⟩ := h1
  cases a with
  | o _ => exact o1.elim
  | s _ => exact o1.elim
  | d x => ?_
  cases x with
  | list ds =>
    obtain ⟨p, us, rfl, ha, hu⟩ := dt_list v1
    have o1 : out G S F1 ρ1 (VR G) Q E (bd (fe loc) (fun y => bCnt (.d (.list ds)) y) st1) := o1
    refine ⟨.inl ⟨rfl, us, by rw [hK]; exact SqL.of (r1.ex _ _ ha)⟩, S, F1, ρ1, loc, st1, r1, l.mono g1, out.imp (fun w H2 h2 => ?_) (out.bd (Rl := VR G) o1)⟩
    obtain ⟨F2, ρ2, b, st2, g2, r2, v2, o2⟩ := h2
    cases b with
    | o _ => exact o2.elim
    | s _ => exact o2.elim
    | d y => ?_
    cases y with
    | int k =>
      have o2 : out G S F2 ρ2 (VR G) Q E (bd (oget (toIs ds)) (fun ns => ret (vI (ns.count k : Nat))) st2) := o2
      cases q : toIs ds with
      | none => rw [q] at o2; exact o2.elim
      | some ns =>
        rw [q] at o2
        rw [dt_int v2]
        refine ⟨p, ns, k, rfl, rfl, ?_, out.at (v := vI (ns.count k : Nat)) o2 r2 (.int _)⟩
        rw [hK, ← toIs_vi hu q]
        exact SqL.of (r2.ex _ _ (g2.f _ _ ha))
    | _ => exact o2.elim
  | _ => exact o1.elim
theorem qs_par3 (i j m : Nat) {E : XK} {x y z : Str} {a b c : Expr} {fa fb fc : Y.E} {px py pz pt pt2 pos : Pos} {kt k2 : Nat} (hc : X.calm = true) (hN : X.N.Nodup) (hi : X.N[i]? = some x) (hj : X.N[j]? = some y) (hm : X.N[m]? = some z) (hij : i ≠ j) (him : i ≠ m) (hjm : j ≠ m) (hx : X.env.scope.names.lookup x = some .local) (hy : X.env.scope.names.lookup y = some .local) (hz : X.env.scope.names.lookup z = some .local) (ha : PA X [a, b, c] (lA G E (aC fa (aC fb (aC fc aN)))))
    (hsw : swappedStores [.Tuple [.Name x px, .Name y py, .Name z pz] kt pt] (.Tuple [a, b, c] k2 pt2) X.env = pure (some [x, y, z])) (hso : swapsWithSole [.Tuple [.Name x px, .Name y py, .Name z pz] kt pt] (.Tuple [a, b, c] k2 pt2) pos.line X.env = pure false := by rfl) :
    PS X (.Assign [.Tuple [.Name x px, .Name y py, .Name z pz] kt pt] (.Tuple [a, b, c] k2 pt2) pos) (lS G E (sPar3 i j m fa fb fc)) := by
  refine PS.imp (ps_par3 hc hN hi hj hm hij him hjm hx hy hz ha hsw hso) fun D σ H ⟨S, F, ρ, loc, st, rp, l, o⟩ => ⟨S, F, ρ, loc, st, rp, l, ?_⟩
  have o' : out G S F ρ (FR G) (endQ D) E (bd (aC fa (aC fb (aC fc aN)) loc) (fun vs => match vs with | [u, v, w] => ret (Fl.nx, ((loc.set i (some u)).set j (some v)).set m (some w)) | _ => die) st) := by
    have e : bd (aC fa (aC fb (aC fc aN)) loc) (fun vs => match vs with | [u, v, w] => ret (Fl.nx, ((loc.set i (some u)).set j (some v)).set m (some w)) | _ => die) st = sPar3 i j m fa fb fc loc st := by
      unfold aC aN sPar3 bd ret
      cases fa loc st with
      | bad => rfl
      | ex _ _ => rfl
      | ok v s =>
        dsimp only
        cases fb loc s with
        | bad => rfl
        | ex _ _ => rfl
        | ok w s' =>
          dsimp only
          cases fc loc s' with
          | bad => rfl
          | ex _ _ => rfl
          | ok u s'' => rfl
    rw [e]
    exact o
  refine out.imp (fun us H1 h1 => ?_) (out.bd (Rl := VRs G) o')
  obtain ⟨F1, ρ1, vs, st1, g1, r1, vr, o1⟩ := h1
  cases vr with
  | nil => exact o1.elim
  | @cons v1 v1' _ _ h hr =>
    cases hr with
    | nil => exact o1.elim
    | @cons v2 v2' _ _ h' hr' =>
      cases hr' with
      | nil => exact o1.elim
      | @cons v3 v3' _ _ h'' hr'' =>
        cases hr'' with
        | cons _ _ => exact o1.elim
        | nil => exact ⟨v1, v2, v3, rfl, out.at (v := (Fl.nx, ((loc.set i (some v1')).set j (some v2')).set m (some v3'))) (u := FV.nx (((σ.set i (some v1)).set j (some v2)).set m (some v3))) o1 r1 ((((l.mono g1).set h i).set h' j).set h'' m)⟩
/-- nothing is said of the rest -/
theorem qss_die {E : XK} {sts : List Stmt} : PSs X sts (lS G E sDie) := ⟨fun _ _ _ _ _ _ ⟨_, _, _, _, _, _, _, o⟩ => o.elim⟩
end
section
set_option Elab.async false
variable {P : Program} {w : World} {mg : Str → Option Value} {base : Heap} {G : Glo}
/-- a def whose code's table is known -/
theorem def_okT {x : Str} {st : Stmt} {N ps : List Str} {k n : Nat} {b : Y.S} {f : Addr} {cdv oc kV doc pm ct : Value} {od an : Option Addr} {osl : Array (Option Value)} (lk : G.K.lookup f = some ⟨oc, od, .func (PySem.W.fnOf x x (defArgs st) (defBody st) (defScope st) .none kV doc pm an cdv ct), osl⟩) (hcd : PySem.W.codeIn G.K cdv x = true) (hm : mg x = some (.ref f)) (hk : PySem.W.keepIn G.K (.ref f) = true) (hbd : Binds G.K (PySem.W.fnOf x x (defArgs st) (defBody st) (defScope st) .none kV doc pm an cdv ct) ps []) (Sc : FnScope N ps (defScope st)) (hn : n = ps.length) (hN : n ≤ N.length)
    (hb : ∀ (A : Around) (outer : List Env) (s : Shared) (H : Hp) (E : XK), Room k (A.deeper (envOfC x (defScope st) s.heap.objs.size f cdv)) → PSs (cxOf (L2N.CX P w) P w G.K mg base N x (defScope st) f cdv A outer s H E) (defBody st) (lS G E b)) :
    DefOk P w mg base G (k + 1) x n (runF N.length b) := ⟨f, _, ps, law_okT lk hcd Sc hn hN hb, hm, hk, hbd⟩
end
theorem spL_trueTs {K : PySem.W.Frag} {sem : List Val → M Val} {H : Hp} {a : Addr} {T : List (Addr × Str)} {ns : List Int} (hT : ∀ p ∈ T, H p.1 = some (.tbl #[])) (hS : SqL K H a (ns.map V.int)) (ht : ∃ st, sem [.s ns] [] = .ok (.d (.bool true)) st) : spL K T sem [.ref a] H (fun v _ => v = .bl true) fun _ _ _ => False := by
  intro cl ic
  obtain ⟨st, e⟩ := ht
  let F : Hp := fun b => match H b with
    | some (.tbl _) => none
    | o => o
  have fH : ∀ b o, F b = some o → H b = some o := fun b o h => by
    have h : (match H b with | some (.tbl _) => none | o => o) = some o := h
    split at h
    · cases h
    · exact h
  have nF : ∀ b ps, F b ≠ some (.tbl ps) := fun b ps h => by
    have h : (match H b with | some (.tbl _) => none | o => o) = some (.tbl ps) := h
    split at h
    · cases h
    · rename_i hn; exact hn ps h
  have gF : ∀ b o, H b = some o → (∀ ps, o ≠ .tbl ps) → F b = some o := fun b o h hn => by
    show (match H b with | some (.tbl _) => none | o => o) = some o
    rw [h]
    split
    · rename_i ps hz; cases hz; exact absurd rfl (hn ps)
    · rfl
  have hS' : SqL K F a (ns.map V.int) := by
    rcases hS with (h | ⟨o, h⟩) | h
    · exact .inl (.inl (gF _ _ h fun ps z => by cases z))
    · exact .inl (.inr ⟨o, gF _ _ h fun ps z => by cases z⟩)
    · exact .inr h
  refine ⟨fun _ => none, F, [], [], [.s ns], ⟨(fun a o h => by cases h), fH, nF, rfl, List.nodup_nil, (fun k ob h => by simp at h), fun p hp => LamX.TabS.nil (hT p hp)⟩, .cons ⟨a, rfl, hS'⟩ .nil, rfl, ?_⟩
  rw [e]
  intro F1 ρ1 u H1 g r v
  cases v
  rfl
end Y
end
section
set_option Elab.async false
set_option linter.all false
/-! Sz: making an instance. -/
namespace Y
open PySem (PyData Str)
/-- C(..): a new instance, then its __init__, whose reading is f -/
def mkI (C : Nat) (f : List Val → M Val) : List Val → M Val := fun as st => match f (.o st.length :: as) (st ++ [.ins C []]) with
  | .ok (.d .none) st' => .ok (.o st.length) st'
  | .ok _ _ => .bad
  | .ex c st' => .ex c st'
  | .bad => .bad
end Y
end
section
set_option Elab.async false
set_option Elab.async false
set_option linter.all false
set_option maxRecDepth 100000
set_option maxHeartbeats 2000000
/-! Mak: an instance of an own class. -/
namespace Y
open PySem PySem.Spec PyProof.Rows L2
/-- one more entry that nobody speaks of -/
theorem Rep.extra {G : Glo} {S F : Hp} {ρ : List Addr} {H : Hp} {st : Store} (r : Rep G S F ρ H st) {p : Addr} {o : HO} (hp : H p = none) : Rep G S F ρ (upd H p o) st where
  sd := fun a u h => by
    obtain ⟨h1, h2, h3, h4⟩ := r.sd a u h
    exact ⟨by rw [upd_ne (ne_of_none h1 hp)]; exact h1, h2, h3, h4⟩
  ex := fun a u h => by
    have := r.ex a u h
    rw [upd_ne (ne_of_none this hp)]
    exact this
  nt := r.nt
  len := r.len
  nd := r.nd
  own := fun k ob e => by
    obtain ⟨a, h, q1, q2, q3, q4⟩ := r.own k ob e
    exact ⟨a, h, q1, q2, by rw [upd_ne (ne_of_none q3 hp)]; exact q3, q4⟩
  tab := r.tab.ext fun b u h => by rw [upd_ne (ne_of_none h hp)]; exact h
/-- a class of the program whose __init__ keeps its plain reading -/
structure ClsOk (P : Program) (w : World) (mg : Str → Option Value) (base : Heap) (G : Glo) (k : Nat) (x : Str) (c n : Nat) (sem : List Val → M Val) : Prop where
  ex : ∃ (f : Addr) (fd : FuncData) (ps : List Str), FnOk P w G.K mg base (L2N.CX P w) k f fd ps (spF G (n + 1) sem) ∧ mg x = some (.ref (G.ic c)) ∧ Mk G.K (G.ic c) f ∧ Binds G.K fd ps []
section
set_option Elab.async false
variable {X : Cx} {G : Glo} {E : XK}
theorem lE_make {C n : Nat} {f : List Val → M Val} {fa : Y.A} : ∀ σ H Q, lE G E (eB (fixN n (mkI C f)) fa) σ H Q → tMake (G.ic C) (spF G (n + 1) f) [] E (lA G E fa) σ H Q := fun σ H Q ⟨S, F, ρ, loc, st, rp, l, o⟩ => by
  refine ⟨S, F, ρ, loc, st, rp, l, out.imp (fun vs H1 h1 => ?_) (out.bd (Rl := VRs G) o)⟩
  obtain ⟨F1, ρ1, as, st1, g1, r1, v1, o1⟩ := h1
  intro x dx hx hdx hne
  unfold fixN at o1
  by_cases hl : as.length = n
  · rw [if_pos hl] at o1
    have r2 := r1.extra (o := .own x) hdx
    have hx2 : upd H1 dx (.own x) x = none := by rw [upd_ne (Ne.symm hne)]; exact hx
    obtain ⟨r3, g3⟩ := r2.push (o := .ins (G.ic C) dx []) (ob := .ins C []) hx2 ⟨dx, [], rfl, .nil⟩
    have hk : (ρ1 ++ [x])[st1.length]? = some x := by
      rw [List.getElem?_append_right (by rw [r1.len]; exact Nat.le_refl _), r1.len]
      simp
    refine ⟨S, F1, ρ1 ++ [x], st1 ++ [.ins C []], .o st1.length :: as, r3, .cons ⟨x, hk, rfl⟩ (by rw [List.append_nil]; exact v1.mono g3), by simp [hl], ?_⟩
    have o2 : out G S F1 ρ1 (VR G) Q E (match f (.o st1.length :: as) (st1 ++ [.ins C []]) with | .ok (.d .none) st' => .ok (.o st1.length) st' | .ok _ _ => .bad | .ex c st' => .ex c st' | .bad => .bad) := o1
    cases e : f (.o st1.length :: as) (st1 ++ [.ins C []]) with
    | bad => rw [e] at o2; exact o2.elim
    | ex c st' =>
      rw [e] at o2
      exact fun F' ρ' H' g r => o2 F' ρ' H' (g3.trans g) r
    | ok v st' =>
      rw [e] at o2
      cases v with
      | o _ => exact o2.elim
      | s _ => exact o2.elim
      | d y =>
        cases y with
        | none =>
          intro F' ρ' H' u g r vr
          cases vr
          exact ⟨rfl, o2 F' ρ' H' (.ref x) (g3.trans g) r ⟨x, g.get hk, rfl⟩⟩
        | _ => exact o2.elim
  · rw [if_neg hl] at o1
    exact o1.elim
theorem qe_makeD {k j c n : Nat} {sem : List Val → M Val} {x : Str} {p pos : Pos} {e : Expr} {es : List Expr} {fa : Y.A} (D : ClsOk X.prog X.w X.mg X.base G k x c n sem) (hr : Room j X.A) (hj : k + 1 ≤ j) (hg : Gl X x) (hx : ∀ σ, PassesAt (L2N.CX X.prog X.w) X σ E) (ha : PA X (e :: es) (lA G E fa)) (hK : X.K = G.K := by rfl)
    (hdb : (x == ("__debug__" : Str)) = false := by decide) (he : starEach (e :: es) X.env = (false, eval e X.env) :: starEach es X.env := by rfl) (hpl : (backTo pos (starEach es X.env)).any (·.1) = false := by rfl) :
    PE X (.Call (.Name x p) (e :: es) [] pos) (lE G E (eB (fixN n (mkI c sem)) fa)) := by
  obtain ⟨f, fd, ps, Fo, hm, M, hb⟩ := D.ex
  rw [← hK] at Fo M hb
  exact PE.imp (pe_make (dvs := []) M Fo (hr.mono hj) hg hm hb .nil (fun pins σ H s e s' I q => hx σ pins H s e s' I q) ha hdb he hpl) lE_make
end
section
set_option Elab.async false
variable {P : Program} {w : World} {mg : Str → Option Value} {base : Heap} {G : Glo}
theorem cls_ok {x qual : Str} {st : Stmt} {N ps : List Str} {k n c : Nat} {b : Y.S} {f : Addr} {fd : FuncData} (Fn : Fun G.K "__init__" qual st f fd) (hm : mg x = some (.ref (G.ic c))) (M : Mk G.K (G.ic c) f) (hbd : Binds G.K fd ps []) (Sc : FnScope N ps (defScope st)) (hn : n + 1 = ps.length) (hN : n + 1 ≤ N.length)
    (hb : ∀ (f : Addr) (cdv : Value) (A : Around) (outer : List Env) (s : Shared) (H : Hp) (E : XK), Room k (A.deeper (envOfC qual (defScope st) s.heap.objs.size f cdv)) → PSs (cxOf (L2N.CX P w) P w G.K mg base N qual (defScope st) f cdv A outer s H E) (defBody st) (lS G E b)) :
    ClsOk P w mg base G (k + 1) x c n (runF N.length b) := ⟨f, fd, ps, fn_ok Fn Sc hn hN fun cdv A outer s H E hr => hb f cdv A outer s H E hr, hm, M, hbd⟩
end
end Y
end
section
set_option Elab.async false
set_option linter.all false
/-! Sw: attributes and methods of instances. -/
namespace Y
open PySem (PyData Str)
def putA (f : Str) (v : Val) : List (Str × Val) → List (Str × Val)
  | [] => [(f, v)]
  | (g, x) :: r => if g = f then (g, v) :: r else (g, x) :: putA f v r
def insOf (c : Nat) : Val → M (Nat × List (Str × Val))
  | .o k => fun st => match st[k]? with
    | some (.ins d fs) => if d = c then .ok (k, fs) st else .bad
    | _ => .bad
  | _ => die
/-- o.f, o of the class c -/
def eAtt (c : Nat) (f : Str) (o : E) : E := fun loc => bd (o loc) fun x => bd (insOf c x) fun p => oget (p.2.lookup f)
/-- o.f = v -/
def gAtt (c : Nat) (f : Str) (o : E) : G := fun v loc => bd (o loc) fun x => bd (insOf c x) fun p st => if p.2.length < 900 then .ok loc (st.set p.1 (.ins c (putA f v p.2))) else .bad
/-- o.f, a list that nobody changes from now on -/
def eAtF (c : Nat) (f : Str) (o : E) : E := fun loc => bd (o loc) fun x => bd (insOf c x) fun p => bd (oget (p.2.lookup f)) fun v => match v with
  | .o j => fun st => match st[j]? with
    | some (.lst xs) => (match toDs xs with
      | some ds => if ds.length ≤ lim ∧ j ≠ p.1 then .ok (.d (.list ds)) ((st.set j .gone).set p.1 (.ins c (putA f (.d (.list ds)) p.2))) else .bad
      | none => .bad)
    | _ => .bad
  | v => ret v
/-- o.m(..) -/
def eMet (c : Nat) (m : Str) (f : List Val → M Val) (o : E) (as : A) : E := fun loc => bd (o loc) fun x => bd (insOf c x) fun p => if (p.2.lookup m).isNone = true then bd (as loc) fun vs => f (x :: vs) else die
def bAbs : List Val → M Val
  | [.d (.int i)] => ret (vI (if i < 0 then -i else i))
  | _ => die
end Y
end
section
set_option Elab.async false
set_option Elab.async false
set_option linter.all false
set_option maxRecDepth 100000
set_option maxHeartbeats 2000000
/-! Att: attributes and methods of instances. -/
namespace Y
open PySem PySem.Spec PyProof.Rows L2
/-- what of a class is needed -/
structure ClsA (K : PySem.W.Frag) (C : Addr) (fs : List Str) : Prop where
  c : Cls K C
  n : ∀ f ∈ fs, NoAttr K C f
abbrev FR2 (G : Glo) (F : Hp) (ρ : List Addr) : List (Str × V) → List (Str × Val) → Prop := Paired (fun (p : Str × V) (q : Str × Val) => p.1 = q.1 ∧ VR G F ρ p.2 q.2)
theorem fr_look {G : Glo} {F : Hp} {ρ : List Addr} {f : Str} : ∀ {fv : List (Str × V)} {fs : List (Str × Val)} {x : Val}, FR2 G F ρ fv fs → fs.lookup f = some x → ∃ v, fv.lookup f = some v ∧ VR G F ρ v x
  | [], [], x, .nil, e => by cases e
  | (a, v) :: fv, (b, y) :: fs, x, .cons h t, e => by
    obtain ⟨h1, h2⟩ := h
    have h1 : a = b := h1
    subst h1
    by_cases z : f == a
    · rw [List.lookup_cons, z] at e ⊢
      cases e
      exact ⟨v, rfl, h2⟩
    · have z : (f == a) = false := by simpa using z
      rw [List.lookup_cons, z] at e ⊢
      exact fr_look t e
theorem fr_none {G : Glo} {F : Hp} {ρ : List Addr} {f : Str} : ∀ {fv : List (Str × V)} {fs : List (Str × Val)}, FR2 G F ρ fv fs → fs.lookup f = none → fv.lookup f = none
  | [], [], .nil, _ => rfl
  | (a, v) :: fv, (b, y) :: fs, .cons h t, e => by
    obtain ⟨h1, h2⟩ := h
    have h1 : a = b := h1
    subst h1
    by_cases z : f == a
    · rw [List.lookup_cons, z] at e
      cases e
    · have z : (f == a) = false := by simpa using z
      rw [List.lookup_cons, z] at e ⊢
      exact fr_none t e
theorem fr_put {G : Glo} {F : Hp} {ρ : List Addr} {f : Str} {v : V} {x : Val} (r : VR G F ρ v x) : ∀ {fv : List (Str × V)} {fs : List (Str × Val)}, FR2 G F ρ fv fs → FR2 G F ρ (putF f v fv) (putA f x fs)
  | [], [], .nil => .cons ⟨rfl, r⟩ .nil
  | (a, u) :: fv, (b, y) :: fs, .cons h t => by
    obtain ⟨h1, h2⟩ := h
    have h1 : a = b := h1
    subst h1
    unfold putF putA
    by_cases z : a = f
    · rw [if_pos z, if_pos z]
      exact .cons ⟨rfl, r⟩ t
    · rw [if_neg z, if_neg z]
      exact .cons ⟨rfl, h2⟩ (fr_put r t)
section
set_option Elab.async false
variable {X : Cx} {G : Glo} {E : XK}
theorem own_ins {S F : Hp} {ρ : List Addr} {H : Hp} {st : Store} {x : V} {k c : Nat} {fs : List (Str × Val)} (rp : Rep G S F ρ H st) (h : VR G F ρ x (.o k)) (q : st[k]? = some (.ins c fs)) : ∃ a dx fv, x = .ref a ∧ ρ[k]? = some a ∧ H a = some (.ins (G.ic c) dx fv) ∧ FR2 G F ρ fv fs := by
  obtain ⟨a, ha, rfl⟩ := h
  obtain ⟨a', h', q1, q3, q4, dx, fv, q5, q6⟩ := rp.own k _ q
  rw [ha] at q1
  cases q1
  subst q5
  exact ⟨a, dx, fv, rfl, ha, q4, q6⟩
/-- the object behind a value -/
theorem ins_out {α β : Type} {Rl : Hp → List Addr → β → α → Prop} {Q : β → Hp → Prop} {S F : Hp} {ρ : List Addr} {st : Store} {c : Nat} {x : Val} {f : Nat × List (Str × Val) → M α} (o : out G S F ρ Rl Q E (bd (insOf c x) f st)) : ∃ k fs, x = .o k ∧ st[k]? = some (.ins c fs) ∧ out G S F ρ Rl Q E (f (k, fs) st) := by
  cases x with
  | d _ => exact o.elim
  | s _ => exact o.elim
  | o k =>
    unfold bd insOf at o
    cases q : st[k]? with
    | none => simp only [q] at o; exact o.elim
    | some ob =>
      simp only [q] at o
      cases ob with
      | lst _ => exact o.elim
      | gone => exact o.elim
      | tup _ => exact o.elim
      | dct _ => exact o.elim
      | ins d fs =>
        dsimp only at o
        by_cases z : d = c
        · subst z
          rw [if_pos rfl] at o
          exact ⟨k, fs, rfl, q, o⟩
        · rw [if_neg z] at o
          exact o.elim
theorem oget_out {α β : Type} {Rl : Hp → List Addr → β → α → Prop} {Q : β → Hp → Prop} {S F : Hp} {ρ : List Addr} {st : Store} {γ : Type} {w : Option γ} {f : γ → M α} (o : out G S F ρ Rl Q E (bd (oget w) f st)) : ∃ y, w = some y ∧ out G S F ρ Rl Q E (f y st) := by
  cases w with
  | none => exact o.elim
  | some y => exact ⟨y, rfl, o⟩
theorem qe_att {c : Nat} {f : Str} {fl : List Str} {e : Expr} {fo : Y.E} {pos : Pos} (A : ClsA X.K (G.ic c) fl) (hf : f ∈ fl) (ho : PE X e (lE G E fo)) (hb : attributeBase e f X.env (eval e X.env) = eval e X.env := by rfl) : PE X (.Attribute e f pos) (lE G E (eAtt c f fo)) := by
  refine PE.imp (pe_fld ho hb) fun σ H Q ⟨S, F, ρ, loc, st, rp, l, ou⟩ => ⟨S, F, ρ, loc, st, rp, l, out.imp (fun ov H1 h1 => ?_) (out.bd (Rl := VR G) ou)⟩
  obtain ⟨F1, ρ1, a, st1, g1, r1, v1, o1⟩ := h1
  obtain ⟨k, fs, rfl, q, o2⟩ := ins_out o1
  obtain ⟨p, dx, fv, rfl, ha, hh, hv⟩ := own_ins r1 v1 q
  cases w : fs.lookup f with
  | none => dsimp only at o2; rw [w] at o2; exact o2.elim
  | some y =>
    dsimp only at o2
    rw [w] at o2
    obtain ⟨v, e1, e2⟩ := fr_look hv w
    exact ⟨p, G.ic c, dx, fv, v, rfl, hh, A.c, A.n f hf, e1, out.at (v := y) o2 r1 e2⟩
theorem Paired.len {α β : Type} {R : α → β → Prop} : ∀ {xs : List α} {ys : List β}, Paired R xs ys → xs.length = ys.length
  | _, _, .nil => rfl
  | _, _, .cons _ t => by simp [Paired.len t]
/-- o.f as a target -/
theorem pg_fld {X : Cx} {o : Expr} {ta : TE} {f : Str} {pos : Pos} (ho : PE X o ta) : PG X (.Attribute o f pos) (fun v σ H Q => ta σ H fun x H1 => ∃ a C dx fs, x = .ref a ∧ H1 a = some (.ins C dx fs) ∧ Cls X.K C ∧ NoAttr X.K C f ∧ fs.length < 1000 ∧ Q σ (upd H1 a (.ins C dx (putF f v fs)))) := by
  refine ⟨fun pins s σ H v u Q I r h => ?_⟩
  rw [PySem.assign_Attribute]
  refine wpAny_bind (wpAny_holding (thn (ho.run pins s σ H _ I h) fun ov s1 ⟨x, H1, I1, r1, a, C, dx, fs, ex, ea, c, n, l, q1⟩ => ?_))
  subst ex
  obtain rfl : ov = Value.ref a := r1
  refine wpAny_bind (wpAny_standAt (wpAny_bind (wpAny_holding (setattr_ok I1 ea c n l r fun s3 I3 => ?_))))
  exact wpAny_release ⟨σ, _, I3, q1⟩
theorem qg_att {c : Nat} {f : Str} {fl : List Str} {vs : List Nat} {o : Expr} {fo : Y.E} {pos : Pos} (A : ClsA X.K (G.ic c) fl) (hf : f ∈ fl) (ho : PE X o (lE G E fo)) : PG X (.Attribute o f pos) (lG G E vs (gAtt c f fo)) := by
  refine PG.imp (pg_fld ho) fun v σ H Q ⟨S, F, ρ, loc, st, x, rp, l, r, ou⟩ => ⟨S, F, ρ, loc, st, rp, l, out.imp (fun ov H1 h1 => ?_) (out.bd (Rl := VR G) ou)⟩
  obtain ⟨F1, ρ1, a, st1, g1, r1, v1, o1⟩ := h1
  obtain ⟨k, fs, rfl, q, o2⟩ := ins_out o1
  obtain ⟨p, dx, fv, rfl, ha, hh, hv⟩ := own_ins r1 v1 q
  dsimp only at o2
  by_cases hl : fs.length < 900
  · rw [if_pos hl] at o2
    refine ⟨p, G.ic c, dx, fv, rfl, hh, A.c, A.n f hf, by rw [Paired.len hv]; omega, ?_⟩
    have r2 : Rep G S F1 ρ1 (upd H1 p (.ins (G.ic c) dx (putF f v fv))) (st1.set k (.ins c (putA f x fs))) := r1.put' q ha hh trivial ⟨dx, _, rfl, fr_put (r.mono g1) hv⟩
    exact o2 F1 ρ1 _ _ Gr.refl r2 ⟨l.mono g1, rfl⟩
  · rw [if_neg hl] at o2
    exact o2.elim
theorem qe_met {c k j n : Nat} {m : Str} {sem : List Val → M Val} {fl : List Str} {fd : FuncData} {ps : List Str} {ff : Addr} {o e : Expr} {es : List Expr} {fo : Y.E} {fa : Y.A} {apos pos : Pos} {pl : Sem Bool} (A : ClsA X.K (G.ic c) fl) (hm : Meth X.K (G.ic c) m ff) (F : FnOk X.prog X.w X.K X.mg X.base (L2N.CX X.prog X.w) k ff fd ps (spF G (n + 1) sem)) (hr : Room j X.A) (hj : k ≤ j) (hb : Binds X.K fd ps []) (hx : ∀ σ, PassesAt (L2N.CX X.prog X.w) X σ E) (ho : PE X o (lE G E fo)) (ha : PA X (e :: es) (lA G E fa))
    (hst : starEach (e :: es) X.env = (false, eval e X.env) :: starEach es X.env := by rfl) (hpl : (backTo pos (starEach es X.env)).any (·.1) = false := by rfl)
    (ht : eval (.Call (.Attribute o m apos) (e :: es) [] pos) X.env = (do
      let ov ← eval o X.env
      standAt apos.atName
      let (f, first) ← holding [ov] (getMethod ov m pl)
      callWith pos f first (backTo pos (starEach (e :: es) X.env)) (backToKw pos (keywordEach [] X.env))) := by rfl) :
    PE X (.Call (.Attribute o m apos) (e :: es) [] pos) (lE G E (eMet c m (fixN (n + 1) sem) fo fa)) := by
  refine PE.imp (pe_meth (dvs := []) ho A.c hm F (hr.mono hj) hb .nil (fun pins σ H s e s' I q => hx σ pins H s e s' I q) ha hst hpl ht) fun σ H Q ⟨S, F', ρ, loc, st, rp, l, ou⟩ => ⟨S, F', ρ, loc, st, rp, l, out.imp (fun ov H1 h1 => ?_) (out.bd (Rl := VR G) ou)⟩
  obtain ⟨F1, ρ1, a, st1, g1, r1, v1, o1⟩ := h1
  obtain ⟨k, fs, rfl, q, o2⟩ := ins_out o1
  obtain ⟨p, dx, fv, rfl, hp, hh, hv⟩ := own_ins r1 v1 q
  dsimp only at o2
  cases w : fs.lookup m with
  | some _ => rw [w] at o2; exact o2.elim
  | none =>
    rw [w] at o2
    refine ⟨p, dx, fv, rfl, hh, fr_none hv w, S, F1, ρ1, loc, st1, r1, l.mono g1, out.imp (fun us H2 h2 => ?_) (out.bd (Rl := VRs G) o2)⟩
    obtain ⟨F2, ρ2, as, st2, g2, r2, v2, o3⟩ := h2
    unfold fixN at o3
    dsimp only at o3
    by_cases hl : (Val.o k :: as).length = n + 1
    · rw [if_pos hl] at o3
      exact ⟨S, F2, ρ2, st2, .o k :: as, r2, .cons (v1.mono g2) (by rw [List.append_nil]; exact v2), hl, o3⟩
    · rw [if_neg hl] at o3
      exact o3.elim
theorem qe_met0 {c k j : Nat} {m : Str} {sem : List Val → M Val} {fl : List Str} {fd : FuncData} {ps : List Str} {ff : Addr} {o : Expr} {fo : Y.E} {apos pos : Pos} {pl : Sem Bool} (A : ClsA X.K (G.ic c) fl) (hm : Meth X.K (G.ic c) m ff) (F : FnOk X.prog X.w X.K X.mg X.base (L2N.CX X.prog X.w) k ff fd ps (spF G 1 sem)) (hr : Room j X.A) (hj : k ≤ j) (hb : Binds X.K fd ps []) (hx : ∀ σ, PassesAt (L2N.CX X.prog X.w) X σ E) (ho : PE X o (lE G E fo))
    (ht : eval (.Call (.Attribute o m apos) [] [] pos) X.env = (do
      let ov ← eval o X.env
      standAt apos.atName
      let (f, first) ← holding [ov] (getMethod ov m pl)
      callWith pos f first (backTo pos (starEach [] X.env)) (backToKw pos (keywordEach [] X.env))) := by rfl) :
    PE X (.Call (.Attribute o m apos) [] [] pos) (lE G E (eMet c m (fixN 1 sem) fo aN)) := by
  refine PE.imp (pe_meth0 (dvs := []) ho A.c hm F (hr.mono hj) hb .nil (fun pins σ H s e s' I q => hx σ pins H s e s' I q) ht) fun σ H Q ⟨S, F', ρ, loc, st, rp, l, ou⟩ => ⟨S, F', ρ, loc, st, rp, l, out.imp (fun ov H1 h1 => ?_) (out.bd (Rl := VR G) ou)⟩
  obtain ⟨F1, ρ1, a, st1, g1, r1, v1, o1⟩ := h1
  obtain ⟨k, fs, rfl, q, o2⟩ := ins_out o1
  obtain ⟨p, dx, fv, rfl, hp, hh, hv⟩ := own_ins r1 v1 q
  dsimp only at o2
  cases w : fs.lookup m with
  | some _ => rw [w] at o2; exact o2.elim
  | none =>
    rw [w] at o2
    exact ⟨p, dx, fv, rfl, hh, fr_none hv w, S, F1, ρ1, st1, [.o k], r1, .cons v1 .nil, rfl, o2⟩
theorem fr_same {G : Glo} {F : Hp} {ρ : List Addr} {f : Str} {v : V} {x : Val} (r : VR G F ρ v x) : ∀ {fv : List (Str × V)} {fs : List (Str × Val)}, FR2 G F ρ fv fs → fv.lookup f = some v → FR2 G F ρ fv (putA f x fs)
  | [], [], .nil, e => by cases e
  | (a, u) :: fv, (b, y) :: fs, .cons h t, e => by
    obtain ⟨h1, h2⟩ := h
    have h1 : a = b := h1
    subst h1
    unfold putA
    by_cases z : a = f
    · subst z
      rw [List.lookup_cons, beq_self_eq_true] at e
      cases e
      rw [if_pos rfl]
      exact .cons ⟨rfl, r⟩ t
    · have z' : (f == a) = false := by simpa using Ne.symm z
      rw [List.lookup_cons, z'] at e
      rw [if_neg z]
      exact .cons ⟨rfl, h2⟩ (fr_same r t e)
theorem qe_atf {c : Nat} {f : Str} {fl : List Str} {e : Expr} {fo : Y.E} {pos : Pos} (A : ClsA X.K (G.ic c) fl) (hf : f ∈ fl) (ho : PE X e (lE G E fo)) (hb : attributeBase e f X.env (eval e X.env) = eval e X.env := by rfl) : PE X (.Attribute e f pos) (lE G E (eAtF c f fo)) := by
  refine PE.imp (pe_fld ho hb) fun σ H Q ⟨S, F, ρ, loc, st, rp, l, ou⟩ => ⟨S, F, ρ, loc, st, rp, l, out.imp (fun ov H1 h1 => ?_) (out.bd (Rl := VR G) ou)⟩
  obtain ⟨F1, ρ1, a, st1, g1, r1, v1, o1⟩ := h1
  obtain ⟨k, fs, rfl, q, o2⟩ := ins_out o1
  obtain ⟨p, dx, fv, rfl, ha, hh, hv⟩ := own_ins r1 v1 q
  obtain ⟨y, w, o3⟩ := oget_out o2
  dsimp only at w o3
  obtain ⟨v, e1, e2⟩ := fr_look hv w
  refine ⟨p, G.ic c, dx, fv, v, rfl, hh, A.c, A.n f hf, e1, ?_⟩
  cases y with
  | d x => exact out.at (v := Val.d x) o3 r1 e2
  | s ns => exact out.at (v := Val.s ns) o3 r1 e2
  | o j =>
    dsimp only at o3
    cases q2 : st1[j]? with
    | none => simp only [q2] at o3; exact o3.elim
    | some ob =>
      simp only [q2] at o3
      cases ob with
      | ins _ _ => exact o3.elim
      | gone => exact o3.elim
      | tup _ => exact o3.elim
      | dct _ => exact o3.elim
      | lst xs =>
        dsimp only at o3
        cases q3 : toDs xs with
        | none => rw [q3] at o3; exact o3.elim
        | some ds =>
          rw [q3] at o3
          dsimp only at o3
          by_cases hl : ds.length ≤ lim ∧ j ≠ k
          · rw [if_pos hl] at o3
            obtain ⟨b, us, rfl, hb2, hh2, hu⟩ := own_lst r1 e2 q2
            obtain ⟨r2, g2⟩ := r1.freeze q2 hb2 hh2
            have hu' := toDs_rel hu q3
            have vr : VR G (upd F1 b (.lst us)) ρ1 (.ref b) (.d (.list ds)) := Dt.lst upd_same (hu'.mono g2.f)
            have hv2 : FR2 G (upd F1 b (.lst us)) ρ1 fv (putA f (.d (.list ds)) fs) := fr_same vr (Paired.mapP hv fun _ _ q => ⟨q.1, q.2.mono g2⟩) e1
            have q' : (st1.set j .gone)[k]? = some (.ins c fs) := by rw [List.getElem?_set_ne hl.2]; exact q
            have r3 := r2.put' q' ha hh trivial (ob' := .ins c (putA f (.d (.list ds)) fs)) ⟨dx, fv, rfl, hv2⟩
            have eH : upd H1 p (.ins (G.ic c) dx fv) = H1 := by
              funext z
              by_cases hz : z = p
              · subst hz; rw [upd_same, hh]
              · rw [upd_ne hz]
            rw [eH] at r3
            exact o3 _ ρ1 H1 (.ref b) g2 r3 vr
          · rw [if_neg hl] at o3
            exact o3.elim
theorem bAbs_snd : BSnd G (fun xs H Q => ∃ i, xs = [.int i] ∧ Q (.int (if i < 0 then -i else i)) H) bAbs := by
  intro S F ρ H st xs as Q E rp hx o
  unfold bAbs at o
  split at o
  · rename_i i
    cases hx with
    | cons h hr =>
      cases hr
      rw [dt_int h]
      exact ⟨i, rfl, out.at (v := vI (if i < 0 then -i else i)) o rp (.int _)⟩
  · exact o.elim
end
/-- a method that keeps its plain reading -/
structure MetOk (P : Program) (w : World) (mg : Str → Option Value) (base : Heap) (G : Glo) (k c : Nat) (m : Str) (n : Nat) (sem : List Val → M Val) : Prop where
  ex : ∃ (f : Addr) (fd : FuncData) (ps : List Str), FnOk P w G.K mg base (L2N.CX P w) k f fd ps (spF G (n + 1) sem) ∧ Meth G.K (G.ic c) m f ∧ Binds G.K fd ps []
section
set_option Elab.async false
variable {P : Program} {w : World} {mg : Str → Option Value} {base : Heap} {G : Glo}
theorem met_ok {m qual : Str} {st : Stmt} {N ps : List Str} {k n c : Nat} {b : Y.S} {f : Addr} {fd : FuncData} (Fn : Fun G.K m qual st f fd) (M : Meth G.K (G.ic c) m f) (hbd : Binds G.K fd ps []) (Sc : FnScope N ps (defScope st)) (hn : n + 1 = ps.length) (hN : n + 1 ≤ N.length)
    (hb : ∀ (f : Addr) (cdv : Value) (A : Around) (outer : List Env) (s : Shared) (H : Hp) (E : XK), Room k (A.deeper (envOfC qual (defScope st) s.heap.objs.size f cdv)) → PSs (cxOf (L2N.CX P w) P w G.K mg base N qual (defScope st) f cdv A outer s H E) (defBody st) (lS G E b)) :
    MetOk P w mg base G (k + 1) c m n (runF N.length b) := ⟨f, fd, ps, fn_ok Fn Sc hn hN fun cdv A outer s H E hr => hb f cdv A outer s H E hr, M, hbd⟩
end
section
set_option Elab.async false
variable {X : Cx} {G : Glo} {E : XK}
theorem qe_metD {c k j n : Nat} {m : Str} {sem : List Val → M Val} {fl : List Str} {o e : Expr} {es : List Expr} {fo : Y.E} {fa : Y.A} {apos pos : Pos} {pl : Sem Bool} (A : ClsA X.K (G.ic c) fl) (D : MetOk X.prog X.w X.mg X.base G k c m n sem) (hr : Room j X.A) (hj : k ≤ j) (hx : ∀ σ, PassesAt (L2N.CX X.prog X.w) X σ E) (ho : PE X o (lE G E fo)) (ha : PA X (e :: es) (lA G E fa)) (hK : X.K = G.K := by rfl)
    (hst : starEach (e :: es) X.env = (false, eval e X.env) :: starEach es X.env := by rfl) (hpl : (backTo pos (starEach es X.env)).any (·.1) = false := by rfl)
    (ht : eval (.Call (.Attribute o m apos) (e :: es) [] pos) X.env = (do
      let ov ← eval o X.env
      standAt apos.atName
      let (f, first) ← holding [ov] (getMethod ov m pl)
      callWith pos f first (backTo pos (starEach (e :: es) X.env)) (backToKw pos (keywordEach [] X.env))) := by rfl) :
    PE X (.Call (.Attribute o m apos) (e :: es) [] pos) (lE G E (eMet c m (fixN (n + 1) sem) fo fa)) := by
  obtain ⟨f, fd, ps, Fo, M, hb⟩ := D.ex
  rw [← hK] at Fo M hb
  exact qe_met A M Fo hr hj hb hx ho ha hst hpl ht
theorem qe_metD0 {c k j : Nat} {m : Str} {sem : List Val → M Val} {fl : List Str} {o : Expr} {fo : Y.E} {apos pos : Pos} {pl : Sem Bool} (A : ClsA X.K (G.ic c) fl) (D : MetOk X.prog X.w X.mg X.base G k c m 0 sem) (hr : Room j X.A) (hj : k ≤ j) (hx : ∀ σ, PassesAt (L2N.CX X.prog X.w) X σ E) (ho : PE X o (lE G E fo)) (hK : X.K = G.K := by rfl)
    (ht : eval (.Call (.Attribute o m apos) [] [] pos) X.env = (do
      let ov ← eval o X.env
      standAt apos.atName
      let (f, first) ← holding [ov] (getMethod ov m pl)
      callWith pos f first (backTo pos (starEach [] X.env)) (backToKw pos (keywordEach [] X.env))) := by rfl) :
    PE X (.Call (.Attribute o m apos) [] [] pos) (lE G E (eMet c m (fixN 1 sem) fo aN)) := by
  obtain ⟨f, fd, ps, Fo, M, hb⟩ := D.ex
  rw [← hK] at Fo M hb
  exact qe_met0 A M Fo hr hj hb hx ho ht
end
end Y
end
section
set_option Elab.async false
set_option linter.all false
/-! Su: copies of own lists; members of lists and tuples. -/
namespace Y
open PySem (PyData Str)
/-- list(x): a list that nobody changes; x may be an own list -/
def bListO : List Val → M Val
  | [.o k] => fun st => match st[k]? with
    | some (.lst xs) => (match toDs xs with
      | some ds => .ok (.d (.list ds)) st
      | none => .bad)
    | _ => .bad
  | vs => bList vs
/-- list(x): a new list that may change -/
def bListN : List Val → M Val
  | [.o k] => fun st => match st[k]? with
    | some (.lst xs) => .ok (.o st.length) (st ++ [.lst xs])
    | _ => .bad
  | _ => die
def flatD : D → Bool
  | .none => true
  | .bool _ => true
  | .int _ => true
  | .str _ => true
  | _ => false
def fEq : D → D → Bool
  | .none, .none => true
  | .bool a, .bool b => a == b
  | .bool a, .int b => (if a then 1 else 0) == b
  | .int a, .bool b => a == (if b then 1 else 0)
  | .int a, .int b => a == b
  | .str a, .str b => a == b
  | _, _ => false
def seqD : Val → Option (List D)
  | .d (.list ds) => some ds
  | .d (.tuple ds) => some ds
  | _ => none
def bInF (neg : Bool) (x y : Val) : M Val := match x, seqD y with
  | .d a, some ds => if flatD a = true ∧ ds.all flatD = true then ret (vB (if neg then !(ds.any fun b => fEq b a) else ds.any fun b => fEq b a)) else die
  | _, _ => die
def bIn : Val → Val → M Val := bInF false
def bNIn : Val → Val → M Val := bInF true
end Y
end
section
set_option Elab.async false
set_option Elab.async false
set_option linter.all false
set_option maxRecDepth 100000
set_option maxHeartbeats 2000000
/-! Hou: copies of own lists; members of lists and tuples. -/
namespace Y
open PySem PySem.Spec PyProof.Rows L2
section
set_option Elab.async false
variable {X : Cx} {G : Glo}
theorem bListO_snd : BSnd G (fun xs H Q => ∃ p ys, xs = [.ref p] ∧ (SqL G.K H p ys ∨ SqT G.K H p ys) ∧ ∀ l, H l = none → Q (.ref l) (upd H l (.lst ys))) bListO := by
  intro S F ρ H st xs as Q E rp hx o
  unfold bListO at o
  split at o
  · rename_i k
    cases hx with
    | cons h hr =>
      cases hr
      cases q : st[k]? with
      | none => simp only [q] at o; exact o.elim
      | some ob =>
        simp only [q] at o
        cases ob with
        | ins _ _ => exact o.elim
        | gone => exact o.elim
        | tup _ => exact o.elim
        | dct _ => exact o.elim
        | lst ys =>
          dsimp only at o
          obtain ⟨a, vs, rfl, ha, hh, hv⟩ := own_lst rp h q
          cases q2 : toDs ys with
          | none => rw [q2] at o; exact o.elim
          | some ds =>
            rw [q2] at o
            exact ⟨a, vs, rfl, .inl (SqL.of hh), fun p hp => out_lst rp (toDs_rel hv q2) o p hp⟩
  · exact bList_snd S F ρ H st xs _ Q E rp hx o
theorem bListN_snd : BSnd G (fun xs H Q => ∃ p ys, xs = [.ref p] ∧ (SqL G.K H p ys ∨ SqT G.K H p ys) ∧ ∀ l, H l = none → Q (.ref l) (upd H l (.lst ys))) bListN := by
  intro S F ρ H st xs as Q E rp hx o
  unfold bListN at o
  split at o
  · rename_i k
    cases hx with
    | cons h hr =>
      cases hr
      cases q : st[k]? with
      | none => simp only [q] at o; exact o.elim
      | some ob =>
        simp only [q] at o
        cases ob with
        | ins _ _ => exact o.elim
        | gone => exact o.elim
        | tup _ => exact o.elim
        | dct _ => exact o.elim
        | lst ys =>
          dsimp only at o
          obtain ⟨a, vs, rfl, ha, hh, hv⟩ := own_lst rp h q
          exact ⟨a, vs, rfl, .inl (SqL.of hh), fun p hp => out_own rp hv o p hp⟩
  · exact o.elim
theorem flat_rel {F : Hp} {v : V} {d : D} (h : Dt F v d) (hf : flatD d = true) : flatV v = true := by
  cases h with
  | non => rfl
  | bl _ => rfl
  | int _ => rfl
  | str _ => rfl
  | lst _ _ => cases hf
  | tup _ _ => cases hf
theorem flats_rel {F : Hp} : ∀ {vs : List V} {ds : List D}, DtA F vs ds → ds.all flatD = true → vs.all flatV = true
  | _, _, .nil, _ => rfl
  | _, _, .cons h k, hf => by
    rw [List.all_cons, Bool.and_eq_true] at hf ⊢
    exact ⟨flat_rel h hf.1, flats_rel k hf.2⟩
theorem eq_rel {F : Hp} {v u : V} {d e : D} (h : Dt F v d) (k : Dt F u e) (hf : flatD d = true) (hg : flatD e = true) : eqV v u = fEq d e := by
  cases h with
  | non => cases k <;> first | rfl | cases hg
  | bl a => cases k <;> first | rfl | cases hg
  | int a => cases k <;> first | rfl | cases hg
  | str a => cases k <;> first | rfl | cases hg
  | lst _ _ => cases hf
  | tup _ _ => cases hf
theorem any_rel {F : Hp} {x : V} {d : D} (hx : Dt F x d) (hd : flatD d = true) : ∀ {vs : List V} {ds : List D}, DtA F vs ds → ds.all flatD = true → inV x vs = ds.any fun b => fEq b d
  | _, _, .nil, _ => rfl
  | _, _, .cons h k, hf => by
    rw [List.all_cons, Bool.and_eq_true] at hf
    have := any_rel hx hd k hf.2
    unfold inV at this ⊢
    rw [List.any_cons, List.any_cons, eq_rel h hx hf.1 hd, this]
theorem bInF_snd (neg : Bool) : OSnd G (rIn G.K neg) (bInF neg) := by
  intro S F ρ H st x y a b Q E rp hx hy o
  cases a with
  | o _ => exact o.elim
  | s _ => exact o.elim
  | d d =>
    unfold bInF at o
    cases hs : seqD b with
    | none => rw [hs] at o; exact o.elim
    | some ds =>
      rw [hs] at o
      dsimp only at o
      by_cases hc : flatD d = true ∧ ds.all flatD = true
      · rw [if_pos hc] at o
        have key : ∀ p us, y = .ref p → (SqL G.K H p us ∨ SqT G.K H p us) → DtA F us ds → rIn G.K neg x y H Q := fun p us e hq hu => by
          refine ⟨p, us, e, hq, flat_rel hx hc.1, flats_rel hu hc.2, ?_⟩
          have e2 := any_rel hx hc.1 hu hc.2
          rw [e2]
          exact out.at (v := Val.d (.bool _)) (u := V.bl _) o rp (.bl _)
        cases b with
        | d z =>
          cases z with
          | list es =>
            have e : es = ds := Option.some.inj hs
            subst e
            obtain ⟨a, us, e, ha, hu⟩ := dt_list hy
            exact key a us e (.inl (SqL.of (rp.ex _ _ ha))) hu
          | tuple es =>
            have e : es = ds := Option.some.inj hs
            subst e
            obtain ⟨a, us, e, ha, hu⟩ := dt_tup hy
            exact key a us e (.inr (SqT.of (rp.ex _ _ ha))) hu
          | _ => cases hs
        | o _ => cases hs
        | s _ => cases hs
      · rw [if_neg hc] at o
        exact o.elim
theorem bIn_snd : OSnd G (rIn G.K false) bIn := bInF_snd false
theorem bNIn_snd : OSnd G (rIn G.K true) bNIn := bInF_snd true
end
end Y
end
section
set_option Elab.async false
set_option linter.all false
/-! St: tuples that hold things that may change; l.pop(). -/
namespace Y
open PySem (PyData Str)
/-- a tuple whose items may be objects of the store -/
def bTupN (vs : List Val) : M Val := fun st => if vs.length ≤ lim then .ok (.o st.length) (st ++ [.tup vs]) else .bad
/-- a, b, .. = such a tuple, or one of data -/
def gTO (n : Nat) (gs : Gs) : G := fun v loc => match v with
  | .o k => fun st => match st[k]? with
    | some (.tup xs) => if xs.length = n then gs xs loc st else .bad
    | _ => .bad
  | v => gT n gs v loc
/-- o.pop() -/
def popS (k : Nat) : M Val := fun st => match st[k]? with
  | some (.lst xs) => (match xs[xs.length - 1]? with
    | some v => .ok v (st.set k (.lst xs.dropLast))
    | none => .bad)
  | _ => .bad
def ePop (o : E) : E := fun loc => bd (o loc) fun x => bd (chkL x) popS
/-- an own list + a list: a new own list -/
def bAddN : Val → Val → M Val
  | .o k, .d (.list ys) => fun st => match st[k]? with
    | some (.lst xs) => if xs.length + ys.length ≤ lim then .ok (.o st.length) (st ++ [.lst (xs ++ ys.map .d)]) else .bad
    | _ => .bad
  | _, _ => die
end Y
namespace Y
open PySem (PyData Str)
/-- an own list == [] -/
def bEqE : Val → Val → M Val
  | .o k, .d (.list []) => fun st => match st[k]? with
    | some (.lst xs) => .ok (vB xs.isEmpty) st
    | _ => .bad
  | _, _ => die
end Y
end
section
set_option Elab.async false
set_option Elab.async false
set_option linter.all false
set_option maxRecDepth 100000
set_option maxHeartbeats 2000000
/-! Tpo: tuples that hold things that may change; l.pop(). -/
namespace Y
open PySem PySem.Spec PyProof.Rows L2
section
set_option Elab.async false
variable {X : Cx} {G : Glo} {E : XK} {vs : List Nat}
theorem qe_tupN {es : List Expr} {fa : Y.A} {x1 : Nat} {pos : Pos} (h : PA X es (lA G E fa)) : PE X (.Tuple es x1 pos) (lE G E (eB bTupN fa)) := by
  refine PE.imp (pe_tup h) fun σ H Q ⟨S, F, ρ, loc, st, rp, l, o⟩ => ⟨S, F, ρ, loc, st, rp, l, out.imp (fun x H1 h1 => ?_) (out.bd (Rl := VRs G) o)⟩
  obtain ⟨F1, ρ1, a, st1, g1, r1, v1, o1⟩ := h1
  unfold bTupN at o1
  split at o1
  · rename_i hl
    refine ⟨sz (by rw [v1.length]; exact hl), fun p hp => ?_⟩
    obtain ⟨r', g⟩ := r1.push (ob := .tup a) hp ⟨x, rfl, v1⟩
    refine o1 _ _ _ _ g r' ⟨p, ?_, rfl⟩
    rw [List.getElem?_append_right (by rw [r1.len]; exact Nat.le_refl _), r1.len]
    simp
  · exact o1.elim
theorem qg_tupO {es : List Expr} {k n : Nat} {gs : Y.Gs} {pos : Pos} (hc : X.calm = true) (h : PGs X es (lGs G E vs gs)) (hl : (assignEach es X.env).length = n := by rfl) (hf : List.findIdx? (fun x => x.fst) (assignEach es X.env) = none := by rfl) : PG X (.Tuple es k pos) (lG G E vs (gTO n gs)) := by
  have hd := qg_tup (k := k) (pos := pos) hc h hl hf
  refine PG.imp (pg_tup hc h hl hf) fun v σ H Q ⟨S, F, ρ, loc, st, y, rp, l, r, o⟩ => ?_
  cases y with
  | s _ => exact o.elim
  | o j =>
    have o : out G S F ρ (TR G vs σ) Q E ((match st[j]? with | some (.tup xs) => if xs.length = n then gs xs loc st else .bad | _ => .bad)) := o
    cases q : st[j]? with
    | none => rw [q] at o; exact o.elim
    | some ob =>
      rw [q] at o
      cases ob with
      | ins _ _ => exact o.elim
      | gone => exact o.elim
      | lst _ => exact o.elim
      | dct _ => exact o.elim
      | tup xs =>
        dsimp only at o
        by_cases e : xs.length = n
        · rw [if_pos e] at o
          obtain ⟨a, ha, rfl⟩ := r
          obtain ⟨a', h', e1, e2, e3, us, e4, hu⟩ := rp.own j _ q
          rw [ha] at e1
          cases e1
          subst e4
          exact ⟨a, us, rfl, SqT.of e3, by rw [hu.length]; exact e, S, F, ρ, loc, st, xs, rp, l, hu, o⟩
        · rw [if_neg e] at o
          exact o.elim
  | d x =>
    cases x with
    | tuple ds =>
      cases (show Dt F v (.tuple ds) from r) with
      | @tup a xs ds ha hd =>
        have o' : out G S F ρ (TR G vs σ) Q E ((if ds.length = n then gs (ds.map .d) loc else die) st) := o
        by_cases e : ds.length = n
        · rw [if_pos e] at o'
          exact ⟨a, xs, rfl, SqT.of (rp.ex _ _ ha), by rw [hd.length]; exact e, S, F, ρ, loc, st, ds.map .d, rp, l, dt_vrs hd, o'⟩
        · rw [if_neg e] at o'
          exact o'.elim
    | none => exact o.elim
    | bool _ => exact o.elim
    | int _ => exact o.elim
    | str _ => exact o.elim
    | list _ => exact o.elim
    | dict _ => exact o.elim
theorem dropLast_rel {F : Hp} {ρ : List Addr} : ∀ {us : List V} {xs : List Val}, VRs G F ρ us xs → VRs G F ρ us.dropLast xs.dropLast
  | _, _, .nil => .nil
  | _, _, .cons h .nil => .nil
  | _, _, .cons h (.cons h2 k) => .cons h (dropLast_rel (.cons h2 k))
theorem get_rel {F : Hp} {ρ : List Addr} : ∀ {us : List V} {xs : List Val} {i : Nat} {x : Val}, VRs G F ρ us xs → xs[i]? = some x → ∃ u, us[i]? = some u ∧ VR G F ρ u x
  | _, _, _, _, .nil, e => by simp at e
  | _, _, 0, _, .cons h _, e => by simp at e; subst e; exact ⟨_, rfl, h⟩
  | _, _, i + 1, x, .cons _ k, e => by
    obtain ⟨u, h1, h2⟩ := get_rel (i := i) (x := x) k (by simpa using e)
    exact ⟨u, by simpa using h1, h2⟩
theorem qe_pop {o : Expr} {fo : Y.E} {apos cpos : Pos} (ho : PE X o (lE G E fo)) (hbase : attributeBase o "pop" X.env (eval o X.env) = eval o X.env := by rfl) (hline : (apos.endLine == cpos.line) = true := by rfl) : PE X (.Call (.Attribute o "pop" apos) [] [] cpos) (lE G E (ePop fo)) := by
  refine PE.imp (pe_bm0 PySem.F.plainAttrs_list PySem.F.slot_list_pop PySem.F.type_list_pop mt_pop ho hbase hline) fun σ H Q ⟨S, F, ρ, loc, st, rp, l, ou⟩ => ⟨S, F, ρ, loc, st, rp, l, out.imp (fun ov H1 h1 => ?_) (out.bd (Rl := VR G) ou)⟩
  obtain ⟨F1, ρ1, a, st1, g1, r1, v1, o1⟩ := h1
  cases a with
  | d _ => exact o1.elim
  | s _ => exact o1.elim
  | o k =>
    have o1 : out G S F1 ρ1 (VR G) Q E (bd (chkL (.o k)) popS st1) := o1
    unfold chkL at o1
    unfold bd at o1
    cases q : st1[k]? with
    | none => simp only [q] at o1; exact o1.elim
    | some ob =>
      simp only [q] at o1
      cases ob with
      | ins _ _ => exact o1.elim
      | gone => exact o1.elim
      | tup _ => exact o1.elim
      | dct _ => exact o1.elim
      | lst ys =>
        dsimp only at o1
        obtain ⟨a, us, rfl, hk, hh, hv⟩ := own_lst r1 v1 q
        refine ⟨.inl ⟨rfl, us, SqL.of hh⟩, ?_⟩
        unfold popS at o1
        rw [q] at o1
        dsimp only at o1
        cases q2 : ys[ys.length - 1]? with
        | none => rw [q2] at o1; exact o1.elim
        | some y =>
          rw [q2] at o1
          dsimp only at o1
          obtain ⟨u, hu, ru⟩ := get_rel hv q2
          refine ⟨a, us, u, rfl, rfl, hh, by rw [hv.length]; exact hu, ?_⟩
          exact out.go (v := y) o1 Gr.refl (r1.put' q hk hh trivial ⟨us.dropLast, rfl, dropLast_rel hv⟩) ru
theorem vrs_app {F : Hp} {ρ : List Addr} : ∀ {us ws : List V} {xs ys : List Val}, VRs G F ρ us xs → VRs G F ρ ws ys → VRs G F ρ (us ++ ws) (xs ++ ys)
  | _, _, _, _, .nil, k => k
  | _, _, _, _, .cons h r, k => .cons h (vrs_app r k)
theorem bAddN_snd : OSnd G (rAddA G.K) bAddN := by
  intro S F ρ H st x y a b Q E rp hx hy o
  unfold bAddN at o
  split at o
  · rename_i k ys
    obtain ⟨p, hp, rfl⟩ := hx
    obtain ⟨b, ws, rfl, hb, hw⟩ := dt_list hy
    cases q : st[k]? with
    | none => rw [q] at o; exact o.elim
    | some ob =>
      rw [q] at o
      cases ob with
      | ins _ _ => exact o.elim
      | gone => exact o.elim
      | tup _ => exact o.elim
      | dct _ => exact o.elim
      | lst xs =>
        dsimp only at o
        obtain ⟨p', h', e1, e2, e3, us, e4, hu⟩ := rp.own k _ q
        rw [hp] at e1
        cases e1
        subst e4
        by_cases hl : xs.length + ys.length ≤ lim
        · rw [if_pos hl] at o
          exact .inr (.inl ⟨p, b, us, ws, rfl, rfl, e3, rp.ex _ _ hb, sz (by rw [hu.length, hw.length]; exact hl), fun r hr => out_own rp (vrs_app hu (vrs_of_dt hw)) o r hr⟩)
        · rw [if_neg hl] at o
          exact o.elim
  · exact o.elim
/-- x == [], x a list -/
def rEqE (K : PySem.W.Frag) : R2 := fun x y H Q => ∃ a b us, x = V.ref a ∧ y = V.ref b ∧ SqL K H a us ∧ SqL K H b [] ∧ Q (.bl us.isEmpty) H
theorem op_eqE (hu : X.A.units + 64 < cLine) : OpR X (compareOp .Eq) (rEqE X.K) := by
  intro pins s σ H x y v u Q I rx ry h
  obtain ⟨a, b, us, rfl, rfl, h1, h2, q⟩ := h
  cases rx
  cases ry
  obtain ⟨its, r, pl, hz⟩ := I.list h1
  obtain ⟨its2, r2, pl2, hz2⟩ := I.list h2
  have e2 : its2 = [] := by
    have := r2.length
    cases its2 with
    | nil => rfl
    | cons _ _ => simp at this
  subst e2
  cases us with
  | nil =>
    have e1 : its = [] := by
      have := r.length
      cases its with
      | nil => rfl
      | cons _ _ => simp at this
    subst e1
    exact SeqAt.eq_listAt (e := fun _ => true) pl.isList pl2.isList rfl (by omega) (fun j h1 _ => absurd h1 (by simp)) ⟨.bl true, H, I, rfl, q⟩
  | cons u0 us =>
    have hl := r.length
    exact SeqAt.eq_list_lengthsAt pl.isList pl2.isList (by simp [← hl]) (by omega) ⟨.bl false, H, I, rfl, q⟩
theorem bEqE_snd : OSnd G (rEqE G.K) bEqE := by
  intro S F ρ H st x y a b Q E rp hx hy o
  unfold bEqE at o
  split at o
  · rename_i k
    obtain ⟨b, ws, rfl, hb, hw⟩ := dt_list hy
    cases hw
    cases q : st[k]? with
    | none => rw [q] at o; exact o.elim
    | some ob =>
      rw [q] at o
      cases ob with
      | ins _ _ => exact o.elim
      | gone => exact o.elim
      | tup _ => exact o.elim
      | dct _ => exact o.elim
      | lst xs =>
        dsimp only at o
        obtain ⟨a, us, rfl, hk, hh, hv⟩ := own_lst rp hx q
        refine ⟨a, b, us, rfl, rfl, SqL.of hh, SqL.of (rp.ex _ _ hb), ?_⟩
        have e : us.isEmpty = xs.isEmpty := by
          cases hv <;> rfl
        rw [e]
        exact out.at (v := Val.d (.bool _)) (u := V.bl _) o rp (.bl _)
  · exact o.elim
end
end Y
end
section
set_option Elab.async false
set_option linter.all false
namespace Y
open PySem (PyData Str)
def maxI : List Int → Option Int
  | [] => none
  | x :: r => some (r.foldl max x)
def bMaxS : List Val → M Val
  | [v] => bd (seqI v) fun ns => bd (oget (maxI ns)) fun m => ret (vI m)
  | _ => die
theorem maxI_spec : ∀ (r : List Int) (x : Int), r.foldl max x ∈ x :: r ∧ ∀ y ∈ x :: r, y ≤ r.foldl max x
  | [], x => by simp
  | y :: r, x => by
    obtain ⟨h1, h2⟩ := maxI_spec r (max x y)
    refine ⟨?_, fun z hz => ?_⟩
    · show r.foldl max (max x y) ∈ _
      rcases List.mem_cons.mp h1 with e | e
      · rw [e]
        rcases Int.le_total x y with h | h
        · rw [Int.max_eq_right h]; simp
        · rw [Int.max_eq_left h]; simp
      · simp [e]
    · show z ≤ r.foldl max (max x y)
      have h0 := h2 (max x y) (by simp)
      rcases List.mem_cons.mp hz with rfl | hz
      · exact Int.le_trans (Int.le_max_left _ _) h0
      · rcases List.mem_cons.mp hz with rfl | hz
        · exact Int.le_trans (Int.le_max_right _ _) h0
        · exact h2 z (List.mem_cons_of_mem _ hz)
/-- l.count(x), by == of data -/
def bCntD (ds : List D) : Val → M Val
  | .d y => if PyData.plainAll ds = true ∧ y.plain = true ∧ PyData.depthAll ds ≤ 60 then ret (vI ((ds.countP fun z => PyData.eqv z y : Nat) : Int)) else die
  | _ => die
def eCntD (o e : E) : E := fun loc => bd (o loc) fun x => bd (chkD x) fun ds => bd (e loc) fun y => bCntD ds y
end Y
end
section
set_option Elab.async false
set_option Elab.async false
set_option linter.all false
set_option maxRecDepth 100000
set_option maxHeartbeats 2000000
/-! Tmx: the greatest of a list or a tuple of whole numbers. -/
namespace Y
open PySem PySem.Spec PyProof.Rows L2
section
set_option Elab.async false
variable {X : Cx} {G : Glo}
def rMaxS (K : PySem.W.Frag) : List V → Hp → VK → Prop := fun vs H Q => ∃ (a : Addr) (ns : List Int), vs = [V.ref a] ∧ (SqL K H a (ns.map V.int) ∨ SqT K H a (ns.map V.int)) ∧ 0 < ns.length ∧ ∀ m, m ∈ ns → (∀ y, y ∈ ns → y ≤ m) → Q (.int m) H
theorem max_tup {prog : Program} {w : World} {A : Around} {E : Value → Shared → Prop} {s : Shared} {t : Addr} {xs : Array (Int × Tok)} {Q : Value → Shared → Prop} (hh : A.handled = none) (ht : s.heap.IsTuple t (intItems xs)) (hne : 0 < xs.size)
    (h : ∀ v h' tk, (intItems xs)[argBest (fun i j => decide (numAt xs i > numAt xs j)) (xs.size - 1)]? = some v → (∀ b o, s.heap.get? b = some o → h'.get? b = some o) → Q v { s with heap := h', toks := tk }) :
    wpAny (model prog w) A (call (.builtin "max") [.ref t]) Q E s := by
  obtain ⟨o, ho, hc, n, hd⟩ := id ht
  have hnt : t ≠ s.heap.objs.size := Nat.ne_of_lt (Heap.lt_size ho)
  refine call_max_walk (wpAny_pyIter_tuple ht ?_)
  refine ⟨s.heap.objs.size, _, _, _, _, _, _, rfl, Walks.tuple (A := A.in1) hh _ t hnt (intItems xs), ⟨⟨_, Heap.get?_push_size _ rfl, rfl, rfl⟩, ht.at fun o e => Heap.get?_push_of_some _ e⟩, fun b hb => ?_, by simpa [intItems] using hne, CmpOf.ints_gt (numAt xs) (fun _ _ => intItems_at), fun v h' tk hP hk => ?_⟩
  · rcases List.mem_cons.mp hb with z | hb
    · rw [z]; exact Heap.lt_size (Heap.get?_push_size _ rfl)
    · have z : b = t := by simpa using hb
      rw [z]; exact Heap.lt_size (Heap.get?_push_of_some _ ho)
  · refine h v h' tk (by simpa [intItems] using hP) fun b o e => hk b o (fun hm => ?_) (Heap.get?_push_of_some _ e)
    have z : b = s.heap.objs.size := by simpa using hm
    exact absurd (z ▸ Heap.lt_size e) (Nat.lt_irrefl _)
theorem cr_maxS (hc : X.calm = true) : CallR X (.builtin "max") (rMaxS X.K) := by
  intro pins s σ H vs us Q I r h
  obtain ⟨a, ns, rfl, hs | hs, hne, q⟩ := h
  · exact cr_max hc pins s σ H _ us Q I r ⟨a, ns, rfl, hs, hne, q⟩
  · obtain ⟨its, rv, hl, _⟩ := I.tuple hs
    rw [Vals.ref1 r]
    obtain ⟨xs, e⟩ := rv.ints.allInts.items
    have hn : numsOf (intItems xs).toList = ns := e ▸ rv.ints.numsOf
    rw [nums_intItems] at hn
    rw [e] at hl
    subst hn
    have hsz : 0 < xs.size := by simpa using hne
    refine max_tup (I.ok.hd hc) (isTup_of hl) hsz fun v h' tk hv hk => ?_
    obtain ⟨t, rfl⟩ := intItems_at hv
    obtain ⟨h1, h2⟩ := argBest_gt (numAt xs) (xs.size - 1)
    refine ⟨V.int _, H, I.kept hk, ⟨t, rfl⟩, q _ ?_ fun y hy => ?_⟩
    · rw [numAt_eq]; exact PySem.getD_mem (by rw [List.length_map, Array.length_toList]; omega)
    · obtain ⟨j, hj, rfl⟩ := mem_getD hy
      rw [List.length_map, Array.length_toList] at hj
      rw [← numAt_eq]; exact h2 j (by omega)
theorem bMaxS_snd : BSnd G (rMaxS G.K) bMaxS := by
  intro S F ρ H st xs as Q E rp hx o
  unfold bMaxS at o
  split at o
  · rename_i v
    cases hx with
    | cons h hr =>
      cases hr
      cases e : seqI v st with
      | bad => unfold bd at o; rw [e] at o; exact o.elim
      | ex c s => exact absurd e (by unfold seqI; intro z; split at z <;> first | (cases q : toIs _ <;> (rw [q] at z; cases z)) | cases z)
      | ok ns s' =>
        unfold bd at o
        rw [e] at o
        obtain ⟨rfl, p, rfl, hs⟩ := seqI_rel rp h e
        cases ns with
        | nil => exact o.elim
        | cons y r =>
          obtain ⟨m1, m2⟩ := maxI_spec r y
          refine ⟨p, y :: r, rfl, hs, by simp, fun m hm hl => ?_⟩
          have em : m = r.foldl max y := Int.le_antisymm (m2 m hm) (hl _ m1)
          rw [em]
          exact out.at (v := vI (r.foldl max y)) o rp (.int _)
  · exact o.elim
/-! ### l.count(x) by == of data -/
def rCntD (K : PySem.W.Frag) : V → List V → Hp → VK → Prop := fun x xs H Q => ∃ (a : Addr) (vs : List V) (y : V) (ds : List PyData) (d : PyData), x = V.ref a ∧ xs = [y] ∧ SqL K H a vs ∧ DpAll K H vs ds ∧ Dp K H y d ∧ PyData.plainAll ds = true ∧ d.plain = true ∧ PyData.depthAll ds ≤ 60 ∧ Q (.int ((ds.countP fun z => PyData.eqv z d : Nat) : Int)) H
theorem mt_cntD (hu : X.A.units + 64 < cLine) : MtR X "list.count" (rCntD X.K) := by
  intro pins s σ H x xs v us Q I rx rxs h
  obtain ⟨a, vs, y, ds, d, rfl, rfl, hs, hds, hd, p1, p2, p3, q⟩ := h
  cases rx
  cases rxs with
  | cons r t =>
    cases t
    obtain ⟨its, rv, p, hlen⟩ := I.list hs
    obtain ⟨as, ra⟩ := Dp.readsAll I ds vs its hds rv
    obtain ⟨bs, rb⟩ := Dp.reads I d y _ hd r
    exact SeqAt.count_list_data p.isList ra rb p1 p2 (by have := Nat.min_le_left (PyData.depthAll ds) d.depth; omega) ⟨.int _, H, I.tok _, ⟨_, rfl⟩, q⟩
theorem qe_cntD (hu : X.A.units + 64 < cLine) {E : XK} {o e : Expr} {fo fe : Y.E} {apos cpos : Pos} (ho : PE X o (lE G E fo)) (he : PE X e (lE G E fe)) (hs0 : starEach [e] X.env = (false, eval e X.env) :: starEach [] X.env := by rfl) (hbase : attributeBase o "count" X.env (eval o X.env) = eval o X.env := by rfl)
    (hfew : ((backTo cpos (starEach [e] X.env)).all (fun x => !x.1) && (backToKw cpos (keywordEach [] X.env)).all (fun x => x.1.isSome) && decide (([e] : List Expr).length + ([] : List Keyword).length + (if ([] : List Keyword).isEmpty then 0 else 1) < 30)) = true := by rfl)
    (hline : (apos.endLine == cpos.line) = true := by rfl) (hK : X.K = G.K := by rfl) : PE X (.Call (.Attribute o "count" apos) [e] [] cpos) (lE G E (eCntD fo fe)) := by
  refine PE.imp (pe_bm PySem.F.plainAttrs_list PySem.F.slot_list_count PySem.F.type_list_count (mt_cntD hu) ho (pa_cons he pa_nil hs0) hbase hfew hline hs0 rfl) fun σ H Q ⟨S, F, ρ, loc, st, rp, l, ou⟩ => ⟨S, F, ρ, loc, st, rp, l, out.imp (fun ov H1 h1 => ?_) (out.bd (Rl := VR G) ou)⟩
  obtain ⟨F1, ρ1, a, st1, g1, r1, v1, o1⟩ := h1
  cases a with
  | o _ => exact o1.elim
  | s _ => exact o1.elim
  | d x => ?_
  cases x with
  | list ds =>
    obtain ⟨p, us, rfl, ha, hu'⟩ := dt_list v1
    have o1 : out G S F1 ρ1 (VR G) Q E (bd (fe loc) (fun y => bCntD ds y) st1) := o1
    refine ⟨.inl ⟨rfl, us, by rw [hK]; exact SqL.of (r1.ex _ _ ha)⟩, S, F1, ρ1, loc, st1, r1, l.mono g1, out.imp (fun w H2 h2 => ?_) (out.bd (Rl := VR G) o1)⟩
    obtain ⟨F2, ρ2, b, st2, g2, r2, v2, o2⟩ := h2
    cases b with
    | o _ => exact o2.elim
    | s _ => exact o2.elim
    | d y => ?_
    have o2 : out G S F2 ρ2 (VR G) Q E ((if PyData.plainAll ds = true ∧ y.plain = true ∧ PyData.depthAll ds ≤ 60 then ret (vI ((ds.countP fun z => PyData.eqv z y : Nat) : Int)) else die) st2) := o2
    by_cases hc : PyData.plainAll ds = true ∧ y.plain = true ∧ PyData.depthAll ds ≤ 60
    · rw [if_pos hc] at o2
      refine ⟨p, us, w, ds, y, rfl, rfl, ?_, ?_, ?_, hc.1, hc.2.1, hc.2.2, out.at (v := vI ((ds.countP fun z => PyData.eqv z y : Nat) : Int)) o2 r2 (.int _)⟩
      · rw [hK]; exact SqL.of (r2.ex _ _ (g2.f _ _ ha))
      · rw [hK]; exact DpAll.mono r2.ex (DtA.dp (DtA.mono g2.f hu'))
      · rw [hK]; exact Dp.mono r2.ex (Dt.dp v2)
    · rw [if_neg hc] at o2; exact o2.elim
  | _ => exact o1.elim
end
end Y
end
section
set_option Elab.async false
set_option linter.all false
namespace Y
open PySem (PyData Str)
/-- the items of a list, data or own -/
def seqAll : Val → M (List D)
  | .d (.list ds) => ret ds
  | .o k => fun st => match st[k]? with
    | some (.lst xs) => (match toDs xs with
      | some ds => .ok ds st
      | none => .bad)
    | _ => .bad
  | _ => die
noncomputable def sortD (ds : List D) : List D := ds.mergeSort (PySem.W.dataLe false fun d : D => d)
def sortOk (ds : List D) : Prop := PySem.W.AllAlike ds ∧ PySem.W.Sortable ds ∧ PyData.depthAll ds ≤ 60 ∧ ds.length ≤ lim
open Classical in
/-- sorted(l) -/
noncomputable def bSortD : List Val → M Val
  | [v] => bd (seqAll v) fun ds => if sortOk ds then ret (.d (.list (sortD ds))) else die
  | _ => die
open Classical in
/-- a comprehension over a list of the store that its parts leave as it is -/
noncomputable def compO (k : Nat) (xs0 : List Val) (body : Val → M (Option Val)) : List Val → M (List Val)
  | [] => fun st => if st[k]? = some (.lst xs0) then .ok [] st else .bad
  | x :: xs => fun st => if st[k]? = some (.lst xs0) then bd (body x) (fun o => bd (compO k xs0 body xs) fun ys => ret (consO o ys)) st else .bad
noncomputable def eLcO (e : E) (g : G) (t : Tst) (el : E) (vs : List Nat) : E := fun loc => bd (e loc) fun v => bd (getL v) fun p => if p.2.length ≤ lim then bd (noex (compO p.1 p.2 (cBody g t el (wip loc vs)) p.2)) bLst else die
end Y
end
section
set_option Elab.async false
set_option Elab.async false
set_option linter.all false
set_option maxRecDepth 100000
set_option maxHeartbeats 2000000
/-! Tsq: sorted of a list of like data. -/
namespace Y
open PySem PySem.Spec PyProof.Rows L2
section
set_option Elab.async false
variable {X : Cx} {G : Glo}
def rSortedD (K : PySem.W.Frag) : List V → Hp → VK → Prop := fun vs H Q => ∃ (a : Addr) (us : List V) (ds : List PyData), vs = [V.ref a] ∧ SqL K H a us ∧ DpAll K H us ds ∧ PySem.W.AllAlike ds ∧ PySem.W.Sortable ds ∧ PyData.depthAll ds ≤ 60 ∧
  ∀ p, H p = none → Q (.ref p) (upd H p (.lst (((us.zip ds).mergeSort (PySem.W.dataLe false Prod.snd)).map Prod.fst)))
theorem dpA_len {K : PySem.W.Frag} {H : Hp} : ∀ {us : List V} {ds : List PyData}, DpAll K H us ds → us.length = ds.length
  | _, _, .nil => rfl
  | _, _, .cons _ k => by rw [List.length_cons, List.length_cons, dpA_len k]
theorem each_vals : ∀ {us : List V} {ds : List PyData} {its : List Value}, us.length = ds.length → Vals us its → PySem.W.EachIs (fun (v : Value) (b : V × PyData) => RelV b.1 v) its (us.zip ds)
  | [], [], _, _, .nil => .nil
  | u :: us, d :: ds, _, hl, .cons r t => .cons r (each_vals (by simpa using hl) t)
theorem vals_each : ∀ {bs : List (V × PyData)} {out : List Value}, PySem.W.EachIs (fun (v : Value) (b : V × PyData) => RelV b.1 v) out bs → Vals (bs.map Prod.fst) out
  | _, _, .nil => .nil
  | _, _, .cons r t => .cons r (vals_each t)
theorem dep_le : ∀ {ds : List PyData} {d : PyData}, d ∈ ds → d.depth ≤ PyData.depthAll ds
  | e :: ds, d, h => by
    simp only [PyData.depthAll]
    rcases List.mem_cons.mp h with rfl | h
    · omega
    · have := dep_le h; omega
theorem cr_sortedD (hu : X.A.units + 64 < cLine) : CallR X (.builtin "sorted") (rSortedD X.K) := by
  intro pins s σ H vs us' Q I r h
  obtain ⟨a, us, ds, rfl, hs, hd, hal, hk, hdep, q⟩ := h
  obtain ⟨its, rv, hl, hz⟩ := I.list hs
  rw [Vals.ref1 r]
  have len := dpA_len hd
  obtain ⟨as, ra⟩ := Dp.readsAll I ds us its hd rv
  have ez : (us.zip ds).map Prod.snd = ds := List.map_snd_zip (by omega)
  have e := each_vals len rv
  have er := PySem.W.readsAll_each (h := s.heap) (Prod.snd : V × PyData → PyData) (vs := its) (bs := us.zip ds) (as := as) (by rw [ez]; exact ra)
  refine PySem.W.sorted_data (enc := (Prod.snd : V × PyData → PyData)) hl.isList e er (by rw [ez]; exact hal) (by rw [ez]; exact hk) ?_ (fun b hb => ?_) fun out ho he => ?_
  · rw [List.length_zip]; omega
  · have hm : b.2 ∈ ds := (List.of_mem_zip hb).2
    have := dep_le hm
    omega
  · obtain ⟨ep, he'⟩ := PyProof.Rows.sortedAll_at s.heap its out.toArray
    have hlen : (((us.zip ds).mergeSort (PySem.W.dataLe false Prod.snd)).map Prod.fst).length ≤ sizeLine := by
      rw [List.length_map, List.length_mergeSort, List.length_zip]; omega
    exact ⟨.ref _, upd H (s.heap.objs.size + 1) (.lst (((us.zip ds).mergeSort (PySem.W.dataLe false Prod.snd)).map Prod.fst)), I.laid (t' := s.toks) (fun _ _ => PyProof.Rows.sortedAll_old) (Nat.le_succ _) ⟨hlen, out, ep, vals_each he, he'⟩, rfl, q _ (I.hok.fresh (Nat.le_succ _))⟩
theorem dtA_zip {F : Hp} : ∀ {us : List V} {ds : List D}, DtA F us ds → ∀ p ∈ us.zip ds, Dt F p.1 p.2
  | _, _, .nil, p, hp => nomatch hp
  | _, _, .cons h k, p, hp => by
    rw [List.zip_cons_cons] at hp
    rcases List.mem_cons.mp hp with rfl | hp
    · exact h
    · exact dtA_zip k p hp
theorem dtA_of {F : Hp} : ∀ {bs : List (V × D)}, (∀ p ∈ bs, Dt F p.1 p.2) → DtA F (bs.map Prod.fst) (bs.map Prod.snd)
  | [], _ => .nil
  | b :: bs, h => .cons (h b List.mem_cons_self) (dtA_of fun p hp => h p (List.mem_cons_of_mem _ hp))
theorem dtA_sort {F : Hp} {us : List V} {ds : List D} (h : DtA F us ds) : DtA F (((us.zip ds).mergeSort (PySem.W.dataLe false Prod.snd)).map Prod.fst) (sortD ds) := by
  have z := dtA_of (F := F) (bs := (us.zip ds).mergeSort (PySem.W.dataLe false Prod.snd)) fun p hp => dtA_zip h p (List.mem_mergeSort.mp hp)
  have e : ((us.zip ds).mergeSort (PySem.W.dataLe false Prod.snd)).map Prod.snd = sortD ds := by
    unfold sortD
    have m := PySem.W.sort_maps (r := PySem.W.dataLe false (Prod.snd : V × D → D)) (s := PySem.W.dataLe false fun d : D => d) (Prod.snd : V × D → D) (l := us.zip ds) (fun _ _ _ _ => rfl)
    rw [m, List.map_snd_zip (by rw [h.length]; exact Nat.le_refl _)]
  rw [e] at z
  exact z
theorem seqAll_rel {S F : Hp} {ρ : List Addr} {H : Hp} {st s : Store} {x : V} {a : Val} {ds : List D} (rp : Rep G S F ρ H st) (h : VR G F ρ x a) (e : seqAll a st = .ok ds s) : s = st ∧ ∃ (p : Addr) (us : List V), x = .ref p ∧ H p = some (.lst us) ∧ DtA F us ds := by
  unfold seqAll at e
  split at e
  · rename_i es
    cases e
    obtain ⟨p, us, rfl, ha, hu⟩ := dt_list h
    exact ⟨rfl, p, us, rfl, rp.ex _ _ ha, hu⟩
  · rename_i k
    obtain ⟨a, ha, rfl⟩ := h
    cases q : st[k]? with
    | none => simp only [q] at e; cases e
    | some ob =>
      simp only [q] at e
      cases ob with
      | ins _ _ => cases e
      | gone => cases e
      | tup _ => cases e
      | dct _ => cases e
      | lst xs =>
        dsimp only at e
        cases q2 : toDs xs with
        | none => rw [q2] at e; cases e
        | some ds' =>
          rw [q2] at e
          have e' : R.ok ds' st = R.ok ds s := e
          injection e' with e1 e2
          subst e1 e2
          obtain ⟨a', h', q1, q3, q4, vs, q5, q6⟩ := rp.own k _ q
          rw [ha] at q1
          cases q1
          subst q5
          exact ⟨rfl, a, vs, rfl, q4, toDs_rel q6 q2⟩
  · cases e
theorem seqAll_ex {v : Val} {st s : Store} {c : Nat} (e : seqAll v st = .ex c s) : False := by
  unfold seqAll at e
  split at e
  · cases e
  · split at e
    · split at e <;> cases e
    · cases e
  · cases e
theorem bSortD_snd : BSnd G (rSortedD G.K) bSortD := by
  intro S F ρ H st xs as Q E rp hx o
  unfold bSortD at o
  split at o
  · rename_i v
    cases hx with
    | cons h hr =>
      cases hr
      cases e : seqAll v st with
      | bad => unfold bd at o; rw [e] at o; exact o.elim
      | ex c s => exact (seqAll_ex e).elim
      | ok ds s' =>
        unfold bd at o
        rw [e] at o
        obtain ⟨rfl, p, us, rfl, ha, hu⟩ := seqAll_rel rp h e
        dsimp only at o
        by_cases hc : sortOk ds
        · rw [if_pos hc] at o
          refine ⟨p, us, ds, rfl, SqL.of ha, DpAll.mono rp.ex (DtA.dp hu), hc.1, hc.2.1, hc.2.2.1, fun l hl => out_lst rp (dtA_sort hu) o l hl⟩
        · rw [if_neg hc] at o
          exact o.elim
  · exact o.elim
end
end Y
end
section
set_option Elab.async false
set_option Elab.async false
set_option linter.all false
set_option maxRecDepth 100000
set_option maxHeartbeats 2000000
/-! Tco: a comprehension over a list of the store. -/
namespace Y
open PySem PySem.Spec PyProof.Rows L2
section
set_option Elab.async false
variable {X : Cx} {G : Glo} {E : XK} {tg : Expr}
theorem compO_chk {k : Nat} {xs0 xs ys : List Val} {body : Val → M (Option Val)} {st s : Store} (h : compO k xs0 body xs st = .ok ys s) : st[k]? = some (.lst xs0) := by
  cases xs with
  | nil =>
    unfold compO at h
    by_cases q : st[k]? = some (.lst xs0)
    · exact q
    · rw [if_neg q] at h; cases h
  | cons x xs =>
    unfold compO at h
    by_cases q : st[k]? = some (.lst xs0)
    · exact q
    · rw [if_neg q] at h; cases h
def CPO (G : Glo) (k : Nat) (xs0 : List Val) (S : Hp) (F : Hp) (ρ : List Addr) (Q : VK) (E : XK) (Dl : Addr) (body : Val → M (Option Val)) (xs : List Val) (n : Nat) (H : Hp) : Prop :=
  ∃ (F2 : Hp) (ρ2 : List Addr) (st2 : Store) (av : List V) (acc : List Val), Gr F ρ F2 ρ2 ∧ Rep G (upd S Dl (.lst av)) F2 ρ2 H st2 ∧ VRs G F2 ρ2 av acc ∧ acc.length + xs.length ≤ n ∧ out G S F2 ρ2 (VR G) Q E (bd (noex (compO k xs0 body xs)) (fun ys => bLst (acc ++ ys)) st2)
theorem compO_next {fin : List Val → M Val} {k : Nat} {xs0 : List Val} {body : Val → M (Option Val)} {rest : List Val} {acc ys : List Val} {s1 s : Store} (h : compO k xs0 body rest s1 = .ok ys s) : bd (noex (compO k xs0 body rest)) (fun ys => fin (acc ++ ys)) s1 = fin (acc ++ ys) s := by
  unfold bd
  rw [noex_ok h]
theorem vrs_getO {F2 : Hp} {ρ2 : List Addr} : ∀ {vs : List V} {as : List Val} {i : Nat} {v : Val}, VRs G F2 ρ2 vs as → as[i]? = some v → ∃ u, vs[i]? = some u ∧ VR G F2 ρ2 u v := by
  intro vs as i v h
  induction h generalizing i with
  | nil => intro e; simp at e
  | cons r _ ih =>
    intro e
    cases i with
    | zero => simp at e; subst e; exact ⟨_, rfl, r⟩
    | succ i => simpa using ih (by simpa using e)
theorem lE_lcO {f : Y.E} {g : Y.G} {t : Tst} {e : Y.E} {vs : List Nat} : ∀ σ H Q, lE G E (eLcO f g t e vs) σ H Q → tLc (iList G.K (lE G E f)) (lG G EF vs g) (lT G EF t) (lE G EF e) vs σ H Q := by
  rintro σ H Q ⟨S, F, ρ, loc, st, rp, l, o⟩
  refine ⟨S, F, ρ, loc, st, rp, l, out.imp (fun u H1 h1 => ?_) (out.bd (Rl := VR G) o)⟩
  obtain ⟨F1, ρ1, v, st1, g1, r1, vr, o1⟩ := h1
  cases v with
  | d _ => exact o1.elim
  | s _ => exact o1.elim
  | o k =>
    have o1 : out G S F1 ρ1 (VR G) Q E (bd (getL (.o k)) (fun p => if p.2.length ≤ lim then bd (noex (compO p.1 p.2 (cBody g t e (wip loc vs)) p.2)) bLst else die) st1) := o1
    unfold bd getL at o1
    cases q : st1[k]? with
    | none => simp only [q] at o1; exact o1.elim
    | some ob =>
      simp only [q] at o1
      cases ob with
      | ins _ _ => exact o1.elim
      | gone => exact o1.elim
      | tup _ => exact o1.elim
      | dct _ => exact o1.elim
      | lst xs =>
        dsimp only at o1
        obtain ⟨a, ha, rfl⟩ := vr
        have sq : ∀ {S2 F2 : Hp} {ρ2 : List Addr} {H2 : Hp} {st2 : Store}, Gr F1 ρ1 F2 ρ2 → Rep G S2 F2 ρ2 H2 st2 → st2[k]? = some (.lst xs) → ∃ us, H2 a = some (.lst us) ∧ VRs G F2 ρ2 us xs := fun {S2 F2 ρ2 H2 st2} g2 r2 e => by
          obtain ⟨a', h', q1, q3, q4, us, q5, q6⟩ := r2.own k _ e
          rw [g2.get ha] at q1
          cases q1
          subst q5
          exact ⟨us, q4, q6⟩
        obtain ⟨us, hus, _⟩ := sq Gr.refl r1 q
        refine ⟨a, rfl, ⟨us, SqL.of hus⟩, ?_⟩
        intro Dl hD
        have hl : xs.length ≤ lim := by
          by_cases hl : xs.length ≤ lim
          · exact hl
          · rw [if_neg hl] at o1
            exact o1.elim
        rw [if_pos hl] at o1
        have o1 : out G S F1 ρ1 (VR G) Q E (bd (noex (compO k xs (cBody g t e (wip loc vs)) xs)) (fun ys => bLst ([] ++ ys)) st1) := o1
        have hS : S Dl = none := by
          cases q : S Dl with
          | none => rfl
          | some u => rw [(r1.sd Dl u q).1] at hD; cases hD
        refine ⟨fun i m H => m = xs.length - i ∧ i ≤ xs.length ∧ CPO G k xs S F1 ρ1 Q E Dl (cBody g t e (wip loc vs)) (xs.drop i) xs.length H, ⟨xs.length, by simp, Nat.zero_le _, F1, ρ1, st1, [], [], Gr.refl, r1.side hD, .nil, by simp, o1⟩, ?_⟩
        rintro i m H2 ⟨rfl, hi, F2, ρ2, st2, av, acc, g2, r2, va, hn, o2⟩
        obtain ⟨ys0, s0, hc0, _⟩ := out_noex (Rl := fun _ _ (_ : Unit) _ => True) o2
        have hst := compO_chk hc0
        obtain ⟨ws, hws, hv⟩ := sq g2 r2 hst
        have hwl := hv.length
        by_cases hlt : i < xs.length
        · refine .inr ⟨⟨ws, ws[i]'(by omega), SqL.of hws, by simp⟩, CPO G k xs S F1 ρ1 Q E Dl (cBody g t e (wip loc vs)) (xs.drop (i + 1)) xs.length, fun H' p => ⟨xs.length - (i + 1), by omega, rfl, hlt, p⟩, fun x H' yl => ?_⟩
          have hx : xs[i]? = some xs[i] := List.getElem?_eq_getElem hlt
          have hd : xs.drop i = xs[i] :: xs.drop (i + 1) := List.drop_eq_getElem_cons hlt
          obtain ⟨rfl, hyl⟩ := yl
          have hxw := hyl ws (SqL.of hws)
          obtain ⟨u', hu', v3⟩ := vrs_getO hv hx
          rw [hxw] at hu'
          cases hu'
          rw [hd] at o2 hn
          obtain ⟨ys, s, hc, o'⟩ := out_noex (Rl := fun _ _ (_ : Unit) _ => True) o2
          unfold compO at hc
          rw [if_pos hst] at hc
          obtain ⟨ob, s1, hb, hc⟩ := bd_ok hc
          obtain ⟨ys', s', hc2, hfin⟩ := bd_ok hc
          obtain ⟨l2, s2, hg, hb⟩ := bd_ok hb
          obtain ⟨b, s3, ht, hb⟩ := bd_ok hb
          have hfin : R.ok (consO ob ys') s' = R.ok ys s := hfin
          injection hfin with hys hss
          subst hss
          have lr3 : LR G F2 ρ2 (L2.wipe σ vs) (wip loc vs) := (l.mono (g1.trans g2)).wip vs
          refine ⟨upd S Dl (.lst av), F2, ρ2, wip loc vs, st2, xs[i], r2, lr3, v3, out_ok hg fun F4 ρ4 H4 σ2 g4 r4 lw => ?_⟩
          obtain ⟨lr4, w4⟩ := lw
          refine ⟨w4.trans wipe_wipe, upd S Dl (.lst av), F4, ρ4, l2, s2, r4, lr4, out_ok ht fun F5 ρ5 H5 b' g5 r5 hb' => ?_⟩
          cases hb'
          have gg : Gr F1 ρ1 F5 ρ5 := (g2.trans g4).trans g5
          have g25 : Gr F2 ρ2 F5 ρ5 := g4.trans g5
          rw [List.length_cons] at hn
          cases b with
          | false =>
            have hb2 : ob = none ∧ s3 = s1 := by
              have z : R.ok (none : Option Val) s3 = R.ok ob s1 := hb
              injection z with z1 z2
              exact ⟨z1.symm, z2⟩
            obtain ⟨rfl, rfl⟩ := hb2
            subst hys
            refine ⟨F5, ρ5, s3, av, acc, gg, r5, VRs.mono g25 va, by omega, ?_⟩
            rw [compO_next hc2]
            exact out.mono g25 o'
          | true =>
            obtain ⟨yv, s4, he, hb⟩ := bd_ok (show bd (e l2) (fun y => ret (some y)) s3 = R.ok ob s1 from hb)
            have hb2 : ob = some yv ∧ s4 = s1 := by
              have z : R.ok (some yv : Option Val) s4 = R.ok ob s1 := hb
              injection z with z1 z2
              exact ⟨z1.symm, z2⟩
            obtain ⟨rfl, rfl⟩ := hb2
            subst hys
            refine ⟨upd S Dl (.lst av), F5, ρ5, l2, s3, r5, lr4.mono g5, out_ok he fun F6 ρ6 H6 u g6 r6 vu => ?_⟩
            have hav : av.length = acc.length := va.length
            refine ⟨av, (r6.sd Dl _ upd_same).1, sz' (by omega), F6, ρ6, s4, av ++ [u], acc ++ [yv], gg.trans g6, r6.side2, Paired.snoc (VRs.mono (g25.trans g6) va) vu, by rw [List.length_append]; show acc.length + 1 + _ ≤ _; omega, ?_⟩
            rw [compO_next hc2]
            have ea : acc ++ [yv] ++ ys' = acc ++ (yv :: ys') := by simp
            rw [ea]
            exact out.mono (g25.trans g6) o'
        · have e : i = xs.length := by omega
          subst e
          refine .inl ⟨⟨ws, SqL.of hws, by omega⟩, ?_⟩
          rw [List.drop_length] at o2
          obtain ⟨ys, s, hc, o'⟩ := out_noex (Rl := fun _ _ (_ : Unit) _ => True) o2
          unfold compO at hc
          rw [if_pos hst] at hc
          have hc : R.ok ([] : List Val) st2 = R.ok ys s := hc
          injection hc with h1 h2
          subst h1 h2
          rw [List.append_nil] at o'
          exact fin_lst S F2 ρ2 H2 st2 av acc Dl Q E r2 va hS o'
theorem qe_lcO {elt tgt iter : Expr} {ifs : List Expr} {scope : Scope} {own : List (Str × Nat)} {pos : Pos} {f : Y.E} {g : Y.G} {t : Tst} {e : Y.E} (hc : X.calm = true) (hN : X.N.Nodup) (hi : PE X iter (lE G E f)) (ok : BlkOk X.N X.env.scope scope own)
    (hg : ∀ (s : Shared) (H : Hp) (C : Addr) (cl : List (Str × Addr)) (fp : List Addr), PG (X.blk s H scope (compEnvC scope cl C X.env) fp) tgt (lG G EF (own.map (·.2)) g)) (ht : ∀ (s : Shared) (H : Hp) (C : Addr) (cl : List (Str × Addr)) (fp : List Addr), PTs (X.blk s H scope (compEnvC scope cl C X.env) fp) ifs (lT G EF t))
    (he : ∀ (s : Shared) (H : Hp) (C : Addr) (cl : List (Str × Addr)) (fp : List Addr), PE (X.blk s H scope (compEnvC scope cl C X.env) fp) elt (lE G EF e)) (hs : ∀ x, foldedSetIterable iter X.env x = pure x := by intro _; rfl) (hK : X.K = G.K := by rfl) :
    PE X (.ListComp elt [⟨tgt, iter, ifs, 0⟩] scope pos) (lE G E (eLcO f g t e (own.map (·.2)))) := by
  have hi' : PI X tgt iter (iList G.K (lE G E f)) := by rw [← hK]; exact pi_list hi
  exact PE.imp (pe_lc hc hN hi' ok hg ht he hs) lE_lcO
theorem qs_setLcN (i : Nat) {y : Str} {py : Pos} {elt tgt iter : Expr} {ifs : List Expr} {scope : Scope} {own : List (Str × Nat)} {pos spos : Pos} {it : Y.I} {g : Y.G} {t : Tst} {e : Y.E} (hc : X.calm = true) (hN : X.N.Nodup) (hy : X.N[i]? = some y) (hyl : X.env.scope.names.lookup y = some .local)
    (hsw : swapsWith (.ListComp elt [⟨tgt, iter, ifs, 0⟩] scope pos) (some (.Name y py)) spos.line X.env = pure true) (hi : PI X tgt iter (lI G E it)) (ok : BlkOk X.N X.env.scope scope own)
    (hg : ∀ (s : Shared) (H : Hp) (C : Addr) (cl : List (Str × Addr)) (fp : List Addr), PG (X.blk s H scope (compEnvC scope cl C X.env) fp) tgt (lG G EF (own.map (·.2)) g)) (ht : ∀ (s : Shared) (H : Hp) (C : Addr) (cl : List (Str × Addr)) (fp : List Addr), PTs (X.blk s H scope (compEnvC scope cl C X.env) fp) ifs (lT G EF t))
    (he : ∀ (s : Shared) (H : Hp) (C : Addr) (cl : List (Str × Addr)) (fp : List Addr), PE (X.blk s H scope (compEnvC scope cl C X.env) fp) elt (lE G EF e)) (hs : ∀ x, foldedSetIterable iter X.env x = pure x := by intro _; rfl) :
    PS X (.Assign [.Name y py] (.ListComp elt [⟨tgt, iter, ifs, 0⟩] scope pos) spos) (lS G E (sAsg (eLcN it g t e (own.map (·.2))) (gN i))) := by
  refine PS.imp (ps_setLc hc hN hy hyl hsw hi ok hg ht he hs) fun D σ H h => ?_
  exact lE_lcN σ H _ (lS_asgN D σ H h)
theorem qs_setLcO (i : Nat) {y : Str} {py : Pos} {elt tgt iter : Expr} {ifs : List Expr} {scope : Scope} {own : List (Str × Nat)} {pos spos : Pos} {f : Y.E} {g : Y.G} {t : Tst} {e : Y.E} (hc : X.calm = true) (hN : X.N.Nodup) (hy : X.N[i]? = some y) (hyl : X.env.scope.names.lookup y = some .local)
    (hsw : swapsWith (.ListComp elt [⟨tgt, iter, ifs, 0⟩] scope pos) (some (.Name y py)) spos.line X.env = pure true) (hi : PE X iter (lE G E f)) (ok : BlkOk X.N X.env.scope scope own)
    (hg : ∀ (s : Shared) (H : Hp) (C : Addr) (cl : List (Str × Addr)) (fp : List Addr), PG (X.blk s H scope (compEnvC scope cl C X.env) fp) tgt (lG G EF (own.map (·.2)) g)) (ht : ∀ (s : Shared) (H : Hp) (C : Addr) (cl : List (Str × Addr)) (fp : List Addr), PTs (X.blk s H scope (compEnvC scope cl C X.env) fp) ifs (lT G EF t))
    (he : ∀ (s : Shared) (H : Hp) (C : Addr) (cl : List (Str × Addr)) (fp : List Addr), PE (X.blk s H scope (compEnvC scope cl C X.env) fp) elt (lE G EF e)) (hs : ∀ x, foldedSetIterable iter X.env x = pure x := by intro _; rfl) (hK : X.K = G.K := by rfl) :
    PS X (.Assign [.Name y py] (.ListComp elt [⟨tgt, iter, ifs, 0⟩] scope pos) spos) (lS G E (sAsg (eLcO f g t e (own.map (·.2))) (gN i))) := by
  have hi' : PI X tgt iter (iList G.K (lE G E f)) := by rw [← hK]; exact pi_list hi
  refine PS.imp (ps_setLc hc hN hy hyl hsw hi' ok hg ht he hs) fun D σ H h => ?_
  exact lE_lcO σ H _ (lS_asgN D σ H h)
end
end Y
end
section
set_option Elab.async false
set_option linter.all false
/-! Lp: tables of shares, turned by the first unknown that wins: they come to an end. -/
namespace Lp
def sm (f : Nat → Rat) : Nat → Rat
  | 0 => 0
  | n + 1 => sm f n + f n
theorem sm_congr {f g : Nat → Rat} : ∀ {n : Nat}, (∀ j, j < n → f j = g j) → sm f n = sm g n
  | 0, _ => rfl
  | n + 1, h => by
    show sm f n + f n = sm g n + g n
    rw [sm_congr fun j hj => h j (by omega), h n (by omega)]
theorem sm_add (f g : Nat → Rat) : ∀ n : Nat, sm (fun j => f j + g j) n = sm f n + sm g n
  | 0 => by simp only [sm]; grind
  | n + 1 => by
    show sm (fun j => f j + g j) n + (f n + g n) = (sm f n + f n) + (sm g n + g n)
    rw [sm_add f g n]
    grind
theorem sm_mul (c : Rat) (f : Nat → Rat) : ∀ n : Nat, sm (fun j => c * f j) n = c * sm f n
  | 0 => by simp [sm]
  | n + 1 => by
    show sm (fun j => c * f j) n + c * f n = c * (sm f n + f n)
    rw [sm_mul c f n]
    grind
theorem sm_zero : ∀ {n : Nat} {f : Nat → Rat}, (∀ j, j < n → f j = 0) → sm f n = 0
  | 0, _, _ => rfl
  | n + 1, f, h => by
    show sm f n + f n = 0
    rw [sm_zero fun j hj => h j (by omega), h n (by omega)]
    grind
theorem sm_one {f : Nat → Rat} {i : Nat} : ∀ {n : Nat}, i < n → (∀ j, j < n → j ≠ i → f j = 0) → sm f n = f i
  | 0, h, _ => by omega
  | n + 1, h, hz => by
    show sm f n + f n = f i
    by_cases e : i = n
    · subst e
      rw [sm_zero fun j hj => hz j (by omega) (by omega)]
      grind
    · rw [sm_one (by omega) fun j hj hne => hz j (by omega) hne, hz n (by omega) (by omega)]
      grind
theorem sm_pos : ∀ {n : Nat} {f : Nat → Rat}, 0 < sm f n → ∃ j, j < n ∧ 0 < f j
  | 0, f, h => by simp [sm] at h
  | n + 1, f, h => by
    have h : 0 < sm f n + f n := h
    by_cases e : 0 < f n
    · exact ⟨n, by omega, e⟩
    · obtain ⟨j, hj, p⟩ := sm_pos (n := n) (f := f) (by grind)
      exact ⟨j, by omega, p⟩
theorem sm_nonneg : ∀ {n : Nat} {f : Nat → Rat}, (∀ j, j < n → 0 ≤ f j) → 0 ≤ sm f n
  | 0, f, _ => by simp [sm]
  | n + 1, f, h => by
    show 0 ≤ sm f n + f n
    have := sm_nonneg (n := n) (f := f) fun j hj => h j (by omega)
    have := h n (by omega)
    grind
theorem div_nn {a p : Rat} (ha : 0 ≤ a) (hp : 0 < p) : 0 ≤ a / p := by
  by_cases h : 0 ≤ a / p
  · exact h
  · have h1 : 0 < -(a / p) := by grind
    have := Rat.mul_pos h1 hp
    have e : -(a / p) * p = -a := by grind
    rw [e] at this
    grind
theorem div_le {a b p : Rat} (h : a ≤ b) (hp : 0 < p) : a / p ≤ b / p := by
  have := div_nn (a := b - a) (by grind) hp
  have e : (b - a) / p = b / p - a / p := by grind
  rw [e] at this
  grind
/-- a table: rows, the last row, which unknown stands for each row; column N is the right side -/
structure Tb where
  T : Nat → Nat → Rat
  r : Nat → Rat
  B : Nat → Nat
section
set_option Elab.async false
variable (m N : Nat)
def Sol (S : Tb) (x : Nat → Rat) : Prop := ∀ i, i < m → sm (fun j => S.T i j * x j) N = S.T i N
def W (S : Tb) (x : Nat → Rat) : Rat := sm (fun j => S.r j * x j) N - S.r N
structure Ok (S : Tb) : Prop where
  u1 : ∀ i, i < m → S.T i (S.B i) = 1
  u0 : ∀ i, i < m → ∀ k, k < m → i ≠ k → S.T i (S.B k) = 0
  rz : ∀ i, i < m → S.r (S.B i) = 0
  bn : ∀ i, i < m → S.B i < N
  fe : ∀ i, i < m → 0 ≤ S.T i N
structure En (S : Tb) (c : Nat) : Prop where
  lt : c < N
  neg : S.r c < 0
  low : ∀ j, j < c → 0 ≤ S.r j
structure Lv (S : Tb) (c a : Nat) : Prop where
  lt : a < m
  pos : 0 < S.T a c
  le : ∀ i, i < m → 0 < S.T i c → S.T a N * S.T i c ≤ S.T i N * S.T a c
  tie : ∀ i, i < m → 0 < S.T i c → S.T a N * S.T i c = S.T i N * S.T a c → S.B a ≤ S.B i
def piv (S : Tb) (a c : Nat) : Tb where
  T := fun i j => if i = a then S.T a j / S.T a c else S.T i j - S.T i c * (S.T a j / S.T a c)
  r := fun j => S.r j - S.r c * (S.T a j / S.T a c)
  B := fun i => if i = a then c else S.B i
variable {m N} {S : Tb} {a c : Nat}
theorem Ok.inj (o : Ok m N S) {i k : Nat} (hi : i < m) (hk : k < m) (e : S.B i = S.B k) : i = k := by
  by_cases h : i = k
  · exact h
  · have h1 := o.u1 i hi
    have h0 := o.u0 i hi k hk h
    rw [e] at h1
    rw [h1] at h0
    exact absurd h0 (by decide)
theorem Ok.ne (o : Ok m N S) (e : En N S c) {i : Nat} (hi : i < m) : S.B i ≠ c := fun z => by
  have := o.rz i hi
  rw [z] at this
  have := e.neg
  grind
theorem piv_ok (o : Ok m N S) (e : En N S c) (l : Lv m N S c a) : Ok m N (piv S a c) := by
  have hp := l.pos
  have hp0 : S.T a c ≠ 0 := by grind
  have cc : S.T a c / S.T a c = 1 := by grind
  refine ⟨fun i hi => ?_, fun i hi k hk hne => ?_, fun i hi => ?_, fun i hi => ?_, fun i hi => ?_⟩
  · by_cases h : i = a
    · subst h
      simp only [piv, if_true]
      exact cc
    · simp only [piv, h, if_false]
      rw [o.u1 i hi, o.u0 a l.lt i hi (Ne.symm h)]
      grind
  · by_cases h : k = a
    · subst h
      have hi' : ¬ i = k := hne
      simp only [piv, if_true, hi', if_false]
      rw [cc]
      grind
    · by_cases hi' : i = a
      · subst hi'
        simp only [piv, if_true, h, if_false]
        rw [o.u0 i hi k hk hne]
        grind
      · simp only [piv, h, hi', if_false]
        rw [o.u0 i hi k hk hne, o.u0 a l.lt k hk (Ne.symm h)]
        grind
  · by_cases h : i = a
    · subst h
      simp only [piv, if_true]
      rw [cc]
      grind
    · simp only [piv, h, if_false]
      rw [o.rz i hi, o.u0 a l.lt i hi (Ne.symm h)]
      grind
  · by_cases h : i = a
    · simp only [piv, h, if_true]
      exact e.lt
    · simp only [piv, h, if_false]
      exact o.bn i hi
  · have fa := o.fe a l.lt
    have fi := o.fe i hi
    have q0 : 0 ≤ S.T a N / S.T a c := div_nn fa hp
    by_cases h : i = a
    · simp only [piv, h, if_true]
      exact q0
    · simp only [piv, h, if_false]
      by_cases hc : 0 < S.T i c
      · have := l.le i hi hc
        have e1 : S.T i c * (S.T a N / S.T a c) = (S.T a N * S.T i c) / S.T a c := by grind
        have e2 : (S.T i N * S.T a c) / S.T a c = S.T i N := by grind
        have e3 : (S.T a N * S.T i c) / S.T a c ≤ (S.T i N * S.T a c) / S.T a c := div_le this hp
        grind
      · have : S.T i c * (S.T a N / S.T a c) ≤ 0 := by
          have := Rat.mul_nonneg (show 0 ≤ - S.T i c by grind) q0
          grind
        grind
theorem row_lin (f g : Nat → Rat) (k : Rat) (x : Nat → Rat) (n : Nat) : sm (fun j => (f j - k * g j) * x j) n = sm (fun j => f j * x j) n - k * sm (fun j => g j * x j) n := by
  have e : (fun j => (f j - k * g j) * x j) = fun j => f j * x j + (-k) * (g j * x j) := by funext j; grind
  rw [e, sm_add, sm_mul]
  grind
theorem row_scl (f : Nat → Rat) (k : Rat) (x : Nat → Rat) (n : Nat) : sm (fun j => f j / k * x j) n = sm (fun j => f j * x j) n / k := by
  have e : (fun j => f j / k * x j) = fun j => (1 / k) * (f j * x j) := by funext j; grind
  rw [e, sm_mul]
  grind
theorem piv_sol (l : Lv m N S c a) (x : Nat → Rat) : Sol m N (piv S a c) x ↔ Sol m N S x := by
  have hp0 : S.T a c ≠ 0 := by have := l.pos; grind
  have ea : sm (fun j => (piv S a c).T a j * x j) N = sm (fun j => S.T a j * x j) N / S.T a c := by
    have : (fun j => (piv S a c).T a j * x j) = fun j => S.T a j / S.T a c * x j := by funext j; simp [piv]
    rw [this, row_scl]
  have eo : ∀ i, i ≠ a → sm (fun j => (piv S a c).T i j * x j) N = sm (fun j => S.T i j * x j) N - S.T i c * (sm (fun j => S.T a j * x j) N / S.T a c) := fun i hi => by
    have : (fun j => (piv S a c).T i j * x j) = fun j => (S.T i j - S.T i c * (S.T a j / S.T a c)) * x j := by funext j; simp [piv, hi]
    rw [this, row_lin, row_scl]
  have na : (piv S a c).T a N = S.T a N / S.T a c := by simp [piv]
  have no : ∀ i, i ≠ a → (piv S a c).T i N = S.T i N - S.T i c * (S.T a N / S.T a c) := fun i hi => by simp [piv, hi]
  constructor
  · intro h
    have ha := h a l.lt
    rw [ea, na] at ha
    have ha' : sm (fun j => S.T a j * x j) N = S.T a N := by
      have : sm (fun j => S.T a j * x j) N / S.T a c * S.T a c = S.T a N / S.T a c * S.T a c := by rw [ha]
      grind
    intro i hi
    by_cases e : i = a
    · rw [e]; exact ha'
    · have := h i hi
      rw [eo i e, no i e, ha'] at this
      grind
  · intro h i hi
    by_cases e : i = a
    · rw [e, ea, na, h a l.lt]
    · rw [eo i e, no i e, h a l.lt, h i hi]
theorem piv_W (l : Lv m N S c a) {x : Nat → Rat} (hx : Sol m N S x) : W N (piv S a c) x = W N S x := by
  unfold W
  have e1 : (fun j => (piv S a c).r j * x j) = fun j => (S.r j - S.r c * (S.T a j / S.T a c)) * x j := rfl
  have e2 : (piv S a c).r N = S.r N - S.r c * (S.T a N / S.T a c) := rfl
  rw [e1, e2, row_lin, row_scl, hx a l.lt]
  grind
/-! ### values at the unknowns that stand for rows -/
def pl (B : Nat → Nat) (y : Nat → Rat) (m j : Nat) : Rat := sm (fun i => if B i = j then y i else 0) m
theorem sm_pl {N : Nat} (f y : Nat → Rat) (B : Nat → Nat) : ∀ {m : Nat}, (∀ i, i < m → B i < N) → sm (fun j => f j * pl B y m j) N = sm (fun i => f (B i) * y i) m
  | 0, _ => sm_zero fun j _ => by show f j * 0 = 0; grind
  | m + 1, h => by
    have e : (fun j => f j * pl B y (m + 1) j) = fun j => f j * pl B y m j + f j * (if B m = j then y m else 0) := by
      funext j
      show f j * (pl B y m j + _) = _
      grind
    rw [e, sm_add, sm_pl f y B fun i hi => h i (by omega), sm_one (i := B m) (h m (by omega)) fun j _ hne => by rw [if_neg (Ne.symm hne)]; grind]
    show _ = sm (fun i => f (B i) * y i) m + f (B m) * y m
    rw [if_pos rfl]
/-- the values that a table tells -/
def bs (m N : Nat) (S : Tb) : Nat → Rat := pl S.B (fun i => S.T i N) m
theorem Ok.row {m N : Nat} {S : Tb} (o : Ok m N S) (y : Nat → Rat) {i : Nat} (hi : i < m) : sm (fun k => S.T i (S.B k) * y k) m = y i := by
  rw [sm_one hi fun k hk hne => by rw [o.u0 i hi k hk (Ne.symm hne)]; grind, o.u1 i hi]
  grind
theorem Ok.last {m N : Nat} {S : Tb} (o : Ok m N S) (y : Nat → Rat) : sm (fun k => S.r (S.B k) * y k) m = 0 := sm_zero fun k hk => by rw [o.rz k hk]; grind
theorem bs_sol {m N : Nat} {S : Tb} (o : Ok m N S) : Sol m N S (bs m N S) := fun i hi => by
  unfold bs
  rw [sm_pl (fun j => S.T i j) _ _ o.bn, o.row _ hi]
theorem bs_W {m N : Nat} {S : Tb} (o : Ok m N S) : W N S (bs m N S) = - S.r N := by
  unfold W bs
  rw [sm_pl S.r _ _ o.bn, o.last]
  grind
/-! ### turns without an end -/
theorem hole : ∀ (M : Nat) (f : Nat → Nat), (∀ k, k ≤ M → f k < M) → ∃ p q, p < q ∧ q ≤ M ∧ f p = f q
  | 0, f, h => by have := h 0 (by omega); omega
  | M + 1, f, h => by
    -- what the last one is
    by_cases e : ∃ p, p ≤ M ∧ f p = f (M + 1)
    · obtain ⟨p, hp, e⟩ := e
      exact ⟨p, M + 1, by omega, by omega, e⟩
    · have ne : ∀ p, p ≤ M → f p ≠ f (M + 1) := fun p hp z => e ⟨p, hp, z⟩
      obtain ⟨p, q, h1, h2, h3⟩ := hole M (fun k => if f k = M then f (M + 1) else f k) (fun k hk => by
        have a := h k (by omega)
        have b := h (M + 1) (by omega)
        have c := ne k hk
        split <;> omega)
      refine ⟨p, q, h1, by omega, ?_⟩
      have np := ne p (by omega)
      have nq := ne q h2
      split at h3 <;> split at h3 <;> omega
/-- the unknowns that stand for rows, as one number -/
def code (N : Nat) (B : Nat → Nat) : Nat → Nat
  | 0 => 0
  | m + 1 => code N B m * N + B m
theorem code_lt {N : Nat} {B : Nat → Nat} : ∀ {m : Nat}, (∀ i, i < m → B i < N) → code N B m < N ^ m
  | 0, _ => by simp [code]
  | m + 1, h => by
    have a := code_lt (m := m) fun i hi => h i (by omega)
    have b := h m (by omega)
    show code N B m * N + B m < N ^ m * N
    have : (code N B m + 1) * N ≤ N ^ m * N := Nat.mul_le_mul_right N a
    rw [Nat.add_mul] at this
    omega
theorem code_inj {N : Nat} {B B' : Nat → Nat} : ∀ {m : Nat}, (∀ i, i < m → B i < N) → (∀ i, i < m → B' i < N) → code N B m = code N B' m → ∀ i, i < m → B i = B' i
  | 0, _, _, _, i, hi => by omega
  | m + 1, h, h', e, i, hi => by
    have b := h m (by omega)
    have b' := h' m (by omega)
    have e : code N B m * N + B m = code N B' m * N + B' m := e
    have e1 : B m = B' m := by
      have : (code N B m * N + B m) % N = (code N B' m * N + B' m) % N := by rw [e]
      rw [Nat.add_comm, Nat.add_mul_mod_self_right, Nat.mod_eq_of_lt b, Nat.add_comm, Nat.add_mul_mod_self_right, Nat.mod_eq_of_lt b'] at this
      exact this
    have e2 : code N B m = code N B' m := by
      have : code N B m * N = code N B' m * N := by omega
      exact Nat.eq_of_mul_eq_mul_right (by omega) this
    by_cases hm : i = m
    · rw [hm]; exact e1
    · exact code_inj (m := m) (fun i hi => h i (by omega)) (fun i hi => h' i (by omega)) e2 i (by omega)
theorem bland {m N : Nat} {S : Nat → Tb} {c a : Nat → Nat} (o : Ok m N (S 0)) (h : ∀ k, k < N ^ m → En N (S k) (c k) ∧ Lv m N (S k) (c k) (a k) ∧ S (k + 1) = piv (S k) (a k) (c k)) : False := by
  -- all are tables
  have ok : ∀ k, k ≤ N ^ m → Ok m N (S k) := fun k => by
    induction k with
    | zero => exact fun _ => o
    | succ k ih =>
      intro hk
      obtain ⟨e, l, q⟩ := h k (by omega)
      rw [q]
      exact piv_ok (ih (by omega)) e l
  -- one stands for the rows twice
  obtain ⟨p, q, hpq, hq, hc⟩ := hole (N ^ m) (fun k => code N (S k).B m) fun k hk => code_lt (ok k hk).bn
  have hB : ∀ i, i < m → (S p).B i = (S q).B i := code_inj (ok p (by omega)).bn (ok q hq).bn hc
  have st : ∀ k, p ≤ k → k < q → En N (S k) (c k) ∧ Lv m N (S k) (c k) (a k) ∧ S (k + 1) = piv (S k) (a k) (c k) := fun k _ hk => h k (by omega)
  -- solutions and what is won are the same
  have sol : ∀ k, p ≤ k → k ≤ q → ∀ x, Sol m N (S k) x ↔ Sol m N (S p) x := fun k h1 => by
    induction k with
    | zero => intro h2 x; rw [show p = 0 by omega]
    | succ k ih =>
      intro h2 x
      by_cases e : p = k + 1
      · rw [e]
      · obtain ⟨_, l, q'⟩ := st k (by omega) (by omega)
        rw [q', piv_sol l, ih (by omega) (by omega)]
  have won : ∀ k, p ≤ k → k ≤ q → ∀ x, Sol m N (S p) x → W N (S k) x = W N (S p) x := fun k h1 => by
    induction k with
    | zero => intro h2 x _; rw [show p = 0 by omega]
    | succ k ih =>
      intro h2 x hx
      by_cases e : p = k + 1
      · rw [e]
      · obtain ⟨_, l, q'⟩ := st k (by omega) (by omega)
        rw [q', piv_W l ((sol k (by omega) (by omega) x).mpr hx), ih (by omega) (by omega) x hx]
  have okp := ok p (by omega)
  have okq := ok q hq
  -- the right sides and what is won are as they were
  have xq := bs_sol okq
  have xq' := (sol q (by omega) (Nat.le_refl _) _).mp xq
  have rN : (S q).r N = (S p).r N := by
    have e1 := won q (by omega) (Nat.le_refl _) _ xq'
    rw [bs_W okq] at e1
    have e2 : W N (S p) (bs m N (S q)) = - (S p).r N := by
      unfold W bs
      rw [sm_pl (S p).r _ _ okq.bn, sm_zero fun k hk => by rw [← hB k hk, okp.rz k hk]; grind]
      grind
    rw [e2] at e1
    grind
  -- no turn wins
  have up : ∀ k, p ≤ k → k < q → (S k).r N ≤ (S (k + 1)).r N ∧ ((S k).r N = (S (k + 1)).r N → (S k).T (a k) N = 0) := fun k h1 h2 => by
    obtain ⟨e, l, q'⟩ := st k h1 h2
    have e3 : (S (k + 1)).r N = (S k).r N - (S k).r (c k) * ((S k).T (a k) N / (S k).T (a k) (c k)) := by rw [q']; rfl
    have f := (ok k (by omega)).fe (a k) l.lt
    have d := div_nn f l.pos
    have n := e.neg
    have pr := Rat.mul_nonneg (show 0 ≤ - (S k).r (c k) by grind) d
    refine ⟨by rw [e3]; grind, fun z => ?_⟩
    rw [e3] at z
    have z0 : (S k).r (c k) * ((S k).T (a k) N / (S k).T (a k) (c k)) = 0 := by grind
    have z1 : (S k).T (a k) N / (S k).T (a k) (c k) = 0 := by
      rcases Rat.mul_eq_zero.mp z0 with z | z
      · rw [z] at n; exact absurd n (by decide)
      · exact z
    have hp0 : (S k).T (a k) (c k) ≠ 0 := by have := l.pos; grind
    have : (S k).T (a k) N / (S k).T (a k) (c k) * (S k).T (a k) (c k) = 0 * (S k).T (a k) (c k) := by rw [z1]
    grind
  have mono : ∀ d k, p ≤ k → k + d ≤ q → (S k).r N ≤ (S (k + d)).r N := fun d => by
    induction d with
    | zero => intro k _ _; exact Rat.le_refl
    | succ d ih =>
      intro k h1 h2
      have := ih k h1 (by omega)
      have := (up (k + d) (by omega) (by omega)).1
      rw [show k + (d + 1) = k + d + 1 by omega]
      grind
  have flat : ∀ k, p ≤ k → k < q → (S k).T (a k) N = 0 := fun k h1 h2 => by
    refine (up k h1 h2).2 ?_
    have m1 := mono (k - p) p (Nat.le_refl _) (by omega)
    have m2 := mono (q - (k + 1)) (k + 1) (by omega) (by omega)
    have m3 := (up k h1 h2).1
    rw [show p + (k - p) = k by omega] at m1
    rw [show k + 1 + (q - (k + 1)) = q by omega, rN] at m2
    grind
  have cst : ∀ k, p ≤ k → k ≤ q → ∀ i, i < m → (S k).T i N = (S p).T i N := fun k h1 => by
    induction k with
    | zero => intro h2 i _; rw [show p = 0 by omega]
    | succ k ih =>
      intro h2 i hi
      by_cases e : p = k + 1
      · rw [e]
      · obtain ⟨_, l, q'⟩ := st k (by omega) (by omega)
        have z := flat k (by omega) (by omega)
        rw [← ih (by omega) (by omega) i hi, q']
        by_cases hia : i = a k
        · subst hia
          simp only [piv, if_true]
          rw [z]
          grind
        · simp only [piv, hia, if_false]
          rw [z]
          grind
  have nm : ∀ k, p ≤ k → k < q → ∀ i, (S (k + 1)).B i = if i = a k then c k else (S k).B i := fun k h1 h2 i => by
    obtain ⟨_, _, q'⟩ := st k h1 h2
    rw [q']
    rfl
  have stay : ∀ (v i : Nat), i < m → (∀ k, p ≤ k → k < q → (S k).B (a k) ≠ v) → ∀ d k, p ≤ k → k + d ≤ q → (S k).B i = v → (S (k + d)).B i = v := fun v i hi hl d => by
    induction d with
    | zero => exact fun k _ _ e => e
    | succ d ih =>
      intro k h1 h2 e
      have e1 := ih k h1 (by omega) e
      rw [show k + (d + 1) = k + d + 1 by omega, nm (k + d) (by omega) (by omega)]
      by_cases z : i = a (k + d)
      · exact absurd (z ▸ e1) (hl (k + d) (by omega) (by omega))
      · rw [if_neg z]; exact e1
  -- the greatest that enters
  have big : ∀ d, p + d < q → ∃ b, p ≤ b ∧ b ≤ p + d ∧ ∀ k, p ≤ k → k ≤ p + d → c k ≤ c b := fun d => by
    induction d with
    | zero => exact fun _ => ⟨p, by omega, by omega, fun k h1 h2 => by rw [show k = p by omega]; omega⟩
    | succ d ih =>
      intro hd
      obtain ⟨b, h1, h2, h3⟩ := ih (by omega)
      by_cases z : c (p + (d + 1)) ≤ c b
      · exact ⟨b, h1, by omega, fun k k1 k2 => by
          by_cases y : k ≤ p + d
          · exact h3 k k1 y
          · rw [show k = p + (d + 1) by omega]; exact z⟩
      · exact ⟨p + (d + 1), by omega, by omega, fun k k1 k2 => by
          by_cases y : k ≤ p + d
          · have := h3 k k1 y; omega
          · rw [show k = p + (d + 1) by omega]; omega⟩
  obtain ⟨b, b1, b2, b3⟩ := big (q - 1 - p) (by omega)
  have bq : b < q := by omega
  have top : ∀ k, p ≤ k → k < q → c k ≤ c b := fun k h1 h2 => b3 k h1 (by omega)
  obtain ⟨eb, lb, _⟩ := st b b1 bq
  have okb := ok b (by omega)
  -- it leaves
  have lv : ∃ e, p ≤ e ∧ e < q ∧ (S e).B (a e) = c b := by
    by_cases z : ∃ e, p ≤ e ∧ e < q ∧ (S e).B (a e) = c b
    · exact z
    · have hl : ∀ k, p ≤ k → k < q → (S k).B (a k) ≠ c b := fun k h1 h2 y => z ⟨k, h1, h2, y⟩
      have e1 : (S (b + 1)).B (a b) = c b := by rw [nm b b1 bq, if_pos rfl]
      have e2 := stay (c b) (a b) lb.lt hl (q - (b + 1)) (b + 1) (by omega) (by omega) e1
      rw [show b + 1 + (q - (b + 1)) = q by omega, ← hB _ lb.lt] at e2
      have e3 := stay (c b) (a b) lb.lt hl (b - p) p (by omega) (by omega) e2
      rw [show p + (b - p) = b by omega] at e3
      exact absurd e3 (okb.ne eb lb.lt)
  obtain ⟨e, e1, e2, e3⟩ := lv
  obtain ⟨ee, le, _⟩ := st e e1 e2
  have oke := ok e (by omega)
  have hs : c e < c b := by
    have h1 := top e e1 e2
    have h2 : c e ≠ c b := fun z => oke.ne ee le.lt (by rw [e3, z])
    omega
  have rs : 0 ≤ (S b).r (c e) := eb.low _ hs
  -- along the way of what enters
  have key : sm (fun i => (S b).r ((S e).B i) * (S e).T i (c e)) m = (S b).r (c e) - (S e).r (c e) := by
    have xs := bs_sol oke
    have yv : ∀ f : Nat → Rat, sm (fun j => f j * (bs m N (S e) j + (pl (S e).B (fun i => - (S e).T i (c e)) m j + if j = c e then 1 else 0))) N = sm (fun j => f j * bs m N (S e) j) N + (f (c e) - sm (fun i => f ((S e).B i) * (S e).T i (c e)) m) := fun f => by
      have q1 : (fun j => f j * (bs m N (S e) j + (pl (S e).B (fun i => - (S e).T i (c e)) m j + if j = c e then 1 else 0))) = fun j => f j * bs m N (S e) j + (f j * pl (S e).B (fun i => - (S e).T i (c e)) m j + f j * (if j = c e then 1 else 0)) := by funext j; grind
      rw [q1, sm_add, sm_add, sm_pl f _ _ oke.bn, sm_one (f := fun j => f j * (if j = c e then 1 else 0)) ee.lt fun j _ hne => by rw [if_neg hne]; grind, if_pos rfl]
      have q2 : (fun i => f ((S e).B i) * - (S e).T i (c e)) = fun i => (-1) * (f ((S e).B i) * (S e).T i (c e)) := by funext i; grind
      rw [q2, sm_mul]
      grind
    have ys : Sol m N (S e) (fun j => bs m N (S e) j + (pl (S e).B (fun i => - (S e).T i (c e)) m j + if j = c e then 1 else 0)) := fun i hi => by
      rw [yv, xs i hi, oke.row _ hi]
      grind
    have w1 := won b b1 (by omega) _ ((sol e e1 (by omega) _).mp ys)
    have w2 := won e e1 (by omega) _ ((sol e e1 (by omega) _).mp ys)
    have w3 := won b b1 (by omega) _ ((sol e e1 (by omega) _).mp xs)
    have w4 := won e e1 (by omega) _ ((sol e e1 (by omega) _).mp xs)
    unfold W at w1 w2 w3 w4
    rw [yv] at w1 w2
    have l0 := oke.last (fun i => (S e).T i (c e))
    rw [l0] at w2
    grind
  have pos : 0 < sm (fun i => (S b).r ((S e).B i) * (S e).T i (c e)) m := by
    rw [key]
    have := ee.neg
    grind
  obtain ⟨i, hi, hpi⟩ := sm_pos pos
  -- another one would have been chosen
  have hia : i ≠ a e := fun z => by
    subst z
    rw [e3] at hpi
    have n := eb.neg
    have po := le.pos
    have := Rat.mul_pos (show 0 < - (S b).r (c b) by grind) po
    grind
  have rv : (S b).r ((S e).B i) ≠ 0 := fun z => by rw [z] at hpi; grind
  have out : ∀ k, k < m → (S b).B k ≠ (S e).B i := fun k hk z => by
    have := okb.rz k hk
    rw [z] at this
    exact rv this
  -- its row is turned
  have rowT : ∃ g, p ≤ g ∧ g < q ∧ a g = i := by
    by_cases z : ∃ g, p ≤ g ∧ g < q ∧ a g = i
    · exact z
    · have fix : ∀ d k, p ≤ k → k + d ≤ q → (S (k + d)).B i = (S k).B i := fun d => by
        induction d with
        | zero => exact fun k _ _ => rfl
        | succ d ih =>
          intro k h1 h2
          rw [show k + (d + 1) = k + d + 1 by omega, nm (k + d) (by omega) (by omega), if_neg fun y => z ⟨k + d, by omega, by omega, y.symm⟩, ih k h1 (by omega)]
      have f1 := fix (b - p) p (by omega) (by omega)
      have f2 := fix (e - p) p (by omega) (by omega)
      rw [show p + (b - p) = b by omega] at f1
      rw [show p + (e - p) = e by omega] at f2
      exact absurd (f1.trans f2.symm) (out i hi)
  obtain ⟨g, g1, g2, g3⟩ := rowT
  have zi : (S e).T i N = 0 := by
    have := flat g g1 g2
    rw [g3] at this
    rw [cst e e1 (by omega) i hi, ← cst g g1 (by omega) i hi, this]
  have za := flat e e1 e2
  -- it enters, too
  have ent : ∃ f, p ≤ f ∧ f < q ∧ c f = (S e).B i := by
    by_cases z : ∃ f, p ≤ f ∧ f < q ∧ c f = (S e).B i
    · exact z
    · have nin : ∀ d k, p ≤ k → k + d ≤ q → (∀ x, x < m → (S k).B x ≠ (S e).B i) → ∀ x, x < m → (S (k + d)).B x ≠ (S e).B i := fun d => by
        induction d with
        | zero => exact fun k _ _ h => h
        | succ d ih =>
          intro k h1 h2 hx x hxm
          rw [show k + (d + 1) = k + d + 1 by omega, nm (k + d) (by omega) (by omega)]
          split
          · exact fun y => z ⟨k + d, by omega, by omega, y⟩
          · exact ih k h1 (by omega) hx x hxm
      have n1 := nin (q - b) b b1 (by omega) out
      rw [show b + (q - b) = q by omega] at n1
      have n2 := nin (e - p) p (by omega) (by omega) fun x hx => by rw [hB x hx]; exact n1 x hx
      rw [show p + (e - p) = e by omega] at n2
      exact absurd rfl (n2 i hi)
  obtain ⟨f, f1, f2, f3⟩ := ent
  have hv : (S e).B i < c b := by
    have h1 := top f f1 f2
    rw [f3] at h1
    have h2 : (S e).B i ≠ c b := fun z => hia (oke.inj hi le.lt (z.trans e3.symm))
    omega
  have rp := eb.low _ hv
  have ti : 0 < (S e).T i (c e) := by
    by_cases z : 0 < (S e).T i (c e)
    · exact z
    · have := Rat.mul_nonneg rp (show 0 ≤ - (S e).T i (c e) by grind)
      grind
  have := le.tie i hi ti (by rw [zi, za]; grind)
  rw [e3] at this
  omega
end
end Lp
end
section
set_option Elab.async false
set_option linter.all false
/-! Lp2: what the tables of shares are made of; how great the shares become. -/
namespace Lp
section
set_option Elab.async false
variable {m n N : Nat} {A : Nat → Nat → Rat} {r0 : Nat → Rat}
/-- the rows are made of the first rows, by what stands below the rows' own unknowns -/
structure Mk (m n N : Nat) (A : Nat → Nat → Rat) (r0 : Nat → Rat) (S : Tb) : Prop where
  t : ∀ i, i < m → ∀ j, j ≤ N → S.T i j = sm (fun k => S.T i (n + k) * A k j) m
  r : ∀ j, j ≤ N → S.r j = r0 j + sm (fun k => S.r (n + k) * A k j) m
theorem Mk.piv {S : Tb} {a c : Nat} (h : Mk m n N A r0 S) (l : Lv m N S c a) : Mk m n N A r0 (piv S a c) := by
  have ta := h.t a l.lt
  have lin : ∀ (f g : Nat → Rat) (k : Rat) (j : Nat), sm (fun x => (f x - k * g x) * A x j) m = sm (fun x => f x * A x j) m - k * sm (fun x => g x * A x j) m := fun f g k j => row_lin f g k (fun x => A x j) m
  have scl : ∀ (f : Nat → Rat) (k : Rat) (j : Nat), sm (fun x => f x / k * A x j) m = sm (fun x => f x * A x j) m / k := fun f k j => row_scl f k (fun x => A x j) m
  refine ⟨fun i hi j hj => ?_, fun j hj => ?_⟩
  · by_cases e : i = a
    · subst e
      have e1 : (fun k => (Lp.piv S i c).T i (n + k) * A k j) = fun k => S.T i (n + k) / S.T i c * A k j := by funext k; simp [Lp.piv]
      rw [e1, scl, ← ta j hj]
      simp [Lp.piv]
    · have e1 : (fun k => (Lp.piv S a c).T i (n + k) * A k j) = fun k => (S.T i (n + k) - S.T i c * (S.T a (n + k) / S.T a c)) * A k j := by funext k; simp [Lp.piv, e]
      rw [e1, lin, scl, ← ta j hj, ← h.t i hi j hj]
      simp [Lp.piv, e]
  · have e1 : (fun k => (Lp.piv S a c).r (n + k) * A k j) = fun k => (S.r (n + k) - S.r c * (S.T a (n + k) / S.T a c)) * A k j := rfl
    rw [e1, lin, scl, ← ta j hj]
    show S.r j - S.r c * (S.T a j / S.T a c) = _
    rw [h.r j hj]
    grind
end
/-! ### three rows at most -/
theorem inv_row {M1 M2 M3 c11 c12 c13 c21 c22 c23 c31 c32 c33 g1 g2 g3 : Rat} (e1 : M1 * c11 + M2 * c21 + M3 * c31 = g1) (e2 : M1 * c12 + M2 * c22 + M3 * c32 = g2) (e3 : M1 * c13 + M2 * c23 + M3 * c33 = g3) :
    (c11 * (c22 * c33 - c23 * c32) - c12 * (c21 * c33 - c23 * c31) + c13 * (c21 * c32 - c22 * c31)) * M1 = g1 * (c22 * c33 - c23 * c32) + g2 * (c23 * c31 - c21 * c33) + g3 * (c21 * c32 - c22 * c31) ∧
    (c11 * (c22 * c33 - c23 * c32) - c12 * (c21 * c33 - c23 * c31) + c13 * (c21 * c32 - c22 * c31)) * M2 = g1 * (c13 * c32 - c12 * c33) + g2 * (c11 * c33 - c13 * c31) + g3 * (c12 * c31 - c11 * c32) ∧
    (c11 * (c22 * c33 - c23 * c32) - c12 * (c21 * c33 - c23 * c31) + c13 * (c21 * c32 - c22 * c31)) * M3 = g1 * (c12 * c23 - c13 * c22) + g2 * (c13 * c21 - c11 * c23) + g3 * (c11 * c22 - c12 * c21) := by
  subst e1 e2 e3
  refine ⟨?_, ?_, ?_⟩ <;> grind
theorem det_ne {M11 M12 M13 M21 M22 M23 M31 M32 M33 c11 c12 c13 c21 c22 c23 c31 c32 c33 : Rat}
    (a1 : M11 * c11 + M12 * c21 + M13 * c31 = 1) (a2 : M11 * c12 + M12 * c22 + M13 * c32 = 0) (a3 : M11 * c13 + M12 * c23 + M13 * c33 = 0)
    (b1 : M21 * c11 + M22 * c21 + M23 * c31 = 0) (b2 : M21 * c12 + M22 * c22 + M23 * c32 = 1) (b3 : M21 * c13 + M22 * c23 + M23 * c33 = 0)
    (d1 : M31 * c11 + M32 * c21 + M33 * c31 = 0) (d2 : M31 * c12 + M32 * c22 + M33 * c32 = 0) (d3 : M31 * c13 + M32 * c23 + M33 * c33 = 1) :
    c11 * (c22 * c33 - c23 * c32) - c12 * (c21 * c33 - c23 * c31) + c13 * (c21 * c32 - c22 * c31) ≠ 0 := by
  intro z
  obtain ⟨x1, x2, x3⟩ := inv_row a1 a2 a3
  obtain ⟨y1, y2, y3⟩ := inv_row b1 b2 b3
  obtain ⟨z1, z2, z3⟩ := inv_row d1 d2 d3
  rw [z] at x1 x2 x3 y1 y2 y3 z1 z2 z3
  have m1 : c22 * c33 - c23 * c32 = 0 := by grind
  have m2 : c13 * c32 - c12 * c33 = 0 := by grind
  have m3 : c12 * c23 - c13 * c22 = 0 := by grind
  have m4 : c23 * c31 - c21 * c33 = 0 := by grind
  have m5 : c11 * c33 - c13 * c31 = 0 := by grind
  have m6 : c13 * c21 - c11 * c23 = 0 := by grind
  have m7 : c21 * c32 - c22 * c31 = 0 := by grind
  have m8 : c12 * c31 - c11 * c32 = 0 := by grind
  have m9 : c11 * c22 - c12 * c21 = 0 := by grind
  have e : (M11 * c11 + M12 * c21 + M13 * c31) * (M21 * c12 + M22 * c22 + M23 * c32) - (M11 * c12 + M12 * c22 + M13 * c32) * (M21 * c11 + M22 * c21 + M23 * c31) = (M11 * M22 - M12 * M21) * (c11 * c22 - c12 * c21) + (M11 * M23 - M13 * M21) * (c11 * c32 - c12 * c31) + (M12 * M23 - M13 * M22) * (c21 * c32 - c22 * c31) := by grind
  rw [a1, a2, b1, b2, m9, m7, show c11 * c32 - c12 * c31 = 0 by grind] at e
  grind
/-! ### shares whose multiples are whole -/
theorem whole_bd {q : Rat} {d z : Int} (hd : d ≠ 0) (h : (d : Rat) * q = (z : Rat)) : q.den ≤ d.natAbs ∧ q.num.natAbs ≤ z.natAbs := by
  have e : d * q.num = z * (q.den : Int) := by
    have hq : q = (q.num : Rat) / (q.den : Rat) := by rw [← Rat.mkRat_eq_div, Rat.mkRat_self]
    have hn : ((q.den : Nat) : Rat) ≠ 0 := by
      have := q.den_nz
      exact_mod_cast this
    have : (d : Rat) * (q.num : Rat) = (z : Rat) * (q.den : Rat) := by
      rw [← h]
      have : (q.num : Rat) = q * (q.den : Rat) := by grind
      rw [this]
      grind
    exact_mod_cast this
  have co := q.reduced
  have en : d.natAbs * q.num.natAbs = z.natAbs * q.den := by
    have := congrArg Int.natAbs e
    rwa [Int.natAbs_mul, Int.natAbs_mul, Int.natAbs_natCast] at this
  have dv : q.den ∣ d.natAbs := by
    have : q.den ∣ d.natAbs * q.num.natAbs := ⟨z.natAbs, by rw [en, Nat.mul_comm]⟩
    exact Nat.Coprime.dvd_of_dvd_mul_right co.symm this
  have dp : 0 < d.natAbs := by omega
  have le := Nat.le_of_dvd dp dv
  refine ⟨le, ?_⟩
  have dn : 0 < q.den := q.den_pos
  have : d.natAbs * q.num.natAbs ≤ z.natAbs * d.natAbs := by
    rw [en]
    exact Nat.mul_le_mul_left _ le
  rw [Nat.mul_comm] at this
  exact Nat.le_of_mul_le_mul_right this dp
end Lp
end
section
set_option Elab.async false
set_option linter.all false
/-! Lp3: how great the shares of a table of up to three rows become. -/
namespace Lp
theorem bmul {a b : Int} {A B : Nat} (ha : a.natAbs ≤ A) (hb : b.natAbs ≤ B) : (a * b).natAbs ≤ A * B := by
  rw [Int.natAbs_mul]
  exact Nat.mul_le_mul ha hb
theorem badd {a b : Int} {A B : Nat} (ha : a.natAbs ≤ A) (hb : b.natAbs ≤ B) : (a + b).natAbs ≤ A + B := by omega
theorem bsub {a b : Int} {A B : Nat} (ha : a.natAbs ≤ A) (hb : b.natAbs ≤ B) : (a - b).natAbs ≤ A + B := by omega
def det3 (c : Nat → Nat → Int) : Int := c 0 0 * (c 1 1 * c 2 2 - c 1 2 * c 2 1) - c 0 1 * (c 1 0 * c 2 2 - c 1 2 * c 2 0) + c 0 2 * (c 1 0 * c 2 1 - c 1 1 * c 2 0)
theorem solve3 {c : Nat → Nat → Int} {K : Nat} (hc : ∀ i k, (c i k).natAbs ≤ K) {x : Nat → Rat} {g : Nat → Int} {G : Nat} (hg : ∀ l, (g l).natAbs ≤ G)
    (e : ∀ l, l < 3 → x 0 * (c 0 l : Rat) + x 1 * (c 1 l : Rat) + x 2 * (c 2 l : Rat) = (g l : Rat)) : ∀ k, k < 3 → ∃ z : Int, (det3 c : Rat) * x k = (z : Rat) ∧ z.natAbs ≤ 6 * (G * (K * K)) := by
  obtain ⟨h0, h1, h2⟩ := inv_row (e 0 (by omega)) (e 1 (by omega)) (e 2 (by omega))
  have mn : ∀ a b p q : Int, a.natAbs ≤ K → b.natAbs ≤ K → p.natAbs ≤ K → q.natAbs ≤ K → (a * b - p * q).natAbs ≤ K * K + K * K := fun a b p q ha hb hp hq => bsub (bmul ha hb) (bmul hp hq)
  have bd : ∀ u v w : Int, u.natAbs ≤ K * K + K * K → v.natAbs ≤ K * K + K * K → w.natAbs ≤ K * K + K * K → (g 0 * u + g 1 * v + g 2 * w).natAbs ≤ 6 * (G * (K * K)) := fun u v w hu hv hw => by
    have := badd (badd (bmul (hg 0) hu) (bmul (hg 1) hv)) (bmul (hg 2) hw)
    have e : G * (K * K + K * K) = 2 * (G * (K * K)) := by rw [Nat.mul_add]; omega
    rw [e] at this
    omega
  have dc : (det3 c : Rat) = ((c 0 0 : Int) : Rat) * ((c 1 1 : Rat) * (c 2 2 : Rat) - (c 1 2 : Rat) * (c 2 1 : Rat)) - (c 0 1 : Rat) * ((c 1 0 : Rat) * (c 2 2 : Rat) - (c 1 2 : Rat) * (c 2 0 : Rat)) + (c 0 2 : Rat) * ((c 1 0 : Rat) * (c 2 1 : Rat) - (c 1 1 : Rat) * (c 2 0 : Rat)) := by
    unfold det3
    push_cast
    rfl
  intro k hk
  have : k = 0 ∨ k = 1 ∨ k = 2 := by omega
  rcases this with rfl | rfl | rfl
  · refine ⟨g 0 * (c 1 1 * c 2 2 - c 1 2 * c 2 1) + g 1 * (c 1 2 * c 2 0 - c 1 0 * c 2 2) + g 2 * (c 1 0 * c 2 1 - c 1 1 * c 2 0), ?_, bd _ _ _ (mn _ _ _ _ (hc _ _) (hc _ _) (hc _ _) (hc _ _)) (mn _ _ _ _ (hc _ _) (hc _ _) (hc _ _) (hc _ _)) (mn _ _ _ _ (hc _ _) (hc _ _) (hc _ _) (hc _ _))⟩
    push_cast
    rw [dc]
    exact h0
  · refine ⟨g 0 * (c 0 2 * c 2 1 - c 0 1 * c 2 2) + g 1 * (c 0 0 * c 2 2 - c 0 2 * c 2 0) + g 2 * (c 0 1 * c 2 0 - c 0 0 * c 2 1), ?_, bd _ _ _ (mn _ _ _ _ (hc _ _) (hc _ _) (hc _ _) (hc _ _)) (mn _ _ _ _ (hc _ _) (hc _ _) (hc _ _) (hc _ _)) (mn _ _ _ _ (hc _ _) (hc _ _) (hc _ _) (hc _ _))⟩
    push_cast
    rw [dc]
    exact h1
  · refine ⟨g 0 * (c 0 1 * c 1 2 - c 0 2 * c 1 1) + g 1 * (c 0 2 * c 1 0 - c 0 0 * c 1 2) + g 2 * (c 0 0 * c 1 1 - c 0 1 * c 1 0), ?_, bd _ _ _ (mn _ _ _ _ (hc _ _) (hc _ _) (hc _ _) (hc _ _)) (mn _ _ _ _ (hc _ _) (hc _ _) (hc _ _) (hc _ _)) (mn _ _ _ _ (hc _ _) (hc _ _) (hc _ _) (hc _ _))⟩
    push_cast
    rw [dc]
    exact h2
theorem det3_bd {c : Nat → Nat → Int} {K : Nat} (hc : ∀ i k, (c i k).natAbs ≤ K) : (det3 c).natAbs ≤ 6 * (K * (K * K)) := by
  have mn : ∀ a b p q : Int, a.natAbs ≤ K → b.natAbs ≤ K → p.natAbs ≤ K → q.natAbs ≤ K → (a * b - p * q).natAbs ≤ K * K + K * K := fun a b p q ha hb hp hq => bsub (bmul ha hb) (bmul hp hq)
  have := badd (bsub (bmul (hc 0 0) (mn _ _ _ _ (hc 1 1) (hc 2 2) (hc 1 2) (hc 2 1))) (bmul (hc 0 1) (mn _ _ _ _ (hc 1 0) (hc 2 2) (hc 1 2) (hc 2 0)))) (bmul (hc 0 2) (mn _ _ _ _ (hc 1 0) (hc 2 1) (hc 1 1) (hc 2 0)))
  have e : K * (K * K + K * K) = 2 * (K * (K * K)) := by rw [Nat.mul_add]; omega
  rw [e] at this
  unfold det3
  omega
theorem det3_ne {c : Nat → Nat → Int} {M : Nat → Nat → Rat} (h : ∀ i, i < 3 → ∀ k, k < 3 → M i 0 * (c 0 k : Rat) + M i 1 * (c 1 k : Rat) + M i 2 * (c 2 k : Rat) = if i = k then 1 else 0) : det3 c ≠ 0 := by
  have := det_ne (h 0 (by omega) 0 (by omega)) (h 0 (by omega) 1 (by omega)) (h 0 (by omega) 2 (by omega)) (h 1 (by omega) 0 (by omega)) (h 1 (by omega) 1 (by omega)) (h 1 (by omega) 2 (by omega)) (h 2 (by omega) 0 (by omega)) (h 2 (by omega) 1 (by omega)) (h 2 (by omega) 2 (by omega))
  intro z
  apply this
  have : (det3 c : Rat) = 0 := by rw [z]; rfl
  unfold det3 at this
  push_cast at this
  exact this
section
set_option Elab.async false
variable {m n N : Nat} {Az : Nat → Nat → Int} {rz : Nat → Int} {S : Tb}
/-- the columns of the unknowns that stand for rows, filled up to three -/
def cP (m : Nat) (Az : Nat → Nat → Int) (B : Nat → Nat) : Nat → Nat → Int := fun i k => if i < m ∧ k < m then Az i (B k) else if i = k then 1 else 0
theorem sum3 {m : Nat} (hm : m ≤ 3) (f : Nat → Rat) : sm f m = (if 0 < m then f 0 else 0) + (if 1 < m then f 1 else 0) + (if 2 < m then f 2 else 0) := by
  have : m = 0 ∨ m = 1 ∨ m = 2 ∨ m = 3 := by omega
  rcases this with rfl | rfl | rfl | rfl <;> simp only [sm] <;> simp <;> grind
theorem cP_bd {K : Nat} (hK : 1 ≤ K) (hA : ∀ k, k < m → ∀ j, j < N → (Az k j).natAbs ≤ K) {B : Nat → Nat} (hB : ∀ i, i < m → B i < N) : ∀ i k, (cP m Az B i k).natAbs ≤ K := fun i k => by
  unfold cP
  split
  · rename_i h
    exact hA i h.1 _ (hB k h.2)
  · split
    · exact hK
    · simp
theorem cP_row (hm : m ≤ 3) {B : Nat → Nat} {x : Nat → Rat} {g : Nat → Int} (e : ∀ l, l < m → sm (fun k => x k * (Az k (B l) : Rat)) m = (g l : Rat)) : ∀ l, l < 3 →
    (if 0 < m then x 0 else 0) * (cP m Az B 0 l : Rat) + (if 1 < m then x 1 else 0) * (cP m Az B 1 l : Rat) + (if 2 < m then x 2 else 0) * (cP m Az B 2 l : Rat) = ((if l < m then g l else 0 : Int) : Rat) := fun l hl => by
  by_cases h : l < m
  · rw [if_pos h, ← e l h, sum3 hm]
    have t : ∀ k, k < 3 → (if k < m then x k else 0) * (cP m Az B k l : Rat) = if k < m then x k * (Az k (B l) : Rat) else 0 := fun k _ => by
      by_cases hk : k < m
      · rw [if_pos hk, if_pos hk]
        unfold cP
        rw [if_pos ⟨hk, h⟩]
      · rw [if_neg hk, if_neg hk]
        grind
    rw [t 0 (by omega), t 1 (by omega), t 2 (by omega)]
  · rw [if_neg h]
    have t : ∀ k, (if k < m then x k else 0) * (cP m Az B k l : Rat) = 0 := fun k => by
      by_cases hk : k < m
      · have : cP m Az B k l = 0 := by
          unfold cP
          rw [if_neg (by omega), if_neg (by omega)]
        rw [this]
        show _ * ((0 : Int) : Rat) = 0
        grind
      · rw [if_neg hk]
        grind
    rw [t 0, t 1, t 2]
    show (0 : Rat) + 0 + 0 = ((0 : Int) : Rat)
    grind
theorem det_tab (hm : m ≤ 3) (hN : N = n + m) (o : Ok m N S) (mk : Mk m n N (fun k j => (Az k j : Rat)) (fun j => (rz j : Rat)) S) : det3 (cP m Az S.B) ≠ 0 := by
  refine det3_ne (M := fun i k => if i < m then (if k < m then S.T i (n + k) else 0) else if i = k then 1 else 0) fun i hi k hk => ?_
  by_cases him : i < m
  · simp only [him, if_true]
    have e := cP_row (Az := Az) hm (B := S.B) (x := fun k => S.T i (n + k)) (g := fun l => if i = l then 1 else 0) (fun l hl => by
      have := mk.t i him (S.B l) (by have := o.bn l hl; omega)
      rw [← this]
      by_cases z : i = l
      · subst z
        rw [o.u1 i him, if_pos rfl]
        rfl
      · rw [o.u0 i him l hl z, if_neg z]
        rfl) k hk
    rw [e]
    by_cases hkm : k < m
    · rw [if_pos hkm]
      by_cases z : i = k
      · rw [if_pos z, if_pos z]; rfl
      · rw [if_neg z, if_neg z]; rfl
    · rw [if_neg hkm, if_neg (by omega)]
      rfl
  · simp only [him, if_false]
    have cz : ∀ l, cP m Az S.B i l = if i = l then 1 else 0 := fun l => by
      unfold cP
      rw [if_neg (by omega)]
    have h1 : i = 0 ∨ i = 1 ∨ i = 2 := by omega
    have h2 : k = 0 ∨ k = 1 ∨ k = 2 := by omega
    rcases h1 with rfl | rfl | rfl <;> rcases h2 with rfl | rfl | rfl <;> simp [cz] <;> grind
theorem tab_bd (hm : m ≤ 3) (hN : N = n + m) (o : Ok m N S) (mk : Mk m n N (fun k j => (Az k j : Rat)) (fun j => (rz j : Rat)) S) {K H R : Nat} (hK : 1 ≤ K) (hKH : K ≤ H) (hA : ∀ k, k < m → ∀ j, j < N → (Az k j).natAbs ≤ K) (hH : ∀ k, k < m → (Az k N).natAbs ≤ H) (hR : ∀ j, j ≤ N → (rz j).natAbs ≤ R) :
    (∀ i, i < m → ∀ j, j ≤ N → (S.T i j).den ≤ 6 * (K * (K * K)) ∧ (S.T i j).num.natAbs ≤ 18 * (K * K * H)) ∧ ∀ j, j ≤ N → (S.r j).den ≤ 6 * (K * (K * K)) ∧ (S.r j).num.natAbs ≤ 6 * (K * (K * K)) * R + 18 * (R * (K * K) * H) := by
  have dn := det_tab hm hN o mk
  have cb := cP_bd (m := m) (N := N) (Az := Az) hK hA o.bn
  have db := det3_bd cb
  have hAH : ∀ k, k < m → ∀ j, j ≤ N → (Az k j).natAbs ≤ H := fun k hk j hj => by
    by_cases z : j = N
    · rw [z]; exact hH k hk
    · exact Nat.le_trans (hA k hk j (by omega)) hKH
  -- a combination of the first rows
  have comb : ∀ (x : Nat → Rat) (Z : Nat), (∀ k, k < m → ∃ z : Int, (det3 (cP m Az S.B) : Rat) * x k = (z : Rat) ∧ z.natAbs ≤ Z) → ∀ j, j ≤ N → ∃ z : Int, (det3 (cP m Az S.B) : Rat) * sm (fun k => x k * (Az k j : Rat)) m = (z : Rat) ∧ z.natAbs ≤ 3 * (Z * H) := fun x Z hx j hj => by
    rw [← sm_mul]
    have : ∀ mm, mm ≤ m → ∃ z : Int, sm (fun k => (det3 (cP m Az S.B) : Rat) * (x k * (Az k j : Rat))) mm = (z : Rat) ∧ z.natAbs ≤ mm * (Z * H) := fun mm => by
      induction mm with
      | zero => exact fun _ => ⟨0, rfl, by simp⟩
      | succ mm ih =>
        intro h
        obtain ⟨z, e, b⟩ := ih (by omega)
        obtain ⟨y, ey, by_⟩ := hx mm (by omega)
        refine ⟨z + y * Az mm j, ?_, ?_⟩
        · show sm _ mm + _ = _
          rw [e]
          push_cast
          rw [← ey]
          grind
        · have := badd b (bmul by_ (hAH mm (by omega) j hj))
          rw [Nat.add_mul]
          omega
    obtain ⟨z, e, b⟩ := this m (Nat.le_refl _)
    exact ⟨z, e, Nat.le_trans b (Nat.mul_le_mul_right _ hm)⟩
  have ext : ∀ (x : Nat → Rat) (g : Nat → Int) (G : Nat), (∀ l, (g l).natAbs ≤ G) → (∀ l, l < m → sm (fun k => x k * (Az k (S.B l) : Rat)) m = (g l : Rat)) → ∀ k, k < m → ∃ z : Int, (det3 (cP m Az S.B) : Rat) * x k = (z : Rat) ∧ z.natAbs ≤ 6 * (G * (K * K)) := fun x g G hg e k hk => by
    have e3 := cP_row (Az := Az) hm (B := S.B) e
    have hg' : ∀ l, ((if l < m then g l else 0 : Int)).natAbs ≤ G := fun l => by
      split
      · exact hg l
      · simp
    have := solve3 (c := cP m Az S.B) cb (x := fun k => if k < m then x k else 0) (g := fun l => if l < m then g l else 0) (G := G) hg' e3 k (by omega)
    simp only [hk, if_true] at this
    exact this
  refine ⟨fun i hi j hj => ?_, fun j hj => ?_⟩
  · have hx := ext (fun k => S.T i (n + k)) (fun l => if i = l then 1 else 0) 1 (fun l => by split <;> simp) (fun l hl => by
      rw [← mk.t i hi (S.B l) (by have := o.bn l hl; omega)]
      by_cases z : i = l
      · subst z
        rw [o.u1 i hi, if_pos rfl]
        rfl
      · rw [o.u0 i hi l hl z, if_neg z]
        rfl)
    obtain ⟨z, e, b⟩ := comb _ _ hx j hj
    rw [← mk.t i hi j hj] at e
    obtain ⟨b1, b2⟩ := whole_bd dn e
    refine ⟨Nat.le_trans b1 db, Nat.le_trans b2 (Nat.le_trans b ?_)⟩
    rw [Nat.one_mul]
    have : 6 * (K * K) * H = 6 * (K * K * H) := by rw [Nat.mul_assoc]
    rw [this]
    omega
  · have hx := ext (fun k => S.r (n + k)) (fun l => if l < m then - rz (S.B l) else 0) R (fun l => by
      split
      · rename_i h
        rw [Int.natAbs_neg]
        exact hR _ (by have := o.bn l h; omega)
      · simp) (fun l hl => by
      have := mk.r (S.B l) (by have := o.bn l hl; omega)
      rw [o.rz l hl] at this
      rw [if_pos hl]
      push_cast
      grind)
    obtain ⟨z, e, b⟩ := comb _ _ hx j hj
    have er : (det3 (cP m Az S.B) : Rat) * S.r j = ((det3 (cP m Az S.B) * rz j + z : Int) : Rat) := by
      rw [mk.r j hj]
      push_cast
      rw [← e]
      grind
    obtain ⟨b1, b2⟩ := whole_bd dn er
    refine ⟨Nat.le_trans b1 db, Nat.le_trans b2 (Nat.le_trans (badd (bmul db (hR j hj)) b) ?_)⟩
    have : 6 * (R * (K * K)) * H = 6 * (R * (K * K) * H) := by rw [Nat.mul_assoc]
    rw [this]
    omega
end
end Lp
end
section
set_option Elab.async false
set_option linter.all false
/-! Lp4: tables as lists; how they end. -/
namespace Lp
structure Lt where
  rows : List (List Rat)
  last : List Rat
  names : List Nat
def ga (l : List Rat) (j : Nat) : Rat := l.getD j 0
def tb (L : Lt) : Tb := ⟨fun i j => ga (L.rows.getD i []) j, fun j => ga L.last j, fun i => L.names.getD i 0⟩
structure Wf (m N : Nat) (L : Lt) : Prop where
  r : L.rows.length = m
  w : ∀ row ∈ L.rows, row.length = N + 1
  l : L.last.length = N + 1
  n : L.names.length = m
def clr (row head : List Rat) (c : Nat) : List Rat := (row.zip head).map fun p => p.1 - ga row c * p.2
def hdL (L : Lt) (a c : Nat) : List Rat := (L.rows.getD a []).map fun x => x / ga (L.rows.getD a []) c
def pvL (L : Lt) (a c : Nat) : Lt := ⟨(L.rows.zipIdx 0).map fun p => if p.2 = a then hdL L a c else clr p.1 (hdL L a c) c, clr L.last (hdL L a c) c, L.names.set a c⟩
def enL (last : List Rat) : Option Nat := (List.range (last.length - 1)).find? fun j => decide (ga last j < 0)
/-- the row that bounds first -/
def lvF (c : Nat) (names : List Nat) : Nat → List (List Rat) → Option (Rat × Nat × Nat) → Option (Rat × Nat × Nat)
  | _, [], f => f
  | i, row :: rest, f =>
    if 0 < ga row c then
      (match f with
      | none => lvF c names (i + 1) rest (some (ga row (row.length - 1) / ga row c, names.getD i 0, i))
      | some (q, v, k) => if ga row (row.length - 1) / ga row c < q ∨ (ga row (row.length - 1) / ga row c = q ∧ names.getD i 0 < v) then lvF c names (i + 1) rest (some (ga row (row.length - 1) / ga row c, names.getD i 0, i)) else lvF c names (i + 1) rest (some (q, v, k)))
    else lvF c names (i + 1) rest f
def lvL (L : Lt) (c : Nat) : Option Nat := (lvF c L.names 0 L.rows none).map fun p => p.2.2
theorem ga_out {l : List Rat} {j : Nat} (h : l.length ≤ j) : ga l j = 0 := by
  unfold ga
  rw [List.getD_eq_getElem?_getD, List.getElem?_eq_none h]
  rfl
theorem ga_map {l : List Rat} (f : Rat → Rat) (h0 : f 0 = 0) (j : Nat) : ga (l.map f) j = f (ga l j) := by
  unfold ga
  rw [List.getD_eq_getElem?_getD, List.getD_eq_getElem?_getD, List.getElem?_map]
  cases l[j]? with
  | none => exact h0.symm
  | some x => rfl
theorem ga_clr {row head : List Rat} (hl : row.length = head.length) (c j : Nat) : ga (clr row head c) j = ga row j - ga row c * ga head j := by
  unfold clr
  by_cases h : j < row.length
  · have h2 : j < head.length := by omega
    have hz : (row.zip head)[j]? = some (row[j], head[j]) := by
      rw [List.getElem?_zip_eq_some]
      exact ⟨List.getElem?_eq_getElem h, List.getElem?_eq_getElem h2⟩
    unfold ga
    simp [List.getD_eq_getElem?_getD, h, h2, hz]
  · rw [ga_out (l := row) (j := j) (by omega), ga_out (l := head) (j := j) (by omega), ga_out (by simp; omega)]
    grind
section
set_option Elab.async false
variable {m N : Nat} {L : Lt}
theorem Wf.row (w : Wf m N L) {i : Nat} (hi : i < m) : (L.rows.getD i []).length = N + 1 := by
  have : i < L.rows.length := by rw [w.r]; exact hi
  rw [List.getD_eq_getElem?_getD, List.getElem?_eq_getElem this]
  exact w.w _ (List.getElem_mem this)
theorem Wf.hd (w : Wf m N L) {a : Nat} (ha : a < m) (c : Nat) : (hdL L a c).length = N + 1 := by
  unfold hdL
  rw [List.length_map, w.row ha]
theorem ga_hd (L : Lt) (a c j : Nat) : ga (hdL L a c) j = (tb L).T a j / (tb L).T a c := by
  unfold hdL
  rw [ga_map _ (by show (0 : Rat) / _ = 0; grind)]
  rfl
theorem pv_row (w : Wf m N L) {a : Nat} (c : Nat) {i : Nat} (hi : i < m) : (pvL L a c).rows.getD i [] = if i = a then hdL L a c else clr (L.rows.getD i []) (hdL L a c) c := by
  have : i < L.rows.length := by rw [w.r]; exact hi
  unfold pvL
  simp [List.getD_eq_getElem?_getD, this]
theorem pv_wf (w : Wf m N L) {a : Nat} (ha : a < m) (c : Nat) : Wf m N (pvL L a c) := by
  have hh := w.hd ha c
  refine ⟨by simp [pvL, w.r], fun row hr => ?_, ?_, by simp [pvL, w.n]⟩
  · obtain ⟨i, hi, e⟩ := List.mem_iff_getElem.mp hr
    have him : i < m := by simpa [pvL, w.r] using hi
    have := pv_row w (a := a) c him
    rw [List.getD_eq_getElem?_getD, List.getElem?_eq_getElem hi] at this
    rw [← e]
    have this : (pvL L a c).rows[i] = _ := this
    rw [this]
    split
    · exact hh
    · unfold clr
      rw [List.length_map, List.length_zip, w.row him, hh]
      omega
  · show (clr L.last (hdL L a c) c).length = N + 1
    unfold clr
    rw [List.length_map, List.length_zip, w.l, hh]
    omega
theorem tb_pv (w : Wf m N L) {a : Nat} (ha : a < m) (c : Nat) : tb (pvL L a c) = piv (tb L) a c := by
  have hh := w.hd ha c
  have e1 : (tb (pvL L a c)).T = (piv (tb L) a c).T := by
    funext i j
    by_cases hi : i < m
    · show ga ((pvL L a c).rows.getD i []) j = _
      rw [pv_row w c hi]
      by_cases e : i = a
      · rw [if_pos e, ga_hd]
        simp [piv, e]
      · rw [if_neg e, ga_clr (by rw [w.row hi, hh]), ga_hd]
        simp only [piv, e, if_false]
        rfl
    · have e0 : ∀ j, (tb L).T i j = 0 := fun j => by
        show ga (L.rows.getD i []) j = 0
        rw [List.getD_eq_getElem?_getD, List.getElem?_eq_none (by rw [w.r]; omega)]
        exact ga_out (by simp)
      have e1 : (tb (pvL L a c)).T i j = 0 := by
        show ga ((pvL L a c).rows.getD i []) j = 0
        rw [List.getD_eq_getElem?_getD, List.getElem?_eq_none (by rw [(pv_wf w ha c).r]; omega)]
        exact ga_out (by simp)
      rw [e1]
      have : i ≠ a := by omega
      simp only [piv, this, if_false]
      rw [e0, e0]
      grind
  have e2 : (tb (pvL L a c)).r = (piv (tb L) a c).r := by
    funext j
    show ga (clr L.last (hdL L a c) c) j = _
    rw [ga_clr (by rw [w.l, hh]), ga_hd]
    rfl
  have e3 : (tb (pvL L a c)).B = (piv (tb L) a c).B := by
    funext i
    show (L.names.set a c).getD i 0 = if i = a then c else L.names.getD i 0
    by_cases e : i = a
    · subst e
      have : i < L.names.length := by rw [w.n]; exact ha
      simp [List.getD_eq_getElem?_getD, this]
    · rw [if_neg e]
      simp [List.getD_eq_getElem?_getD, List.getElem?_set_ne (Ne.symm e)]
  cases h1 : tb (pvL L a c)
  cases h2 : piv (tb L) a c
  rw [h1, h2] at e1 e2 e3
  simp only at e1 e2 e3
  rw [e1, e2, e3]
theorem en_some (w : Wf m N L) {c : Nat} (h : enL L.last = some c) : En N (tb L) c := by
  unfold enL at h
  rw [w.l, Nat.add_sub_cancel] at h
  have h1 := List.find?_some h
  have h2 := List.mem_range.mp (List.mem_of_find?_eq_some h)
  refine ⟨h2, of_decide_eq_true h1, fun j hj => ?_⟩
  obtain ⟨_, as, bs, e, hn⟩ := List.find?_eq_some_iff_append.mp h
  have hm : j ∈ as := by
    have hr : List.range N = as ++ c :: bs := e
    have hl : as.length = c := by
      have : (List.range N)[as.length]? = some c := by rw [hr]; simp
      rw [List.getElem?_eq_some_iff] at this
      obtain ⟨hx, hy⟩ := this
      simpa using hy
    have hj' : (List.range N)[j]? = as[j]? := by rw [hr, List.getElem?_append_left (by omega)]
    rw [List.getElem?_range (by omega)] at hj'
    exact List.mem_of_getElem? hj'.symm
  have := hn j hm
  have : ¬ ga L.last j < 0 := by simpa using this
  show 0 ≤ ga L.last j
  grind
theorem en_none (w : Wf m N L) (h : enL L.last = none) : ∀ j, j < N → 0 ≤ (tb L).r j := fun j hj => by
  unfold enL at h
  rw [w.l, Nat.add_sub_cancel] at h
  have := List.find?_eq_none.mp h j (List.mem_range.mpr hj)
  have : ¬ ga L.last j < 0 := by simpa using this
  show 0 ≤ ga L.last j
  grind
/-- what is known of the row found so far -/
def Fd (N : Nat) (S : Tb) (c k : Nat) : Option (Rat × Nat × Nat) → Prop
  | none => ∀ i, i < k → ¬ 0 < S.T i c
  | some (q, v, a) => a < k ∧ 0 < S.T a c ∧ q = S.T a N / S.T a c ∧ v = S.B a ∧ ∀ i, i < k → 0 < S.T i c → q ≤ S.T i N / S.T i c ∧ (q = S.T i N / S.T i c → v ≤ S.B i)
theorem lvF_ok (w : Wf m N L) (c : Nat) : ∀ (rest : List (List Rat)) (k : Nat) (f : Option (Rat × Nat × Nat)), L.rows.drop k = rest → k + rest.length = m → Fd N (tb L) c k f → Fd N (tb L) c m (lvF c L.names k rest f)
  | [], k, f, _, hk, h => by
    have : k = m := by simpa using hk
    subst this
    exact h
  | row :: rest, k, f, hd, hk, h => by
    have hkm : k < m := by simp at hk; omega
    have hkl : k < L.rows.length := by rw [w.r]; exact hkm
    have er : L.rows.getD k [] = row := by
      have : L.rows[k]? = some row := by
        have := congrArg (fun l => l[0]?) hd
        simpa using this
      rw [List.getD_eq_getElem?_getD, this]
      rfl
    have hd' : L.rows.drop (k + 1) = rest := by
      have := congrArg List.tail hd
      simpa using this
    have rl : row.length - 1 = N := by
      have := w.row hkm
      rw [er] at this
      omega
    have tc : (tb L).T k c = ga row c := by show ga (L.rows.getD k []) c = _; rw [er]
    have tn : (tb L).T k N = ga row N := by show ga (L.rows.getD k []) N = _; rw [er]
    have bk : (tb L).B k = L.names.getD k 0 := rfl
    have nxt : ∀ f', Fd N (tb L) c (k + 1) f' → Fd N (tb L) c m (lvF c L.names (k + 1) rest f') := fun f' hf => lvF_ok w c rest (k + 1) f' hd' (by simp at hk; omega) hf
    unfold lvF
    rw [rl]
    by_cases hp : 0 < ga row c
    · rw [if_pos hp]
      cases f with
      | none =>
        refine nxt _ ⟨by omega, by rw [tc]; exact hp, by rw [tc, tn], by rw [bk], fun i hi hpi => ?_⟩
        by_cases e : i = k
        · subst e
          rw [tc, tn, bk]
          exact ⟨Rat.le_refl, fun _ => Nat.le_refl _⟩
        · exact absurd hpi (h i (by omega))
      | some p =>
        obtain ⟨q, v, a⟩ := p
        obtain ⟨h1, h2, h3, h4, h5⟩ := h
        dsimp only
        split
        · rename_i hb
          refine nxt _ ⟨by omega, by rw [tc]; exact hp, by rw [tc, tn], by rw [bk], fun i hi hpi => ?_⟩
          by_cases e : i = k
          · subst e
            rw [tc, tn, bk]
            exact ⟨Rat.le_refl, fun _ => Nat.le_refl _⟩
          · obtain ⟨g1, g2⟩ := h5 i (by omega) hpi
            rcases hb with hb | ⟨hb1, hb2⟩
            · exact ⟨by grind, fun z => by grind⟩
            · refine ⟨by grind, fun z => ?_⟩
              have := g2 (by grind)
              omega
        · rename_i hb
          refine nxt _ ⟨by omega, h2, h3, h4, fun i hi hpi => ?_⟩
          by_cases e : i = k
          · subst e
            rw [tc, tn, bk]
            refine ⟨?_, fun z => ?_⟩
            · by_cases z : ga row N / ga row c < q
              · exact absurd (Or.inl z) hb
              · grind
            · by_cases y : L.names.getD i 0 < v
              · exact absurd (Or.inr ⟨z.symm, y⟩) hb
              · omega
          · exact h5 i (by omega) hpi
    · rw [if_neg hp]
      refine nxt _ ?_
      cases f with
      | none =>
        intro i hi
        by_cases e : i = k
        · subst e; rw [tc]; exact hp
        · exact h i (by omega)
      | some p =>
        obtain ⟨q, v, a⟩ := p
        obtain ⟨h1, h2, h3, h4, h5⟩ := h
        refine ⟨by omega, h2, h3, h4, fun i hi hpi => ?_⟩
        by_cases e : i = k
        · subst e; rw [tc] at hpi; exact absurd hpi hp
        · exact h5 i (by omega) hpi
theorem lv_some (w : Wf m N L) {c a : Nat} (h : lvL L c = some a) : Lv m N (tb L) c a := by
  have := lvF_ok w c L.rows 0 none rfl (by rw [w.r]; omega) (fun i hi => by omega)
  unfold lvL at h
  cases e : lvF c L.names 0 L.rows none with
  | none => rw [e] at h; cases h
  | some p =>
    rw [e] at h this
    obtain ⟨q, v, a'⟩ := p
    have ea : a' = a := Option.some.inj h
    rw [ea] at this
    obtain ⟨h1, h2, h3, h4, h5⟩ := this
    have cross : ∀ i, 0 < (tb L).T i c → ((tb L).T i N / (tb L).T i c) * ((tb L).T i c * (tb L).T a c) = (tb L).T i N * (tb L).T a c := fun i hi => by
      have : (tb L).T i c ≠ 0 := by grind
      grind
    have crossa : ∀ i, q * ((tb L).T i c * (tb L).T a c) = (tb L).T a N * (tb L).T i c := fun i => by
      have : (tb L).T a c ≠ 0 := by grind
      rw [h3]
      grind
    refine ⟨h1, h2, fun i hi hp => ?_, fun i hi hp z => ?_⟩
    · have g := (h5 i hi hp).1
      have pp := Rat.mul_pos hp h2
      have := Rat.mul_le_mul_of_nonneg_right g (Rat.le_of_lt pp)
      rw [cross i hp, crossa i] at this
      exact this
    · rw [← cross i hp, ← crossa i] at z
      have pp := Rat.mul_pos hp h2
      have z1 : q = (tb L).T i N / (tb L).T i c := by
        have : (tb L).T i c * (tb L).T a c ≠ 0 := by grind
        grind
      have := (h5 i hi hp).2 z1
      rw [h4] at this
      exact this
theorem lv_none (w : Wf m N L) {c : Nat} (h : lvL L c = none) : ∀ i, i < m → ¬ 0 < (tb L).T i c := by
  have := lvF_ok w c L.rows 0 none rfl (by rw [w.r]; omega) (fun i hi => by omega)
  unfold lvL at h
  cases e : lvF c L.names 0 L.rows none with
  | none => rw [e] at this; exact this
  | some p => rw [e] at h; cases h
end
end Lp
end
section
set_option Elab.async false
set_option linter.all false
/-! Lp5: every table comes to its end; what it shows then. -/
namespace Lp
def nxL (L : Lt) : Lt := match enL L.last with
  | none => L
  | some c => match lvL L c with
    | none => L
    | some a => pvL L a c
def Stp (L : Lt) : Prop := enL L.last = none ∨ ∃ c, enL L.last = some c ∧ lvL L c = none
def itL (L : Lt) : Nat → Lt
  | 0 => L
  | k + 1 => nxL (itL L k)
theorem least {P : Nat → Prop} : ∀ n, P n → ∃ k, P k ∧ ∀ j, j < k → ¬ P j := fun n => by
  induction n using Nat.strongRecOn with
  | ind n ih =>
    intro h
    by_cases e : ∃ j, j < n ∧ P j
    · obtain ⟨j, hj, pj⟩ := e
      exact ih j hj pj
    · exact ⟨n, h, fun j hj pj => e ⟨j, hj, pj⟩⟩
/-- the first table -/
structure In (m n N : Nat) (Az : Nat → Nat → Int) (rz : Nat → Int) (S : Tb) : Prop where
  t : ∀ i, i < m → ∀ j, j ≤ N → S.T i j = (Az i j : Rat)
  r : ∀ j, j ≤ N → S.r j = (rz j : Rat)
  b : ∀ i, i < m → S.B i = n + i
  u1 : ∀ i, i < m → Az i (n + i) = 1
  u0 : ∀ i, i < m → ∀ k, k < m → i ≠ k → Az i (n + k) = 0
  rz : ∀ k, k < m → rz (n + k) = 0
  h : ∀ i, i < m → 0 ≤ Az i N
  N : N = n + m
structure Iv (m n N : Nat) (Az : Nat → Nat → Int) (rz : Nat → Int) (S0 : Tb) (L : Lt) : Prop where
  wf : Wf m N L
  ok : Ok m N (tb L)
  md : Mk m n N (fun k j => (Az k j : Rat)) (fun j => (rz j : Rat)) (tb L)
  sol : ∀ x, Sol m N (tb L) x ↔ Sol m N S0 x
  won : ∀ x, Sol m N S0 x → W N (tb L) x = W N S0 x
section
set_option Elab.async false
variable {m n N : Nat} {Az : Nat → Nat → Int} {rz : Nat → Int}
theorem In.ok {S : Tb} (i : In m n N Az rz S) : Ok m N S := by
  have hN := i.N
  refine ⟨fun k hk => ?_, fun k hk l hl hne => ?_, fun k hk => ?_, fun k hk => ?_, fun k hk => ?_⟩
  · rw [i.b k hk, i.t k hk _ (by omega), i.u1 k hk]
    rfl
  · rw [i.b l hl, i.t k hk _ (by omega), i.u0 k hk l hl hne]
    rfl
  · rw [i.b k hk, i.r _ (by omega), i.rz k hk]
    rfl
  · rw [i.b k hk]
    omega
  · rw [i.t k hk _ (by omega)]
    have := i.h k hk
    exact_mod_cast this
theorem In.md {S : Tb} (i : In m n N Az rz S) : Mk m n N (fun k j => (Az k j : Rat)) (fun j => (rz j : Rat)) S := by
  have hN := i.N
  refine ⟨fun k hk j hj => ?_, fun j hj => ?_⟩
  · rw [sm_one (i := k) hk fun l hl hne => by rw [i.t k hk _ (by omega), i.u0 k hk l hl (Ne.symm hne)]; show ((0 : Int) : Rat) * _ = 0; grind]
    rw [i.t k hk (n + k) (by omega), i.u1 k hk, i.t k hk j hj]
    show _ = ((1 : Int) : Rat) * _
    grind
  · rw [sm_zero fun l hl => by rw [i.r _ (by omega), i.rz l hl]; show ((0 : Int) : Rat) * _ = 0; grind, i.r j hj]
    grind
theorem In.iv {L : Lt} (w : Wf m N L) (i : In m n N Az rz (tb L)) : Iv m n N Az rz (tb L) L := ⟨w, i.ok, i.md, fun _ => Iff.rfl, fun _ _ => rfl⟩
theorem Iv.nx {S0 : Tb} {L : Lt} (v : Iv m n N Az rz S0 L) : Iv m n N Az rz S0 (nxL L) := by
  unfold nxL
  cases e : enL L.last with
  | none => exact v
  | some c =>
    dsimp only
    cases f : lvL L c with
    | none => exact v
    | some a =>
      dsimp only
      have en := en_some v.wf e
      have lv := lv_some v.wf f
      have q := tb_pv v.wf lv.lt c
      refine ⟨pv_wf v.wf lv.lt c, ?_, ?_, fun x => ?_, fun x hx => ?_⟩
      · rw [q]; exact piv_ok v.ok en lv
      · rw [q]; exact v.md.piv lv
      · rw [q, piv_sol lv, v.sol]
      · rw [q, piv_W lv ((v.sol x).mpr hx), v.won x hx]
theorem Iv.it {S0 : Tb} {L : Lt} (v : Iv m n N Az rz S0 L) : ∀ k, Iv m n N Az rz S0 (itL L k)
  | 0 => v
  | k + 1 => (v.it k).nx
theorem ends {S0 : Tb} {L : Lt} (v : Iv m n N Az rz S0 L) : ∃ k, Stp (itL L k) ∧ ∀ j, j < k → ¬ Stp (itL L j) := by
  by_cases h : ∃ k, Stp (itL L k)
  · obtain ⟨k, hk⟩ := h
    exact least k hk
  · exfalso
    have ns : ∀ k, ¬ Stp (itL L k) := fun k hk => h ⟨k, hk⟩
    have ch : ∀ k, ∃ c a, enL (itL L k).last = some c ∧ lvL (itL L k) c = some a := fun k => by
      have := ns k
      cases e : enL (itL L k).last with
      | none => exact absurd (Or.inl e) this
      | some c =>
        cases f : lvL (itL L k) c with
        | none => exact absurd (Or.inr ⟨c, e, f⟩) this
        | some a => exact ⟨c, a, rfl, f⟩
    refine bland (m := m) (N := N) (S := fun k => tb (itL L k)) (c := fun k => (enL (itL L k).last).getD 0) (a := fun k => (lvL (itL L k) ((enL (itL L k).last).getD 0)).getD 0) v.ok fun k _ => ?_
    obtain ⟨c, a, e, f⟩ := ch k
    have w := (v.it k).wf
    have lv := lv_some w f
    rw [e]
    simp only [Option.getD_some]
    rw [f]
    simp only [Option.getD_some]
    refine ⟨en_some w e, lv, ?_⟩
    show tb (nxL (itL L k)) = _
    unfold nxL
    rw [e]
    dsimp only
    rw [f]
    exact tb_pv w lv.lt c
/-! ### what the end shows -/
theorem opt_cert {S0 : Tb} {L : Lt} (v : Iv m n N Az rz S0 L) (hN : N = n + m) (h : enL L.last = none) : (∀ k, k < m → 0 ≤ (tb L).r (n + k)) ∧ ∀ j, j < n → 0 ≤ (rz j : Rat) + sm (fun k => (tb L).r (n + k) * (Az k j : Rat)) m := by
  have e := en_none v.wf h
  refine ⟨fun k hk => e _ (by omega), fun j hj => ?_⟩
  have := v.md.r j (by omega)
  have := e j (by omega)
  grind
/-- a way along which ever more is won -/
def wy (S : Tb) (m c j : Nat) : Rat := pl S.B (fun i => - S.T i c) m j + if j = c then 1 else 0
theorem sm_nn {f : Nat → Rat} {n : Nat} (h : ∀ j, j < n → 0 ≤ f j) : 0 ≤ sm f n := sm_nonneg h
theorem sm_split (f : Nat → Rat) (n : Nat) : ∀ m : Nat, sm f (n + m) = sm f n + sm (fun k => f (n + k)) m
  | 0 => by show sm f n = sm f n + 0; grind
  | m + 1 => by
    show sm f (n + m) + f (n + m) = sm f n + (sm (fun k => f (n + k)) m + f (n + m))
    rw [sm_split f n m]
    grind
theorem way_cert {S0 : Tb} {L : Lt} (v : Iv m n N Az rz S0 L) (i : In m n N Az rz S0) {c : Nat} (e : enL L.last = some c) (f : lvL L c = none) : (∀ j, 0 ≤ wy (tb L) m c j) ∧ (∀ k, k < m → sm (fun j => (Az k j : Rat) * wy (tb L) m c j) n ≤ 0) ∧ sm (fun j => (rz j : Rat) * wy (tb L) m c j) n < 0 := by
  have hN := i.N
  have o := v.ok
  have en := en_some v.wf e
  have lv := lv_none v.wf f
  have nn : ∀ j, 0 ≤ wy (tb L) m c j := fun j => by
    unfold wy
    have : 0 ≤ pl (tb L).B (fun i => - (tb L).T i c) m j := sm_nn fun k hk => by
      split
      · have := lv k hk
        grind
      · grind
    split <;> grind
  have yv : ∀ g : Nat → Rat, sm (fun j => g j * (bs m N (tb L) j + wy (tb L) m c j)) N = sm (fun j => g j * bs m N (tb L) j) N + sm (fun j => g j * wy (tb L) m c j) N := fun g => by
    rw [← sm_add]
    congr 1
    funext j
    grind
  have wv : ∀ g : Nat → Rat, sm (fun j => g j * wy (tb L) m c j) N = g c - sm (fun i => g ((tb L).B i) * (tb L).T i c) m := fun g => by
    have q1 : (fun j => g j * wy (tb L) m c j) = fun j => g j * pl (tb L).B (fun i => - (tb L).T i c) m j + g j * (if j = c then 1 else 0) := by funext j; unfold wy; grind
    rw [q1, sm_add, sm_pl g _ _ o.bn, sm_one (f := fun j => g j * (if j = c then 1 else 0)) en.lt fun j _ hne => by rw [if_neg hne]; grind, if_pos rfl]
    have q2 : (fun i => g ((tb L).B i) * - (tb L).T i c) = fun i => (-1) * (g ((tb L).B i) * (tb L).T i c) := by funext i; grind
    rw [q2, sm_mul]
    grind
  have xs := bs_sol o
  have ys : Sol m N (tb L) (fun j => bs m N (tb L) j + wy (tb L) m c j) := fun k hk => by
    rw [yv, xs k hk, wv, o.row _ hk]
    grind
  have xs0 := (v.sol _).mp xs
  have ys0 := (v.sol _).mp ys
  have hom : ∀ k, k < m → sm (fun j => (Az k j : Rat) * wy (tb L) m c j) N = 0 := fun k hk => by
    have a1 := xs0 k hk
    have a2 := ys0 k hk
    rw [yv, a1] at a2
    have a3 : sm (fun j => S0.T k j * wy (tb L) m c j) N = 0 := by grind
    rw [← a3]
    exact sm_congr fun j hj => by rw [i.t k hk j (by omega)]
  refine ⟨nn, fun k hk => ?_, ?_⟩
  · have h0 := hom k hk
    rw [hN, sm_split] at h0
    have : sm (fun l => (Az k (n + l) : Rat) * wy (tb L) m c (n + l)) m = wy (tb L) m c (n + k) := by
      rw [sm_one (i := k) hk fun l hl hne => by rw [i.u0 k hk l hl (Ne.symm hne)]; show ((0 : Int) : Rat) * _ = 0; grind, i.u1 k hk]
      show ((1 : Int) : Rat) * _ = _
      grind
    rw [this] at h0
    have := nn (n + k)
    grind
  · have w1 := v.won _ xs0
    have w2 := v.won _ ys0
    unfold W at w1 w2
    rw [yv, yv] at w2
    have e1 : sm (fun j => (tb L).r j * wy (tb L) m c j) N = (tb L).r c := by
      rw [wv, o.last]
      grind
    have e2 : sm (fun j => S0.r j * wy (tb L) m c j) N = sm (fun j => (rz j : Rat) * wy (tb L) m c j) n := by
      rw [hN, sm_split]
      have z : sm (fun k => S0.r (n + k) * wy (tb L) m c (n + k)) m = 0 := sm_zero fun l hl => by
        rw [i.r _ (by omega), i.rz l hl]
        show ((0 : Int) : Rat) * _ = 0
        grind
      rw [z]
      have : sm (fun j => S0.r j * wy (tb L) m c j) n = sm (fun j => (rz j : Rat) * wy (tb L) m c j) n := sm_congr fun j hj => by rw [i.r j (by omega)]
      rw [this]
      grind
    rw [e1, e2] at w2
    have := en.neg
    grind
end
end Lp
end
section
set_option Elab.async false
set_option linter.all false
namespace Y
def b_is_whole : S := (sRet (eAn (eU (bIsi "int") (eV 0)) (eAn (eNo (eU (bIsi "bool") (eV 0))) (eCh bLe bLe (eV 1) (eV 0) (eV 2)))))
def f_is_whole : List Val → M Val := runF 3 b_is_whole
def are_whole_C1 : E := (eLc (iSeq (eV 0)) (gN 3) tTr (eB (fixN 3 f_is_whole) (aC (eV 3) (aC (eC (.int 0)) (aC (eV 2) aN)))) [3])
theorem are_whole_C1_eq (loc : Loc) : are_whole_C1 loc = (eLc (iSeq (eV 0)) (gN 3) tTr (eB (fixN 3 f_is_whole) (aC (eV 3) (aC (eC (.int 0)) (aC (eV 2) aN)))) [3]) loc := rfl
def b_are_whole : S := (sRet (eAn (eU (bIsi "tuple") (eV 0)) (eAn (eO bEq (eB bLen (aC (eV 0) aN)) (eV 1)) (eB bAll (aC are_whole_C1 aN)))))
def f_are_whole : List Val → M Val := runF 4 b_are_whole
def is_move_C1 : E := (eLc (iSeq (eV 0)) (gN 2) tTr (eB (fixN 3 f_are_whole) (aC (eV 2) (aC (eV 1) (aC (eC (.int 9)) aN)))) [2])
theorem is_move_C1_eq (loc : Loc) : is_move_C1 loc = (eLc (iSeq (eV 0)) (gN 2) tTr (eB (fixN 3 f_are_whole) (aC (eV 2) (aC (eV 1) (aC (eC (.int 9)) aN)))) [2]) loc := rfl
def b_is_move : S := (sRet (eAn (eU (bIsi "tuple") (eV 0)) (eAn (eO bEq (eB bLen (aC (eV 0) aN)) (eC (.int 2))) (eB bAll (aC is_move_C1 aN)))))
def f_is_move : List Val → M Val := runF 3 b_is_move
def b_heaps_in : S := (sSeq (sIf (tOrr (tNo (tV (eU (bIsi "tuple") (eV 0)))) (tOrr (tV (eO bNe (eB bLen (aC (eV 0) aN)) (eC (.int 2)))) (tNo (tV (eU (bIsi "tuple") (eO bIx (eV 0) (eC (.int 0)))))))) (sRet (eC (.int 0))) sNil)
    (sRet (eB bLen (aC (eO bIx (eV 0) (eC (.int 0))) aN))))
def f_heaps_in : List Val → M Val := runF 1 b_heaps_in
def is_moves_C1 : E := (eLc (iSeq (eV 0)) (gN 2) tTr (eB (fixN 2 f_is_move) (aC (eV 2) (aC (eV 1) aN))) [2])
theorem is_moves_C1_eq (loc : Loc) : is_moves_C1 loc = (eLc (iSeq (eV 0)) (gN 2) tTr (eB (fixN 2 f_is_move) (aC (eV 2) (aC (eV 1) aN))) [2]) loc := rfl
def b_is_moves : S := (sSeq (sIf (tOrr (tNo (tV (eU (bIsi "tuple") (eV 0)))) (tNo (tV (eCh bLe bLe (eC (.int 1)) (eB bLen (aC (eV 0) aN)) (eC (.int 6)))))) (sRet (eC (.bool false))) sNil)
    (sSeq (sAsg (eB (fixN 1 f_heaps_in) (aC (eO bIx (eV 0) (eC (.int 0))) aN)) (gN 1))
    (sRet (eAn (eCh bLe bLe (eC (.int 1)) (eV 1) (eC (.int 4))) (eB bAll (aC is_moves_C1 aN))))))
def f_is_moves : List Val → M Val := runF 3 b_is_moves
def b_need_moves : S := (sIf (tNo (tV (eB (fixN 1 f_is_moves) (aC (eV 0) aN)))) (sRaise 1) sNil)
def f_need_moves : List Val → M Val := runF 1 b_need_moves
def b_heaps_of : S := (sRet (eB bLen (aC (eO bIx (eO bIx (eV 0) (eC (.int 0))) (eC (.int 0))) aN)))
def f_heaps_of : List Val → M Val := runF 1 b_heaps_of
def change_C1 : E := (eLc (iCall kZip2 (aC (eO bIx (eV 0) (eC (.int 0))) (aC (eO bIx (eV 0) (eC (.int 1))) aN))) (gT 2 (gsC (gN 1) (gsC (gN 2) gsN))) tTr (eO bSub (eV 2) (eV 1)) [1, 2])
theorem change_C1_eq (loc : Loc) : change_C1 loc = (eLc (iCall kZip2 (aC (eO bIx (eV 0) (eC (.int 0))) (aC (eO bIx (eV 0) (eC (.int 1))) aN))) (gT 2 (gsC (gN 1) (gsC (gN 2) gsN))) tTr (eO bSub (eV 2) (eV 1)) [1, 2]) loc := rfl
def b_change : S := (sRet (eB bTuple (aC change_C1 aN)))
def f_change : List Val → M Val := runF 3 b_change
def all_changes_C1 : E := (eLc (iSeq (eV 0)) (gN 1) tTr (eB (fixN 1 f_change) (aC (eV 1) aN)) [1])
theorem all_changes_C1_eq (loc : Loc) : all_changes_C1 loc = (eLc (iSeq (eV 0)) (gN 1) tTr (eB (fixN 1 f_change) (aC (eV 1) aN)) [1]) loc := rfl
def b_all_changes : S := (sRet all_changes_C1)
def f_all_changes : List Val → M Val := runF 2 b_all_changes
noncomputable def divider_L1 : S := (sPar 0 1 (eV 1) (eO bSub (eV 0) (eO bMul (eO bDiv (eV 0) (eV 1)) (eV 1))))
theorem divider_L1_eq (loc : Loc) : divider_L1 loc = (sPar 0 1 (eV 1) (eO bSub (eV 0) (eO bMul (eO bDiv (eV 0) (eV 1)) (eV 1)))) loc := rfl
noncomputable def b_divider : S := (sSeq (sPar 0 1 (eB bAbs (aC (eV 0) aN)) (eB bAbs (aC (eV 1) aN)))
    (sSeq (sWhile (tV (eO bNe (eV 1) (eC (.int 0)))) divider_L1)
    (sRet (eV 0))))
noncomputable def f_divider : List Val → M Val := runF 2 b_divider
noncomputable def b_lowest : S := (sSeq (sAsg (eIf (tV (eO bGt (eV 1) (eC (.int 0)))) (eB (fixN 2 f_divider) (aC (eV 0) (aC (eV 1) aN))) (eU bNeg (eB (fixN 2 f_divider) (aC (eV 0) (aC (eV 1) aN))))) (gN 2))
    (sRet (eB bTup (aC (eO bDiv (eV 0) (eV 2)) (aC (eO bDiv (eV 1) (eV 2)) aN)))))
noncomputable def f_lowest : List Val → M Val := runF 3 b_lowest
noncomputable def b_product : S := (sRet (eB (fixN 2 f_lowest) (aC (eO bMul (eO bIx (eV 0) (eC (.int 0))) (eO bIx (eV 1) (eC (.int 0)))) (aC (eO bMul (eO bIx (eV 0) (eC (.int 1))) (eO bIx (eV 1) (eC (.int 1)))) aN))))
noncomputable def f_product : List Val → M Val := runF 2 b_product
noncomputable def b_over : S := (sRet (eB (fixN 2 f_lowest) (aC (eO bMul (eO bIx (eV 0) (eC (.int 0))) (eO bIx (eV 1) (eC (.int 1)))) (aC (eO bMul (eO bIx (eV 0) (eC (.int 1))) (eO bIx (eV 1) (eC (.int 0)))) aN))))
noncomputable def f_over : List Val → M Val := runF 2 b_over
noncomputable def b_less : S := (sRet (eB (fixN 2 f_lowest) (aC (eO bSub (eO bMul (eO bIx (eV 0) (eC (.int 0))) (eO bIx (eV 1) (eC (.int 1)))) (eO bMul (eO bIx (eV 1) (eC (.int 0))) (eO bIx (eV 0) (eC (.int 1))))) (aC (eO bMul (eO bIx (eV 0) (eC (.int 1))) (eO bIx (eV 1) (eC (.int 1)))) aN))))
noncomputable def f_less : List Val → M Val := runF 2 b_less
def b_is_less : S := (sRet (eO bLt (eO bMul (eO bIx (eV 0) (eC (.int 0))) (eO bIx (eV 1) (eC (.int 1)))) (eO bMul (eO bIx (eV 1) (eC (.int 0))) (eO bIx (eV 0) (eC (.int 1))))))
def f_is_less : List Val → M Val := runF 2 b_is_less
noncomputable def cleared_C1 : E := (eLc (iCall kZip2 (aC (eV 0) (aC (eV 1) aN))) (gT 2 (gsC (gN 3) (gsC (gN 4) gsN))) tTr (eB (fixN 2 f_less) (aC (eV 3) (aC (eB (fixN 2 f_product) (aC (eO bIx (eV 0) (eV 2)) (aC (eV 4) aN))) aN))) [3, 4])
theorem cleared_C1_eq (loc : Loc) : cleared_C1 loc = (eLc (iCall kZip2 (aC (eV 0) (aC (eV 1) aN))) (gT 2 (gsC (gN 3) (gsC (gN 4) gsN))) tTr (eB (fixN 2 f_less) (aC (eV 3) (aC (eB (fixN 2 f_product) (aC (eO bIx (eV 0) (eV 2)) (aC (eV 4) aN))) aN))) [3, 4]) loc := rfl
noncomputable def b_cleared : S := (sRet cleared_C1)
noncomputable def f_cleared : List Val → M Val := runF 5 b_cleared
def Table_init_C1 : E := (eLc (iCall kRg1 (aC (eV 4) aN)) (gN 8) tTr (eB bTup (aC (eB bInt1 (aC (eO bEq (eV 8) (eV 5)) aN)) (aC (eC (.int 1)) aN))) [8])
theorem Table_init_C1_eq (loc : Loc) : Table_init_C1 loc = (eLc (iCall kRg1 (aC (eV 4) aN)) (gN 8) tTr (eB bTup (aC (eB bInt1 (aC (eO bEq (eV 8) (eV 5)) aN)) (aC (eC (.int 1)) aN))) [8]) loc := rfl
def Table_init_C2 : E := (eLc (iSeq (eV 6)) (gN 9) tTr (eB bTup (aC (eV 9) (aC (eC (.int 1)) aN))) [9])
theorem Table_init_C2_eq (loc : Loc) : Table_init_C2 loc = (eLc (iSeq (eV 6)) (gN 9) tTr (eB bTup (aC (eV 9) (aC (eC (.int 1)) aN))) [9]) loc := rfl
def Table_init_L1 : S := (sSeq (sAsg Table_init_C1 (gN 7))
    (sExp (eApp (eAtt 0 "rows" (eV 0)) (eO bAdd (eO bAdd Table_init_C2 (eV 7)) (eB bLst (aC (eB bTup (aC (eO bIx (eV 2) (eV 5)) (aC (eC (.int 1)) aN))) aN))))))
theorem Table_init_L1_eq (loc : Loc) : Table_init_L1 loc = (sSeq (sAsg Table_init_C1 (gN 7))
    (sExp (eApp (eAtt 0 "rows" (eV 0)) (eO bAdd (eO bAdd Table_init_C2 (eV 7)) (eB bLst (aC (eB bTup (aC (eO bIx (eV 2) (eV 5)) (aC (eC (.int 1)) aN))) aN)))))) loc := rfl
def Table_init_C3 : E := (eLc (iSeq (eV 3)) (gN 9) tTr (eB bTup (aC (eU bNeg (eV 9)) (aC (eC (.int 1)) aN))) [9])
theorem Table_init_C3_eq (loc : Loc) : Table_init_C3 loc = (eLc (iSeq (eV 3)) (gN 9) tTr (eB bTup (aC (eU bNeg (eV 9)) (aC (eC (.int 1)) aN))) [9]) loc := rfl
def Table_init_C4 : E := (eLcN (iCall kRg1 (aC (eV 4) aN)) (gN 5) tTr (eO bAdd (eAtt 0 "many" (eV 0)) (eV 5)) [5])
theorem Table_init_C4_eq (loc : Loc) : Table_init_C4 loc = (eLcN (iCall kRg1 (aC (eV 4) aN)) (gN 5) tTr (eO bAdd (eAtt 0 "many" (eV 0)) (eV 5)) [5]) loc := rfl
def b_Table_init : S := (sSeq (sAsg (eB bTup (aC (eB bLen (aC (eV 1) aN)) (aC (eB bLen (aC (eV 3) aN)) aN))) (gT 2 (gsC (gN 4) (gsC (gAtt 0 "many" (eV 0)) gsN))))
    (sSeq (sAsg (eB bNew aN) (gAtt 0 "rows" (eV 0)))
    (sSeq (sFor (iCall kEnumS (aC (eV 1) aN)) (gT 2 (gsC (gN 5) (gsC (gN 6) gsN)))
    Table_init_L1)
    (sSeq (sAsg (eO bAdd Table_init_C3 (eO bMul (eB bLst (aC (eB bTup (aC (eC (.int 0)) (aC (eC (.int 1)) aN))) aN)) (eO bAdd (eV 4) (eC (.int 1))))) (gAtt 0 "last" (eV 0)))
    (sAsg Table_init_C4 (gAtt 0 "names" (eV 0)))))))
def f_Table_init : List Val → M Val := runF 10 b_Table_init
def Table_entering_C1 : E := (eLc (iCall kRg1 (aC (eO bSub (eB bLen (aC (eAtt 0 "last" (eV 0)) aN)) (eC (.int 1))) aN)) (gN 2) (tV (eO bLt (eO bIx (eO bIx (eAtt 0 "last" (eV 0)) (eV 2)) (eC (.int 0))) (eC (.int 0)))) (eV 2) [2])
theorem Table_entering_C1_eq (loc : Loc) : Table_entering_C1 loc = (eLc (iCall kRg1 (aC (eO bSub (eB bLen (aC (eAtt 0 "last" (eV 0)) aN)) (eC (.int 1))) aN)) (gN 2) (tV (eO bLt (eO bIx (eO bIx (eAtt 0 "last" (eV 0)) (eV 2)) (eC (.int 0))) (eC (.int 0)))) (eV 2) [2]) loc := rfl
def b_Table_entering : S := (sSeq (sAsg Table_entering_C1 (gN 1))
    (sRet (eIf (tV (eO bNe (eV 1) (eB bLst aN))) (eO bIx (eV 1) (eC (.int 0))) (eC .none))))
def f_Table_entering : List Val → M Val := runF 3 b_Table_entering
noncomputable def Table_leaving_L1 : S := (sIf (tV (eO bGt (eO bIx (eO bIx (eV 4) (eV 1)) (eC (.int 0))) (eC (.int 0)))) (sSeq (sAsg (eB (fixN 2 f_over) (aC (eO bIx (eV 4) (eU bNeg (eC (.int 1)))) (aC (eO bIx (eV 4) (eV 1)) aN))) (gN 5))
    (sIf (tOrr (tV (eU bIsN (eV 2))) (tOrr (tV (eB (fixN 2 f_is_less) (aC (eV 5) (aC (eO bIx (eV 2) (eC (.int 0))) aN)))) (tAn (tV (eO bEq (eV 5) (eO bIx (eV 2) (eC (.int 0))))) (tV (eO bLt (eO bIx (eAtt 0 "names" (eV 0)) (eV 3)) (eO bIx (eV 2) (eC (.int 1)))))))) (sAsg (eB bTup (aC (eV 5) (aC (eO bIx (eAtt 0 "names" (eV 0)) (eV 3)) (aC (eV 3) aN)))) (gN 2)) sNil)) sNil)
theorem Table_leaving_L1_eq (loc : Loc) : Table_leaving_L1 loc = (sIf (tV (eO bGt (eO bIx (eO bIx (eV 4) (eV 1)) (eC (.int 0))) (eC (.int 0)))) (sSeq (sAsg (eB (fixN 2 f_over) (aC (eO bIx (eV 4) (eU bNeg (eC (.int 1)))) (aC (eO bIx (eV 4) (eV 1)) aN))) (gN 5))
    (sIf (tOrr (tV (eU bIsN (eV 2))) (tOrr (tV (eB (fixN 2 f_is_less) (aC (eV 5) (aC (eO bIx (eV 2) (eC (.int 0))) aN)))) (tAn (tV (eO bEq (eV 5) (eO bIx (eV 2) (eC (.int 0))))) (tV (eO bLt (eO bIx (eAtt 0 "names" (eV 0)) (eV 3)) (eO bIx (eV 2) (eC (.int 1)))))))) (sAsg (eB bTup (aC (eV 5) (aC (eO bIx (eAtt 0 "names" (eV 0)) (eV 3)) (aC (eV 3) aN)))) (gN 2)) sNil)) sNil) loc := rfl
noncomputable def b_Table_leaving : S := (sSeq (sAsg (eC .none) (gN 2))
    (sSeq (sFor (iCall kEnumS (aC (eAtF 0 "rows" (eV 0)) aN)) (gT 2 (gsC (gN 3) (gsC (gN 4) gsN)))
    Table_leaving_L1)
    (sRet (eIf (tV (eU bNotN (eV 2))) (eO bIx (eV 2) (eC (.int 2))) (eC .none)))))
noncomputable def f_Table_leaving : List Val → M Val := runF 6 b_Table_leaving
def Table_solution_L1 : S := (sIf (tV (eO bLt (eV 3) (eAtt 0 "many" (eV 0)))) (sAsg (eO bIx (eO bIx (eAtt 0 "rows" (eV 0)) (eV 2)) (eU bNeg (eC (.int 1)))) (gSub (eV 1) (eV 3))) sNil)
theorem Table_solution_L1_eq (loc : Loc) : Table_solution_L1 loc = (sIf (tV (eO bLt (eV 3) (eAtt 0 "many" (eV 0)))) (sAsg (eO bIx (eO bIx (eAtt 0 "rows" (eV 0)) (eV 2)) (eU bNeg (eC (.int 1)))) (gSub (eV 1) (eV 3))) sNil) loc := rfl
def b_Table_solution : S := (sSeq (sAsg (eO bMulN (eB bLst (aC (eB bTup (aC (eC (.int 0)) (aC (eC (.int 1)) aN))) aN)) (eAtt 0 "many" (eV 0))) (gN 1))
    (sSeq (sFor (iCall kEnumS (aC (eAtF 0 "names" (eV 0)) aN)) (gT 2 (gsC (gN 2) (gsC (gN 3) gsN)))
    Table_solution_L1)
    (sRet (eU bFrz (eV 1)))))
def f_Table_solution : List Val → M Val := runF 4 b_Table_solution
noncomputable def Table_turn_round_C1 : E := (eLc (iSeq (eO bIx (eAtt 0 "rows" (eV 0)) (eV 1))) (gN 4) tTr (eB (fixN 2 f_over) (aC (eV 4) (aC (eO bIx (eO bIx (eAtt 0 "rows" (eV 0)) (eV 1)) (eV 2)) aN))) [4])
theorem Table_turn_round_C1_eq (loc : Loc) : Table_turn_round_C1 loc = (eLc (iSeq (eO bIx (eAtt 0 "rows" (eV 0)) (eV 1))) (gN 4) tTr (eB (fixN 2 f_over) (aC (eV 4) (aC (eO bIx (eO bIx (eAtt 0 "rows" (eV 0)) (eV 1)) (eV 2)) aN))) [4]) loc := rfl
noncomputable def Table_turn_round_C2 : E := (eLc (iCall kEnumS (aC (eAtF 0 "rows" (eV 0)) aN)) (gT 2 (gsC (gN 5) (gsC (gN 6) gsN))) tTr (eIf (tV (eO bEq (eV 5) (eV 1))) (eV 3) (eB (fixN 3 f_cleared) (aC (eV 6) (aC (eV 3) (aC (eV 2) aN))))) [5, 6])
theorem Table_turn_round_C2_eq (loc : Loc) : Table_turn_round_C2 loc = (eLc (iCall kEnumS (aC (eAtF 0 "rows" (eV 0)) aN)) (gT 2 (gsC (gN 5) (gsC (gN 6) gsN))) tTr (eIf (tV (eO bEq (eV 5) (eV 1))) (eV 3) (eB (fixN 3 f_cleared) (aC (eV 6) (aC (eV 3) (aC (eV 2) aN))))) [5, 6]) loc := rfl
noncomputable def b_Table_turn_round : S := (sSeq (sAsg Table_turn_round_C1 (gN 3))
    (sSeq (sAsg Table_turn_round_C2 (gAtt 0 "rows" (eV 0)))
    (sSeq (sAsg (eB (fixN 3 f_cleared) (aC (eAtt 0 "last" (eV 0)) (aC (eV 3) (aC (eV 2) aN)))) (gAtt 0 "last" (eV 0)))
    (sAsg (eV 2) (gSub (eAtt 0 "names" (eV 0)) (eV 1))))))
noncomputable def f_Table_turn_round : List Val → M Val := runF 7 b_Table_turn_round
noncomputable def Table_way_out_L1 : S := (sIf (tV (eO bLt (eV 4) (eAtt 0 "many" (eV 0)))) (sAsg (eB (fixN 2 f_less) (aC (eB bTup (aC (eC (.int 0)) (aC (eC (.int 1)) aN))) (aC (eO bIx (eO bIx (eAtt 0 "rows" (eV 0)) (eV 3)) (eV 1)) aN))) (gSub (eV 2) (eV 4))) sNil)
theorem Table_way_out_L1_eq (loc : Loc) : Table_way_out_L1 loc = (sIf (tV (eO bLt (eV 4) (eAtt 0 "many" (eV 0)))) (sAsg (eB (fixN 2 f_less) (aC (eB bTup (aC (eC (.int 0)) (aC (eC (.int 1)) aN))) (aC (eO bIx (eO bIx (eAtt 0 "rows" (eV 0)) (eV 3)) (eV 1)) aN))) (gSub (eV 2) (eV 4))) sNil) loc := rfl
noncomputable def b_Table_way_out : S := (sSeq (sAsg (eO bMulN (eB bLst (aC (eB bTup (aC (eC (.int 0)) (aC (eC (.int 1)) aN))) aN)) (eAtt 0 "many" (eV 0))) (gN 2))
    (sSeq (sIf (tV (eO bLt (eV 1) (eAtt 0 "many" (eV 0)))) (sAsg (eB bTup (aC (eC (.int 1)) (aC (eC (.int 1)) aN))) (gSub (eV 2) (eV 1))) sNil)
    (sSeq (sFor (iCall kEnumS (aC (eAtF 0 "names" (eV 0)) aN)) (gT 2 (gsC (gN 3) (gsC (gN 4) gsN)))
    Table_way_out_L1)
    (sRet (eU bFrz (eV 2))))))
noncomputable def f_Table_way_out : List Val → M Val := runF 5 b_Table_way_out
noncomputable def best_L1 : S := (sSeq (sAsg (eMet 0 "leaving" (fixN 2 f_Table_leaving) (eV 3) (aC (eV 4) aN)) (gN 5))
    (sSeq (sIf (tV (eU bIsN (eV 5))) (sRet (eB bTup (aC (eC (.str "way")) (aC (eMet 0 "way_out" (fixN 2 f_Table_way_out) (eV 3) (aC (eV 4) aN)) (aC (eB bLst aN) aN))))) sNil)
    (sSeq (sExp (eMet 0 "turn_round" (fixN 3 f_Table_turn_round) (eV 3) (aC (eV 5) (aC (eV 4) aN))))
    (sAsg (eMet 0 "entering" (fixN 1 f_Table_entering) (eV 3) aN) (gN 4)))))
theorem best_L1_eq (loc : Loc) : best_L1 loc = (sSeq (sAsg (eMet 0 "leaving" (fixN 2 f_Table_leaving) (eV 3) (aC (eV 4) aN)) (gN 5))
    (sSeq (sIf (tV (eU bIsN (eV 5))) (sRet (eB bTup (aC (eC (.str "way")) (aC (eMet 0 "way_out" (fixN 2 f_Table_way_out) (eV 3) (aC (eV 4) aN)) (aC (eB bLst aN) aN))))) sNil)
    (sSeq (sExp (eMet 0 "turn_round" (fixN 3 f_Table_turn_round) (eV 3) (aC (eV 5) (aC (eV 4) aN))))
    (sAsg (eMet 0 "entering" (fixN 1 f_Table_entering) (eV 3) aN) (gN 4))))) loc := rfl
noncomputable def b_best : S := (sSeq (sAsg (eB (fixN 3 (mkI 0 f_Table_init)) (aC (eV 0) (aC (eV 1) (aC (eV 2) aN)))) (gN 3))
    (sSeq (sAsg (eMet 0 "entering" (fixN 1 f_Table_entering) (eV 3) aN) (gN 4))
    (sSeq (sWhile (tV (eU bNotN (eV 4))) best_L1)
    (sRet (eB bTup (aC (eC (.str "most")) (aC (eMet 0 "solution" (fixN 1 f_Table_solution) (eV 3) aN) (aC (eSl (eAtt 0 "last" (eV 3)) (oS (eAtt 0 "many" (eV 3))) (oS (eU bNeg (eC (.int 1))))) aN))))))))
noncomputable def f_best : List Val → M Val := runF 6 b_best
def b_chosen_r0 : S := sDie
def f_chosen_r0 : List Val → M Val := runF 6 b_chosen_r0
def chosen_r1_C1 : E := (eLc (iSeq (eV 5)) (gN 4) tTr (eO bAdd (eO bAdd (eV 3) (eC (.int 1))) (eV 4)) [4])
theorem chosen_r1_C1_eq (loc : Loc) : chosen_r1_C1 loc = (eLc (iSeq (eV 5)) (gN 4) tTr (eO bAdd (eO bAdd (eV 3) (eC (.int 1))) (eV 4)) [4]) loc := rfl
def chosen_r1_C2 : E := (eLc (iSeq (eB (fixN 2 f_chosen_r0) (aC (eO bSub (eO bSub (eV 0) (eV 3)) (eC (.int 1))) (aC (eO bSub (eV 1) (eC (.int 1))) aN)))) (gN 5) tTr (eO bAdd (eB bLst (aC (eV 3) aN)) chosen_r1_C1) [5])
theorem chosen_r1_C2_eq (loc : Loc) : chosen_r1_C2 loc = (eLc (iSeq (eB (fixN 2 f_chosen_r0) (aC (eO bSub (eO bSub (eV 0) (eV 3)) (eC (.int 1))) (aC (eO bSub (eV 1) (eC (.int 1))) aN)))) (gN 5) tTr (eO bAdd (eB bLst (aC (eV 3) aN)) chosen_r1_C1) [5]) loc := rfl
def chosen_r1_L1 : S := (sAsg (eO bAdd (eV 2) chosen_r1_C2) (gN 2))
theorem chosen_r1_L1_eq (loc : Loc) : chosen_r1_L1 loc = (sAsg (eO bAdd (eV 2) chosen_r1_C2) (gN 2)) loc := rfl
def b_chosen_r1 : S := (sSeq (sIf (tV (eO bEq (eV 1) (eC (.int 0)))) (sRet (eB bLst (aC (eB bLst aN) aN))) sNil)
    (sSeq (sAsg (eB bLst aN) (gN 2))
    (sSeq (sFor (iCall kRg1 (aC (eO bAdd (eO bSub (eV 0) (eV 1)) (eC (.int 1))) aN)) (gN 3)
    chosen_r1_L1)
    (sRet (eV 2)))))
def f_chosen_r1 : List Val → M Val := runF 6 b_chosen_r1
def chosen_r2_C1 : E := (eLc (iSeq (eV 5)) (gN 4) tTr (eO bAdd (eO bAdd (eV 3) (eC (.int 1))) (eV 4)) [4])
theorem chosen_r2_C1_eq (loc : Loc) : chosen_r2_C1 loc = (eLc (iSeq (eV 5)) (gN 4) tTr (eO bAdd (eO bAdd (eV 3) (eC (.int 1))) (eV 4)) [4]) loc := rfl
def chosen_r2_C2 : E := (eLc (iSeq (eB (fixN 2 f_chosen_r1) (aC (eO bSub (eO bSub (eV 0) (eV 3)) (eC (.int 1))) (aC (eO bSub (eV 1) (eC (.int 1))) aN)))) (gN 5) tTr (eO bAdd (eB bLst (aC (eV 3) aN)) chosen_r2_C1) [5])
theorem chosen_r2_C2_eq (loc : Loc) : chosen_r2_C2 loc = (eLc (iSeq (eB (fixN 2 f_chosen_r1) (aC (eO bSub (eO bSub (eV 0) (eV 3)) (eC (.int 1))) (aC (eO bSub (eV 1) (eC (.int 1))) aN)))) (gN 5) tTr (eO bAdd (eB bLst (aC (eV 3) aN)) chosen_r2_C1) [5]) loc := rfl
def chosen_r2_L1 : S := (sAsg (eO bAdd (eV 2) chosen_r2_C2) (gN 2))
theorem chosen_r2_L1_eq (loc : Loc) : chosen_r2_L1 loc = (sAsg (eO bAdd (eV 2) chosen_r2_C2) (gN 2)) loc := rfl
def b_chosen_r2 : S := (sSeq (sIf (tV (eO bEq (eV 1) (eC (.int 0)))) (sRet (eB bLst (aC (eB bLst aN) aN))) sNil)
    (sSeq (sAsg (eB bLst aN) (gN 2))
    (sSeq (sFor (iCall kRg1 (aC (eO bAdd (eO bSub (eV 0) (eV 1)) (eC (.int 1))) aN)) (gN 3)
    chosen_r2_L1)
    (sRet (eV 2)))))
def f_chosen_r2 : List Val → M Val := runF 6 b_chosen_r2
def chosen_r3_C1 : E := (eLc (iSeq (eV 5)) (gN 4) tTr (eO bAdd (eO bAdd (eV 3) (eC (.int 1))) (eV 4)) [4])
theorem chosen_r3_C1_eq (loc : Loc) : chosen_r3_C1 loc = (eLc (iSeq (eV 5)) (gN 4) tTr (eO bAdd (eO bAdd (eV 3) (eC (.int 1))) (eV 4)) [4]) loc := rfl
def chosen_r3_C2 : E := (eLc (iSeq (eB (fixN 2 f_chosen_r2) (aC (eO bSub (eO bSub (eV 0) (eV 3)) (eC (.int 1))) (aC (eO bSub (eV 1) (eC (.int 1))) aN)))) (gN 5) tTr (eO bAdd (eB bLst (aC (eV 3) aN)) chosen_r3_C1) [5])
theorem chosen_r3_C2_eq (loc : Loc) : chosen_r3_C2 loc = (eLc (iSeq (eB (fixN 2 f_chosen_r2) (aC (eO bSub (eO bSub (eV 0) (eV 3)) (eC (.int 1))) (aC (eO bSub (eV 1) (eC (.int 1))) aN)))) (gN 5) tTr (eO bAdd (eB bLst (aC (eV 3) aN)) chosen_r3_C1) [5]) loc := rfl
def chosen_r3_L1 : S := (sAsg (eO bAdd (eV 2) chosen_r3_C2) (gN 2))
theorem chosen_r3_L1_eq (loc : Loc) : chosen_r3_L1 loc = (sAsg (eO bAdd (eV 2) chosen_r3_C2) (gN 2)) loc := rfl
def b_chosen_r3 : S := (sSeq (sIf (tV (eO bEq (eV 1) (eC (.int 0)))) (sRet (eB bLst (aC (eB bLst aN) aN))) sNil)
    (sSeq (sAsg (eB bLst aN) (gN 2))
    (sSeq (sFor (iCall kRg1 (aC (eO bAdd (eO bSub (eV 0) (eV 1)) (eC (.int 1))) aN)) (gN 3)
    chosen_r3_L1)
    (sRet (eV 2)))))
def f_chosen_r3 : List Val → M Val := runF 6 b_chosen_r3
def chosen_r4_C1 : E := (eLc (iSeq (eV 5)) (gN 4) tTr (eO bAdd (eO bAdd (eV 3) (eC (.int 1))) (eV 4)) [4])
theorem chosen_r4_C1_eq (loc : Loc) : chosen_r4_C1 loc = (eLc (iSeq (eV 5)) (gN 4) tTr (eO bAdd (eO bAdd (eV 3) (eC (.int 1))) (eV 4)) [4]) loc := rfl
def chosen_r4_C2 : E := (eLc (iSeq (eB (fixN 2 f_chosen_r3) (aC (eO bSub (eO bSub (eV 0) (eV 3)) (eC (.int 1))) (aC (eO bSub (eV 1) (eC (.int 1))) aN)))) (gN 5) tTr (eO bAdd (eB bLst (aC (eV 3) aN)) chosen_r4_C1) [5])
theorem chosen_r4_C2_eq (loc : Loc) : chosen_r4_C2 loc = (eLc (iSeq (eB (fixN 2 f_chosen_r3) (aC (eO bSub (eO bSub (eV 0) (eV 3)) (eC (.int 1))) (aC (eO bSub (eV 1) (eC (.int 1))) aN)))) (gN 5) tTr (eO bAdd (eB bLst (aC (eV 3) aN)) chosen_r4_C1) [5]) loc := rfl
def chosen_r4_L1 : S := (sAsg (eO bAdd (eV 2) chosen_r4_C2) (gN 2))
theorem chosen_r4_L1_eq (loc : Loc) : chosen_r4_L1 loc = (sAsg (eO bAdd (eV 2) chosen_r4_C2) (gN 2)) loc := rfl
def b_chosen_r4 : S := (sSeq (sIf (tV (eO bEq (eV 1) (eC (.int 0)))) (sRet (eB bLst (aC (eB bLst aN) aN))) sNil)
    (sSeq (sAsg (eB bLst aN) (gN 2))
    (sSeq (sFor (iCall kRg1 (aC (eO bAdd (eO bSub (eV 0) (eV 1)) (eC (.int 1))) aN)) (gN 3)
    chosen_r4_L1)
    (sRet (eV 2)))))
def f_chosen_r4 : List Val → M Val := runF 6 b_chosen_r4
def chosen_r5_C1 : E := (eLc (iSeq (eV 5)) (gN 4) tTr (eO bAdd (eO bAdd (eV 3) (eC (.int 1))) (eV 4)) [4])
theorem chosen_r5_C1_eq (loc : Loc) : chosen_r5_C1 loc = (eLc (iSeq (eV 5)) (gN 4) tTr (eO bAdd (eO bAdd (eV 3) (eC (.int 1))) (eV 4)) [4]) loc := rfl
def chosen_r5_C2 : E := (eLc (iSeq (eB (fixN 2 f_chosen_r4) (aC (eO bSub (eO bSub (eV 0) (eV 3)) (eC (.int 1))) (aC (eO bSub (eV 1) (eC (.int 1))) aN)))) (gN 5) tTr (eO bAdd (eB bLst (aC (eV 3) aN)) chosen_r5_C1) [5])
theorem chosen_r5_C2_eq (loc : Loc) : chosen_r5_C2 loc = (eLc (iSeq (eB (fixN 2 f_chosen_r4) (aC (eO bSub (eO bSub (eV 0) (eV 3)) (eC (.int 1))) (aC (eO bSub (eV 1) (eC (.int 1))) aN)))) (gN 5) tTr (eO bAdd (eB bLst (aC (eV 3) aN)) chosen_r5_C1) [5]) loc := rfl
def chosen_r5_L1 : S := (sAsg (eO bAdd (eV 2) chosen_r5_C2) (gN 2))
theorem chosen_r5_L1_eq (loc : Loc) : chosen_r5_L1 loc = (sAsg (eO bAdd (eV 2) chosen_r5_C2) (gN 2)) loc := rfl
def b_chosen_r5 : S := (sSeq (sIf (tV (eO bEq (eV 1) (eC (.int 0)))) (sRet (eB bLst (aC (eB bLst aN) aN))) sNil)
    (sSeq (sAsg (eB bLst aN) (gN 2))
    (sSeq (sFor (iCall kRg1 (aC (eO bAdd (eO bSub (eV 0) (eV 1)) (eC (.int 1))) aN)) (gN 3)
    chosen_r5_L1)
    (sRet (eV 2)))))
def f_chosen_r5 : List Val → M Val := runF 6 b_chosen_r5
def chosen_r6_C1 : E := (eLc (iSeq (eV 5)) (gN 4) tTr (eO bAdd (eO bAdd (eV 3) (eC (.int 1))) (eV 4)) [4])
theorem chosen_r6_C1_eq (loc : Loc) : chosen_r6_C1 loc = (eLc (iSeq (eV 5)) (gN 4) tTr (eO bAdd (eO bAdd (eV 3) (eC (.int 1))) (eV 4)) [4]) loc := rfl
def chosen_r6_C2 : E := (eLc (iSeq (eB (fixN 2 f_chosen_r5) (aC (eO bSub (eO bSub (eV 0) (eV 3)) (eC (.int 1))) (aC (eO bSub (eV 1) (eC (.int 1))) aN)))) (gN 5) tTr (eO bAdd (eB bLst (aC (eV 3) aN)) chosen_r6_C1) [5])
theorem chosen_r6_C2_eq (loc : Loc) : chosen_r6_C2 loc = (eLc (iSeq (eB (fixN 2 f_chosen_r5) (aC (eO bSub (eO bSub (eV 0) (eV 3)) (eC (.int 1))) (aC (eO bSub (eV 1) (eC (.int 1))) aN)))) (gN 5) tTr (eO bAdd (eB bLst (aC (eV 3) aN)) chosen_r6_C1) [5]) loc := rfl
def chosen_r6_L1 : S := (sAsg (eO bAdd (eV 2) chosen_r6_C2) (gN 2))
theorem chosen_r6_L1_eq (loc : Loc) : chosen_r6_L1 loc = (sAsg (eO bAdd (eV 2) chosen_r6_C2) (gN 2)) loc := rfl
def b_chosen_r6 : S := (sSeq (sIf (tV (eO bEq (eV 1) (eC (.int 0)))) (sRet (eB bLst (aC (eB bLst aN) aN))) sNil)
    (sSeq (sAsg (eB bLst aN) (gN 2))
    (sSeq (sFor (iCall kRg1 (aC (eO bAdd (eO bSub (eV 0) (eV 1)) (eC (.int 1))) aN)) (gN 3)
    chosen_r6_L1)
    (sRet (eV 2)))))
def f_chosen_r6 : List Val → M Val := runF 6 b_chosen_r6
def chosen_C1 : E := (eLc (iSeq (eV 5)) (gN 4) tTr (eO bAdd (eO bAdd (eV 3) (eC (.int 1))) (eV 4)) [4])
theorem chosen_C1_eq (loc : Loc) : chosen_C1 loc = (eLc (iSeq (eV 5)) (gN 4) tTr (eO bAdd (eO bAdd (eV 3) (eC (.int 1))) (eV 4)) [4]) loc := rfl
def chosen_C2 : E := (eLc (iSeq (eB (fixN 2 f_chosen_r6) (aC (eO bSub (eO bSub (eV 0) (eV 3)) (eC (.int 1))) (aC (eO bSub (eV 1) (eC (.int 1))) aN)))) (gN 5) tTr (eO bAdd (eB bLst (aC (eV 3) aN)) chosen_C1) [5])
theorem chosen_C2_eq (loc : Loc) : chosen_C2 loc = (eLc (iSeq (eB (fixN 2 f_chosen_r6) (aC (eO bSub (eO bSub (eV 0) (eV 3)) (eC (.int 1))) (aC (eO bSub (eV 1) (eC (.int 1))) aN)))) (gN 5) tTr (eO bAdd (eB bLst (aC (eV 3) aN)) chosen_C1) [5]) loc := rfl
def chosen_L1 : S := (sAsg (eO bAdd (eV 2) chosen_C2) (gN 2))
theorem chosen_L1_eq (loc : Loc) : chosen_L1 loc = (sAsg (eO bAdd (eV 2) chosen_C2) (gN 2)) loc := rfl
def b_chosen : S := (sSeq (sIf (tV (eO bEq (eV 1) (eC (.int 0)))) (sRet (eB bLst (aC (eB bLst aN) aN))) sNil)
    (sSeq (sAsg (eB bLst aN) (gN 2))
    (sSeq (sFor (iCall kRg1 (aC (eO bAdd (eO bSub (eV 0) (eV 1)) (eC (.int 1))) aN)) (gN 3)
    chosen_L1)
    (sRet (eV 2)))))
def f_chosen : List Val → M Val := runF 6 b_chosen
noncomputable def whole_L1 : S := (sAsg (eO bDiv (eO bMul (eV 1) (eV 3)) (eB (fixN 2 f_divider) (aC (eV 1) (aC (eV 3) aN)))) (gN 1))
theorem whole_L1_eq (loc : Loc) : whole_L1 loc = (sAsg (eO bDiv (eO bMul (eV 1) (eV 3)) (eB (fixN 2 f_divider) (aC (eV 1) (aC (eV 3) aN)))) (gN 1)) loc := rfl
noncomputable def whole_C1 : E := (eLc (iSeq (eV 0)) (gT 2 (gsC (gN 2) (gsC (gN 3) gsN))) tTr (eO bMul (eV 2) (eO bDiv (eV 1) (eV 3))) [2, 3])
theorem whole_C1_eq (loc : Loc) : whole_C1 loc = (eLc (iSeq (eV 0)) (gT 2 (gsC (gN 2) (gsC (gN 3) gsN))) tTr (eO bMul (eV 2) (eO bDiv (eV 1) (eV 3))) [2, 3]) loc := rfl
noncomputable def b_whole : S := (sSeq (sAsg (eC (.int 1)) (gN 1))
    (sSeq (sFor (iSeq (eV 0)) (gT 2 (gsC (gN 2) (gsC (gN 3) gsN)))
    whole_L1)
    (sRet (eB bTuple (aC whole_C1 aN)))))
noncomputable def f_whole : List Val → M Val := runF 4 b_whole
noncomputable def won_C1 : E := (eLc (iSeq (eV 3)) (gN 5) tTr (eU bNeg (eO bIx (eV 5) (eV 6))) [5])
theorem won_C1_eq (loc : Loc) : won_C1 loc = (eLc (iSeq (eV 3)) (gN 5) tTr (eU bNeg (eO bIx (eV 5) (eV 6))) [5]) loc := rfl
noncomputable def won_C2 : E := (eLc (iCall kRg1 (aC (eB (fixN 1 f_heaps_of) (aC (eV 0) aN)) aN)) (gN 6) tTr won_C1 [6])
theorem won_C2_eq (loc : Loc) : won_C2 loc = (eLc (iCall kRg1 (aC (eB (fixN 1 f_heaps_of) (aC (eV 0) aN)) aN)) (gN 6) tTr won_C1 [6]) loc := rfl
noncomputable def b_won : S := (sSeq (sAsg (eB (fixN 1 f_all_changes) (aC (eV 0) aN)) (gN 3))
    (sSeq (sAsg won_C2 (gN 4))
    (sRet (eB (fixN 3 f_best) (aC (eV 4) (aC (eB bList (aC (eV 1) aN)) (aC (eV 2) aN)))))))
noncomputable def f_won : List Val → M Val := runF 7 b_won
noncomputable def b_for_all : S := (sRet (eB (fixN 3 f_won) (aC (eV 0) (aC (eO bMul (eB bTup (aC (eC (.int 1)) aN)) (eB (fixN 1 f_heaps_of) (aC (eV 0) aN))) (aC (eO bMul (eB bLst (aC (eC (.int 1)) aN)) (eB bLen (aC (eV 0) aN))) aN)))))
noncomputable def f_for_all : List Val → M Val := runF 1 b_for_all
noncomputable def b_some_weights : S := (sSeq (sAsg (eB (fixN 1 f_for_all) (aC (eV 0) aN)) (gT 3 (gsC (gN 1) (gsC (gN 2) (gsC (gN 3) gsN)))))
    (sRet (eIf (tV (eO bEq (eV 1) (eC (.str "most")))) (eB (fixN 1 f_whole) (aC (eV 3) aN)) (eC .none))))
noncomputable def f_some_weights : List Val → M Val := runF 4 b_some_weights
noncomputable def b_some_round : S := (sSeq (sAsg (eB (fixN 1 f_for_all) (aC (eV 0) aN)) (gT 3 (gsC (gN 1) (gsC (gN 2) (gsC (gN 3) gsN)))))
    (sRet (eIf (tV (eO bEq (eV 1) (eC (.str "way")))) (eB (fixN 1 f_whole) (aC (eV 2) aN)) (eC .none))))
noncomputable def f_some_round : List Val → M Val := runF 4 b_some_round
noncomputable def b_ends : S := (sSeq (sExp (eB (fixN 1 f_need_moves) (aC (eV 0) aN)))
    (sRet (eU bNotN (eB (fixN 1 f_some_weights) (aC (eV 0) aN)))))
noncomputable def f_ends : List Val → M Val := runF 1 b_ends
noncomputable def b_weights_of : S := (sSeq (sExp (eB (fixN 1 f_need_moves) (aC (eV 0) aN)))
    (sRet (eB (fixN 1 f_some_weights) (aC (eV 0) aN))))
noncomputable def f_weights_of : List Val → M Val := runF 1 b_weights_of
noncomputable def b_round_of : S := (sSeq (sExp (eB (fixN 1 f_need_moves) (aC (eV 0) aN)))
    (sRet (eB (fixN 1 f_some_round) (aC (eV 0) aN))))
noncomputable def f_round_of : List Val → M Val := runF 1 b_round_of
noncomputable def b_do_end : S := (sRet (eOr (eO bEq (eV 0) (eB bTup aN)) (eU bNotN (eB (fixN 1 f_some_weights) (aC (eV 0) aN)))))
noncomputable def f_do_end : List Val → M Val := runF 1 b_do_end
def without_C1 : E := (eLc (iCall kEnumS (aC (eV 0) aN)) (gT 2 (gsC (gN 2) (gsC (gN 3) gsN))) (tV (eO bNIn (eV 2) (eV 1))) (eV 3) [2, 3])
theorem without_C1_eq (loc : Loc) : without_C1 loc = (eLc (iCall kEnumS (aC (eV 0) aN)) (gT 2 (gsC (gN 2) (gsC (gN 3) gsN))) (tV (eO bNIn (eV 2) (eV 1))) (eV 3) [2, 3]) loc := rfl
def b_without : S := (sRet (eB bTuple (aC without_C1 aN)))
def f_without : List Val → M Val := runF 4 b_without
noncomputable def all_cuts_C1 : E := (eLc (iSeq (eV 6)) (gN 5) tTr (eO bIn (eV 5) (eV 3)) [5])
theorem all_cuts_C1_eq (loc : Loc) : all_cuts_C1 loc = (eLc (iSeq (eV 6)) (gN 5) tTr (eO bIn (eV 5) (eV 3)) [5]) loc := rfl
noncomputable def all_cuts_C2 : E := (eLcO (eV 1) (gN 6) tTr (eB bAll (aC all_cuts_C1 aN)) [6])
theorem all_cuts_C2_eq (loc : Loc) : all_cuts_C2 loc = (eLcO (eV 1) (gN 6) tTr (eB bAll (aC all_cuts_C1 aN)) [6]) loc := rfl
noncomputable def all_cuts_L1 : S := (sSeq (sAsg (eNo (eB bAny (aC all_cuts_C2 aN))) (gN 4))
    (sIf (tAn (tV (eV 4)) (tV (eB (fixN 1 f_do_end) (aC (eB (fixN 2 f_without) (aC (eV 0) (aC (eV 3) aN))) aN)))) (sExp (eApp (eV 1) (eV 3))) sNil))
theorem all_cuts_L1_eq (loc : Loc) : all_cuts_L1 loc = (sSeq (sAsg (eNo (eB bAny (aC all_cuts_C2 aN))) (gN 4))
    (sIf (tAn (tV (eV 4)) (tV (eB (fixN 1 f_do_end) (aC (eB (fixN 2 f_without) (aC (eV 0) (aC (eV 3) aN))) aN)))) (sExp (eApp (eV 1) (eV 3))) sNil)) loc := rfl
noncomputable def all_cuts_L2 : S := (sFor (iSeq (eB (fixN 2 f_chosen) (aC (eB bLen (aC (eV 0) aN)) (aC (eV 2) aN)))) (gN 3)
    all_cuts_L1)
theorem all_cuts_L2_eq (loc : Loc) : all_cuts_L2 loc = (sFor (iSeq (eB (fixN 2 f_chosen) (aC (eB bLen (aC (eV 0) aN)) (aC (eV 2) aN)))) (gN 3)
    all_cuts_L1) loc := rfl
noncomputable def b_all_cuts : S := (sSeq (sAsg (eB bNew aN) (gN 1))
    (sSeq (sFor (iCall kRg1 (aC (eO bAdd (eB bLen (aC (eV 0) aN)) (eC (.int 1))) aN)) (gN 2)
    all_cuts_L2)
    (sRet (eU bFrz (eV 1)))))
noncomputable def f_all_cuts : List Val → M Val := runF 7 b_all_cuts
noncomputable def b_cuts : S := (sSeq (sExp (eB (fixN 1 f_need_moves) (aC (eV 0) aN)))
    (sRet (eB (fixN 1 f_all_cuts) (aC (eV 0) aN))))
noncomputable def f_cuts : List Val → M Val := runF 1 b_cuts
noncomputable def b_first_cut : S := (sSeq (sExp (eB (fixN 1 f_need_moves) (aC (eV 0) aN)))
    (sRet (eO bIx (eB (fixN 1 f_all_cuts) (aC (eV 0) aN)) (eC (.int 0)))))
noncomputable def f_first_cut : List Val → M Val := runF 1 b_first_cut
def b_law_cell : S := (sSeq (sIf (tV (eO bEq (eV 0) (eB bLst aN))) (sRet (eO bMul (eV 1) (eC (.int 7919)))) sNil)
    (sRet (eO bAdd (eO bIx (eV 0) (eO bMod (eV 1) (eB bLen (aC (eV 0) aN)))) (eO bMul (eO bDiv (eV 1) (eB bLen (aC (eV 0) aN))) (eC (.int 104729))))))
def f_law_cell : List Val → M Val := runF 2 b_law_cell
def b_law_drawn : S := (sSeq (sAsg (eO bMod (eO bAdd (eO bMul (eV 0) (eC (.int 6364136223846793005))) (eO bMul (eO bAdd (eV 1) (eC (.int 1))) (eC (.int 1442695040888963407)))) (eC (.int 340282366920938463463374607431768211507))) (gN 2))
    (sSeq (sAsg (eO bMod (eO bMul (eV 2) (eV 2)) (eC (.int 340282366920938463463374607431768211297))) (gN 2))
    (sSeq (sAsg (eO bMul (eO bMul (eO bAdd (eO bMod (eV 2) (eC (.int 18446744073709551557))) (eC (.int 1))) (eO bAdd (eO bDiv (eV 2) (eC (.int 18446744073709551557))) (eC (.int 1)))) (eV 2)) (gN 2))
    (sRet (eO bMod (eV 2) (eC (.int 340282366920938463463374607431768211507)))))))
def f_law_drawn : List Val → M Val := runF 3 b_law_drawn
def b_law_roll : S := (sSeq (sIf (tV (eO bGe (eO bIx (eV 0) (eC (.int 0))) (eO bPow (eC (.int 10)) (eC (.int 18))))) (sSeq (sAsg (eO bMod (eO bIx (eV 0) (eC (.int 0))) (eV 1)) (gN 2))
    (sSeq (sAsg (eO bDiv (eO bIx (eV 0) (eC (.int 0))) (eV 1)) (gSub (eV 0) (eC (.int 0))))
    (sRet (eV 2)))) sNil)
    (sSeq (sAsg (eO bAdd (eO bIx (eV 0) (eC (.int 1))) (eC (.int 1))) (gSub (eV 0) (eC (.int 1))))
    (sRet (eO bMod (eO bDiv (eB (fixN 2 f_law_drawn) (aC (eO bIx (eV 0) (eC (.int 0))) (aC (eO bIx (eV 0) (eC (.int 1))) aN))) (eC (.int 8))) (eV 1)))))
def f_law_roll : List Val → M Val := runF 3 b_law_roll
def law_rounds_C1 : E := (eLcN (iCall kRg1 (aC (eB bMax2 (aC (eC (.int 1)) (aC (eB bMin2 (aC (eV 1) (aC (eB bLen (aC (eV 0) aN)) aN))) aN))) aN)) (gN 2) tTr (eB bNew (aC (eB (fixN 2 f_law_cell) (aC (eV 0) (aC (eV 2) aN))) (aC (eC (.int 0)) aN))) [2])
theorem law_rounds_C1_eq (loc : Loc) : law_rounds_C1 loc = (eLcN (iCall kRg1 (aC (eB bMax2 (aC (eC (.int 1)) (aC (eB bMin2 (aC (eV 1) (aC (eB bLen (aC (eV 0) aN)) aN))) aN))) aN)) (gN 2) tTr (eB bNew (aC (eB (fixN 2 f_law_cell) (aC (eV 0) (aC (eV 2) aN))) (aC (eC (.int 0)) aN))) [2]) loc := rfl
def b_law_rounds : S := (sRet law_rounds_C1)
def f_law_rounds : List Val → M Val := runF 3 b_law_rounds
def law_any_move_C1 : E := (eLc (iCall kRg1 (aC (eV 1) aN)) (gN 3) tTr (eO bIx (eB bLst (aC (eC (.int 0)) (aC (eC (.int 0)) (aC (eC (.int 1)) (aC (eC (.int 1)) (aC (eC (.int 2)) aN)))))) (eB (fixN 2 f_law_roll) (aC (eV 0) (aC (eC (.int 5)) aN)))) [3])
theorem law_any_move_C1_eq (loc : Loc) : law_any_move_C1 loc = (eLc (iCall kRg1 (aC (eV 1) aN)) (gN 3) tTr (eO bIx (eB bLst (aC (eC (.int 0)) (aC (eC (.int 0)) (aC (eC (.int 1)) (aC (eC (.int 1)) (aC (eC (.int 2)) aN)))))) (eB (fixN 2 f_law_roll) (aC (eV 0) (aC (eC (.int 5)) aN)))) [3]) loc := rfl
def law_any_move_C2 : E := (eLc (iCall kRg1 (aC (eV 1) aN)) (gN 3) tTr (eO bIx (eB bLst (aC (eC (.int 0)) (aC (eC (.int 0)) (aC (eC (.int 0)) (aC (eC (.int 1)) (aC (eC (.int 2)) aN)))))) (eB (fixN 2 f_law_roll) (aC (eV 0) (aC (eC (.int 5)) aN)))) [3])
theorem law_any_move_C2_eq (loc : Loc) : law_any_move_C2 loc = (eLc (iCall kRg1 (aC (eV 1) aN)) (gN 3) tTr (eO bIx (eB bLst (aC (eC (.int 0)) (aC (eC (.int 0)) (aC (eC (.int 0)) (aC (eC (.int 1)) (aC (eC (.int 2)) aN)))))) (eB (fixN 2 f_law_roll) (aC (eV 0) (aC (eC (.int 5)) aN)))) [3]) loc := rfl
def b_law_any_move : S := (sSeq (sAsg (eB bTuple (aC law_any_move_C1 aN)) (gN 2))
    (sRet (eB bTup (aC (eV 2) (aC (eB bTuple (aC law_any_move_C2 aN)) aN)))))
def f_law_any_move : List Val → M Val := runF 4 b_law_any_move
def law_any_moves_C1 : E := (eLc (iCall kRg1 (aC (eO bAdd (eC (.int 1)) (eB (fixN 2 f_law_roll) (aC (eV 0) (aC (eV 1) aN)))) aN)) (gN 3) tTr (eB (fixN 2 f_law_any_move) (aC (eV 0) (aC (eV 2) aN))) [3])
theorem law_any_moves_C1_eq (loc : Loc) : law_any_moves_C1 loc = (eLc (iCall kRg1 (aC (eO bAdd (eC (.int 1)) (eB (fixN 2 f_law_roll) (aC (eV 0) (aC (eV 1) aN)))) aN)) (gN 3) tTr (eB (fixN 2 f_law_any_move) (aC (eV 0) (aC (eV 2) aN))) [3]) loc := rfl
def b_law_any_moves : S := (sSeq (sAsg (eO bAdd (eC (.int 1)) (eB (fixN 2 f_law_roll) (aC (eV 0) (aC (eC (.int 3)) aN)))) (gN 2))
    (sRet (eB bTuple (aC law_any_moves_C1 aN))))
def f_law_any_moves : List Val → M Val := runF 4 b_law_any_moves
def law_all_lists_C1 : E := (eLc (iSeq (eV 1)) (gN 3) tTr (eO bAdd (eV 3) (eB bLst (aC (eV 2) aN))) [3])
theorem law_all_lists_C1_eq (loc : Loc) : law_all_lists_C1 loc = (eLc (iSeq (eV 1)) (gN 3) tTr (eO bAdd (eV 3) (eB bLst (aC (eV 2) aN))) [3]) loc := rfl
def law_all_lists_L1 : S := (sAsg (eO bAdd (eV 1) law_all_lists_C1) (gN 1))
theorem law_all_lists_L1_eq (loc : Loc) : law_all_lists_L1 loc = (sAsg (eO bAdd (eV 1) law_all_lists_C1) (gN 1)) loc := rfl
def b_law_all_lists : S := (sSeq (sAsg (eB bLst (aC (eB bLst aN) aN)) (gN 1))
    (sSeq (sFor (iCall kRg1 (aC (eV 0) aN)) (gN 2)
    law_all_lists_L1)
    (sRet (eV 1))))
def f_law_all_lists : List Val → M Val := runF 4 b_law_all_lists
noncomputable def law_C1 : E := (eLc (iCall kEnumS (aC (eV 2) aN)) (gT 2 (gsC (gN 6) (gsC (gN 7) gsN))) (tV (eO bNIn (eV 6) (eV 4))) (eV 7) [6, 7])
theorem law_C1_eq (loc : Loc) : law_C1 loc = (eLc (iCall kEnumS (aC (eV 2) aN)) (gT 2 (gsC (gN 6) (gsC (gN 7) gsN))) (tV (eO bNIn (eV 6) (eV 4))) (eV 7) [6, 7]) loc := rfl
noncomputable def law_L1 : S := (sSeq (sAsg (eB bTuple (aC law_C1 aN)) (gN 5))
    (sIf (tOrr (tV (eO bEq (eV 5) (eB bTup aN))) (tV (eU bNotN (eB (fixN 1 f_weights_of) (aC (eV 5) aN))))) (sExp (eApp (eV 3) (eV 4))) sNil))
theorem law_L1_eq (loc : Loc) : law_L1 loc = (sSeq (sAsg (eB bTuple (aC law_C1 aN)) (gN 5))
    (sIf (tOrr (tV (eO bEq (eV 5) (eB bTup aN))) (tV (eU bNotN (eB (fixN 1 f_weights_of) (aC (eV 5) aN))))) (sExp (eApp (eV 3) (eV 4))) sNil)) loc := rfl
noncomputable def law_C2 : E := (eLcO (eV 3) (gN 10) (tV (eO bNe (eV 10) (eV 4))) (eV 10) [10])
theorem law_C2_eq (loc : Loc) : law_C2 loc = (eLcO (eV 3) (gN 10) (tV (eO bNe (eV 10) (eV 4))) (eV 10) [10]) loc := rfl
noncomputable def law_C3 : E := (eLc (iSeq (eV 10)) (gN 6) (tV (eO bNIn (eV 6) (eV 4))) (eV 6) [6])
theorem law_C3_eq (loc : Loc) : law_C3 loc = (eLc (iSeq (eV 10)) (gN 6) (tV (eO bNIn (eV 6) (eV 4))) (eV 6) [6]) loc := rfl
noncomputable def law_C4 : E := (eLc (iSeq (eV 9)) (gN 10) (tV (eO bEq law_C3 (eB bLst aN))) (eV 10) [10])
theorem law_C4_eq (loc : Loc) : law_C4 loc = (eLc (iSeq (eV 9)) (gN 10) (tV (eO bEq law_C3 (eB bLst aN))) (eV 10) [10]) loc := rfl
noncomputable def law_L2 : S := (sSeq (sAsg law_C2 (gN 9))
    (sIf (tV (eO bEq law_C4 (eB bLst aN))) (sExp (eApp (eV 8) (eB bTup (aC (eB bLen (aC (eV 4) aN)) (aC (eV 4) aN))))) sNil))
theorem law_L2_eq (loc : Loc) : law_L2 loc = (sSeq (sAsg law_C2 (gN 9))
    (sIf (tV (eO bEq law_C4 (eB bLst aN))) (sExp (eApp (eV 8) (eB bTup (aC (eB bLen (aC (eV 4) aN)) (aC (eV 4) aN))))) sNil)) loc := rfl
noncomputable def law_C5 : E := (eLcN (iSeq (eB bSortD (aC (eV 8) aN))) (gT 2 (gsC (gN 11) (gsC (gN 4) gsN))) tTr (eV 4) [11, 4])
theorem law_C5_eq (loc : Loc) : law_C5 loc = (eLcN (iSeq (eB bSortD (aC (eV 8) aN))) (gT 2 (gsC (gN 11) (gsC (gN 4) gsN))) tTr (eV 4) [11, 4]) loc := rfl
noncomputable def law_C6 : E := (eLc (iCall kEnumS (aC (eV 12) aN)) (gT 2 (gsC (gN 6) (gsC (gN 14) gsN))) (tV (eO bGt (eV 14) (eC (.int 0)))) (eV 6) [6, 14])
theorem law_C6_eq (loc : Loc) : law_C6 loc = (eLc (iCall kEnumS (aC (eV 12) aN)) (gT 2 (gsC (gN 6) (gsC (gN 14) gsN))) (tV (eO bGt (eV 14) (eC (.int 0)))) (eV 6) [6, 14]) loc := rfl
noncomputable def law_C7 : E := (eLc (iSeq (eV 4)) (gN 6) (tV (eO bIn (eV 6) (eV 13))) (eV 6) [6])
theorem law_C7_eq (loc : Loc) : law_C7 loc = (eLc (iSeq (eV 4)) (gN 6) (tV (eO bIn (eV 6) (eV 13))) (eV 6) [6]) loc := rfl
noncomputable def law_C8 : E := (eLcO (eV 8) (gN 4) (tV (eO bEq law_C7 (eB bLst aN))) (eV 4) [4])
theorem law_C8_eq (loc : Loc) : law_C8 loc = (eLcO (eV 8) (gN 4) (tV (eO bEq law_C7 (eB bLst aN))) (eV 4) [4]) loc := rfl
noncomputable def law_L3 : S := (sSeq (sAsg (eB (fixN 2 f_law_any_moves) (aC (eV 1) (aC (eC (.int 5)) aN))) (gN 2))
    (sSeq (sAsg (eB bNew aN) (gN 3))
    (sSeq (sFor (iSeq (eB (fixN 1 f_law_all_lists) (aC (eB bLen (aC (eV 2) aN)) aN))) (gN 4)
    law_L1)
    (sSeq (sAsg (eB bNew aN) (gN 8))
    (sSeq (sForO (eV 3) (gN 4)
    law_L2)
    (sSeq (sAsg law_C5 (gN 8))
    (sSeq (sIf (tOrr (tV (eO bNe (eB (fixN 1 f_cuts) (aC (eV 2) aN)) (eV 8))) (tOrr (tV (eO bNe (eB (fixN 1 f_first_cut) (aC (eV 2) aN)) (eO bIx (eV 8) (eC (.int 0))))) (tV (eO bNe (eB (fixN 1 f_ends) (aC (eV 2) aN)) (eO bEq (eV 8) (eB bLst (aC (eB bLst aN) aN))))))) (sRet (eC (.bool false))) sNil)
    (sSeq (sAsg (eB (fixN 1 f_round_of) (aC (eV 2) aN)) (gN 12))
    (sIf (tV (eU bNotN (eV 12))) (sSeq (sAsg law_C6 (gN 13))
    (sIf (tV (eO bNe law_C8 (eB bLst aN))) (sRet (eC (.bool false))) sNil)) sNil)))))))))
theorem law_L3_eq (loc : Loc) : law_L3 loc = (sSeq (sAsg (eB (fixN 2 f_law_any_moves) (aC (eV 1) (aC (eC (.int 5)) aN))) (gN 2))
    (sSeq (sAsg (eB bNew aN) (gN 3))
    (sSeq (sFor (iSeq (eB (fixN 1 f_law_all_lists) (aC (eB bLen (aC (eV 2) aN)) aN))) (gN 4)
    law_L1)
    (sSeq (sAsg (eB bNew aN) (gN 8))
    (sSeq (sForO (eV 3) (gN 4)
    law_L2)
    (sSeq (sAsg law_C5 (gN 8))
    (sSeq (sIf (tOrr (tV (eO bNe (eB (fixN 1 f_cuts) (aC (eV 2) aN)) (eV 8))) (tOrr (tV (eO bNe (eB (fixN 1 f_first_cut) (aC (eV 2) aN)) (eO bIx (eV 8) (eC (.int 0))))) (tV (eO bNe (eB (fixN 1 f_ends) (aC (eV 2) aN)) (eO bEq (eV 8) (eB bLst (aC (eB bLst aN) aN))))))) (sRet (eC (.bool false))) sNil)
    (sSeq (sAsg (eB (fixN 1 f_round_of) (aC (eV 2) aN)) (gN 12))
    (sIf (tV (eU bNotN (eV 12))) (sSeq (sAsg law_C6 (gN 13))
    (sIf (tV (eO bNe law_C8 (eB bLst aN))) (sRet (eC (.bool false))) sNil)) sNil))))))))) loc := rfl
noncomputable def b_law : S := (sSeq (sForO (eB (fixN 2 f_law_rounds) (aC (eV 0) (aC (eC (.int 4)) aN))) (gN 1)
    law_L3)
    (sRet (eC (.bool true))))
noncomputable def f_law : List Val → M Val := runF 15 b_law
end Y
end
section
set_option Elab.async false
set_option Elab.async false
set_option linter.all false
set_option maxRecDepth 100000
set_option maxHeartbeats 2000000
namespace Y
open PySem PySem.Spec PyProof.Rows L2
def topS (i : Nat) : Stmt := PySem.Challenge.pw_spentheaps_k18_whole_cuts.main.body.getD i (.Pass ⟨0, 0, 0, 0⟩)
structure Blt (mg : Str → Option Value) : Prop where
  abs : mg "abs" = none
  all : mg "all" = none
  any : mg "any" = none
  bool : mg "bool" = none
  enumerate : mg "enumerate" = none
  int : mg "int" = none
  isinstance : mg "isinstance" = none
  len : mg "len" = none
  list : mg "list" = none
  max : mg "max" = none
  min : mg "min" = none
  range : mg "range" = none
  sorted : mg "sorted" = none
  tuple : mg "tuple" = none
  zip : mg "zip" = none
section
set_option Elab.async false
variable {P : Program} {w : World} {mg : Str → Option Value} {base : Heap} {G : Glo}
def s_is_whole : Stmt := topS 6
theorem sc_is_whole : FnScope ["thing", "low", "high"] ["thing", "low", "high"] (defScope s_is_whole) := ⟨rfl, rfl, rfl, by decide +kernel, rfl, by decide +kernel, by decide +kernel⟩
theorem ok_is_whole (At : DefAt mg G.K "is_whole" s_is_whole ["thing", "low", "high"]) (B : Blt mg) : DefOk P w mg base G 1 "is_whole" 3 f_is_whole := by
  have sc := sc_is_whole
  have z := @def_ok P w mg base G "is_whole" s_is_whole ["thing", "low", "high"] ["thing", "low", "high"] 0 3 b_is_whole At sc rfl (by decide) fun f cdv A outer s H E hr => by
    have tk : L2N.Takes (cxOf (L2N.CX P w) P w G.K mg base ["thing", "low", "high"] "is_whole" (defScope s_is_whole) f cdv A outer s H E) (fun cls d _ H => E cls d H) := L2N.takes_of rfl rfl rfl rfl
    unfold b_is_whole
    exact (qss_one (qs_ret (qe_and (qe_isi (T := "int") (by decide) (by rfl) B.isinstance (by rfl) B.int (by decide +kernel) (qe_var 0)) (qe_and (qe_not (qe_isi (T := "bool") (by decide) (by rfl) B.isinstance (by rfl) B.bool (by decide +kernel) (qe_var 0))) (qe_one (qe_chain op_le bCmp_snd op_le bCmp_snd (qe_var 1) (qe_var 0) (qe_var 2)))))))
  exact z
def s_are_whole : Stmt := topS 7
theorem sc_are_whole : FnScope ["thing", "many", "high", "one"] ["thing", "many", "high"] (defScope s_are_whole) := ⟨rfl, rfl, rfl, by decide +kernel, rfl, by decide +kernel, by decide +kernel⟩
theorem ok_are_whole (At : DefAt mg G.K "are_whole" s_are_whole ["thing", "many", "high"]) (B : Blt mg) (D_is_whole : DefOk P w mg base G 1 "is_whole" 3 f_is_whole) : DefOk P w mg base G 2 "are_whole" 3 f_are_whole := by
  have sc := sc_are_whole
  have z := @def_ok P w mg base G "are_whole" s_are_whole ["thing", "many", "high", "one"] ["thing", "many", "high"] 1 3 b_are_whole At sc rfl (by decide) fun f cdv A outer s H E hr => by
    have tk : L2N.Takes (cxOf (L2N.CX P w) P w G.K mg base ["thing", "many", "high", "one"] "are_whole" (defScope s_are_whole) f cdv A outer s H E) (fun cls d _ H => E cls d H) := L2N.takes_of rfl rfl rfl rfl
    unfold b_are_whole are_whole_C1
    exact (qss_one (qs_ret (qe_and (qe_isi (T := "tuple") (by decide) (by rfl) B.isinstance (by rfl) B.tuple (by decide +kernel) (qe_var 0)) (qe_and (qe_cmp (op_eqD hr.units) bEq_snd (qe_callB call_len_seq bLen_snd (by rfl) B.len (by decide +kernel) (qa_cons (qe_var 0) qa_nil)) (qe_var 1) (nomark _)) (qe_one (qe_callB (cr_all rfl) bAll_snd (by rfl) B.all (by decide +kernel) (qa_cons (qe_lc (own := [("one", 3)]) rfl sc.nd (qi_seq (qe_var 0)) (blkOk_by (own := [("one", 3)]) (by kernel_rfl)) (fun _ _ _ _ _ => (qg_name 3 sc.nd rfl (by first | exact Or.inl rfl | exact Or.inr rfl))) (fun _ _ _ _ _ => qts_nil) (fun _ _ _ _ _ => (qe_callD D_is_whole hr (by decide) (by rfl) pasF (qa_cons (qe_var 3) (qa_cons qe_int (qa_cons (qe_var 2) qa_nil)))))) qa_nil)))))))
  exact z
def s_is_move : Stmt := topS 8
theorem sc_is_move : FnScope ["thing", "heaps", "part"] ["thing", "heaps"] (defScope s_is_move) := ⟨rfl, rfl, rfl, by decide +kernel, rfl, by decide +kernel, by decide +kernel⟩
theorem ok_is_move (At : DefAt mg G.K "is_move" s_is_move ["thing", "heaps"]) (B : Blt mg) (D_are_whole : DefOk P w mg base G 2 "are_whole" 3 f_are_whole) : DefOk P w mg base G 3 "is_move" 2 f_is_move := by
  have sc := sc_is_move
  have z := @def_ok P w mg base G "is_move" s_is_move ["thing", "heaps", "part"] ["thing", "heaps"] 2 2 b_is_move At sc rfl (by decide) fun f cdv A outer s H E hr => by
    have tk : L2N.Takes (cxOf (L2N.CX P w) P w G.K mg base ["thing", "heaps", "part"] "is_move" (defScope s_is_move) f cdv A outer s H E) (fun cls d _ H => E cls d H) := L2N.takes_of rfl rfl rfl rfl
    unfold b_is_move is_move_C1
    exact (qss_one (qs_ret (qe_and (qe_isi (T := "tuple") (by decide) (by rfl) B.isinstance (by rfl) B.tuple (by decide +kernel) (qe_var 0)) (qe_and (qe_cmp (op_eqD hr.units) bEq_snd (qe_callB call_len_seq bLen_snd (by rfl) B.len (by decide +kernel) (qa_cons (qe_var 0) qa_nil)) qe_int (nomark _)) (qe_one (qe_callB (cr_all rfl) bAll_snd (by rfl) B.all (by decide +kernel) (qa_cons (qe_lc (own := [("part", 2)]) rfl sc.nd (qi_seq (qe_var 0)) (blkOk_by (own := [("part", 2)]) (by kernel_rfl)) (fun _ _ _ _ _ => (qg_name 2 sc.nd rfl (by first | exact Or.inl rfl | exact Or.inr rfl))) (fun _ _ _ _ _ => qts_nil) (fun _ _ _ _ _ => (qe_callD D_are_whole hr (by decide) (by rfl) pasF (qa_cons (qe_var 2) (qa_cons (qe_var 1) (qa_cons qe_int qa_nil)))))) qa_nil)))))))
  exact z
def s_heaps_in : Stmt := topS 9
theorem sc_heaps_in : FnScope ["thing"] ["thing"] (defScope s_heaps_in) := ⟨rfl, rfl, rfl, by decide +kernel, rfl, by decide +kernel, by decide +kernel⟩
theorem ok_heaps_in (At : DefAt mg G.K "heaps_in" s_heaps_in ["thing"]) (B : Blt mg) : DefOk P w mg base G 1 "heaps_in" 1 f_heaps_in := by
  have sc := sc_heaps_in
  have z := @def_ok P w mg base G "heaps_in" s_heaps_in ["thing"] ["thing"] 0 1 b_heaps_in At sc rfl (by decide) fun f cdv A outer s H E hr => by
    have tk : L2N.Takes (cxOf (L2N.CX P w) P w G.K mg base ["thing"] "heaps_in" (defScope s_heaps_in) f cdv A outer s H E) (fun cls d _ H => E cls d H) := L2N.takes_of rfl rfl rfl rfl
    unfold b_heaps_in
    exact (qss_cons (qs_if (PW.pt (qw_or (qt_not (qt_val (qe_isi (T := "tuple") (by decide) (by rfl) B.isinstance (by rfl) B.tuple (by decide +kernel) (qe_var 0)))) (qw_or (qt_cmp (op_neD hr.units) bNe_snd (qe_callB call_len_seq bLen_snd (by rfl) B.len (by decide +kernel) (qa_cons (qe_var 0) qa_nil)) qe_int (nomark _)) (qw_or1 (qt_not (qt_val (qe_isi (T := "tuple") (by decide) (by rfl) B.isinstance (by rfl) B.tuple (by decide +kernel) (qe_ix ix_seq bIx_snd (qe_var 0) qe_int (fun _ _ => rfl))))))))) (qss_one (qs_ret qe_int)) qss_nil)
    (qss_one (qs_ret (qe_callB call_len_seq bLen_snd (by rfl) B.len (by decide +kernel) (qa_cons (qe_ix ix_seq bIx_snd (qe_var 0) qe_int (fun _ _ => rfl)) qa_nil)))))
  exact z
def s_is_moves : Stmt := topS 10
theorem sc_is_moves : FnScope ["thing", "heaps", "one"] ["thing"] (defScope s_is_moves) := ⟨rfl, rfl, rfl, by decide +kernel, rfl, by decide +kernel, by decide +kernel⟩
theorem ok_is_moves (At : DefAt mg G.K "is_moves" s_is_moves ["thing"]) (B : Blt mg) (D_heaps_in : DefOk P w mg base G 1 "heaps_in" 1 f_heaps_in) (D_is_move : DefOk P w mg base G 3 "is_move" 2 f_is_move) (c_MOST_HEAPS : ∃ t, mg "MOST_HEAPS" = some (.int 4 t)) (c_MOST_MOVES : ∃ t, mg "MOST_MOVES" = some (.int 6 t)) : DefOk P w mg base G 4 "is_moves" 1 f_is_moves := by
  have sc := sc_is_moves
  have z := @def_ok P w mg base G "is_moves" s_is_moves ["thing", "heaps", "one"] ["thing"] 3 1 b_is_moves At sc rfl (by decide) fun f cdv A outer s H E hr => by
    have tk : L2N.Takes (cxOf (L2N.CX P w) P w G.K mg base ["thing", "heaps", "one"] "is_moves" (defScope s_is_moves) f cdv A outer s H E) (fun cls d _ H => E cls d H) := L2N.takes_of rfl rfl rfl rfl
    unfold b_is_moves is_moves_C1
    exact (qss_cons (qs_if (PW.pt (qw_or (qt_not (qt_val (qe_isi (T := "tuple") (by decide) (by rfl) B.isinstance (by rfl) B.tuple (by decide +kernel) (qe_var 0)))) (qw_or1 (qt_not (qt_chain op_le bCmp_snd op_le bCmp_snd qe_int (qe_callB call_len_seq bLen_snd (by rfl) B.len (by decide +kernel) (qa_cons (qe_var 0) qa_nil)) (qe_gI c_MOST_MOVES rfl)))))) (qss_one (qs_ret qe_bl)) qss_nil)
    (qss_cons (qs_set 1 sc.nd rfl (by first | exact Or.inl rfl | exact Or.inr rfl) (qe_callD D_heaps_in hr (by decide) (by rfl) (pasE tk) (qa_cons (qe_ix ix_seq bIx_snd (qe_var 0) qe_int (fun _ _ => rfl)) qa_nil)))
    (qss_one (qs_ret (qe_and (qe_chain op_le bCmp_snd op_le bCmp_snd qe_int (qe_var 1) (qe_gI c_MOST_HEAPS rfl)) (qe_one (qe_callB (cr_all rfl) bAll_snd (by rfl) B.all (by decide +kernel) (qa_cons (qe_lc (own := [("one", 2)]) rfl sc.nd (qi_seq (qe_var 0)) (blkOk_by (own := [("one", 2)]) (by kernel_rfl)) (fun _ _ _ _ _ => (qg_name 2 sc.nd rfl (by first | exact Or.inl rfl | exact Or.inr rfl))) (fun _ _ _ _ _ => qts_nil) (fun _ _ _ _ _ => (qe_callD D_is_move hr (by decide) (by rfl) pasF (qa_cons (qe_var 2) (qa_cons (qe_var 1) qa_nil))))) qa_nil))))))))
  exact z
def s_need_moves : Stmt := topS 11
theorem sc_need_moves : FnScope ["thing"] ["thing"] (defScope s_need_moves) := ⟨rfl, rfl, rfl, by decide +kernel, rfl, by decide +kernel, by decide +kernel⟩
theorem ok_need_moves (At : DefAt mg G.K "need_moves" s_need_moves ["thing"]) (B : Blt mg) (D_is_moves : DefOk P w mg base G 4 "is_moves" 1 f_is_moves) (X_BadMoves : ExcF mg G.K "BadMoves" (G.cl 1)) : DefOk P w mg base G 5 "need_moves" 1 f_need_moves := by
  have sc := sc_need_moves
  have z := @def_ok P w mg base G "need_moves" s_need_moves ["thing"] ["thing"] 4 1 b_need_moves At sc rfl (by decide) fun f cdv A outer s H E hr => by
    have tk : L2N.Takes (cxOf (L2N.CX P w) P w G.K mg base ["thing"] "need_moves" (defScope s_need_moves) f cdv A outer s H E) (fun cls d _ H => E cls d H) := L2N.takes_of rfl rfl rfl rfl
    unfold b_need_moves
    exact (qss_one (qs_if (qt_not (qt_val (qe_callD D_is_moves hr (by decide) (by rfl) (pasE tk) (qa_cons (qe_var 0) qa_nil)))) (qss_one (qs_raiseX X_BadMoves rfl tk (fun _ _ _ _ h => h) (by rfl))) qss_nil))
  exact z
def s_heaps_of : Stmt := topS 12
theorem sc_heaps_of : FnScope ["moves"] ["moves"] (defScope s_heaps_of) := ⟨rfl, rfl, rfl, by decide +kernel, rfl, by decide +kernel, by decide +kernel⟩
theorem ok_heaps_of (At : DefAt mg G.K "heaps_of" s_heaps_of ["moves"]) (B : Blt mg) : DefOk P w mg base G 1 "heaps_of" 1 f_heaps_of := by
  have sc := sc_heaps_of
  have z := @def_ok P w mg base G "heaps_of" s_heaps_of ["moves"] ["moves"] 0 1 b_heaps_of At sc rfl (by decide) fun f cdv A outer s H E hr => by
    have tk : L2N.Takes (cxOf (L2N.CX P w) P w G.K mg base ["moves"] "heaps_of" (defScope s_heaps_of) f cdv A outer s H E) (fun cls d _ H => E cls d H) := L2N.takes_of rfl rfl rfl rfl
    unfold b_heaps_of
    exact (qss_one (qs_ret (qe_callB call_len_seq bLen_snd (by rfl) B.len (by decide +kernel) (qa_cons (qe_ix ix_seq bIx_snd (qe_ix ix_seq bIx_snd (qe_var 0) qe_int (fun _ _ => rfl)) qe_int (fun _ _ => rfl)) qa_nil))))
  exact z
def s_change : Stmt := topS 13
theorem sc_change : FnScope ["move", "less", "more"] ["move"] (defScope s_change) := ⟨rfl, rfl, rfl, by decide +kernel, rfl, by decide +kernel, by decide +kernel⟩
theorem ok_change (At : DefAt mg G.K "change" s_change ["move"]) (B : Blt mg) : DefOk P w mg base G 1 "change" 1 f_change := by
  have sc := sc_change
  have z := @def_ok P w mg base G "change" s_change ["move", "less", "more"] ["move"] 0 1 b_change At sc rfl (by decide) fun f cdv A outer s H E hr => by
    have tk : L2N.Takes (cxOf (L2N.CX P w) P w G.K mg base ["move", "less", "more"] "change" (defScope s_change) f cdv A outer s H E) (fun cls d _ H => E cls d H) := L2N.takes_of rfl rfl rfl rfl
    unfold b_change change_C1
    exact (qss_one (qs_ret (qe_callTy call_tuple_of bTuple_snd (by rfl) B.tuple (by decide +kernel) (qa_cons (qe_lc (own := [("less", 1), ("more", 2)]) rfl sc.nd (qi_zip2 (by rfl) B.zip (qa_cons (qe_ix ix_seq bIx_snd (qe_var 0) qe_int (fun _ _ => rfl)) (qa_cons (qe_ix ix_seq bIx_snd (qe_var 0) qe_int (fun _ _ => rfl)) qa_nil))) (blkOk_by (own := [("less", 1), ("more", 2)]) (by kernel_rfl)) (fun _ _ _ _ _ => (qg_tup rfl (qgs_cons (qg_name 1 sc.nd rfl (by first | exact Or.inl rfl | exact Or.inr rfl)) (qgs_cons (qg_name 2 sc.nd rfl (by first | exact Or.inl rfl | exact Or.inr rfl)) qgs_nil)))) (fun _ _ _ _ _ => qts_nil) (fun _ _ _ _ _ => (qe_op op_sub bSub_snd (qe_var 2) (qe_var 1)))) qa_nil))))
  exact z
def s_all_changes : Stmt := topS 14
theorem sc_all_changes : FnScope ["moves", "move"] ["moves"] (defScope s_all_changes) := ⟨rfl, rfl, rfl, by decide +kernel, rfl, by decide +kernel, by decide +kernel⟩
theorem ok_all_changes (At : DefAt mg G.K "all_changes" s_all_changes ["moves"]) (B : Blt mg) (D_change : DefOk P w mg base G 1 "change" 1 f_change) : DefOk P w mg base G 2 "all_changes" 1 f_all_changes := by
  have sc := sc_all_changes
  have z := @def_ok P w mg base G "all_changes" s_all_changes ["moves", "move"] ["moves"] 1 1 b_all_changes At sc rfl (by decide) fun f cdv A outer s H E hr => by
    have tk : L2N.Takes (cxOf (L2N.CX P w) P w G.K mg base ["moves", "move"] "all_changes" (defScope s_all_changes) f cdv A outer s H E) (fun cls d _ H => E cls d H) := L2N.takes_of rfl rfl rfl rfl
    unfold b_all_changes all_changes_C1
    exact (qss_one (qs_ret (qe_lc (own := [("move", 1)]) rfl sc.nd (qi_seq (qe_var 0)) (blkOk_by (own := [("move", 1)]) (by kernel_rfl)) (fun _ _ _ _ _ => (qg_name 1 sc.nd rfl (by first | exact Or.inl rfl | exact Or.inr rfl))) (fun _ _ _ _ _ => qts_nil) (fun _ _ _ _ _ => (qe_callD D_change hr (by decide) (by rfl) pasF (qa_cons (qe_var 1) qa_nil))))))
  exact z
def s_divider : Stmt := topS 16
theorem sc_divider : FnScope ["one", "other"] ["one", "other"] (defScope s_divider) := ⟨rfl, rfl, rfl, by decide +kernel, rfl, by decide +kernel, by decide +kernel⟩
theorem ok_divider (At : DefAt mg G.K "divider" s_divider ["one", "other"]) (B : Blt mg) : DefOk P w mg base G 1 "divider" 2 f_divider := by
  have sc := sc_divider
  have z := @def_ok P w mg base G "divider" s_divider ["one", "other"] ["one", "other"] 0 2 b_divider At sc rfl (by decide) fun f cdv A outer s H E hr => by
    have tk : L2N.Takes (cxOf (L2N.CX P w) P w G.K mg base ["one", "other"] "divider" (defScope s_divider) f cdv A outer s H E) (fun cls d _ H => E cls d H) := L2N.takes_of rfl rfl rfl rfl
    unfold b_divider divider_L1
    exact (qss_cons (qs_par 0 1 rfl sc.nd rfl rfl (by decide) rfl rfl (qa_cons (qe_callB call_abs bAbs_snd (by rfl) B.abs (by decide +kernel) (qa_cons (qe_var 0) qa_nil)) (qa_cons (qe_callB call_abs bAbs_snd (by rfl) B.abs (by decide +kernel) (qa_cons (qe_var 1) qa_nil)) qa_nil)) (by rfl))
    (qss_cons (qs_while (passes_of rfl) (qt_cmp (op_neD hr.units) bNe_snd (qe_var 1) qe_int (nomark _)) (qss_one (qs_par 0 1 rfl sc.nd rfl rfl (by decide) rfl rfl (qa_cons (qe_var 1) (qa_cons (qe_op op_sub bSub_snd (qe_var 0) (qe_op op_mulAll bMul_snd (qe_op op_fdivW bDiv_snd (qe_var 0) (qe_var 1)) (qe_var 1))) qa_nil)) (by rfl))))
    (qss_one (qs_ret (qe_var 0)))))
  exact z
def s_lowest : Stmt := topS 17
theorem sc_lowest : FnScope ["top", "below", "by"] ["top", "below"] (defScope s_lowest) := ⟨rfl, rfl, rfl, by decide +kernel, rfl, by decide +kernel, by decide +kernel⟩
theorem ok_lowest (At : DefAt mg G.K "lowest" s_lowest ["top", "below"]) (B : Blt mg) (D_divider : DefOk P w mg base G 1 "divider" 2 f_divider) : DefOk P w mg base G 2 "lowest" 2 f_lowest := by
  have sc := sc_lowest
  have z := @def_ok P w mg base G "lowest" s_lowest ["top", "below", "by"] ["top", "below"] 1 2 b_lowest At sc rfl (by decide) fun f cdv A outer s H E hr => by
    have tk : L2N.Takes (cxOf (L2N.CX P w) P w G.K mg base ["top", "below", "by"] "lowest" (defScope s_lowest) f cdv A outer s H E) (fun cls d _ H => E cls d H) := L2N.takes_of rfl rfl rfl rfl
    unfold b_lowest
    exact (qss_cons (qs_set 2 sc.nd rfl (by first | exact Or.inl rfl | exact Or.inr rfl) (qe_if (qt_cmp op_gt bCmp_snd (qe_var 1) qe_int (nomark _)) (qe_callD D_divider hr (by decide) (by rfl) (pasE tk) (qa_cons (qe_var 0) (qa_cons (qe_var 1) qa_nil))) (qe_un un_neg bNeg_snd (qe_callD D_divider hr (by decide) (by rfl) (pasE tk) (qa_cons (qe_var 0) (qa_cons (qe_var 1) qa_nil))))))
    (qss_one (qs_ret (qe_tup (qa_cons (qe_op op_fdivW bDiv_snd (qe_var 0) (qe_var 2)) (qa_cons (qe_op op_fdivW bDiv_snd (qe_var 1) (qe_var 2)) qa_nil))))))
  exact z
def s_product : Stmt := topS 18
theorem sc_product : FnScope ["one", "other"] ["one", "other"] (defScope s_product) := ⟨rfl, rfl, rfl, by decide +kernel, rfl, by decide +kernel, by decide +kernel⟩
theorem ok_product (At : DefAt mg G.K "product" s_product ["one", "other"]) (B : Blt mg) (D_lowest : DefOk P w mg base G 2 "lowest" 2 f_lowest) : DefOk P w mg base G 3 "product" 2 f_product := by
  have sc := sc_product
  have z := @def_ok P w mg base G "product" s_product ["one", "other"] ["one", "other"] 2 2 b_product At sc rfl (by decide) fun f cdv A outer s H E hr => by
    have tk : L2N.Takes (cxOf (L2N.CX P w) P w G.K mg base ["one", "other"] "product" (defScope s_product) f cdv A outer s H E) (fun cls d _ H => E cls d H) := L2N.takes_of rfl rfl rfl rfl
    unfold b_product
    exact (qss_one (qs_ret (qe_callD D_lowest hr (by decide) (by rfl) (pasE tk) (qa_cons (qe_op op_mulAll bMul_snd (qe_ix ix_seq bIx_snd (qe_var 0) qe_int (fun _ _ => rfl)) (qe_ix ix_seq bIx_snd (qe_var 1) qe_int (fun _ _ => rfl))) (qa_cons (qe_op op_mulAll bMul_snd (qe_ix ix_seq bIx_snd (qe_var 0) qe_int (fun _ _ => rfl)) (qe_ix ix_seq bIx_snd (qe_var 1) qe_int (fun _ _ => rfl))) qa_nil)))))
  exact z
def s_over : Stmt := topS 19
theorem sc_over : FnScope ["one", "other"] ["one", "other"] (defScope s_over) := ⟨rfl, rfl, rfl, by decide +kernel, rfl, by decide +kernel, by decide +kernel⟩
theorem ok_over (At : DefAt mg G.K "over" s_over ["one", "other"]) (B : Blt mg) (D_lowest : DefOk P w mg base G 2 "lowest" 2 f_lowest) : DefOk P w mg base G 3 "over" 2 f_over := by
  have sc := sc_over
  have z := @def_ok P w mg base G "over" s_over ["one", "other"] ["one", "other"] 2 2 b_over At sc rfl (by decide) fun f cdv A outer s H E hr => by
    have tk : L2N.Takes (cxOf (L2N.CX P w) P w G.K mg base ["one", "other"] "over" (defScope s_over) f cdv A outer s H E) (fun cls d _ H => E cls d H) := L2N.takes_of rfl rfl rfl rfl
    unfold b_over
    exact (qss_one (qs_ret (qe_callD D_lowest hr (by decide) (by rfl) (pasE tk) (qa_cons (qe_op op_mulAll bMul_snd (qe_ix ix_seq bIx_snd (qe_var 0) qe_int (fun _ _ => rfl)) (qe_ix ix_seq bIx_snd (qe_var 1) qe_int (fun _ _ => rfl))) (qa_cons (qe_op op_mulAll bMul_snd (qe_ix ix_seq bIx_snd (qe_var 0) qe_int (fun _ _ => rfl)) (qe_ix ix_seq bIx_snd (qe_var 1) qe_int (fun _ _ => rfl))) qa_nil)))))
  exact z
def s_less : Stmt := topS 20
theorem sc_less : FnScope ["one", "other"] ["one", "other"] (defScope s_less) := ⟨rfl, rfl, rfl, by decide +kernel, rfl, by decide +kernel, by decide +kernel⟩
theorem ok_less (At : DefAt mg G.K "less" s_less ["one", "other"]) (B : Blt mg) (D_lowest : DefOk P w mg base G 2 "lowest" 2 f_lowest) : DefOk P w mg base G 3 "less" 2 f_less := by
  have sc := sc_less
  have z := @def_ok P w mg base G "less" s_less ["one", "other"] ["one", "other"] 2 2 b_less At sc rfl (by decide) fun f cdv A outer s H E hr => by
    have tk : L2N.Takes (cxOf (L2N.CX P w) P w G.K mg base ["one", "other"] "less" (defScope s_less) f cdv A outer s H E) (fun cls d _ H => E cls d H) := L2N.takes_of rfl rfl rfl rfl
    unfold b_less
    exact (qss_one (qs_ret (qe_callD D_lowest hr (by decide) (by rfl) (pasE tk) (qa_cons (qe_op op_sub bSub_snd (qe_op op_mulAll bMul_snd (qe_ix ix_seq bIx_snd (qe_var 0) qe_int (fun _ _ => rfl)) (qe_ix ix_seq bIx_snd (qe_var 1) qe_int (fun _ _ => rfl))) (qe_op op_mulAll bMul_snd (qe_ix ix_seq bIx_snd (qe_var 1) qe_int (fun _ _ => rfl)) (qe_ix ix_seq bIx_snd (qe_var 0) qe_int (fun _ _ => rfl)))) (qa_cons (qe_op op_mulAll bMul_snd (qe_ix ix_seq bIx_snd (qe_var 0) qe_int (fun _ _ => rfl)) (qe_ix ix_seq bIx_snd (qe_var 1) qe_int (fun _ _ => rfl))) qa_nil)))))
  exact z
def s_is_less : Stmt := topS 21
theorem sc_is_less : FnScope ["one", "other"] ["one", "other"] (defScope s_is_less) := ⟨rfl, rfl, rfl, by decide +kernel, rfl, by decide +kernel, by decide +kernel⟩
theorem ok_is_less (At : DefAt mg G.K "is_less" s_is_less ["one", "other"]) (B : Blt mg) : DefOk P w mg base G 1 "is_less" 2 f_is_less := by
  have sc := sc_is_less
  have z := @def_ok P w mg base G "is_less" s_is_less ["one", "other"] ["one", "other"] 0 2 b_is_less At sc rfl (by decide) fun f cdv A outer s H E hr => by
    have tk : L2N.Takes (cxOf (L2N.CX P w) P w G.K mg base ["one", "other"] "is_less" (defScope s_is_less) f cdv A outer s H E) (fun cls d _ H => E cls d H) := L2N.takes_of rfl rfl rfl rfl
    unfold b_is_less
    exact (qss_one (qs_ret (qe_cmp op_lt bCmp_snd (qe_op op_mulAll bMul_snd (qe_ix ix_seq bIx_snd (qe_var 0) qe_int (fun _ _ => rfl)) (qe_ix ix_seq bIx_snd (qe_var 1) qe_int (fun _ _ => rfl))) (qe_op op_mulAll bMul_snd (qe_ix ix_seq bIx_snd (qe_var 1) qe_int (fun _ _ => rfl)) (qe_ix ix_seq bIx_snd (qe_var 0) qe_int (fun _ _ => rfl))) (nomark _))))
  exact z
def s_cleared : Stmt := topS 22
theorem sc_cleared : FnScope ["row", "head", "column", "one", "other"] ["row", "head", "column"] (defScope s_cleared) := ⟨rfl, rfl, rfl, by decide +kernel, rfl, by decide +kernel, by decide +kernel⟩
theorem ok_cleared (At : DefAt mg G.K "cleared" s_cleared ["row", "head", "column"]) (B : Blt mg) (D_less : DefOk P w mg base G 3 "less" 2 f_less) (D_product : DefOk P w mg base G 3 "product" 2 f_product) : DefOk P w mg base G 4 "cleared" 3 f_cleared := by
  have sc := sc_cleared
  have z := @def_ok P w mg base G "cleared" s_cleared ["row", "head", "column", "one", "other"] ["row", "head", "column"] 3 3 b_cleared At sc rfl (by decide) fun f cdv A outer s H E hr => by
    have tk : L2N.Takes (cxOf (L2N.CX P w) P w G.K mg base ["row", "head", "column", "one", "other"] "cleared" (defScope s_cleared) f cdv A outer s H E) (fun cls d _ H => E cls d H) := L2N.takes_of rfl rfl rfl rfl
    unfold b_cleared cleared_C1
    exact (qss_one (qs_ret (qe_lc (own := [("one", 3), ("other", 4)]) rfl sc.nd (qi_zip2 (by rfl) B.zip (qa_cons (qe_var 0) (qa_cons (qe_var 1) qa_nil))) (blkOk_by (own := [("one", 3), ("other", 4)]) (by kernel_rfl)) (fun _ _ _ _ _ => (qg_tup rfl (qgs_cons (qg_name 3 sc.nd rfl (by first | exact Or.inl rfl | exact Or.inr rfl)) (qgs_cons (qg_name 4 sc.nd rfl (by first | exact Or.inl rfl | exact Or.inr rfl)) qgs_nil)))) (fun _ _ _ _ _ => qts_nil) (fun _ _ _ _ _ => (qe_callD D_less hr (by decide) (by rfl) pasF (qa_cons (qe_var 3) (qa_cons (qe_callD D_product hr (by decide) (by rfl) pasF (qa_cons (qe_ix ix_seq bIx_snd (qe_var 0) (qe_var 2) (fun _ _ => rfl)) (qa_cons (qe_var 4) qa_nil))) qa_nil)))))))
  exact z
def s_Table_init : Stmt := inClass (topS 23) 0
theorem sc_Table_init : FnScope ["self", "rows", "highs", "aims", "size", "at", "row", "own", "spot", "one"] ["self", "rows", "highs", "aims"] (defScope s_Table_init) := ⟨rfl, rfl, rfl, by decide +kernel, rfl, by decide +kernel, by decide +kernel⟩
theorem ok_Table_init {f : Addr} {fd : FuncData} (Fn : Fun G.K "__init__" "Table.__init__" s_Table_init f fd) (hmg : mg "Table" = some (.ref (G.ic 0))) (M : Mk G.K (G.ic 0) f) (hbd : Binds G.K fd ["self", "rows", "highs", "aims"] []) (B : Blt mg) (CA_Table : ClsA G.K (G.ic 0) ["rows", "last", "names", "many"]) : ClsOk P w mg base G 1 "Table" 0 3 f_Table_init := by
  have sc := sc_Table_init
  have z := @cls_ok P w mg base G "Table" "Table.__init__" s_Table_init ["self", "rows", "highs", "aims", "size", "at", "row", "own", "spot", "one"] ["self", "rows", "highs", "aims"] 0 3 0 b_Table_init f fd Fn hmg M hbd sc rfl (by decide) fun f cdv A outer s H E hr => by
    have tk : L2N.Takes (cxOf (L2N.CX P w) P w G.K mg base ["self", "rows", "highs", "aims", "size", "at", "row", "own", "spot", "one"] "Table.__init__" (defScope s_Table_init) f cdv A outer s H E) (fun cls d _ H => E cls d H) := L2N.takes_of rfl rfl rfl rfl
    unfold b_Table_init Table_init_C4 Table_init_C3 Table_init_L1 Table_init_C2 Table_init_C1
    exact (qss_cons (qs_asg (vs := [4, 0]) (qe_tup (qa_cons (qe_callB call_len_seq bLen_snd (by rfl) B.len (by decide +kernel) (qa_cons (qe_var 1) qa_nil)) (qa_cons (qe_callB call_len_seq bLen_snd (by rfl) B.len (by decide +kernel) (qa_cons (qe_var 3) qa_nil)) qa_nil))) (qg_tup rfl (qgs_cons (qg_name 4 sc.nd rfl (by first | exact Or.inl rfl | exact Or.inr rfl)) (qgs_cons (qg_att CA_Table (by decide) (qe_var 0)) qgs_nil))))
    (qss_cons (qs_asg (vs := [0]) (qe_new qa_nil) (qg_att CA_Table (by decide) (qe_var 0)))
    (qss_cons (qs_for (vs := [5, 6]) (passes_of rfl) rfl (qi_enumS (by rfl) B.enumerate (qa_cons (qe_var 1) qa_nil)) (qg_tup rfl (qgs_cons (qg_name 5 sc.nd rfl (by first | exact Or.inl rfl | exact Or.inr rfl)) (qgs_cons (qg_name 6 sc.nd rfl (by first | exact Or.inl rfl | exact Or.inr rfl)) qgs_nil)))
    (qss_cons (qs_setLc 7 (own := [("spot", 8)]) rfl sc.nd rfl rfl (sw_true rfl rfl rfl (by decide +kernel)) (qi_rng1 (by rfl) B.range (qa_cons (qe_var 4) qa_nil)) (blkOk_by (own := [("spot", 8)]) (by kernel_rfl)) (fun _ _ _ _ _ => (qg_name 8 sc.nd rfl (by first | exact Or.inl rfl | exact Or.inr rfl))) (fun _ _ _ _ _ => qts_nil) (fun _ _ _ _ _ => (qe_tup (qa_cons (qe_callTy call_int1 bInt1_snd (by rfl) B.int (by decide +kernel) (qa_cons (qe_cmp (op_eqD hr.units) bEq_snd (qe_var 8) (qe_var 5) (nomark _)) qa_nil)) (qa_cons qe_int qa_nil)))))
    (qss_one (qs_expr (qe_app (qe_att CA_Table (by decide) (qe_var 0)) (qe_op op_addA bAdd_snd (qe_op op_addA bAdd_snd (qe_lc (own := [("one", 9)]) rfl sc.nd (qi_seq (qe_var 6)) (blkOk_by (own := [("one", 9)]) (by kernel_rfl)) (fun _ _ _ _ _ => (qg_name 9 sc.nd rfl (by first | exact Or.inl rfl | exact Or.inr rfl))) (fun _ _ _ _ _ => qts_nil) (fun _ _ _ _ _ => (qe_tup (qa_cons (qe_var 9) (qa_cons qe_int qa_nil))))) (qe_var 7)) (qe_lst (qa_cons (qe_tup (qa_cons (qe_ix ix_seq bIx_snd (qe_var 2) (qe_var 5) (fun _ _ => rfl)) (qa_cons qe_int qa_nil))) qa_nil))))))))
    (qss_cons (qs_asg (vs := [0]) (qe_op op_addA bAdd_snd (qe_lc (own := [("one", 9)]) rfl sc.nd (qi_seq (qe_var 3)) (blkOk_by (own := [("one", 9)]) (by kernel_rfl)) (fun _ _ _ _ _ => (qg_name 9 sc.nd rfl (by first | exact Or.inl rfl | exact Or.inr rfl))) (fun _ _ _ _ _ => qts_nil) (fun _ _ _ _ _ => (qe_tup (qa_cons (qe_un un_neg bNeg_snd (qe_var 9)) (qa_cons qe_int qa_nil))))) (qe_op op_mulAll bMul_snd (qe_lst (qa_cons (qe_tup (qa_cons qe_int (qa_cons qe_int qa_nil))) qa_nil)) (qe_op op_addA bAdd_snd (qe_var 4) qe_int))) (qg_att CA_Table (by decide) (qe_var 0)))
    (qss_one (qs_asg (vs := [0]) (qe_lcN (own := [("at", 5)]) rfl sc.nd (qi_rng1 (by rfl) B.range (qa_cons (qe_var 4) qa_nil)) (blkOk_by (own := [("at", 5)]) (by kernel_rfl)) (fun _ _ _ _ _ => (qg_name 5 sc.nd rfl (by first | exact Or.inl rfl | exact Or.inr rfl))) (fun _ _ _ _ _ => qts_nil) (fun _ _ _ _ _ => (qe_op op_addA bAdd_snd (qe_att CA_Table (by decide) (qe_var 0)) (qe_var 5)))) (qg_att CA_Table (by decide) (qe_var 0))))))))
  exact z
def s_Table_entering : Stmt := inClass (topS 23) 1
theorem sc_Table_entering : FnScope ["self", "some", "column"] ["self"] (defScope s_Table_entering) := ⟨rfl, rfl, rfl, by decide +kernel, rfl, by decide +kernel, by decide +kernel⟩
theorem ok_Table_entering {f : Addr} {fd : FuncData} (Fn : Fun G.K "entering" "Table.entering" s_Table_entering f fd) (M : Meth G.K (G.ic 0) "entering" f) (hbd : Binds G.K fd ["self"] []) (B : Blt mg) (CA_Table : ClsA G.K (G.ic 0) ["rows", "last", "names", "many"]) : MetOk P w mg base G 1 0 "entering" 0 f_Table_entering := by
  have sc := sc_Table_entering
  have z := @met_ok P w mg base G "entering" "Table.entering" s_Table_entering ["self", "some", "column"] ["self"] 0 0 0 b_Table_entering f fd Fn M hbd sc rfl (by decide) fun f cdv A outer s H E hr => by
    have tk : L2N.Takes (cxOf (L2N.CX P w) P w G.K mg base ["self", "some", "column"] "Table.entering" (defScope s_Table_entering) f cdv A outer s H E) (fun cls d _ H => E cls d H) := L2N.takes_of rfl rfl rfl rfl
    unfold b_Table_entering Table_entering_C1
    exact (qss_cons (qs_setLc 1 (own := [("column", 2)]) rfl sc.nd rfl rfl (sw_true rfl rfl rfl (by decide +kernel)) (qi_rng1 (by rfl) B.range (qa_cons (qe_op op_sub bSub_snd (qe_callB call_len_seq bLen_snd (by rfl) B.len (by decide +kernel) (qa_cons (qe_att CA_Table (by decide) (qe_var 0)) qa_nil)) qe_int) qa_nil)) (blkOk_by (own := [("column", 2)]) (by kernel_rfl)) (fun _ _ _ _ _ => (qg_name 2 sc.nd rfl (by first | exact Or.inl rfl | exact Or.inr rfl))) (fun _ _ _ _ _ => (qts_one (qt_cmp op_lt bCmp_snd (qe_ix ix_seq bIx_snd (qe_ix ix_seq bIx_snd (qe_att CA_Table (by decide) (qe_var 0)) (qe_var 2) (fun _ _ => rfl)) qe_int (fun _ _ => rfl)) qe_int (nomark _)))) (fun _ _ _ _ _ => (qe_var 2)))
    (qss_one (qs_ret (qe_if (qt_cmp (op_neD hr.units) bNe_snd (qe_var 1) (qe_lst qa_nil) (nomark _)) (qe_ix ix_seq bIx_snd (qe_var 1) qe_int (fun _ _ => rfl)) qe_non))))
  exact z
def s_Table_leaving : Stmt := inClass (topS 23) 2
theorem sc_Table_leaving : FnScope ["self", "column", "found", "at", "row", "ratio"] ["self", "column"] (defScope s_Table_leaving) := ⟨rfl, rfl, rfl, by decide +kernel, rfl, by decide +kernel, by decide +kernel⟩
theorem ok_Table_leaving {f : Addr} {fd : FuncData} (Fn : Fun G.K "leaving" "Table.leaving" s_Table_leaving f fd) (M : Meth G.K (G.ic 0) "leaving" f) (hbd : Binds G.K fd ["self", "column"] []) (B : Blt mg) (D_is_less : DefOk P w mg base G 1 "is_less" 2 f_is_less) (D_over : DefOk P w mg base G 3 "over" 2 f_over) (CA_Table : ClsA G.K (G.ic 0) ["rows", "last", "names", "many"]) : MetOk P w mg base G 4 0 "leaving" 1 f_Table_leaving := by
  have sc := sc_Table_leaving
  have z := @met_ok P w mg base G "leaving" "Table.leaving" s_Table_leaving ["self", "column", "found", "at", "row", "ratio"] ["self", "column"] 3 1 0 b_Table_leaving f fd Fn M hbd sc rfl (by decide) fun f cdv A outer s H E hr => by
    have tk : L2N.Takes (cxOf (L2N.CX P w) P w G.K mg base ["self", "column", "found", "at", "row", "ratio"] "Table.leaving" (defScope s_Table_leaving) f cdv A outer s H E) (fun cls d _ H => E cls d H) := L2N.takes_of rfl rfl rfl rfl
    unfold b_Table_leaving Table_leaving_L1
    exact (qss_cons (qs_set 2 sc.nd rfl (by first | exact Or.inl rfl | exact Or.inr rfl) qe_non)
    (qss_cons (qs_for (vs := [3, 4]) (passes_of rfl) rfl (qi_enumS (by rfl) B.enumerate (qa_cons (qe_atf CA_Table (by decide) (qe_var 0)) qa_nil)) (qg_tup rfl (qgs_cons (qg_name 3 sc.nd rfl (by first | exact Or.inl rfl | exact Or.inr rfl)) (qgs_cons (qg_name 4 sc.nd rfl (by first | exact Or.inl rfl | exact Or.inr rfl)) qgs_nil)))
    (qss_one (qs_if (qt_cmp op_gt bCmp_snd (qe_ix ix_seq bIx_snd (qe_ix ix_seq bIx_snd (qe_var 4) (qe_var 1) (fun _ _ => rfl)) qe_int (fun _ _ => rfl)) qe_int (nomark _)) (qss_cons (qs_set 5 sc.nd rfl (by first | exact Or.inl rfl | exact Or.inr rfl) (qe_callD D_over hr (by decide) (by rfl) (pasE tk) (qa_cons (qe_ix ix_seq bIx_snd (qe_var 4) (qe_un un_neg bNeg_snd qe_int) (fun _ _ => rfl)) (qa_cons (qe_ix ix_seq bIx_snd (qe_var 4) (qe_var 1) (fun _ _ => rfl)) qa_nil))))
    (qss_one (qs_if (PW.pt (qw_or (qt_isN (qe_var 2)) (qw_or (qt_val (qe_callD D_is_less hr (by decide) (by rfl) (pasE tk) (qa_cons (qe_var 5) (qa_cons (qe_ix ix_seq bIx_snd (qe_var 2) qe_int (fun _ _ => rfl)) qa_nil)))) (qw_or1 (PW.pt (qw_and (qt_cmp (op_eqD hr.units) bEq_snd (qe_var 5) (qe_ix ix_seq bIx_snd (qe_var 2) qe_int (fun _ _ => rfl)) (nomark _)) (qw_and1 (qt_cmp op_lt bCmp_snd (qe_ix ix_seq bIx_snd (qe_att CA_Table (by decide) (qe_var 0)) (qe_var 3) (fun _ _ => rfl)) (qe_ix ix_seq bIx_snd (qe_var 2) qe_int (fun _ _ => rfl)) (nomark _))))))))) (qss_one (qs_set 2 sc.nd rfl (by first | exact Or.inl rfl | exact Or.inr rfl) (qe_tup (qa_cons (qe_var 5) (qa_cons (qe_ix ix_seq bIx_snd (qe_att CA_Table (by decide) (qe_var 0)) (qe_var 3) (fun _ _ => rfl)) (qa_cons (qe_var 3) qa_nil)))))) qss_nil))) qss_nil)))
    (qss_one (qs_ret (qe_if (qt_notN (qe_var 2)) (qe_ix ix_seq bIx_snd (qe_var 2) qe_int (fun _ _ => rfl)) qe_non)))))
  exact z
def s_Table_solution : Stmt := inClass (topS 23) 4
theorem sc_Table_solution : FnScope ["self", "found", "at", "name"] ["self"] (defScope s_Table_solution) := ⟨rfl, rfl, rfl, by decide +kernel, rfl, by decide +kernel, by decide +kernel⟩
theorem ok_Table_solution {f : Addr} {fd : FuncData} (Fn : Fun G.K "solution" "Table.solution" s_Table_solution f fd) (M : Meth G.K (G.ic 0) "solution" f) (hbd : Binds G.K fd ["self"] []) (B : Blt mg) (CA_Table : ClsA G.K (G.ic 0) ["rows", "last", "names", "many"]) : MetOk P w mg base G 1 0 "solution" 0 f_Table_solution := by
  have sc := sc_Table_solution
  have z := @met_ok P w mg base G "solution" "Table.solution" s_Table_solution ["self", "found", "at", "name"] ["self"] 0 0 0 b_Table_solution f fd Fn M hbd sc rfl (by decide) fun f cdv A outer s H E hr => by
    have tk : L2N.Takes (cxOf (L2N.CX P w) P w G.K mg base ["self", "found", "at", "name"] "Table.solution" (defScope s_Table_solution) f cdv A outer s H E) (fun cls d _ H => E cls d H) := L2N.takes_of rfl rfl rfl rfl
    unfold b_Table_solution Table_solution_L1
    exact (qss_cons (qs_set 1 sc.nd rfl (by first | exact Or.inl rfl | exact Or.inr rfl) (qe_op op_mulAll bMulN_snd (qe_lst (qa_cons (qe_tup (qa_cons qe_int (qa_cons qe_int qa_nil))) qa_nil)) (qe_att CA_Table (by decide) (qe_var 0))))
    (qss_cons (qs_for (vs := [2, 3]) (passes_of rfl) rfl (qi_enumS (by rfl) B.enumerate (qa_cons (qe_atf CA_Table (by decide) (qe_var 0)) qa_nil)) (qg_tup rfl (qgs_cons (qg_name 2 sc.nd rfl (by first | exact Or.inl rfl | exact Or.inr rfl)) (qgs_cons (qg_name 3 sc.nd rfl (by first | exact Or.inl rfl | exact Or.inr rfl)) qgs_nil)))
    (qss_one (qs_if (qt_cmp op_lt bCmp_snd (qe_var 3) (qe_att CA_Table (by decide) (qe_var 0)) (nomark _)) (qss_one (qs_asg (vs := [1, 3]) (qe_ix ix_seq bIx_snd (qe_ix ix_seq bIx_snd (qe_att CA_Table (by decide) (qe_var 0)) (qe_var 2) (fun _ _ => rfl)) (qe_un un_neg bNeg_snd qe_int) (fun _ _ => rfl)) (qg_sub (qe_var 1) (qe_var 3)))) qss_nil)))
    (qss_one (qs_ret (qe_frz (qe_var 1))))))
  exact z
def s_Table_turn_round : Stmt := inClass (topS 23) 3
theorem sc_Table_turn_round : FnScope ["self", "at", "column", "head", "one", "spot", "row"] ["self", "at", "column"] (defScope s_Table_turn_round) := ⟨rfl, rfl, rfl, by decide +kernel, rfl, by decide +kernel, by decide +kernel⟩
theorem ok_Table_turn_round {f : Addr} {fd : FuncData} (Fn : Fun G.K "turn_round" "Table.turn_round" s_Table_turn_round f fd) (M : Meth G.K (G.ic 0) "turn_round" f) (hbd : Binds G.K fd ["self", "at", "column"] []) (B : Blt mg) (D_cleared : DefOk P w mg base G 4 "cleared" 3 f_cleared) (D_over : DefOk P w mg base G 3 "over" 2 f_over) (CA_Table : ClsA G.K (G.ic 0) ["rows", "last", "names", "many"]) : MetOk P w mg base G 5 0 "turn_round" 2 f_Table_turn_round := by
  have sc := sc_Table_turn_round
  have z := @met_ok P w mg base G "turn_round" "Table.turn_round" s_Table_turn_round ["self", "at", "column", "head", "one", "spot", "row"] ["self", "at", "column"] 4 2 0 b_Table_turn_round f fd Fn M hbd sc rfl (by decide) fun f cdv A outer s H E hr => by
    have tk : L2N.Takes (cxOf (L2N.CX P w) P w G.K mg base ["self", "at", "column", "head", "one", "spot", "row"] "Table.turn_round" (defScope s_Table_turn_round) f cdv A outer s H E) (fun cls d _ H => E cls d H) := L2N.takes_of rfl rfl rfl rfl
    unfold b_Table_turn_round Table_turn_round_C2 Table_turn_round_C1
    exact (qss_cons (qs_set 3 sc.nd rfl (by first | exact Or.inl rfl | exact Or.inr rfl) (qe_lc (own := [("one", 4)]) rfl sc.nd (qi_seq (qe_ix ix_seq bIx_snd (qe_att CA_Table (by decide) (qe_var 0)) (qe_var 1) (fun _ _ => rfl))) (blkOk_by (own := [("one", 4)]) (by kernel_rfl)) (fun _ _ _ _ _ => (qg_name 4 sc.nd rfl (by first | exact Or.inl rfl | exact Or.inr rfl))) (fun _ _ _ _ _ => qts_nil) (fun _ _ _ _ _ => (qe_callD D_over hr (by decide) (by rfl) pasF (qa_cons (qe_var 4) (qa_cons (qe_ix ix_seq bIx_snd (qe_ix ix_seq bIx_snd (qe_att CA_Table (by decide) (qe_var 0)) (qe_var 1) (fun _ _ => rfl)) (qe_var 2) (fun _ _ => rfl)) qa_nil))))))
    (qss_cons (qs_asg (vs := [0]) (qe_lc (own := [("spot", 5), ("row", 6)]) rfl sc.nd (qi_enumS (by rfl) B.enumerate (qa_cons (qe_atf CA_Table (by decide) (qe_var 0)) qa_nil)) (blkOk_by (own := [("spot", 5), ("row", 6)]) (by kernel_rfl)) (fun _ _ _ _ _ => (qg_tup rfl (qgs_cons (qg_name 5 sc.nd rfl (by first | exact Or.inl rfl | exact Or.inr rfl)) (qgs_cons (qg_name 6 sc.nd rfl (by first | exact Or.inl rfl | exact Or.inr rfl)) qgs_nil)))) (fun _ _ _ _ _ => qts_nil) (fun _ _ _ _ _ => (qe_if (qt_cmp (op_eqD hr.units) bEq_snd (qe_var 5) (qe_var 1) (nomark _)) (qe_var 3) (qe_callD D_cleared hr (by decide) (by rfl) pasF (qa_cons (qe_var 6) (qa_cons (qe_var 3) (qa_cons (qe_var 2) qa_nil))))))) (qg_att CA_Table (by decide) (qe_var 0)))
    (qss_cons (qs_asg (vs := [0]) (qe_callD D_cleared hr (by decide) (by rfl) (pasE tk) (qa_cons (qe_att CA_Table (by decide) (qe_var 0)) (qa_cons (qe_var 3) (qa_cons (qe_var 2) qa_nil)))) (qg_att CA_Table (by decide) (qe_var 0)))
    (qss_one (qs_asg (vs := [1, 0]) (qe_var 2) (qg_sub (qe_att CA_Table (by decide) (qe_var 0)) (qe_var 1)))))))
  exact z
def s_Table_way_out : Stmt := inClass (topS 23) 5
theorem sc_Table_way_out : FnScope ["self", "column", "found", "at", "name"] ["self", "column"] (defScope s_Table_way_out) := ⟨rfl, rfl, rfl, by decide +kernel, rfl, by decide +kernel, by decide +kernel⟩
theorem ok_Table_way_out {f : Addr} {fd : FuncData} (Fn : Fun G.K "way_out" "Table.way_out" s_Table_way_out f fd) (M : Meth G.K (G.ic 0) "way_out" f) (hbd : Binds G.K fd ["self", "column"] []) (B : Blt mg) (D_less : DefOk P w mg base G 3 "less" 2 f_less) (CA_Table : ClsA G.K (G.ic 0) ["rows", "last", "names", "many"]) : MetOk P w mg base G 4 0 "way_out" 1 f_Table_way_out := by
  have sc := sc_Table_way_out
  have z := @met_ok P w mg base G "way_out" "Table.way_out" s_Table_way_out ["self", "column", "found", "at", "name"] ["self", "column"] 3 1 0 b_Table_way_out f fd Fn M hbd sc rfl (by decide) fun f cdv A outer s H E hr => by
    have tk : L2N.Takes (cxOf (L2N.CX P w) P w G.K mg base ["self", "column", "found", "at", "name"] "Table.way_out" (defScope s_Table_way_out) f cdv A outer s H E) (fun cls d _ H => E cls d H) := L2N.takes_of rfl rfl rfl rfl
    unfold b_Table_way_out Table_way_out_L1
    exact (qss_cons (qs_set 2 sc.nd rfl (by first | exact Or.inl rfl | exact Or.inr rfl) (qe_op op_mulAll bMulN_snd (qe_lst (qa_cons (qe_tup (qa_cons qe_int (qa_cons qe_int qa_nil))) qa_nil)) (qe_att CA_Table (by decide) (qe_var 0))))
    (qss_cons (qs_if (qt_cmp op_lt bCmp_snd (qe_var 1) (qe_att CA_Table (by decide) (qe_var 0)) (nomark _)) (qss_one (qs_asg (vs := [2, 1]) (qe_tup (qa_cons qe_int (qa_cons qe_int qa_nil))) (qg_sub (qe_var 2) (qe_var 1)))) qss_nil)
    (qss_cons (qs_for (vs := [3, 4]) (passes_of rfl) rfl (qi_enumS (by rfl) B.enumerate (qa_cons (qe_atf CA_Table (by decide) (qe_var 0)) qa_nil)) (qg_tup rfl (qgs_cons (qg_name 3 sc.nd rfl (by first | exact Or.inl rfl | exact Or.inr rfl)) (qgs_cons (qg_name 4 sc.nd rfl (by first | exact Or.inl rfl | exact Or.inr rfl)) qgs_nil)))
    (qss_one (qs_if (qt_cmp op_lt bCmp_snd (qe_var 4) (qe_att CA_Table (by decide) (qe_var 0)) (nomark _)) (qss_one (qs_asg (vs := [2, 4]) (qe_callD D_less hr (by decide) (by rfl) (pasE tk) (qa_cons (qe_tup (qa_cons qe_int (qa_cons qe_int qa_nil))) (qa_cons (qe_ix ix_seq bIx_snd (qe_ix ix_seq bIx_snd (qe_att CA_Table (by decide) (qe_var 0)) (qe_var 3) (fun _ _ => rfl)) (qe_var 1) (fun _ _ => rfl)) qa_nil))) (qg_sub (qe_var 2) (qe_var 4)))) qss_nil)))
    (qss_one (qs_ret (qe_frz (qe_var 2)))))))
  exact z
def s_best : Stmt := topS 24
theorem sc_best : FnScope ["rows", "highs", "aims", "table", "column", "at"] ["rows", "highs", "aims"] (defScope s_best) := ⟨rfl, rfl, rfl, by decide +kernel, rfl, by decide +kernel, by decide +kernel⟩
theorem ok_best (At : DefAt mg G.K "best" s_best ["rows", "highs", "aims"]) (B : Blt mg) (D_Table___init__ : ClsOk P w mg base G 1 "Table" 0 3 f_Table_init) (D_Table_entering : MetOk P w mg base G 1 0 "entering" 0 f_Table_entering) (D_Table_leaving : MetOk P w mg base G 4 0 "leaving" 1 f_Table_leaving) (D_Table_solution : MetOk P w mg base G 1 0 "solution" 0 f_Table_solution) (D_Table_turn_round : MetOk P w mg base G 5 0 "turn_round" 2 f_Table_turn_round) (D_Table_way_out : MetOk P w mg base G 4 0 "way_out" 1 f_Table_way_out) (CA_Table : ClsA G.K (G.ic 0) ["rows", "last", "names", "many"]) : DefOk P w mg base G 6 "best" 3 f_best := by
  have sc := sc_best
  have z := @def_ok P w mg base G "best" s_best ["rows", "highs", "aims", "table", "column", "at"] ["rows", "highs", "aims"] 5 3 b_best At sc rfl (by decide) fun f cdv A outer s H E hr => by
    have tk : L2N.Takes (cxOf (L2N.CX P w) P w G.K mg base ["rows", "highs", "aims", "table", "column", "at"] "best" (defScope s_best) f cdv A outer s H E) (fun cls d _ H => E cls d H) := L2N.takes_of rfl rfl rfl rfl
    unfold b_best best_L1
    exact (qss_cons (qs_set 3 sc.nd rfl (by first | exact Or.inl rfl | exact Or.inr rfl) (qe_makeD D_Table___init__ hr (by decide) (by rfl) (pasE tk) (qa_cons (qe_var 0) (qa_cons (qe_var 1) (qa_cons (qe_var 2) qa_nil)))))
    (qss_cons (qs_set 4 sc.nd rfl (by first | exact Or.inl rfl | exact Or.inr rfl) (qe_metD0 CA_Table D_Table_entering hr (by decide) (pasE tk) (qe_var 3)))
    (qss_cons (qs_while (passes_of rfl) (qt_notN (qe_var 4)) (qss_cons (qs_set 5 sc.nd rfl (by first | exact Or.inl rfl | exact Or.inr rfl) (qe_metD CA_Table D_Table_leaving hr (by decide) (pasE tk) (qe_var 3) (qa_cons (qe_var 4) qa_nil)))
    (qss_cons (qs_if (qt_isN (qe_var 5)) (qss_one (qs_ret (qe_tup (qa_cons qe_str (qa_cons (qe_metD CA_Table D_Table_way_out hr (by decide) (pasE tk) (qe_var 3) (qa_cons (qe_var 4) qa_nil)) (qa_cons (qe_lst qa_nil) qa_nil)))))) qss_nil)
    (qss_cons (qs_expr (qe_metD CA_Table D_Table_turn_round hr (by decide) (pasE tk) (qe_var 3) (qa_cons (qe_var 5) (qa_cons (qe_var 4) qa_nil))))
    (qss_one (qs_set 4 sc.nd rfl (by first | exact Or.inl rfl | exact Or.inr rfl) (qe_metD0 CA_Table D_Table_entering hr (by decide) (pasE tk) (qe_var 3))))))))
    (qss_one (qs_ret (qe_tup (qa_cons qe_str (qa_cons (qe_metD0 CA_Table D_Table_solution hr (by decide) (pasE tk) (qe_var 3)) (qa_cons (qe_slice sl_all bSl_snd (qe_att CA_Table (by decide) (qe_var 3)) (qo_some (qe_att CA_Table (by decide) (qe_var 3))) (qo_some (qe_un un_neg bNeg_snd qe_int))) qa_nil)))))))))
  exact z
def s_chosen_r0 : Stmt := topS 25
theorem sc_chosen_r0 : FnScope ["many", "size", "found", "first", "one", "rest"] ["many", "size"] (defScope s_chosen_r0) := ⟨rfl, rfl, rfl, by decide +kernel, rfl, by decide +kernel, by decide +kernel⟩
theorem ok_chosen_r0 (At : DefAt mg G.K "chosen" s_chosen_r0 ["many", "size"]) (B : Blt mg) : DefOk P w mg base G 1 "chosen" 2 f_chosen_r0 := by
  have sc := sc_chosen_r0
  have z := @def_ok P w mg base G "chosen" s_chosen_r0 ["many", "size", "found", "first", "one", "rest"] ["many", "size"] 0 2 b_chosen_r0 At sc rfl (by decide) fun f cdv A outer s H E hr => by
    have tk : L2N.Takes (cxOf (L2N.CX P w) P w G.K mg base ["many", "size", "found", "first", "one", "rest"] "chosen" (defScope s_chosen_r0) f cdv A outer s H E) (fun cls d _ H => E cls d H) := L2N.takes_of rfl rfl rfl rfl
    unfold b_chosen_r0
    exact qss_die
  exact z
def s_chosen_r1 : Stmt := topS 25
theorem sc_chosen_r1 : FnScope ["many", "size", "found", "first", "one", "rest"] ["many", "size"] (defScope s_chosen_r1) := ⟨rfl, rfl, rfl, by decide +kernel, rfl, by decide +kernel, by decide +kernel⟩
theorem ok_chosen_r1 (At : DefAt mg G.K "chosen" s_chosen_r1 ["many", "size"]) (B : Blt mg) (D_chosen_r0 : DefOk P w mg base G 1 "chosen" 2 f_chosen_r0) : DefOk P w mg base G 2 "chosen" 2 f_chosen_r1 := by
  have sc := sc_chosen_r1
  have z := @def_ok P w mg base G "chosen" s_chosen_r1 ["many", "size", "found", "first", "one", "rest"] ["many", "size"] 1 2 b_chosen_r1 At sc rfl (by decide) fun f cdv A outer s H E hr => by
    have tk : L2N.Takes (cxOf (L2N.CX P w) P w G.K mg base ["many", "size", "found", "first", "one", "rest"] "chosen" (defScope s_chosen_r1) f cdv A outer s H E) (fun cls d _ H => E cls d H) := L2N.takes_of rfl rfl rfl rfl
    unfold b_chosen_r1 chosen_r1_L1 chosen_r1_C2 chosen_r1_C1
    exact (qss_cons (qs_if (qt_cmp (op_eqD hr.units) bEq_snd (qe_var 1) qe_int (nomark _)) (qss_one (qs_ret (qe_lst (qa_cons (qe_lst qa_nil) qa_nil)))) qss_nil)
    (qss_cons (qs_set 2 sc.nd rfl (by first | exact Or.inl rfl | exact Or.inr rfl) (qe_lst qa_nil))
    (qss_cons (qs_for (vs := [3]) (passes_of rfl) rfl (qi_rng1 (by rfl) B.range (qa_cons (qe_op op_addA bAdd_snd (qe_op op_sub bSub_snd (qe_var 0) (qe_var 1)) qe_int) qa_nil)) (qg_name 3 sc.nd rfl (by first | exact Or.inl rfl | exact Or.inr rfl))
    (qss_one (qs_set 2 sc.nd rfl (by first | exact Or.inl rfl | exact Or.inr rfl) (qe_op op_addA bAdd_snd (qe_var 2) (qe_lc (own := [("rest", 5)]) rfl sc.nd (qi_seq (qe_callD D_chosen_r0 hr (by decide) (by rfl) (pasE tk) (qa_cons (qe_op op_sub bSub_snd (qe_op op_sub bSub_snd (qe_var 0) (qe_var 3)) qe_int) (qa_cons (qe_op op_sub bSub_snd (qe_var 1) qe_int) qa_nil)))) (blkOk_by (own := [("rest", 5)]) (by kernel_rfl)) (fun _ _ _ _ _ => (qg_name 5 sc.nd rfl (by first | exact Or.inl rfl | exact Or.inr rfl))) (fun _ _ _ _ _ => qts_nil) (fun _ _ _ _ _ => (qe_op op_addA bAdd_snd (qe_lst (qa_cons (qe_var 3) qa_nil)) (qe_lc (own := [("one", 4)]) rfl sc.nd (qi_seq (qe_var 5)) (blkOk_by (own := [("one", 4)]) (by kernel_rfl)) (fun _ _ _ _ _ => (qg_name 4 sc.nd rfl (by first | exact Or.inl rfl | exact Or.inr rfl))) (fun _ _ _ _ _ => qts_nil) (fun _ _ _ _ _ => (qe_op op_addA bAdd_snd (qe_op op_addA bAdd_snd (qe_var 3) qe_int) (qe_var 4)))))))))))
    (qss_one (qs_ret (qe_var 2))))))
  exact z
def s_chosen_r2 : Stmt := topS 25
theorem sc_chosen_r2 : FnScope ["many", "size", "found", "first", "one", "rest"] ["many", "size"] (defScope s_chosen_r2) := ⟨rfl, rfl, rfl, by decide +kernel, rfl, by decide +kernel, by decide +kernel⟩
theorem ok_chosen_r2 (At : DefAt mg G.K "chosen" s_chosen_r2 ["many", "size"]) (B : Blt mg) (D_chosen_r1 : DefOk P w mg base G 2 "chosen" 2 f_chosen_r1) : DefOk P w mg base G 3 "chosen" 2 f_chosen_r2 := by
  have sc := sc_chosen_r2
  have z := @def_ok P w mg base G "chosen" s_chosen_r2 ["many", "size", "found", "first", "one", "rest"] ["many", "size"] 2 2 b_chosen_r2 At sc rfl (by decide) fun f cdv A outer s H E hr => by
    have tk : L2N.Takes (cxOf (L2N.CX P w) P w G.K mg base ["many", "size", "found", "first", "one", "rest"] "chosen" (defScope s_chosen_r2) f cdv A outer s H E) (fun cls d _ H => E cls d H) := L2N.takes_of rfl rfl rfl rfl
    unfold b_chosen_r2 chosen_r2_L1 chosen_r2_C2 chosen_r2_C1
    exact (qss_cons (qs_if (qt_cmp (op_eqD hr.units) bEq_snd (qe_var 1) qe_int (nomark _)) (qss_one (qs_ret (qe_lst (qa_cons (qe_lst qa_nil) qa_nil)))) qss_nil)
    (qss_cons (qs_set 2 sc.nd rfl (by first | exact Or.inl rfl | exact Or.inr rfl) (qe_lst qa_nil))
    (qss_cons (qs_for (vs := [3]) (passes_of rfl) rfl (qi_rng1 (by rfl) B.range (qa_cons (qe_op op_addA bAdd_snd (qe_op op_sub bSub_snd (qe_var 0) (qe_var 1)) qe_int) qa_nil)) (qg_name 3 sc.nd rfl (by first | exact Or.inl rfl | exact Or.inr rfl))
    (qss_one (qs_set 2 sc.nd rfl (by first | exact Or.inl rfl | exact Or.inr rfl) (qe_op op_addA bAdd_snd (qe_var 2) (qe_lc (own := [("rest", 5)]) rfl sc.nd (qi_seq (qe_callD D_chosen_r1 hr (by decide) (by rfl) (pasE tk) (qa_cons (qe_op op_sub bSub_snd (qe_op op_sub bSub_snd (qe_var 0) (qe_var 3)) qe_int) (qa_cons (qe_op op_sub bSub_snd (qe_var 1) qe_int) qa_nil)))) (blkOk_by (own := [("rest", 5)]) (by kernel_rfl)) (fun _ _ _ _ _ => (qg_name 5 sc.nd rfl (by first | exact Or.inl rfl | exact Or.inr rfl))) (fun _ _ _ _ _ => qts_nil) (fun _ _ _ _ _ => (qe_op op_addA bAdd_snd (qe_lst (qa_cons (qe_var 3) qa_nil)) (qe_lc (own := [("one", 4)]) rfl sc.nd (qi_seq (qe_var 5)) (blkOk_by (own := [("one", 4)]) (by kernel_rfl)) (fun _ _ _ _ _ => (qg_name 4 sc.nd rfl (by first | exact Or.inl rfl | exact Or.inr rfl))) (fun _ _ _ _ _ => qts_nil) (fun _ _ _ _ _ => (qe_op op_addA bAdd_snd (qe_op op_addA bAdd_snd (qe_var 3) qe_int) (qe_var 4)))))))))))
    (qss_one (qs_ret (qe_var 2))))))
  exact z
def s_chosen_r3 : Stmt := topS 25
theorem sc_chosen_r3 : FnScope ["many", "size", "found", "first", "one", "rest"] ["many", "size"] (defScope s_chosen_r3) := ⟨rfl, rfl, rfl, by decide +kernel, rfl, by decide +kernel, by decide +kernel⟩
theorem ok_chosen_r3 (At : DefAt mg G.K "chosen" s_chosen_r3 ["many", "size"]) (B : Blt mg) (D_chosen_r2 : DefOk P w mg base G 3 "chosen" 2 f_chosen_r2) : DefOk P w mg base G 4 "chosen" 2 f_chosen_r3 := by
  have sc := sc_chosen_r3
  have z := @def_ok P w mg base G "chosen" s_chosen_r3 ["many", "size", "found", "first", "one", "rest"] ["many", "size"] 3 2 b_chosen_r3 At sc rfl (by decide) fun f cdv A outer s H E hr => by
    have tk : L2N.Takes (cxOf (L2N.CX P w) P w G.K mg base ["many", "size", "found", "first", "one", "rest"] "chosen" (defScope s_chosen_r3) f cdv A outer s H E) (fun cls d _ H => E cls d H) := L2N.takes_of rfl rfl rfl rfl
    unfold b_chosen_r3 chosen_r3_L1 chosen_r3_C2 chosen_r3_C1
    exact (qss_cons (qs_if (qt_cmp (op_eqD hr.units) bEq_snd (qe_var 1) qe_int (nomark _)) (qss_one (qs_ret (qe_lst (qa_cons (qe_lst qa_nil) qa_nil)))) qss_nil)
    (qss_cons (qs_set 2 sc.nd rfl (by first | exact Or.inl rfl | exact Or.inr rfl) (qe_lst qa_nil))
    (qss_cons (qs_for (vs := [3]) (passes_of rfl) rfl (qi_rng1 (by rfl) B.range (qa_cons (qe_op op_addA bAdd_snd (qe_op op_sub bSub_snd (qe_var 0) (qe_var 1)) qe_int) qa_nil)) (qg_name 3 sc.nd rfl (by first | exact Or.inl rfl | exact Or.inr rfl))
    (qss_one (qs_set 2 sc.nd rfl (by first | exact Or.inl rfl | exact Or.inr rfl) (qe_op op_addA bAdd_snd (qe_var 2) (qe_lc (own := [("rest", 5)]) rfl sc.nd (qi_seq (qe_callD D_chosen_r2 hr (by decide) (by rfl) (pasE tk) (qa_cons (qe_op op_sub bSub_snd (qe_op op_sub bSub_snd (qe_var 0) (qe_var 3)) qe_int) (qa_cons (qe_op op_sub bSub_snd (qe_var 1) qe_int) qa_nil)))) (blkOk_by (own := [("rest", 5)]) (by kernel_rfl)) (fun _ _ _ _ _ => (qg_name 5 sc.nd rfl (by first | exact Or.inl rfl | exact Or.inr rfl))) (fun _ _ _ _ _ => qts_nil) (fun _ _ _ _ _ => (qe_op op_addA bAdd_snd (qe_lst (qa_cons (qe_var 3) qa_nil)) (qe_lc (own := [("one", 4)]) rfl sc.nd (qi_seq (qe_var 5)) (blkOk_by (own := [("one", 4)]) (by kernel_rfl)) (fun _ _ _ _ _ => (qg_name 4 sc.nd rfl (by first | exact Or.inl rfl | exact Or.inr rfl))) (fun _ _ _ _ _ => qts_nil) (fun _ _ _ _ _ => (qe_op op_addA bAdd_snd (qe_op op_addA bAdd_snd (qe_var 3) qe_int) (qe_var 4)))))))))))
    (qss_one (qs_ret (qe_var 2))))))
  exact z
def s_chosen_r4 : Stmt := topS 25
theorem sc_chosen_r4 : FnScope ["many", "size", "found", "first", "one", "rest"] ["many", "size"] (defScope s_chosen_r4) := ⟨rfl, rfl, rfl, by decide +kernel, rfl, by decide +kernel, by decide +kernel⟩
theorem ok_chosen_r4 (At : DefAt mg G.K "chosen" s_chosen_r4 ["many", "size"]) (B : Blt mg) (D_chosen_r3 : DefOk P w mg base G 4 "chosen" 2 f_chosen_r3) : DefOk P w mg base G 5 "chosen" 2 f_chosen_r4 := by
  have sc := sc_chosen_r4
  have z := @def_ok P w mg base G "chosen" s_chosen_r4 ["many", "size", "found", "first", "one", "rest"] ["many", "size"] 4 2 b_chosen_r4 At sc rfl (by decide) fun f cdv A outer s H E hr => by
    have tk : L2N.Takes (cxOf (L2N.CX P w) P w G.K mg base ["many", "size", "found", "first", "one", "rest"] "chosen" (defScope s_chosen_r4) f cdv A outer s H E) (fun cls d _ H => E cls d H) := L2N.takes_of rfl rfl rfl rfl
    unfold b_chosen_r4 chosen_r4_L1 chosen_r4_C2 chosen_r4_C1
    exact (qss_cons (qs_if (qt_cmp (op_eqD hr.units) bEq_snd (qe_var 1) qe_int (nomark _)) (qss_one (qs_ret (qe_lst (qa_cons (qe_lst qa_nil) qa_nil)))) qss_nil)
    (qss_cons (qs_set 2 sc.nd rfl (by first | exact Or.inl rfl | exact Or.inr rfl) (qe_lst qa_nil))
    (qss_cons (qs_for (vs := [3]) (passes_of rfl) rfl (qi_rng1 (by rfl) B.range (qa_cons (qe_op op_addA bAdd_snd (qe_op op_sub bSub_snd (qe_var 0) (qe_var 1)) qe_int) qa_nil)) (qg_name 3 sc.nd rfl (by first | exact Or.inl rfl | exact Or.inr rfl))
    (qss_one (qs_set 2 sc.nd rfl (by first | exact Or.inl rfl | exact Or.inr rfl) (qe_op op_addA bAdd_snd (qe_var 2) (qe_lc (own := [("rest", 5)]) rfl sc.nd (qi_seq (qe_callD D_chosen_r3 hr (by decide) (by rfl) (pasE tk) (qa_cons (qe_op op_sub bSub_snd (qe_op op_sub bSub_snd (qe_var 0) (qe_var 3)) qe_int) (qa_cons (qe_op op_sub bSub_snd (qe_var 1) qe_int) qa_nil)))) (blkOk_by (own := [("rest", 5)]) (by kernel_rfl)) (fun _ _ _ _ _ => (qg_name 5 sc.nd rfl (by first | exact Or.inl rfl | exact Or.inr rfl))) (fun _ _ _ _ _ => qts_nil) (fun _ _ _ _ _ => (qe_op op_addA bAdd_snd (qe_lst (qa_cons (qe_var 3) qa_nil)) (qe_lc (own := [("one", 4)]) rfl sc.nd (qi_seq (qe_var 5)) (blkOk_by (own := [("one", 4)]) (by kernel_rfl)) (fun _ _ _ _ _ => (qg_name 4 sc.nd rfl (by first | exact Or.inl rfl | exact Or.inr rfl))) (fun _ _ _ _ _ => qts_nil) (fun _ _ _ _ _ => (qe_op op_addA bAdd_snd (qe_op op_addA bAdd_snd (qe_var 3) qe_int) (qe_var 4)))))))))))
    (qss_one (qs_ret (qe_var 2))))))
  exact z
def s_chosen_r5 : Stmt := topS 25
theorem sc_chosen_r5 : FnScope ["many", "size", "found", "first", "one", "rest"] ["many", "size"] (defScope s_chosen_r5) := ⟨rfl, rfl, rfl, by decide +kernel, rfl, by decide +kernel, by decide +kernel⟩
theorem ok_chosen_r5 (At : DefAt mg G.K "chosen" s_chosen_r5 ["many", "size"]) (B : Blt mg) (D_chosen_r4 : DefOk P w mg base G 5 "chosen" 2 f_chosen_r4) : DefOk P w mg base G 6 "chosen" 2 f_chosen_r5 := by
  have sc := sc_chosen_r5
  have z := @def_ok P w mg base G "chosen" s_chosen_r5 ["many", "size", "found", "first", "one", "rest"] ["many", "size"] 5 2 b_chosen_r5 At sc rfl (by decide) fun f cdv A outer s H E hr => by
    have tk : L2N.Takes (cxOf (L2N.CX P w) P w G.K mg base ["many", "size", "found", "first", "one", "rest"] "chosen" (defScope s_chosen_r5) f cdv A outer s H E) (fun cls d _ H => E cls d H) := L2N.takes_of rfl rfl rfl rfl
    unfold b_chosen_r5 chosen_r5_L1 chosen_r5_C2 chosen_r5_C1
    exact (qss_cons (qs_if (qt_cmp (op_eqD hr.units) bEq_snd (qe_var 1) qe_int (nomark _)) (qss_one (qs_ret (qe_lst (qa_cons (qe_lst qa_nil) qa_nil)))) qss_nil)
    (qss_cons (qs_set 2 sc.nd rfl (by first | exact Or.inl rfl | exact Or.inr rfl) (qe_lst qa_nil))
    (qss_cons (qs_for (vs := [3]) (passes_of rfl) rfl (qi_rng1 (by rfl) B.range (qa_cons (qe_op op_addA bAdd_snd (qe_op op_sub bSub_snd (qe_var 0) (qe_var 1)) qe_int) qa_nil)) (qg_name 3 sc.nd rfl (by first | exact Or.inl rfl | exact Or.inr rfl))
    (qss_one (qs_set 2 sc.nd rfl (by first | exact Or.inl rfl | exact Or.inr rfl) (qe_op op_addA bAdd_snd (qe_var 2) (qe_lc (own := [("rest", 5)]) rfl sc.nd (qi_seq (qe_callD D_chosen_r4 hr (by decide) (by rfl) (pasE tk) (qa_cons (qe_op op_sub bSub_snd (qe_op op_sub bSub_snd (qe_var 0) (qe_var 3)) qe_int) (qa_cons (qe_op op_sub bSub_snd (qe_var 1) qe_int) qa_nil)))) (blkOk_by (own := [("rest", 5)]) (by kernel_rfl)) (fun _ _ _ _ _ => (qg_name 5 sc.nd rfl (by first | exact Or.inl rfl | exact Or.inr rfl))) (fun _ _ _ _ _ => qts_nil) (fun _ _ _ _ _ => (qe_op op_addA bAdd_snd (qe_lst (qa_cons (qe_var 3) qa_nil)) (qe_lc (own := [("one", 4)]) rfl sc.nd (qi_seq (qe_var 5)) (blkOk_by (own := [("one", 4)]) (by kernel_rfl)) (fun _ _ _ _ _ => (qg_name 4 sc.nd rfl (by first | exact Or.inl rfl | exact Or.inr rfl))) (fun _ _ _ _ _ => qts_nil) (fun _ _ _ _ _ => (qe_op op_addA bAdd_snd (qe_op op_addA bAdd_snd (qe_var 3) qe_int) (qe_var 4)))))))))))
    (qss_one (qs_ret (qe_var 2))))))
  exact z
def s_chosen_r6 : Stmt := topS 25
theorem sc_chosen_r6 : FnScope ["many", "size", "found", "first", "one", "rest"] ["many", "size"] (defScope s_chosen_r6) := ⟨rfl, rfl, rfl, by decide +kernel, rfl, by decide +kernel, by decide +kernel⟩
theorem ok_chosen_r6 (At : DefAt mg G.K "chosen" s_chosen_r6 ["many", "size"]) (B : Blt mg) (D_chosen_r5 : DefOk P w mg base G 6 "chosen" 2 f_chosen_r5) : DefOk P w mg base G 7 "chosen" 2 f_chosen_r6 := by
  have sc := sc_chosen_r6
  have z := @def_ok P w mg base G "chosen" s_chosen_r6 ["many", "size", "found", "first", "one", "rest"] ["many", "size"] 6 2 b_chosen_r6 At sc rfl (by decide) fun f cdv A outer s H E hr => by
    have tk : L2N.Takes (cxOf (L2N.CX P w) P w G.K mg base ["many", "size", "found", "first", "one", "rest"] "chosen" (defScope s_chosen_r6) f cdv A outer s H E) (fun cls d _ H => E cls d H) := L2N.takes_of rfl rfl rfl rfl
    unfold b_chosen_r6 chosen_r6_L1 chosen_r6_C2 chosen_r6_C1
    exact (qss_cons (qs_if (qt_cmp (op_eqD hr.units) bEq_snd (qe_var 1) qe_int (nomark _)) (qss_one (qs_ret (qe_lst (qa_cons (qe_lst qa_nil) qa_nil)))) qss_nil)
    (qss_cons (qs_set 2 sc.nd rfl (by first | exact Or.inl rfl | exact Or.inr rfl) (qe_lst qa_nil))
    (qss_cons (qs_for (vs := [3]) (passes_of rfl) rfl (qi_rng1 (by rfl) B.range (qa_cons (qe_op op_addA bAdd_snd (qe_op op_sub bSub_snd (qe_var 0) (qe_var 1)) qe_int) qa_nil)) (qg_name 3 sc.nd rfl (by first | exact Or.inl rfl | exact Or.inr rfl))
    (qss_one (qs_set 2 sc.nd rfl (by first | exact Or.inl rfl | exact Or.inr rfl) (qe_op op_addA bAdd_snd (qe_var 2) (qe_lc (own := [("rest", 5)]) rfl sc.nd (qi_seq (qe_callD D_chosen_r5 hr (by decide) (by rfl) (pasE tk) (qa_cons (qe_op op_sub bSub_snd (qe_op op_sub bSub_snd (qe_var 0) (qe_var 3)) qe_int) (qa_cons (qe_op op_sub bSub_snd (qe_var 1) qe_int) qa_nil)))) (blkOk_by (own := [("rest", 5)]) (by kernel_rfl)) (fun _ _ _ _ _ => (qg_name 5 sc.nd rfl (by first | exact Or.inl rfl | exact Or.inr rfl))) (fun _ _ _ _ _ => qts_nil) (fun _ _ _ _ _ => (qe_op op_addA bAdd_snd (qe_lst (qa_cons (qe_var 3) qa_nil)) (qe_lc (own := [("one", 4)]) rfl sc.nd (qi_seq (qe_var 5)) (blkOk_by (own := [("one", 4)]) (by kernel_rfl)) (fun _ _ _ _ _ => (qg_name 4 sc.nd rfl (by first | exact Or.inl rfl | exact Or.inr rfl))) (fun _ _ _ _ _ => qts_nil) (fun _ _ _ _ _ => (qe_op op_addA bAdd_snd (qe_op op_addA bAdd_snd (qe_var 3) qe_int) (qe_var 4)))))))))))
    (qss_one (qs_ret (qe_var 2))))))
  exact z
def s_chosen : Stmt := topS 25
theorem sc_chosen : FnScope ["many", "size", "found", "first", "one", "rest"] ["many", "size"] (defScope s_chosen) := ⟨rfl, rfl, rfl, by decide +kernel, rfl, by decide +kernel, by decide +kernel⟩
theorem ok_chosen (At : DefAt mg G.K "chosen" s_chosen ["many", "size"]) (B : Blt mg) (D_chosen_r6 : DefOk P w mg base G 7 "chosen" 2 f_chosen_r6) : DefOk P w mg base G 8 "chosen" 2 f_chosen := by
  have sc := sc_chosen
  have z := @def_ok P w mg base G "chosen" s_chosen ["many", "size", "found", "first", "one", "rest"] ["many", "size"] 7 2 b_chosen At sc rfl (by decide) fun f cdv A outer s H E hr => by
    have tk : L2N.Takes (cxOf (L2N.CX P w) P w G.K mg base ["many", "size", "found", "first", "one", "rest"] "chosen" (defScope s_chosen) f cdv A outer s H E) (fun cls d _ H => E cls d H) := L2N.takes_of rfl rfl rfl rfl
    unfold b_chosen chosen_L1 chosen_C2 chosen_C1
    exact (qss_cons (qs_if (qt_cmp (op_eqD hr.units) bEq_snd (qe_var 1) qe_int (nomark _)) (qss_one (qs_ret (qe_lst (qa_cons (qe_lst qa_nil) qa_nil)))) qss_nil)
    (qss_cons (qs_set 2 sc.nd rfl (by first | exact Or.inl rfl | exact Or.inr rfl) (qe_lst qa_nil))
    (qss_cons (qs_for (vs := [3]) (passes_of rfl) rfl (qi_rng1 (by rfl) B.range (qa_cons (qe_op op_addA bAdd_snd (qe_op op_sub bSub_snd (qe_var 0) (qe_var 1)) qe_int) qa_nil)) (qg_name 3 sc.nd rfl (by first | exact Or.inl rfl | exact Or.inr rfl))
    (qss_one (qs_set 2 sc.nd rfl (by first | exact Or.inl rfl | exact Or.inr rfl) (qe_op op_addA bAdd_snd (qe_var 2) (qe_lc (own := [("rest", 5)]) rfl sc.nd (qi_seq (qe_callD D_chosen_r6 hr (by decide) (by rfl) (pasE tk) (qa_cons (qe_op op_sub bSub_snd (qe_op op_sub bSub_snd (qe_var 0) (qe_var 3)) qe_int) (qa_cons (qe_op op_sub bSub_snd (qe_var 1) qe_int) qa_nil)))) (blkOk_by (own := [("rest", 5)]) (by kernel_rfl)) (fun _ _ _ _ _ => (qg_name 5 sc.nd rfl (by first | exact Or.inl rfl | exact Or.inr rfl))) (fun _ _ _ _ _ => qts_nil) (fun _ _ _ _ _ => (qe_op op_addA bAdd_snd (qe_lst (qa_cons (qe_var 3) qa_nil)) (qe_lc (own := [("one", 4)]) rfl sc.nd (qi_seq (qe_var 5)) (blkOk_by (own := [("one", 4)]) (by kernel_rfl)) (fun _ _ _ _ _ => (qg_name 4 sc.nd rfl (by first | exact Or.inl rfl | exact Or.inr rfl))) (fun _ _ _ _ _ => qts_nil) (fun _ _ _ _ _ => (qe_op op_addA bAdd_snd (qe_op op_addA bAdd_snd (qe_var 3) qe_int) (qe_var 4)))))))))))
    (qss_one (qs_ret (qe_var 2))))))
  exact z
def s_whole : Stmt := topS 26
theorem sc_whole : FnScope ["shares", "by", "top", "below"] ["shares"] (defScope s_whole) := ⟨rfl, rfl, rfl, by decide +kernel, rfl, by decide +kernel, by decide +kernel⟩
theorem ok_whole (At : DefAt mg G.K "whole" s_whole ["shares"]) (B : Blt mg) (D_divider : DefOk P w mg base G 1 "divider" 2 f_divider) : DefOk P w mg base G 2 "whole" 1 f_whole := by
  have sc := sc_whole
  have z := @def_ok P w mg base G "whole" s_whole ["shares", "by", "top", "below"] ["shares"] 1 1 b_whole At sc rfl (by decide) fun f cdv A outer s H E hr => by
    have tk : L2N.Takes (cxOf (L2N.CX P w) P w G.K mg base ["shares", "by", "top", "below"] "whole" (defScope s_whole) f cdv A outer s H E) (fun cls d _ H => E cls d H) := L2N.takes_of rfl rfl rfl rfl
    unfold b_whole whole_C1 whole_L1
    exact (qss_cons (qs_set 1 sc.nd rfl (by first | exact Or.inl rfl | exact Or.inr rfl) qe_int)
    (qss_cons (qs_for (vs := [2, 3]) (passes_of rfl) rfl (qi_seq (qe_var 0)) (qg_tup rfl (qgs_cons (qg_name 2 sc.nd rfl (by first | exact Or.inl rfl | exact Or.inr rfl)) (qgs_cons (qg_name 3 sc.nd rfl (by first | exact Or.inl rfl | exact Or.inr rfl)) qgs_nil)))
    (qss_one (qs_set 1 sc.nd rfl (by first | exact Or.inl rfl | exact Or.inr rfl) (qe_op op_fdivW bDiv_snd (qe_op op_mulAll bMul_snd (qe_var 1) (qe_var 3)) (qe_callD D_divider hr (by decide) (by rfl) (pasE tk) (qa_cons (qe_var 1) (qa_cons (qe_var 3) qa_nil)))))))
    (qss_one (qs_ret (qe_callTy call_tuple_of bTuple_snd (by rfl) B.tuple (by decide +kernel) (qa_cons (qe_lc (own := [("top", 2), ("below", 3)]) rfl sc.nd (qi_seq (qe_var 0)) (blkOk_by (own := [("top", 2), ("below", 3)]) (by kernel_rfl)) (fun _ _ _ _ _ => (qg_tup rfl (qgs_cons (qg_name 2 sc.nd rfl (by first | exact Or.inl rfl | exact Or.inr rfl)) (qgs_cons (qg_name 3 sc.nd rfl (by first | exact Or.inl rfl | exact Or.inr rfl)) qgs_nil)))) (fun _ _ _ _ _ => qts_nil) (fun _ _ _ _ _ => (qe_op op_mulAll bMul_snd (qe_var 2) (qe_op op_fdivW bDiv_snd (qe_var 1) (qe_var 3))))) qa_nil))))))
  exact z
def s_won : Stmt := topS 28
theorem sc_won : FnScope ["moves", "standing", "aims", "some", "rows", "one", "heap"] ["moves", "standing", "aims"] (defScope s_won) := ⟨rfl, rfl, rfl, by decide +kernel, rfl, by decide +kernel, by decide +kernel⟩
theorem ok_won (At : DefAt mg G.K "won" s_won ["moves", "standing", "aims"]) (B : Blt mg) (D_all_changes : DefOk P w mg base G 2 "all_changes" 1 f_all_changes) (D_best : DefOk P w mg base G 6 "best" 3 f_best) (D_heaps_of : DefOk P w mg base G 1 "heaps_of" 1 f_heaps_of) : DefOk P w mg base G 7 "won" 3 f_won := by
  have sc := sc_won
  have z := @def_ok P w mg base G "won" s_won ["moves", "standing", "aims", "some", "rows", "one", "heap"] ["moves", "standing", "aims"] 6 3 b_won At sc rfl (by decide) fun f cdv A outer s H E hr => by
    have tk : L2N.Takes (cxOf (L2N.CX P w) P w G.K mg base ["moves", "standing", "aims", "some", "rows", "one", "heap"] "won" (defScope s_won) f cdv A outer s H E) (fun cls d _ H => E cls d H) := L2N.takes_of rfl rfl rfl rfl
    unfold b_won won_C2 won_C1
    exact (qss_cons (qs_set 3 sc.nd rfl (by first | exact Or.inl rfl | exact Or.inr rfl) (qe_callD D_all_changes hr (by decide) (by rfl) (pasE tk) (qa_cons (qe_var 0) qa_nil)))
    (qss_cons (qs_setLc 4 (own := [("heap", 6)]) rfl sc.nd rfl rfl (sw_true rfl rfl rfl (by decide +kernel)) (qi_rng1 (by rfl) B.range (qa_cons (qe_callD D_heaps_of hr (by decide) (by rfl) (pasE tk) (qa_cons (qe_var 0) qa_nil)) qa_nil)) (blkOk_by (own := [("heap", 6)]) (by kernel_rfl)) (fun _ _ _ _ _ => (qg_name 6 sc.nd rfl (by first | exact Or.inl rfl | exact Or.inr rfl))) (fun _ _ _ _ _ => qts_nil) (fun _ _ _ _ _ => (qe_lc (own := [("one", 5)]) rfl sc.nd (qi_seq (qe_var 3)) (blkOk_by (own := [("one", 5)]) (by kernel_rfl)) (fun _ _ _ _ _ => (qg_name 5 sc.nd rfl (by first | exact Or.inl rfl | exact Or.inr rfl))) (fun _ _ _ _ _ => qts_nil) (fun _ _ _ _ _ => (qe_un un_neg bNeg_snd (qe_ix ix_seq bIx_snd (qe_var 5) (qe_var 6) (fun _ _ => rfl)))))))
    (qss_one (qs_ret (qe_callD D_best hr (by decide) (by rfl) (pasE tk) (qa_cons (qe_var 4) (qa_cons (qe_callTy call_list_of bList_snd (by rfl) B.list (by decide +kernel) (qa_cons (qe_var 1) qa_nil)) (qa_cons (qe_var 2) qa_nil))))))))
  exact z
def s_for_all : Stmt := topS 29
theorem sc_for_all : FnScope ["moves"] ["moves"] (defScope s_for_all) := ⟨rfl, rfl, rfl, by decide +kernel, rfl, by decide +kernel, by decide +kernel⟩
theorem ok_for_all (At : DefAt mg G.K "for_all" s_for_all ["moves"]) (B : Blt mg) (D_heaps_of : DefOk P w mg base G 1 "heaps_of" 1 f_heaps_of) (D_won : DefOk P w mg base G 7 "won" 3 f_won) : DefOk P w mg base G 8 "for_all" 1 f_for_all := by
  have sc := sc_for_all
  have z := @def_ok P w mg base G "for_all" s_for_all ["moves"] ["moves"] 7 1 b_for_all At sc rfl (by decide) fun f cdv A outer s H E hr => by
    have tk : L2N.Takes (cxOf (L2N.CX P w) P w G.K mg base ["moves"] "for_all" (defScope s_for_all) f cdv A outer s H E) (fun cls d _ H => E cls d H) := L2N.takes_of rfl rfl rfl rfl
    unfold b_for_all
    exact (qss_one (qs_ret (qe_callD D_won hr (by decide) (by rfl) (pasE tk) (qa_cons (qe_var 0) (qa_cons (qe_op op_mulAll bMul_snd (qe_tup (qa_cons qe_int qa_nil)) (qe_callD D_heaps_of hr (by decide) (by rfl) (pasE tk) (qa_cons (qe_var 0) qa_nil))) (qa_cons (qe_op op_mulAll bMul_snd (qe_lst (qa_cons qe_int qa_nil)) (qe_callB call_len_seq bLen_snd (by rfl) B.len (by decide +kernel) (qa_cons (qe_var 0) qa_nil))) qa_nil))))))
  exact z
def s_some_weights : Stmt := topS 30
theorem sc_some_weights : FnScope ["moves", "word", "counts", "prices"] ["moves"] (defScope s_some_weights) := ⟨rfl, rfl, rfl, by decide +kernel, rfl, by decide +kernel, by decide +kernel⟩
theorem ok_some_weights (At : DefAt mg G.K "some_weights" s_some_weights ["moves"]) (B : Blt mg) (D_for_all : DefOk P w mg base G 8 "for_all" 1 f_for_all) (D_whole : DefOk P w mg base G 2 "whole" 1 f_whole) : DefOk P w mg base G 9 "some_weights" 1 f_some_weights := by
  have sc := sc_some_weights
  have z := @def_ok P w mg base G "some_weights" s_some_weights ["moves", "word", "counts", "prices"] ["moves"] 8 1 b_some_weights At sc rfl (by decide) fun f cdv A outer s H E hr => by
    have tk : L2N.Takes (cxOf (L2N.CX P w) P w G.K mg base ["moves", "word", "counts", "prices"] "some_weights" (defScope s_some_weights) f cdv A outer s H E) (fun cls d _ H => E cls d H) := L2N.takes_of rfl rfl rfl rfl
    unfold b_some_weights
    exact (qss_cons (qs_asg (vs := [1, 2, 3]) (qe_callD D_for_all hr (by decide) (by rfl) (pasE tk) (qa_cons (qe_var 0) qa_nil)) (qg_tup rfl (qgs_cons (qg_name 1 sc.nd rfl (by first | exact Or.inl rfl | exact Or.inr rfl)) (qgs_cons (qg_name 2 sc.nd rfl (by first | exact Or.inl rfl | exact Or.inr rfl)) (qgs_cons (qg_name 3 sc.nd rfl (by first | exact Or.inl rfl | exact Or.inr rfl)) qgs_nil)))))
    (qss_one (qs_ret (qe_if (qt_cmp (op_eqD hr.units) bEq_snd (qe_var 1) qe_str (nomark _)) (qe_callD D_whole hr (by decide) (by rfl) (pasE tk) (qa_cons (qe_var 3) qa_nil)) qe_non))))
  exact z
def s_some_round : Stmt := topS 31
theorem sc_some_round : FnScope ["moves", "word", "counts", "prices"] ["moves"] (defScope s_some_round) := ⟨rfl, rfl, rfl, by decide +kernel, rfl, by decide +kernel, by decide +kernel⟩
theorem ok_some_round (At : DefAt mg G.K "some_round" s_some_round ["moves"]) (B : Blt mg) (D_for_all : DefOk P w mg base G 8 "for_all" 1 f_for_all) (D_whole : DefOk P w mg base G 2 "whole" 1 f_whole) : DefOk P w mg base G 9 "some_round" 1 f_some_round := by
  have sc := sc_some_round
  have z := @def_ok P w mg base G "some_round" s_some_round ["moves", "word", "counts", "prices"] ["moves"] 8 1 b_some_round At sc rfl (by decide) fun f cdv A outer s H E hr => by
    have tk : L2N.Takes (cxOf (L2N.CX P w) P w G.K mg base ["moves", "word", "counts", "prices"] "some_round" (defScope s_some_round) f cdv A outer s H E) (fun cls d _ H => E cls d H) := L2N.takes_of rfl rfl rfl rfl
    unfold b_some_round
    exact (qss_cons (qs_asg (vs := [1, 2, 3]) (qe_callD D_for_all hr (by decide) (by rfl) (pasE tk) (qa_cons (qe_var 0) qa_nil)) (qg_tup rfl (qgs_cons (qg_name 1 sc.nd rfl (by first | exact Or.inl rfl | exact Or.inr rfl)) (qgs_cons (qg_name 2 sc.nd rfl (by first | exact Or.inl rfl | exact Or.inr rfl)) (qgs_cons (qg_name 3 sc.nd rfl (by first | exact Or.inl rfl | exact Or.inr rfl)) qgs_nil)))))
    (qss_one (qs_ret (qe_if (qt_cmp (op_eqD hr.units) bEq_snd (qe_var 1) qe_str (nomark _)) (qe_callD D_whole hr (by decide) (by rfl) (pasE tk) (qa_cons (qe_var 2) qa_nil)) qe_non))))
  exact z
def s_ends : Stmt := topS 32
theorem sc_ends : FnScope ["moves"] ["moves"] (defScope s_ends) := ⟨rfl, rfl, rfl, by decide +kernel, rfl, by decide +kernel, by decide +kernel⟩
theorem ok_ends (At : DefAt mg G.K "ends" s_ends ["moves"]) (B : Blt mg) (D_need_moves : DefOk P w mg base G 5 "need_moves" 1 f_need_moves) (D_some_weights : DefOk P w mg base G 9 "some_weights" 1 f_some_weights) : DefOk P w mg base G 10 "ends" 1 f_ends := by
  have sc := sc_ends
  have z := @def_ok P w mg base G "ends" s_ends ["moves"] ["moves"] 9 1 b_ends At sc rfl (by decide) fun f cdv A outer s H E hr => by
    have tk : L2N.Takes (cxOf (L2N.CX P w) P w G.K mg base ["moves"] "ends" (defScope s_ends) f cdv A outer s H E) (fun cls d _ H => E cls d H) := L2N.takes_of rfl rfl rfl rfl
    unfold b_ends
    exact (qss_cons (qs_expr (qe_callD D_need_moves hr (by decide) (by rfl) (pasE tk) (qa_cons (qe_var 0) qa_nil)))
    (qss_one (qs_ret (qe_notN (qe_callD D_some_weights hr (by decide) (by rfl) (pasE tk) (qa_cons (qe_var 0) qa_nil))))))
  exact z
def s_weights_of : Stmt := topS 33
theorem sc_weights_of : FnScope ["moves"] ["moves"] (defScope s_weights_of) := ⟨rfl, rfl, rfl, by decide +kernel, rfl, by decide +kernel, by decide +kernel⟩
theorem ok_weights_of (At : DefAt mg G.K "weights_of" s_weights_of ["moves"]) (B : Blt mg) (D_need_moves : DefOk P w mg base G 5 "need_moves" 1 f_need_moves) (D_some_weights : DefOk P w mg base G 9 "some_weights" 1 f_some_weights) : DefOk P w mg base G 10 "weights_of" 1 f_weights_of := by
  have sc := sc_weights_of
  have z := @def_ok P w mg base G "weights_of" s_weights_of ["moves"] ["moves"] 9 1 b_weights_of At sc rfl (by decide) fun f cdv A outer s H E hr => by
    have tk : L2N.Takes (cxOf (L2N.CX P w) P w G.K mg base ["moves"] "weights_of" (defScope s_weights_of) f cdv A outer s H E) (fun cls d _ H => E cls d H) := L2N.takes_of rfl rfl rfl rfl
    unfold b_weights_of
    exact (qss_cons (qs_expr (qe_callD D_need_moves hr (by decide) (by rfl) (pasE tk) (qa_cons (qe_var 0) qa_nil)))
    (qss_one (qs_ret (qe_callD D_some_weights hr (by decide) (by rfl) (pasE tk) (qa_cons (qe_var 0) qa_nil)))))
  exact z
def s_round_of : Stmt := topS 34
theorem sc_round_of : FnScope ["moves"] ["moves"] (defScope s_round_of) := ⟨rfl, rfl, rfl, by decide +kernel, rfl, by decide +kernel, by decide +kernel⟩
theorem ok_round_of (At : DefAt mg G.K "round_of" s_round_of ["moves"]) (B : Blt mg) (D_need_moves : DefOk P w mg base G 5 "need_moves" 1 f_need_moves) (D_some_round : DefOk P w mg base G 9 "some_round" 1 f_some_round) : DefOk P w mg base G 10 "round_of" 1 f_round_of := by
  have sc := sc_round_of
  have z := @def_ok P w mg base G "round_of" s_round_of ["moves"] ["moves"] 9 1 b_round_of At sc rfl (by decide) fun f cdv A outer s H E hr => by
    have tk : L2N.Takes (cxOf (L2N.CX P w) P w G.K mg base ["moves"] "round_of" (defScope s_round_of) f cdv A outer s H E) (fun cls d _ H => E cls d H) := L2N.takes_of rfl rfl rfl rfl
    unfold b_round_of
    exact (qss_cons (qs_expr (qe_callD D_need_moves hr (by decide) (by rfl) (pasE tk) (qa_cons (qe_var 0) qa_nil)))
    (qss_one (qs_ret (qe_callD D_some_round hr (by decide) (by rfl) (pasE tk) (qa_cons (qe_var 0) qa_nil)))))
  exact z
def s_do_end : Stmt := topS 36
theorem sc_do_end : FnScope ["moves"] ["moves"] (defScope s_do_end) := ⟨rfl, rfl, rfl, by decide +kernel, rfl, by decide +kernel, by decide +kernel⟩
theorem ok_do_end (At : DefAt mg G.K "do_end" s_do_end ["moves"]) (B : Blt mg) (D_some_weights : DefOk P w mg base G 9 "some_weights" 1 f_some_weights) : DefOk P w mg base G 10 "do_end" 1 f_do_end := by
  have sc := sc_do_end
  have z := @def_ok P w mg base G "do_end" s_do_end ["moves"] ["moves"] 9 1 b_do_end At sc rfl (by decide) fun f cdv A outer s H E hr => by
    have tk : L2N.Takes (cxOf (L2N.CX P w) P w G.K mg base ["moves"] "do_end" (defScope s_do_end) f cdv A outer s H E) (fun cls d _ H => E cls d H) := L2N.takes_of rfl rfl rfl rfl
    unfold b_do_end
    exact (qss_one (qs_ret (qe_or (qe_cmp (op_eqD hr.units) bEq_snd (qe_var 0) (qe_tup qa_nil) (nomark _)) (qe_one (qe_notN (qe_callD D_some_weights hr (by decide) (by rfl) (pasE tk) (qa_cons (qe_var 0) qa_nil)))))))
  exact z
def s_without : Stmt := topS 37
theorem sc_without : FnScope ["moves", "numbers", "number", "move"] ["moves", "numbers"] (defScope s_without) := ⟨rfl, rfl, rfl, by decide +kernel, rfl, by decide +kernel, by decide +kernel⟩
theorem ok_without (At : DefAt mg G.K "without" s_without ["moves", "numbers"]) (B : Blt mg) : DefOk P w mg base G 1 "without" 2 f_without := by
  have sc := sc_without
  have z := @def_ok P w mg base G "without" s_without ["moves", "numbers", "number", "move"] ["moves", "numbers"] 0 2 b_without At sc rfl (by decide) fun f cdv A outer s H E hr => by
    have tk : L2N.Takes (cxOf (L2N.CX P w) P w G.K mg base ["moves", "numbers", "number", "move"] "without" (defScope s_without) f cdv A outer s H E) (fun cls d _ H => E cls d H) := L2N.takes_of rfl rfl rfl rfl
    unfold b_without without_C1
    exact (qss_one (qs_ret (qe_callTy call_tuple_of bTuple_snd (by rfl) B.tuple (by decide +kernel) (qa_cons (qe_lc (own := [("number", 2), ("move", 3)]) rfl sc.nd (qi_enumS (by rfl) B.enumerate (qa_cons (qe_var 0) qa_nil)) (blkOk_by (own := [("number", 2), ("move", 3)]) (by kernel_rfl)) (fun _ _ _ _ _ => (qg_tup rfl (qgs_cons (qg_name 2 sc.nd rfl (by first | exact Or.inl rfl | exact Or.inr rfl)) (qgs_cons (qg_name 3 sc.nd rfl (by first | exact Or.inl rfl | exact Or.inr rfl)) qgs_nil)))) (fun _ _ _ _ _ => (qts_one (qt_cmp op_notIn_seq bNIn_snd (qe_var 2) (qe_var 1) (by rfl)))) (fun _ _ _ _ _ => (qe_var 3))) qa_nil))))
  exact z
def s_all_cuts : Stmt := topS 38
theorem sc_all_cuts : FnScope ["moves", "found", "size", "numbers", "is_least", "one", "cut"] ["moves"] (defScope s_all_cuts) := ⟨rfl, rfl, rfl, by decide +kernel, rfl, by decide +kernel, by decide +kernel⟩
theorem ok_all_cuts (At : DefAt mg G.K "all_cuts" s_all_cuts ["moves"]) (B : Blt mg) (D_chosen : DefOk P w mg base G 8 "chosen" 2 f_chosen) (D_do_end : DefOk P w mg base G 10 "do_end" 1 f_do_end) (D_without : DefOk P w mg base G 1 "without" 2 f_without) : DefOk P w mg base G 11 "all_cuts" 1 f_all_cuts := by
  have sc := sc_all_cuts
  have z := @def_ok P w mg base G "all_cuts" s_all_cuts ["moves", "found", "size", "numbers", "is_least", "one", "cut"] ["moves"] 10 1 b_all_cuts At sc rfl (by decide) fun f cdv A outer s H E hr => by
    have tk : L2N.Takes (cxOf (L2N.CX P w) P w G.K mg base ["moves", "found", "size", "numbers", "is_least", "one", "cut"] "all_cuts" (defScope s_all_cuts) f cdv A outer s H E) (fun cls d _ H => E cls d H) := L2N.takes_of rfl rfl rfl rfl
    unfold b_all_cuts all_cuts_L2 all_cuts_L1 all_cuts_C2 all_cuts_C1
    exact (qss_cons (qs_set 1 sc.nd rfl (by first | exact Or.inl rfl | exact Or.inr rfl) (qe_new qa_nil))
    (qss_cons (qs_for (vs := [2]) (passes_of rfl) rfl (qi_rng1 (by rfl) B.range (qa_cons (qe_op op_addA bAdd_snd (qe_callB call_len_seq bLen_snd (by rfl) B.len (by decide +kernel) (qa_cons (qe_var 0) qa_nil)) qe_int) qa_nil)) (qg_name 2 sc.nd rfl (by first | exact Or.inl rfl | exact Or.inr rfl))
    (qss_one (qs_for (vs := [3]) (passes_of rfl) rfl (qi_seq (qe_callD D_chosen hr (by decide) (by rfl) (pasE tk) (qa_cons (qe_callB call_len_seq bLen_snd (by rfl) B.len (by decide +kernel) (qa_cons (qe_var 0) qa_nil)) (qa_cons (qe_var 2) qa_nil)))) (qg_name 3 sc.nd rfl (by first | exact Or.inl rfl | exact Or.inr rfl))
    (qss_cons (qs_set 4 sc.nd rfl (by first | exact Or.inl rfl | exact Or.inr rfl) (qe_not (qe_callB (cr_any rfl) bAny_snd (by rfl) B.any (by decide +kernel) (qa_cons (qe_lcO (own := [("cut", 6)]) rfl sc.nd (qe_var 1) (blkOk_by (own := [("cut", 6)]) (by kernel_rfl)) (fun _ _ _ _ _ => (qg_name 6 sc.nd rfl (by first | exact Or.inl rfl | exact Or.inr rfl))) (fun _ _ _ _ _ => qts_nil) (fun _ _ _ _ _ => (qe_callB (cr_all rfl) bAll_snd (by rfl) B.all (by decide +kernel) (qa_cons (qe_lc (own := [("one", 5)]) rfl sc.nd (qi_seq (qe_var 6)) (blkOk_by (own := [("one", 5)]) (by kernel_rfl)) (fun _ _ _ _ _ => (qg_name 5 sc.nd rfl (by first | exact Or.inl rfl | exact Or.inr rfl))) (fun _ _ _ _ _ => qts_nil) (fun _ _ _ _ _ => (qe_cmp op_in_seq bIn_snd (qe_var 5) (qe_var 3) (by rfl)))) qa_nil)))) qa_nil))))
    (qss_one (qs_if (PW.pt (qw_and (qt_val (qe_var 4)) (qw_and1 (qt_val (qe_callD D_do_end hr (by decide) (by rfl) (pasE tk) (qa_cons (qe_callD D_without hr (by decide) (by rfl) (pasE tk) (qa_cons (qe_var 0) (qa_cons (qe_var 3) qa_nil))) qa_nil)))))) (qss_one (qs_expr (qe_app (qe_var 1) (qe_var 3)))) qss_nil))))))
    (qss_one (qs_ret (qe_frz (qe_var 1))))))
  exact z
def s_cuts : Stmt := topS 39
theorem sc_cuts : FnScope ["moves"] ["moves"] (defScope s_cuts) := ⟨rfl, rfl, rfl, by decide +kernel, rfl, by decide +kernel, by decide +kernel⟩
theorem ok_cuts (At : DefAt mg G.K "cuts" s_cuts ["moves"]) (B : Blt mg) (D_all_cuts : DefOk P w mg base G 11 "all_cuts" 1 f_all_cuts) (D_need_moves : DefOk P w mg base G 5 "need_moves" 1 f_need_moves) : DefOk P w mg base G 12 "cuts" 1 f_cuts := by
  have sc := sc_cuts
  have z := @def_ok P w mg base G "cuts" s_cuts ["moves"] ["moves"] 11 1 b_cuts At sc rfl (by decide) fun f cdv A outer s H E hr => by
    have tk : L2N.Takes (cxOf (L2N.CX P w) P w G.K mg base ["moves"] "cuts" (defScope s_cuts) f cdv A outer s H E) (fun cls d _ H => E cls d H) := L2N.takes_of rfl rfl rfl rfl
    unfold b_cuts
    exact (qss_cons (qs_expr (qe_callD D_need_moves hr (by decide) (by rfl) (pasE tk) (qa_cons (qe_var 0) qa_nil)))
    (qss_one (qs_ret (qe_callD D_all_cuts hr (by decide) (by rfl) (pasE tk) (qa_cons (qe_var 0) qa_nil)))))
  exact z
def s_first_cut : Stmt := topS 40
theorem sc_first_cut : FnScope ["moves"] ["moves"] (defScope s_first_cut) := ⟨rfl, rfl, rfl, by decide +kernel, rfl, by decide +kernel, by decide +kernel⟩
theorem ok_first_cut (At : DefAt mg G.K "first_cut" s_first_cut ["moves"]) (B : Blt mg) (D_all_cuts : DefOk P w mg base G 11 "all_cuts" 1 f_all_cuts) (D_need_moves : DefOk P w mg base G 5 "need_moves" 1 f_need_moves) : DefOk P w mg base G 12 "first_cut" 1 f_first_cut := by
  have sc := sc_first_cut
  have z := @def_ok P w mg base G "first_cut" s_first_cut ["moves"] ["moves"] 11 1 b_first_cut At sc rfl (by decide) fun f cdv A outer s H E hr => by
    have tk : L2N.Takes (cxOf (L2N.CX P w) P w G.K mg base ["moves"] "first_cut" (defScope s_first_cut) f cdv A outer s H E) (fun cls d _ H => E cls d H) := L2N.takes_of rfl rfl rfl rfl
    unfold b_first_cut
    exact (qss_cons (qs_expr (qe_callD D_need_moves hr (by decide) (by rfl) (pasE tk) (qa_cons (qe_var 0) qa_nil)))
    (qss_one (qs_ret (qe_ix ix_seq bIx_snd (qe_callD D_all_cuts hr (by decide) (by rfl) (pasE tk) (qa_cons (qe_var 0) qa_nil)) qe_int (fun _ _ => rfl)))))
  exact z
def s_law_cell : Stmt := topS 42
theorem sc_law_cell : FnScope ["script", "k"] ["script", "k"] (defScope s_law_cell) := ⟨rfl, rfl, rfl, by decide +kernel, rfl, by decide +kernel, by decide +kernel⟩
theorem ok_law_cell (At : DefAt mg G.K "_law_cell" s_law_cell ["script", "k"]) (B : Blt mg) : DefOk P w mg base G 1 "_law_cell" 2 f_law_cell := by
  have sc := sc_law_cell
  have z := @def_ok P w mg base G "_law_cell" s_law_cell ["script", "k"] ["script", "k"] 0 2 b_law_cell At sc rfl (by decide) fun f cdv A outer s H E hr => by
    have tk : L2N.Takes (cxOf (L2N.CX P w) P w G.K mg base ["script", "k"] "_law_cell" (defScope s_law_cell) f cdv A outer s H E) (fun cls d _ H => E cls d H) := L2N.takes_of rfl rfl rfl rfl
    unfold b_law_cell
    exact (qss_cons (qs_if (qt_cmp (op_eqD hr.units) bEq_snd (qe_var 0) (qe_lst qa_nil) (nomark _)) (qss_one (qs_ret (qe_op op_mulAll bMul_snd (qe_var 1) qe_int))) qss_nil)
    (qss_one (qs_ret (qe_op op_addA bAdd_snd (qe_ix ix_seq bIx_snd (qe_var 0) (qe_op op_mod bMod_snd (qe_var 1) (qe_callB call_len_seq bLen_snd (by rfl) B.len (by decide +kernel) (qa_cons (qe_var 0) qa_nil))) (fun _ _ => rfl)) (qe_op op_mulAll bMul_snd (qe_op op_fdivW bDiv_snd (qe_var 1) (qe_callB call_len_seq bLen_snd (by rfl) B.len (by decide +kernel) (qa_cons (qe_var 0) qa_nil))) qe_int)))))
  exact z
def s_law_drawn : Stmt := topS 43
theorem sc_law_drawn : FnScope ["cell", "k", "more"] ["cell", "k"] (defScope s_law_drawn) := ⟨rfl, rfl, rfl, by decide +kernel, rfl, by decide +kernel, by decide +kernel⟩
theorem ok_law_drawn (At : DefAt mg G.K "_law_drawn" s_law_drawn ["cell", "k"]) (B : Blt mg) : DefOk P w mg base G 1 "_law_drawn" 2 f_law_drawn := by
  have sc := sc_law_drawn
  have z := @def_ok P w mg base G "_law_drawn" s_law_drawn ["cell", "k", "more"] ["cell", "k"] 0 2 b_law_drawn At sc rfl (by decide) fun f cdv A outer s H E hr => by
    have tk : L2N.Takes (cxOf (L2N.CX P w) P w G.K mg base ["cell", "k", "more"] "_law_drawn" (defScope s_law_drawn) f cdv A outer s H E) (fun cls d _ H => E cls d H) := L2N.takes_of rfl rfl rfl rfl
    unfold b_law_drawn
    exact (qss_cons (qs_set 2 sc.nd rfl (by first | exact Or.inl rfl | exact Or.inr rfl) (qe_op op_mod bMod_snd (qe_op op_addA bAdd_snd (qe_op op_mulAll bMul_snd (qe_var 0) qe_int) (qe_op op_mulAll bMul_snd (qe_op op_addA bAdd_snd (qe_var 1) qe_int) qe_int)) qe_int))
    (qss_cons (qs_set 2 sc.nd rfl (by first | exact Or.inl rfl | exact Or.inr rfl) (qe_op op_mod bMod_snd (qe_op op_mulAll bMul_snd (qe_var 2) (qe_var 2)) qe_int))
    (qss_cons (qs_set 2 sc.nd rfl (by first | exact Or.inl rfl | exact Or.inr rfl) (qe_op op_mulAll bMul_snd (qe_op op_mulAll bMul_snd (qe_op op_addA bAdd_snd (qe_op op_mod bMod_snd (qe_var 2) qe_int) qe_int) (qe_op op_addA bAdd_snd (qe_op op_fdivW bDiv_snd (qe_var 2) qe_int) qe_int)) (qe_var 2)))
    (qss_one (qs_ret (qe_op op_mod bMod_snd (qe_var 2) qe_int))))))
  exact z
def s_law_roll : Stmt := topS 44
theorem sc_law_roll : FnScope ["dice", "many", "told"] ["dice", "many"] (defScope s_law_roll) := ⟨rfl, rfl, rfl, by decide +kernel, rfl, by decide +kernel, by decide +kernel⟩
theorem ok_law_roll (At : DefAt mg G.K "_law_roll" s_law_roll ["dice", "many"]) (B : Blt mg) (D__law_drawn : DefOk P w mg base G 1 "_law_drawn" 2 f_law_drawn) : DefOk P w mg base G 2 "_law_roll" 2 f_law_roll := by
  have sc := sc_law_roll
  have z := @def_ok P w mg base G "_law_roll" s_law_roll ["dice", "many", "told"] ["dice", "many"] 1 2 b_law_roll At sc rfl (by decide) fun f cdv A outer s H E hr => by
    have tk : L2N.Takes (cxOf (L2N.CX P w) P w G.K mg base ["dice", "many", "told"] "_law_roll" (defScope s_law_roll) f cdv A outer s H E) (fun cls d _ H => E cls d H) := L2N.takes_of rfl rfl rfl rfl
    unfold b_law_roll
    exact (qss_cons (qs_if (qt_cmp op_ge bCmp_snd (qe_ix ix_seq bIx_snd (qe_var 0) qe_int (fun _ _ => rfl)) (qe_op op_pow bPow_snd qe_int qe_int) (nomark _)) (qss_cons (qs_set 2 sc.nd rfl (by first | exact Or.inl rfl | exact Or.inr rfl) (qe_op op_mod bMod_snd (qe_ix ix_seq bIx_snd (qe_var 0) qe_int (fun _ _ => rfl)) (qe_var 1)))
    (qss_cons (qs_asg (vs := [0]) (qe_op op_fdivW bDiv_snd (qe_ix ix_seq bIx_snd (qe_var 0) qe_int (fun _ _ => rfl)) (qe_var 1)) (qg_sub (qe_var 0) qe_int))
    (qss_one (qs_ret (qe_var 2))))) qss_nil)
    (qss_cons (qs_asg (vs := [0]) (qe_op op_addA bAdd_snd (qe_ix ix_seq bIx_snd (qe_var 0) qe_int (fun _ _ => rfl)) qe_int) (qg_sub (qe_var 0) qe_int))
    (qss_one (qs_ret (qe_op op_mod bMod_snd (qe_op op_fdivW bDiv_snd (qe_callD D__law_drawn hr (by decide) (by rfl) (pasE tk) (qa_cons (qe_ix ix_seq bIx_snd (qe_var 0) qe_int (fun _ _ => rfl)) (qa_cons (qe_ix ix_seq bIx_snd (qe_var 0) qe_int (fun _ _ => rfl)) qa_nil))) qe_int) (qe_var 1))))))
  exact z
def s_law_rounds : Stmt := topS 45
theorem sc_law_rounds : FnScope ["script", "high", "k"] ["script", "high"] (defScope s_law_rounds) := ⟨rfl, rfl, rfl, by decide +kernel, rfl, by decide +kernel, by decide +kernel⟩
theorem ok_law_rounds (At : DefAt mg G.K "_law_rounds" s_law_rounds ["script", "high"]) (B : Blt mg) (D__law_cell : DefOk P w mg base G 1 "_law_cell" 2 f_law_cell) : DefOk P w mg base G 2 "_law_rounds" 2 f_law_rounds := by
  have sc := sc_law_rounds
  have z := @def_ok P w mg base G "_law_rounds" s_law_rounds ["script", "high", "k"] ["script", "high"] 1 2 b_law_rounds At sc rfl (by decide) fun f cdv A outer s H E hr => by
    have tk : L2N.Takes (cxOf (L2N.CX P w) P w G.K mg base ["script", "high", "k"] "_law_rounds" (defScope s_law_rounds) f cdv A outer s H E) (fun cls d _ H => E cls d H) := L2N.takes_of rfl rfl rfl rfl
    unfold b_law_rounds law_rounds_C1
    exact (qss_one (qs_ret (qe_lcN (own := [("k", 2)]) rfl sc.nd (qi_rng1 (by rfl) B.range (qa_cons (qe_callB (call_max2 rfl) bMax2_snd (by rfl) B.max (by decide +kernel) (qa_cons qe_int (qa_cons (qe_callB (call_min2 rfl) bMin2_snd (by rfl) B.min (by decide +kernel) (qa_cons (qe_var 1) (qa_cons (qe_callB call_len_seq bLen_snd (by rfl) B.len (by decide +kernel) (qa_cons (qe_var 0) qa_nil)) qa_nil))) qa_nil))) qa_nil)) (blkOk_by (own := [("k", 2)]) (by kernel_rfl)) (fun _ _ _ _ _ => (qg_name 2 sc.nd rfl (by first | exact Or.inl rfl | exact Or.inr rfl))) (fun _ _ _ _ _ => qts_nil) (fun _ _ _ _ _ => (qe_new (qa_cons (qe_callD D__law_cell hr (by decide) (by rfl) pasF (qa_cons (qe_var 0) (qa_cons (qe_var 2) qa_nil))) (qa_cons qe_int qa_nil)))))))
  exact z
def s_law_any_move : Stmt := topS 46
theorem sc_law_any_move : FnScope ["dice", "heaps", "needs", "heap"] ["dice", "heaps"] (defScope s_law_any_move) := ⟨rfl, rfl, rfl, by decide +kernel, rfl, by decide +kernel, by decide +kernel⟩
theorem ok_law_any_move (At : DefAt mg G.K "_law_any_move" s_law_any_move ["dice", "heaps"]) (B : Blt mg) (D__law_roll : DefOk P w mg base G 2 "_law_roll" 2 f_law_roll) : DefOk P w mg base G 3 "_law_any_move" 2 f_law_any_move := by
  have sc := sc_law_any_move
  have z := @def_ok P w mg base G "_law_any_move" s_law_any_move ["dice", "heaps", "needs", "heap"] ["dice", "heaps"] 2 2 b_law_any_move At sc rfl (by decide) fun f cdv A outer s H E hr => by
    have tk : L2N.Takes (cxOf (L2N.CX P w) P w G.K mg base ["dice", "heaps", "needs", "heap"] "_law_any_move" (defScope s_law_any_move) f cdv A outer s H E) (fun cls d _ H => E cls d H) := L2N.takes_of rfl rfl rfl rfl
    unfold b_law_any_move law_any_move_C2 law_any_move_C1
    exact (qss_cons (qs_set 2 sc.nd rfl (by first | exact Or.inl rfl | exact Or.inr rfl) (qe_callTy call_tuple_of bTuple_snd (by rfl) B.tuple (by decide +kernel) (qa_cons (qe_lc (own := [("heap", 3)]) rfl sc.nd (qi_rng1 (by rfl) B.range (qa_cons (qe_var 1) qa_nil)) (blkOk_by (own := [("heap", 3)]) (by kernel_rfl)) (fun _ _ _ _ _ => (qg_name 3 sc.nd rfl (by first | exact Or.inl rfl | exact Or.inr rfl))) (fun _ _ _ _ _ => qts_nil) (fun _ _ _ _ _ => (qe_ix ix_seq bIx_snd (qe_lst (qa_cons qe_int (qa_cons qe_int (qa_cons qe_int (qa_cons qe_int (qa_cons qe_int qa_nil)))))) (qe_callD D__law_roll hr (by decide) (by rfl) pasF (qa_cons (qe_var 0) (qa_cons qe_int qa_nil))) (fun _ _ => rfl)))) qa_nil)))
    (qss_one (qs_ret (qe_tup (qa_cons (qe_var 2) (qa_cons (qe_callTy call_tuple_of bTuple_snd (by rfl) B.tuple (by decide +kernel) (qa_cons (qe_lc (own := [("heap", 3)]) rfl sc.nd (qi_rng1 (by rfl) B.range (qa_cons (qe_var 1) qa_nil)) (blkOk_by (own := [("heap", 3)]) (by kernel_rfl)) (fun _ _ _ _ _ => (qg_name 3 sc.nd rfl (by first | exact Or.inl rfl | exact Or.inr rfl))) (fun _ _ _ _ _ => qts_nil) (fun _ _ _ _ _ => (qe_ix ix_seq bIx_snd (qe_lst (qa_cons qe_int (qa_cons qe_int (qa_cons qe_int (qa_cons qe_int (qa_cons qe_int qa_nil)))))) (qe_callD D__law_roll hr (by decide) (by rfl) pasF (qa_cons (qe_var 0) (qa_cons qe_int qa_nil))) (fun _ _ => rfl)))) qa_nil)) qa_nil))))))
  exact z
def s_law_any_moves : Stmt := topS 47
theorem sc_law_any_moves : FnScope ["dice", "high", "heaps", "turn"] ["dice", "high"] (defScope s_law_any_moves) := ⟨rfl, rfl, rfl, by decide +kernel, rfl, by decide +kernel, by decide +kernel⟩
theorem ok_law_any_moves (At : DefAt mg G.K "_law_any_moves" s_law_any_moves ["dice", "high"]) (B : Blt mg) (D__law_any_move : DefOk P w mg base G 3 "_law_any_move" 2 f_law_any_move) (D__law_roll : DefOk P w mg base G 2 "_law_roll" 2 f_law_roll) : DefOk P w mg base G 4 "_law_any_moves" 2 f_law_any_moves := by
  have sc := sc_law_any_moves
  have z := @def_ok P w mg base G "_law_any_moves" s_law_any_moves ["dice", "high", "heaps", "turn"] ["dice", "high"] 3 2 b_law_any_moves At sc rfl (by decide) fun f cdv A outer s H E hr => by
    have tk : L2N.Takes (cxOf (L2N.CX P w) P w G.K mg base ["dice", "high", "heaps", "turn"] "_law_any_moves" (defScope s_law_any_moves) f cdv A outer s H E) (fun cls d _ H => E cls d H) := L2N.takes_of rfl rfl rfl rfl
    unfold b_law_any_moves law_any_moves_C1
    exact (qss_cons (qs_set 2 sc.nd rfl (by first | exact Or.inl rfl | exact Or.inr rfl) (qe_op op_addA bAdd_snd qe_int (qe_callD D__law_roll hr (by decide) (by rfl) (pasE tk) (qa_cons (qe_var 0) (qa_cons qe_int qa_nil)))))
    (qss_one (qs_ret (qe_callTy call_tuple_of bTuple_snd (by rfl) B.tuple (by decide +kernel) (qa_cons (qe_lc (own := [("turn", 3)]) rfl sc.nd (qi_rng1 (by rfl) B.range (qa_cons (qe_op op_addA bAdd_snd qe_int (qe_callD D__law_roll hr (by decide) (by rfl) (pasE tk) (qa_cons (qe_var 0) (qa_cons (qe_var 1) qa_nil)))) qa_nil)) (blkOk_by (own := [("turn", 3)]) (by kernel_rfl)) (fun _ _ _ _ _ => (qg_name 3 sc.nd rfl (by first | exact Or.inl rfl | exact Or.inr rfl))) (fun _ _ _ _ _ => qts_nil) (fun _ _ _ _ _ => (qe_callD D__law_any_move hr (by decide) (by rfl) pasF (qa_cons (qe_var 0) (qa_cons (qe_var 2) qa_nil))))) qa_nil)))))
  exact z
def s_law_all_lists : Stmt := topS 48
theorem sc_law_all_lists : FnScope ["many", "found", "number", "row"] ["many"] (defScope s_law_all_lists) := ⟨rfl, rfl, rfl, by decide +kernel, rfl, by decide +kernel, by decide +kernel⟩
theorem ok_law_all_lists (At : DefAt mg G.K "_law_all_lists" s_law_all_lists ["many"]) (B : Blt mg) : DefOk P w mg base G 1 "_law_all_lists" 1 f_law_all_lists := by
  have sc := sc_law_all_lists
  have z := @def_ok P w mg base G "_law_all_lists" s_law_all_lists ["many", "found", "number", "row"] ["many"] 0 1 b_law_all_lists At sc rfl (by decide) fun f cdv A outer s H E hr => by
    have tk : L2N.Takes (cxOf (L2N.CX P w) P w G.K mg base ["many", "found", "number", "row"] "_law_all_lists" (defScope s_law_all_lists) f cdv A outer s H E) (fun cls d _ H => E cls d H) := L2N.takes_of rfl rfl rfl rfl
    unfold b_law_all_lists law_all_lists_L1 law_all_lists_C1
    exact (qss_cons (qs_set 1 sc.nd rfl (by first | exact Or.inl rfl | exact Or.inr rfl) (qe_lst (qa_cons (qe_lst qa_nil) qa_nil)))
    (qss_cons (qs_for (vs := [2]) (passes_of rfl) rfl (qi_rng1 (by rfl) B.range (qa_cons (qe_var 0) qa_nil)) (qg_name 2 sc.nd rfl (by first | exact Or.inl rfl | exact Or.inr rfl))
    (qss_one (qs_set 1 sc.nd rfl (by first | exact Or.inl rfl | exact Or.inr rfl) (qe_op op_addA bAdd_snd (qe_var 1) (qe_lc (own := [("row", 3)]) rfl sc.nd (qi_seq (qe_var 1)) (blkOk_by (own := [("row", 3)]) (by kernel_rfl)) (fun _ _ _ _ _ => (qg_name 3 sc.nd rfl (by first | exact Or.inl rfl | exact Or.inr rfl))) (fun _ _ _ _ _ => qts_nil) (fun _ _ _ _ _ => (qe_op op_addA bAdd_snd (qe_var 3) (qe_lst (qa_cons (qe_var 2) qa_nil)))))))))
    (qss_one (qs_ret (qe_var 1)))))
  exact z
def s_law : Stmt := topS 49
theorem sc_law : FnScope ["script", "dice", "moves", "good", "numbers", "left", "number", "move", "due", "others", "one", "size", "counts", "used", "many"] ["script"] (defScope s_law) := ⟨rfl, rfl, rfl, by decide +kernel, rfl, by decide +kernel, by decide +kernel⟩
theorem ok_law {f : Addr} {fd : FuncData} (Fn : Fun G.K "law" "law" s_law f fd) (B : Blt mg) (D__law_all_lists : DefOk P w mg base G 1 "_law_all_lists" 1 f_law_all_lists) (D__law_any_moves : DefOk P w mg base G 4 "_law_any_moves" 2 f_law_any_moves) (D__law_rounds : DefOk P w mg base G 2 "_law_rounds" 2 f_law_rounds) (D_cuts : DefOk P w mg base G 12 "cuts" 1 f_cuts) (D_ends : DefOk P w mg base G 10 "ends" 1 f_ends) (D_first_cut : DefOk P w mg base G 12 "first_cut" 1 f_first_cut) (D_round_of : DefOk P w mg base G 10 "round_of" 1 f_round_of) (D_weights_of : DefOk P w mg base G 10 "weights_of" 1 f_weights_of) : FnOk P w G.K mg base (L2N.CX P w) 13 f fd ["script"] (spF G 1 f_law) := by
  have sc := sc_law
  have z := @law_ok P w mg base G "law" s_law ["script", "dice", "moves", "good", "numbers", "left", "number", "move", "due", "others", "one", "size", "counts", "used", "many"] ["script"] 12 1 b_law f fd Fn sc rfl (by decide) fun f cdv A outer s H E hr => by
    have tk : L2N.Takes (cxOf (L2N.CX P w) P w G.K mg base ["script", "dice", "moves", "good", "numbers", "left", "number", "move", "due", "others", "one", "size", "counts", "used", "many"] "law" (defScope s_law) f cdv A outer s H E) (fun cls d _ H => E cls d H) := L2N.takes_of rfl rfl rfl rfl
    unfold b_law law_L3 law_C8 law_C7 law_C6 law_C5 law_L2 law_C4 law_C3 law_C2 law_L1 law_C1
    exact (qss_cons (qs_forO (vs := [1]) (passes_of rfl) rfl (qe_callD D__law_rounds hr (by decide) (by rfl) (pasE tk) (qa_cons (qe_var 0) (qa_cons qe_int qa_nil))) (qg_name 1 sc.nd rfl (by first | exact Or.inl rfl | exact Or.inr rfl))
    (qss_cons (qs_set 2 sc.nd rfl (by first | exact Or.inl rfl | exact Or.inr rfl) (qe_callD D__law_any_moves hr (by decide) (by rfl) (pasE tk) (qa_cons (qe_var 1) (qa_cons qe_int qa_nil))))
    (qss_cons (qs_set 3 sc.nd rfl (by first | exact Or.inl rfl | exact Or.inr rfl) (qe_new qa_nil))
    (qss_cons (qs_for (vs := [4]) (passes_of rfl) rfl (qi_seq (qe_callD D__law_all_lists hr (by decide) (by rfl) (pasE tk) (qa_cons (qe_callB call_len_seq bLen_snd (by rfl) B.len (by decide +kernel) (qa_cons (qe_var 2) qa_nil)) qa_nil))) (qg_name 4 sc.nd rfl (by first | exact Or.inl rfl | exact Or.inr rfl))
    (qss_cons (qs_set 5 sc.nd rfl (by first | exact Or.inl rfl | exact Or.inr rfl) (qe_callTy call_tuple_of bTuple_snd (by rfl) B.tuple (by decide +kernel) (qa_cons (qe_lc (own := [("number", 6), ("move", 7)]) rfl sc.nd (qi_enumS (by rfl) B.enumerate (qa_cons (qe_var 2) qa_nil)) (blkOk_by (own := [("number", 6), ("move", 7)]) (by kernel_rfl)) (fun _ _ _ _ _ => (qg_tup rfl (qgs_cons (qg_name 6 sc.nd rfl (by first | exact Or.inl rfl | exact Or.inr rfl)) (qgs_cons (qg_name 7 sc.nd rfl (by first | exact Or.inl rfl | exact Or.inr rfl)) qgs_nil)))) (fun _ _ _ _ _ => (qts_one (qt_cmp op_notIn_seq bNIn_snd (qe_var 6) (qe_var 4) (by rfl)))) (fun _ _ _ _ _ => (qe_var 7))) qa_nil)))
    (qss_one (qs_if (PW.pt (qw_or (qt_cmp (op_eqD hr.units) bEq_snd (qe_var 5) (qe_tup qa_nil) (nomark _)) (qw_or1 (qt_notN (qe_callD D_weights_of hr (by decide) (by rfl) (pasE tk) (qa_cons (qe_var 5) qa_nil)))))) (qss_one (qs_expr (qe_app (qe_var 3) (qe_var 4)))) qss_nil))))
    (qss_cons (qs_set 8 sc.nd rfl (by first | exact Or.inl rfl | exact Or.inr rfl) (qe_new qa_nil))
    (qss_cons (qs_forO (vs := [4]) (passes_of rfl) rfl (qe_var 3) (qg_name 4 sc.nd rfl (by first | exact Or.inl rfl | exact Or.inr rfl))
    (qss_cons (qs_setLcO 9 (own := [("one", 10)]) rfl sc.nd rfl rfl (sw_true rfl rfl rfl (by decide +kernel)) (qe_var 3) (blkOk_by (own := [("one", 10)]) (by kernel_rfl)) (fun _ _ _ _ _ => (qg_name 10 sc.nd rfl (by first | exact Or.inl rfl | exact Or.inr rfl))) (fun _ _ _ _ _ => (qts_one (qt_cmp (op_neD hr.units) bNe_snd (qe_var 10) (qe_var 4) (nomark _)))) (fun _ _ _ _ _ => (qe_var 10)))
    (qss_one (qs_if (qt_cmp (op_eqD hr.units) bEq_snd (qe_lc (own := [("one", 10)]) rfl sc.nd (qi_seq (qe_var 9)) (blkOk_by (own := [("one", 10)]) (by kernel_rfl)) (fun _ _ _ _ _ => (qg_name 10 sc.nd rfl (by first | exact Or.inl rfl | exact Or.inr rfl))) (fun _ _ _ _ _ => (qts_one (qt_cmp (op_eqD hr.units) bEq_snd (qe_lc (own := [("number", 6)]) rfl sc.nd (qi_seq (qe_var 10)) (blkOk_by (own := [("number", 6)]) (by kernel_rfl)) (fun _ _ _ _ _ => (qg_name 6 sc.nd rfl (by first | exact Or.inl rfl | exact Or.inr rfl))) (fun _ _ _ _ _ => (qts_one (qt_cmp op_notIn_seq bNIn_snd (qe_var 6) (qe_var 4) (by rfl)))) (fun _ _ _ _ _ => (qe_var 6))) (qe_lst qa_nil) (nomark _)))) (fun _ _ _ _ _ => (qe_var 10))) (qe_lst qa_nil) (nomark _)) (qss_one (qs_expr (qe_app (qe_var 8) (qe_tup (qa_cons (qe_callB call_len_seq bLen_snd (by rfl) B.len (by decide +kernel) (qa_cons (qe_var 4) qa_nil)) (qa_cons (qe_var 4) qa_nil)))))) qss_nil))))
    (qss_cons (qs_setLcN 8 (own := [("size", 11), ("numbers", 4)]) rfl sc.nd rfl rfl (sw_true rfl rfl rfl (by decide +kernel)) (qi_seq (qe_callB (cr_sortedD hr.units) bSortD_snd (by rfl) B.sorted (by decide +kernel) (qa_cons (qe_var 8) qa_nil))) (blkOk_by (own := [("size", 11), ("numbers", 4)]) (by kernel_rfl)) (fun _ _ _ _ _ => (qg_tup rfl (qgs_cons (qg_name 11 sc.nd rfl (by first | exact Or.inl rfl | exact Or.inr rfl)) (qgs_cons (qg_name 4 sc.nd rfl (by first | exact Or.inl rfl | exact Or.inr rfl)) qgs_nil)))) (fun _ _ _ _ _ => qts_nil) (fun _ _ _ _ _ => (qe_var 4)))
    (qss_cons (qs_if (PW.pt (qw_or (qt_cmp (op_neD hr.units) bNe_snd (qe_callD D_cuts hr (by decide) (by rfl) (pasE tk) (qa_cons (qe_var 2) qa_nil)) (qe_var 8) (nomark _)) (qw_or (qt_cmp (op_neD hr.units) bNe_snd (qe_callD D_first_cut hr (by decide) (by rfl) (pasE tk) (qa_cons (qe_var 2) qa_nil)) (qe_ix ix_seq bIx_snd (qe_var 8) qe_int (fun _ _ => rfl)) (nomark _)) (qw_or1 (qt_cmp (op_neD hr.units) bNe_snd (qe_callD D_ends hr (by decide) (by rfl) (pasE tk) (qa_cons (qe_var 2) qa_nil)) (qe_cmp (op_eqD hr.units) bEq_snd (qe_var 8) (qe_lst (qa_cons (qe_lst qa_nil) qa_nil)) (nomark _)) (nomark _)))))) (qss_one (qs_ret qe_bl)) qss_nil)
    (qss_cons (qs_set 12 sc.nd rfl (by first | exact Or.inl rfl | exact Or.inr rfl) (qe_callD D_round_of hr (by decide) (by rfl) (pasE tk) (qa_cons (qe_var 2) qa_nil)))
    (qss_one (qs_if (qt_notN (qe_var 12)) (qss_cons (qs_set 13 sc.nd rfl (by first | exact Or.inl rfl | exact Or.inr rfl) (qe_lc (own := [("number", 6), ("many", 14)]) rfl sc.nd (qi_enumS (by rfl) B.enumerate (qa_cons (qe_var 12) qa_nil)) (blkOk_by (own := [("number", 6), ("many", 14)]) (by kernel_rfl)) (fun _ _ _ _ _ => (qg_tup rfl (qgs_cons (qg_name 6 sc.nd rfl (by first | exact Or.inl rfl | exact Or.inr rfl)) (qgs_cons (qg_name 14 sc.nd rfl (by first | exact Or.inl rfl | exact Or.inr rfl)) qgs_nil)))) (fun _ _ _ _ _ => (qts_one (qt_cmp op_gt bCmp_snd (qe_var 14) qe_int (nomark _)))) (fun _ _ _ _ _ => (qe_var 6))))
    (qss_one (qs_if (qt_cmp (op_neD hr.units) bNe_snd (qe_lcO (own := [("numbers", 4)]) rfl sc.nd (qe_var 8) (blkOk_by (own := [("numbers", 4)]) (by kernel_rfl)) (fun _ _ _ _ _ => (qg_name 4 sc.nd rfl (by first | exact Or.inl rfl | exact Or.inr rfl))) (fun _ _ _ _ _ => (qts_one (qt_cmp (op_eqD hr.units) bEq_snd (qe_lc (own := [("number", 6)]) rfl sc.nd (qi_seq (qe_var 4)) (blkOk_by (own := [("number", 6)]) (by kernel_rfl)) (fun _ _ _ _ _ => (qg_name 6 sc.nd rfl (by first | exact Or.inl rfl | exact Or.inr rfl))) (fun _ _ _ _ _ => (qts_one (qt_cmp op_in_seq bIn_snd (qe_var 6) (qe_var 13) (by rfl)))) (fun _ _ _ _ _ => (qe_var 6))) (qe_lst qa_nil) (nomark _)))) (fun _ _ _ _ _ => (qe_var 4))) (qe_lst qa_nil) (nomark _)) (qss_one (qs_ret qe_bl)) qss_nil))) qss_nil)))))))))))
    (qss_one (qs_ret qe_bl)))
  exact z
end
end Y
end
section
set_option Elab.async false
set_option linter.all false
/-! Mth: how the combinators compute; moves, standings, rows as plain lists. -/
namespace Y
open PySem (PyData Str)
/-! ### rules for simp: all as equations of functions -/
section
set_option Elab.async false
variable {α β γ : Type} {loc : Loc} {st : Store}
@[simp] theorem ret_ap (a : α) : ret a st = .ok a st := rfl
@[simp] theorem bd_ret (a : α) (f : α → M β) : bd (ret a) f = f a := rfl
@[simp] theorem bd_die (f : α → M β) : bd die f = die := rfl
@[simp] theorem bd_thr (c : Nat) (f : α → M β) : bd (thr c) f = thr c := rfl
@[simp] theorem bd_bd (m : M α) (f : α → M β) (g : β → M γ) : bd (bd m f) g = bd m fun x => bd (f x) g := by
  funext st
  unfold bd
  cases m st <;> rfl
@[simp] theorem noex_ret (a : α) : noex (ret a) = ret a := rfl
theorem bd_eq {m : M α} {f : α → M β} {st s : Store} {a : α} (h : m st = .ok a s) : bd m f st = f a s := by
  unfold bd
  rw [h]
theorem bd_ex {m : M α} {f : α → M β} {st s : Store} {c : Nat} (h : m st = .ex c s) : bd m f st = .ex c s := by
  unfold bd
  rw [h]
theorem noex_eq {m : M α} {st s : Store} {a : α} (h : m st = .ok a s) : noex m st = .ok a s := by
  unfold noex
  rw [h]
@[simp] theorem eV_zero (v : Val) (l : Loc) : eV 0 (some v :: l) = ret v := rfl
@[simp] theorem eV_succ (i : Nat) (x : Option Val) (l : Loc) : eV (i + 1) (x :: l) = eV i l := rfl
@[simp] theorem eC_eq (x : D) : eC x loc = ret (.d x) := rfl
@[simp] theorem eO_eq (op : Val → Val → M Val) (a b : E) : eO op a b loc = bd (a loc) fun x => bd (b loc) fun y => op x y := rfl
@[simp] theorem eU_eq (op : Val → M Val) (a : E) : eU op a loc = bd (a loc) op := rfl
@[simp] theorem aN_eq : aN loc = ret [] := rfl
@[simp] theorem aC_eq (e : E) (as : A) : aC e as loc = bd (e loc) fun x => bd (as loc) fun xs => ret (x :: xs) := rfl
@[simp] theorem eB_eq (b : List Val → M Val) (as : A) : eB b as loc = bd (as loc) b := rfl
@[simp] theorem tV_eq (e : E) : tV e loc = bd (e loc) asB := rfl
@[simp] theorem tAn_eq (t u : Tst) : tAn t u loc = bd (t loc) fun b => if b = true then u loc else ret false := rfl
@[simp] theorem tOrr_eq (t u : Tst) : tOrr t u loc = bd (t loc) fun b => if b = true then ret true else u loc := rfl
@[simp] theorem tNo_eq (t : Tst) : tNo t loc = bd (t loc) fun b => ret (!b) := rfl
@[simp] theorem tTr_eq : tTr loc = ret true := rfl
@[simp] theorem eAn_eq (a b : E) : eAn a b loc = bd (a loc) fun v => bd (asB v) fun c => if c = true then b loc else ret (vB false) := rfl
@[simp] theorem eOr_eq (a b : E) : eOr a b loc = bd (a loc) fun v => bd (asB v) fun c => if c = true then ret (vB true) else b loc := rfl
@[simp] theorem eNo_eq (a : E) : eNo a loc = bd (a loc) fun v => bd (asB v) fun c => ret (vB (!c)) := rfl
@[simp] theorem eIf_eq (t : Tst) (a b : E) : eIf t a b loc = bd (t loc) fun c => if c = true then a loc else b loc := rfl
@[simp] theorem eCh_eq (o1 o2 : Val → Val → M Val) (a b c : E) : eCh o1 o2 a b c loc = bd (a loc) fun x => bd (b loc) fun y => bd (o1 x y) fun r => bd (asB r) fun k => if k = true then bd (c loc) fun z => o2 y z else ret (vB false) := rfl
@[simp] theorem asB_eq (b : Bool) : asB (.d (.bool b)) = ret b := rfl
@[simp] theorem asI_eq (b : Int) : asI (.d (.int b)) = ret b := rfl
@[simp] theorem vB_eq (b : Bool) : vB b = .d (.bool b) := rfl
@[simp] theorem vI_eq (b : Int) : vI b = .d (.int b) := rfl
@[simp] theorem sNil_eq : sNil loc = ret (.nx, loc) := rfl
@[simp] theorem sSeq_eq (a b : S) : sSeq a b loc = bd (a loc) fun r => match r.1 with
  | .nx => b r.2
  | _ => ret r := rfl
@[simp] theorem sRet_eq (e : E) : sRet e loc = bd (e loc) fun v => ret (.rt v, loc) := rfl
@[simp] theorem sAsg_eq (e : E) (g : G) : sAsg e g loc = bd (e loc) fun v => bd (g v loc) fun l => ret (.nx, l) := rfl
@[simp] theorem sExp_eq (e : E) : sExp e loc = bd (e loc) fun _ => ret (.nx, loc) := rfl
@[simp] theorem sIf_eq (t : Tst) (a b : S) : sIf t a b loc = bd (t loc) fun c => if c = true then a loc else b loc := rfl
@[simp] theorem sRaise_eq (c : Nat) : sRaise c loc = thr c := rfl
@[simp] theorem sPar_eq (i j : Nat) (a b : E) : sPar i j a b loc = bd (a loc) fun v => bd (b loc) fun w => ret (.nx, (loc.set i (some v)).set j (some w)) := rfl
@[simp] theorem sFor_eq (it : I) (g : G) (b : S) : sFor it g b loc = bd (it loc) fun xs => forL (fBody g b) xs loc := rfl
@[simp] theorem gN_eq (i : Nat) (v : Val) : gN i v loc = ret (loc.set i (some v)) := rfl
@[simp] theorem gT_eq (n : Nat) (gs : Gs) (ds : List D) : gT n gs (.d (.tuple ds)) loc = if ds.length = n then gs (ds.map .d) loc else die := rfl
@[simp] theorem gsN_eq : gsN [] loc = ret loc := rfl
@[simp] theorem gsC_eq (g : G) (gs : Gs) (v : Val) (r : List Val) : gsC g gs (v :: r) loc = bd (g v loc) fun l => gs r l := rfl
@[simp] theorem cBody_eq (g : G) (t : Tst) (e : E) (x : Val) : cBody g t e loc x = bd (g x loc) fun l => bd (t l) fun b => if b = true then bd (e l) fun y => ret (some y) else ret none := rfl
@[simp] theorem fBody_eq (g : G) (b : S) (x : Val) : fBody g b x loc = bd (g x loc) b := rfl
@[simp] theorem fix1 (f : List Val → M Val) (a : Val) : fixN 1 f [a] = f [a] := rfl
@[simp] theorem fix2 (f : List Val → M Val) (a b : Val) : fixN 2 f [a, b] = f [a, b] := rfl
@[simp] theorem fix3 (f : List Val → M Val) (a b c : Val) : fixN 3 f [a, b, c] = f [a, b, c] := rfl
@[simp] theorem fix4 (f : List Val → M Val) (a b c d : Val) : fixN 4 f [a, b, c, d] = f [a, b, c, d] := rfl
@[simp] theorem wip_nil : wip loc [] = loc := rfl
@[simp] theorem wip_cons (v : Nat) (vs : List Nat) : wip loc (v :: vs) = (wip loc vs).set v none := rfl
theorem runF_eq (n : Nat) (b : S) (as : List Val) : runF n b as = bd (b (as.map some ++ List.replicate (n - as.length) none)) fun r => match r.1 with
    | .rt v => ret v
    | .nx => ret (.d .none)
    | _ => die := rfl
/-! operators -/
@[simp] theorem bAdd_int (i j : Int) : bAdd (.d (.int i)) (.d (.int j)) = ret (.d (.int (i + j))) := rfl
@[simp] theorem bSub_int (i j : Int) : bSub (.d (.int i)) (.d (.int j)) = ret (.d (.int (i - j))) := rfl
@[simp] theorem bNeg_int (i : Int) : bNeg (.d (.int i)) = ret (.d (.int (-i))) := rfl
@[simp] theorem bLt_int (i j : Int) : bLt (.d (.int i)) (.d (.int j)) = ret (.d (.bool (decide (i < j)))) := rfl
@[simp] theorem bLe_int (i j : Int) : bLe (.d (.int i)) (.d (.int j)) = ret (.d (.bool (decide (i ≤ j)))) := rfl
@[simp] theorem bGt_int (i j : Int) : bGt (.d (.int i)) (.d (.int j)) = ret (.d (.bool (decide (j < i)))) := rfl
@[simp] theorem bGe_int (i j : Int) : bGe (.d (.int i)) (.d (.int j)) = ret (.d (.bool (decide (j ≤ i)))) := rfl
@[simp] theorem bLen_tup (xs : List D) : bLen [.d (.tuple xs)] = ret (.d (.int xs.length)) := rfl
@[simp] theorem bLen_lst (xs : List D) : bLen [.d (.list xs)] = ret (.d (.int xs.length)) := rfl
@[simp] theorem bLen_s (xs : List Int) : bLen [.s xs] = ret (.d (.int xs.length)) := rfl
@[simp] theorem bTuple_lst (xs : List D) : bTuple [.d (.list xs)] = ret (.d (.tuple xs)) := rfl
@[simp] theorem bTuple_tup (xs : List D) : bTuple [.d (.tuple xs)] = ret (.d (.tuple xs)) := rfl
@[simp] theorem bIsN_eq (v : Val) : bIsN v = ret (.d (.bool (isN v))) := rfl
@[simp] theorem bNotN_eq (v : Val) : bNotN v = ret (.d (.bool (!isN v))) := rfl
@[simp] theorem bMax2_eq (i j : Int) : bMax2 [.d (.int i), .d (.int j)] = ret (.d (.int (if j > i then j else i))) := rfl
@[simp] theorem bMin2_eq (i j : Int) : bMin2 [.d (.int i), .d (.int j)] = ret (.d (.int (if j < i then j else i))) := rfl
@[simp] theorem bMod_int (i j : Int) : bMod (.d (.int i)) (.d (.int j)) = if 0 < j then ret (.d (.int (i % j))) else die := rfl
@[simp] theorem bDiv_int (i j : Int) : bDiv (.d (.int i)) (.d (.int j)) = if 0 < j ∧ j.natAbs.log2 < 9000 then ret (.d (.int (i / j))) else die := rfl
@[simp] theorem bMul_int (i j : Int) : bMul (.d (.int i)) (.d (.int j)) = if mulOk i j = true then ret (.d (.int (i * j))) else die := rfl
@[simp] theorem bMul_tup (xs : List D) (k : Int) : bMul (.d (.tuple xs)) (.d (.int k)) = if 1 ≤ k ∧ k ≤ 1000 ∧ 1 ≤ xs.length ∧ xs.length ≤ 1000 then ret (.d (.tuple (repD k xs))) else die := rfl
@[simp] theorem bAdd_lst (xs ys : List D) : bAdd (.d (.list xs)) (.d (.list ys)) = if xs.length + ys.length ≤ lim then ret (.d (.list (xs ++ ys))) else die := rfl
@[simp] theorem bAdd_tup (xs ys : List D) : bAdd (.d (.tuple xs)) (.d (.tuple ys)) = if xs.length + ys.length ≤ lim then ret (.d (.tuple (xs ++ ys))) else die := rfl
@[simp] theorem bIx_tup (xs : List D) (i : Int) : bIx (.d (.tuple xs)) (.d (.int i)) = bd (oget (atI xs i)) fun x => ret (.d x) := rfl
@[simp] theorem bIx_lst (xs : List D) (i : Int) : bIx (.d (.list xs)) (.d (.int i)) = bd (oget (atI xs i)) fun x => ret (.d x) := rfl
@[simp] theorem oget_some (a : α) : oget (some a) = ret a := rfl
@[simp] theorem oget_none : oget (none : Option α) = die := rfl
@[simp] theorem snap_d (x : D) : snap (.d x) = ret x := rfl
@[simp] theorem seqOf_tup (ds : List D) : seqOf (.d (.tuple ds)) = ret ds := rfl
@[simp] theorem seqOf_lst (ds : List D) : seqOf (.d (.list ds)) = ret ds := rfl
theorem eqD_eq {x y : D} (h : PySem.SeqAt.shaped x = true) (h' : PySem.SeqAt.shaped y = true) : eqD x y = ret (PyData.eqv x y) := by
  unfold eqD
  rw [if_pos ⟨h, h'⟩]
@[simp] theorem shaped_int (i : Int) : PySem.SeqAt.shaped (.int i) = true := rfl
@[simp] theorem shaped_bool (i : Bool) : PySem.SeqAt.shaped (.bool i) = true := rfl
@[simp] theorem shaped_none : PySem.SeqAt.shaped .none = true := rfl
@[simp] theorem bEq_d (x y : D) : bEq (.d x) (.d y) = bd (eqD x y) fun r => ret (.d (.bool r)) := rfl
@[simp] theorem bNe_d (x y : D) : bNe (.d x) (.d y) = bd (eqD x y) fun r => ret (.d (.bool (!r))) := rfl
@[simp] theorem eqD_int (i j : Int) : eqD (.int i) (.int j) = ret (i == j) := by
  rw [eqD_eq rfl rfl]
  rfl
@[simp] theorem eqD_bool (i j : Bool) : eqD (.bool i) (.bool j) = ret (i == j) := by
  rw [eqD_eq rfl rfl]
  rfl
@[simp] theorem iSeq_eq (e : E) : iSeq e loc = bd (e loc) fun v => bd (seqOf v) fun ds => ret (ds.map .d) := rfl
@[simp] theorem iCall_eq (k : List Val → M (List Val)) (as : A) : iCall k as loc = bd (as loc) k := rfl
@[simp] theorem kZip2_eq (v w : Val) : kZip2 [v, w] = bd (seqOf v) fun xs => bd (seqOf w) fun ys => ret (zip2 xs ys) := rfl
@[simp] theorem kZip3_eq (v w u : Val) : kZip3 [v, w, u] = bd (seqOf v) fun xs => bd (seqOf w) fun ys => bd (seqOf u) fun zs => ret (zip3 xs ys zs) := rfl
@[simp] theorem kEnumL_eq (ds : List D) : kEnumL [.d (.list ds)] = ret (enumF 0 ds) := rfl
@[simp] theorem kEnumS_lst (ds : List D) : kEnumS [.d (.list ds)] = ret (enumF 0 ds) := rfl
@[simp] theorem kEnumS_tup (ds : List D) : kEnumS [.d (.tuple ds)] = ret (enumF 0 ds) := rfl
@[simp] theorem bIsB_eq (b c : Bool) : bIsB b (.d (.bool c)) = ret (.d (.bool (c == b))) := rfl
@[simp] theorem bNotB_eq (b c : Bool) : bNotB b (.d (.bool c)) = ret (.d (.bool (!(c == b)))) := rfl
@[simp] theorem kRg1_eq (n : Int) : kRg1 [.d (.int n)] = if -1000000 ≤ n ∧ n ≤ 1000000 then ret (rng 0 n.toNat) else die := rfl
@[simp] theorem eSl_eq (e : E) (lo hi : Oe) : eSl e lo hi loc = bd (e loc) fun v => bd (lo loc) fun l => bd (hi loc) fun h => bSl v l h := rfl
@[simp] theorem oN_eq : oN loc = ret none := rfl
@[simp] theorem oS_eq (e : E) : oS e loc = bd (e loc) fun v => bd (asI v) fun i => ret (some i) := rfl
@[simp] theorem bSl_tup (xs : List D) (lo hi : Option Int) : bSl (.d (.tuple xs)) lo hi = ret (.d (.tuple (cutD xs lo hi))) := rfl
@[simp] theorem bSl_lst (xs : List D) (lo hi : Option Int) : bSl (.d (.list xs)) lo hi = ret (.d (.list (cutD xs lo hi))) := rfl
@[simp] theorem bIsi_none (T : String) : bIsi T (.d .none) = ret (.d (.bool false)) := rfl
@[simp] theorem bIsi_bool (T : String) (b : Bool) : bIsi T (.d (.bool b)) = ret (.d (.bool (T == "int" || T == "bool"))) := rfl
@[simp] theorem bIsi_int (T : String) (b : Int) : bIsi T (.d (.int b)) = ret (.d (.bool (T == "int"))) := rfl
@[simp] theorem bIsi_str (T : String) (b : Str) : bIsi T (.d (.str b)) = ret (.d (.bool (T == "str"))) := rfl
@[simp] theorem bIsi_list (T : String) (b : List D) : bIsi T (.d (.list b)) = ret (.d (.bool (T == "list"))) := rfl
@[simp] theorem bIsi_tuple (T : String) (b : List D) : bIsi T (.d (.tuple b)) = ret (.d (.bool (T == "tuple"))) := rfl
@[simp] theorem bTup_eq1 (a : D) : bTup [.d a] = ret (.d (.tuple [a])) := rfl
@[simp] theorem bTup_eq2 (a b : D) : bTup [.d a, .d b] = ret (.d (.tuple [a, b])) := rfl
@[simp] theorem bTup_eq0 : bTup [] = ret (.d (.tuple [])) := rfl
@[simp] theorem bLst_eq0 : bLst [] = ret (.d (.list [])) := rfl
@[simp] theorem bLst_eq1 (a : D) : bLst [.d a] = ret (.d (.list [a])) := rfl
@[simp] theorem bLst_eq5 (a b c d e : D) : bLst [.d a, .d b, .d c, .d d, .d e] = ret (.d (.list [a, b, c, d, e])) := rfl
end
/-! ### comprehensions -/
theorem compL_pure {α : Type} {body : Val → M (Option Val)} (enc : α → Val) (h : α → Option Val) : ∀ (L : List α), (∀ p ∈ L, body (enc p) = ret (h p)) → compL body (L.map enc) = ret (L.filterMap h)
  | [], _ => rfl
  | p :: L, hp => by
    show bd (body (enc p)) _ = _
    rw [hp p List.mem_cons_self, bd_ret, compL_pure enc h L fun q hq => hp q (List.mem_cons_of_mem _ hq), bd_ret]
    show ret (consO (h p) (L.filterMap h)) = _
    cases e : h p with
    | none => rw [List.filterMap_cons_none e]; rfl
    | some y => rw [List.filterMap_cons_some e]; rfl
theorem toDs_map {α : Type} (h : α → D) : ∀ L : List α, toDs (L.map fun p => .d (h p)) = some (L.map h)
  | [] => rfl
  | p :: L => by
    show (toDs (L.map fun p => .d (h p))).map (h p :: ·) = _
    rw [toDs_map h L]
    rfl
theorem filterMap_some {α β : Type} (h : α → β) : ∀ L : List α, L.filterMap (fun p => some (h p)) = L.map h
  | [] => rfl
  | p :: L => by
    rw [List.filterMap_cons_some (f := fun p => some (h p)) (b := h p) rfl, filterMap_some h L]
    rfl
theorem bLst_map {α : Type} (h : α → D) (L : List α) (hl : L.length ≤ lim) : bLst (L.map fun p => .d (h p)) = ret (.d (.list (L.map h))) := by
  unfold bLst
  rw [toDs_map]
  dsimp only
  rw [if_pos (by rw [List.length_map]; exact hl)]
/-- every item gives one -/
theorem eLc_map {α : Type} {it : I} {g : G} {t : Tst} {e : E} {vs : List Nat} {loc : Loc} (L : List α) (enc : α → Val) (h : α → D) (hi : it loc = ret (L.map enc)) (hl : L.length ≤ lim)
    (hb : ∀ p ∈ L, cBody g t e (wip loc vs) (enc p) = ret (some (.d (h p)))) : eLc it g t e vs loc = ret (.d (.list (L.map h))) := by
  unfold eLc
  rw [hi, bd_ret, if_pos (by rw [List.length_map]; exact hl), compL_pure enc (fun p => some (.d (h p))) L hb, noex_ret, bd_ret, filterMap_some, bLst_map h L hl]
theorem filterMap_if {α β : Type} (p : α → Bool) (h : α → β) : ∀ L : List α, L.filterMap (fun x => if p x = true then some (h x) else none) = (L.filter p).map h
  | [] => rfl
  | x :: L => by
    by_cases e : p x = true
    · rw [List.filterMap_cons_some (by rw [if_pos e]), List.filter_cons_of_pos e, filterMap_if p h L]; rfl
    · rw [List.filterMap_cons_none (by rw [if_neg e]), List.filter_cons_of_neg e, filterMap_if p h L]
/-- some items give one -/
theorem eLc_filter {α : Type} {it : I} {g : G} {t : Tst} {e : E} {vs : List Nat} {loc : Loc} (L : List α) (enc : α → Val) (p : α → Bool) (h : α → D) (hi : it loc = ret (L.map enc)) (hl : L.length ≤ lim)
    (hb : ∀ x ∈ L, cBody g t e (wip loc vs) (enc x) = ret (if p x = true then some (.d (h x)) else none)) : eLc it g t e vs loc = ret (.d (.list ((L.filter p).map h))) := by
  have := List.length_filter_le p L
  unfold eLc
  rw [hi, bd_ret, if_pos (by rw [List.length_map]; exact hl), compL_pure enc (fun x => if p x = true then some (.d (h x)) else none) L hb, noex_ret, bd_ret, filterMap_if p (fun x => Val.d (h x)), bLst_map h (L.filter p) (by omega)]
/-! ### bools and ints within data -/
theorem toBs_map {α : Type} (h : α → Bool) : ∀ L : List α, toBs (L.map fun p => .bool (h p)) = some (L.map h)
  | [] => rfl
  | p :: L => by
    show (toBs (L.map fun p => .bool (h p))).map (h p :: ·) = _
    rw [toBs_map h L]
    rfl
theorem toIs_map {α : Type} (h : α → Int) : ∀ L : List α, toIs (L.map fun p => .int (h p)) = some (L.map h)
  | [] => rfl
  | p :: L => by
    show (toIs (L.map fun p => .int (h p))).map (h p :: ·) = _
    rw [toIs_map h L]
    rfl
theorem bAll_map {α : Type} (h : α → Bool) (L : List α) : bAll [.d (.list (L.map fun p => .bool (h p)))] = ret (.d (.bool (L.all h))) := by
  show bd (oget (toBs (L.map fun p => .bool (h p)))) (fun bs => ret (vB (bs.all id))) = _
  rw [toBs_map]
  show ret (vB ((L.map h).all id)) = _
  rw [List.all_map]
  rfl
theorem bAny_map {α : Type} (h : α → Bool) (L : List α) : bAny [.d (.list (L.map fun p => .bool (h p)))] = ret (.d (.bool (L.any h))) := by
  show bd (oget (toBs (L.map fun p => .bool (h p)))) (fun bs => ret (vB (bs.any id))) = _
  rw [toBs_map]
  show ret (vB ((L.map h).any id)) = _
  rw [List.any_map]
  rfl
/-! ### tuples of ints, moves -/
def tI (a : List Int) : D := .tuple (intsD a)
abbrev Mv := List Int × List Int
def eMv (m : Mv) : D := .tuple [tI m.1, tI m.2]
def eMs (ms : List Mv) : D := .tuple (ms.map eMv)
theorem zip2_ints : ∀ a b : List Int, zip2 (intsD a) (intsD b) = (a.zip b).map fun p => Val.d (.tuple [.int p.1, .int p.2])
  | [], b => by simp [intsD, zip2]
  | _ :: _, [] => by simp [intsD, zip2]
  | x :: a, y :: b => by
    show Val.d (.tuple [.int x, .int y]) :: zip2 (intsD a) (intsD b) = _
    rw [zip2_ints a b]
    rfl
theorem zip3_ints : ∀ a b c : List Int, zip3 (intsD a) (intsD b) (intsD c) = (a.zip (b.zip c)).map fun p => Val.d (.tuple [.int p.1, .int p.2.1, .int p.2.2])
  | [], b, c => by simp [intsD, zip3]
  | _ :: _, [], c => by simp [intsD, zip3]
  | _ :: _, _ :: _, [] => by simp [intsD, zip3]
  | x :: a, y :: b, z :: c => by
    show Val.d (.tuple [.int x, .int y, .int z]) :: zip3 (intsD a) (intsD b) (intsD c) = _
    rw [zip3_ints a b c]
    rfl
@[simp] theorem intsD_len (a : List Int) : (intsD a).length = a.length := by unfold intsD; rw [List.length_map]
/-! ### loops whose body leaves the store and goes on -/
theorem forL_fold {α σ : Type} {body : Val → S} (enc : α → Val) (env : σ → Loc) (f : σ → α → σ) : ∀ (L : List α) (s : σ), (∀ p ∈ L, ∀ s, body (enc p) (env s) = ret (.nx, env (f s p))) → forL body (L.map enc) (env s) = ret (.nx, env (L.foldl f s))
  | [], s, _ => rfl
  | p :: L, s, h => by
    show bd (body (enc p) (env s)) _ = _
    rw [h p List.mem_cons_self s]
    exact forL_fold enc env f L (f s p) fun q hq s => h q (List.mem_cons_of_mem _ hq) s
end Y
end
section
set_option Elab.async false
set_option linter.all false
set_option maxRecDepth 10000
set_option exponentiation.threshold 5000
namespace Y
open PySem (PyData Str)
/-! ### data without dicts, of sizes that stay small -/
mutual
def cl : D → Bool
  | .dict _ => false
  | .tuple ds => clA ds && decide (ds.length ≤ lim)
  | .list ds => clA ds && decide (ds.length ≤ lim)
  | _ => true
def clA : List D → Bool
  | [] => true
  | x :: xs => cl x && clA xs
end
theorem clA_iff : ∀ ds : List D, clA ds = true ↔ ∀ x ∈ ds, cl x = true
  | [] => by simp [clA]
  | x :: xs => by simp [clA, clA_iff xs]
theorem cl_tup {ds : List D} (h : cl (.tuple ds) = true) : (∀ x ∈ ds, cl x = true) ∧ ds.length ≤ lim := by
  simp [cl, clA_iff] at h
  exact h
theorem cl_ints (a : List Int) (h : a.length ≤ lim) : cl (tI a) = true := by
  simp [tI, cl, clA_iff, h, intsD]
/-! ### wholes -/
def whB (lo hi : Int) : D → Bool
  | .int i => decide (lo ≤ i) && decide (i ≤ hi)
  | _ => false
theorem r_is_whole {x : D} (h : cl x = true) (lo hi : Int) : f_is_whole [.d x, .d (.int lo), .d (.int hi)] = ret (.d (.bool (whB lo hi x))) := by
  cases x with
  | dict _ => simp [cl] at h
  | int i =>
    by_cases h1 : lo ≤ i <;> simp [f_is_whole, b_is_whole, runF_eq, whB, h1]
  | _ => simp [f_is_whole, b_is_whole, runF_eq, whB]
def awB (n : Nat) (hi : Int) : D → Bool
  | .tuple ds => decide (ds.length = n) && ds.all (whB 0 hi)
  | _ => false
theorem r_are_whole {x : D} (h : cl x = true) (n : Nat) (hi : Int) : f_are_whole [.d x, .d (.int n), .d (.int hi)] = ret (.d (.bool (awB n hi x))) := by
  cases x with
  | dict _ => simp [cl] at h
  | tuple ds =>
    obtain ⟨h1, h2⟩ := cl_tup h
    have e : are_whole_C1 [some (Val.d (PyData.tuple ds)), some (Val.d (PyData.int n)), some (Val.d (PyData.int hi)), none] = ret (.d (.list (ds.map fun x => .bool (whB 0 hi x)))) :=
      eLc_map ds .d _ (by simp) h2 fun p hp => by
        simp [r_is_whole (h1 p hp)]
    by_cases hn : ds.length = n
    · simp [f_are_whole, b_are_whole, runF_eq, awB, hn, e, bAll_map]
    · have : ¬ ((ds.length : Int) = (n : Int)) := by omega
      simp [f_are_whole, b_are_whole, runF_eq, awB, hn, this]
  | _ => simp [f_are_whole, b_are_whole, runF_eq, awB]
def mvB (h : Nat) : D → Bool
  | .tuple ds => decide (ds.length = 2) && ds.all (awB h 9)
  | _ => false
theorem r_is_move {x : D} (h : cl x = true) (n : Nat) : f_is_move [.d x, .d (.int n)] = ret (.d (.bool (mvB n x))) := by
  cases x with
  | dict _ => simp [cl] at h
  | tuple ds =>
    obtain ⟨h1, h2⟩ := cl_tup h
    have e : is_move_C1 [some (Val.d (PyData.tuple ds)), some (Val.d (PyData.int n)), none] = ret (.d (.list (ds.map fun x => .bool (awB n 9 x)))) :=
      eLc_map ds .d _ (by simp) h2 fun p hp => by
        simp [r_are_whole (h1 p hp)]
    by_cases hn : ds.length = 2
    · simp [f_is_move, b_is_move, runF_eq, mvB, hn, e, bAll_map]
    · have : ¬ ((ds.length : Int) = 2) := by omega
      simp [f_is_move, b_is_move, runF_eq, mvB, hn, this]
  | _ => simp [f_is_move, b_is_move, runF_eq, mvB]
def hiB : D → Nat
  | .tuple [.tuple xs, _] => xs.length
  | _ => 0
theorem atI_zero {α : Type} (x : α) (r : List α) : atI (x :: r) 0 = some x := by
  unfold atI ixN
  rw [if_pos (by decide), if_pos (by simp)]
  rfl
theorem atI_one {α : Type} (x y : α) (r : List α) : atI (x :: y :: r) 1 = some y := by
  unfold atI ixN
  rw [if_pos (by decide), if_pos (by simp; omega)]
  rfl
theorem r_heaps_in {x : D} (h : cl x = true) : f_heaps_in [.d x] = ret (.d (.int (hiB x))) := by
  cases x with
  | dict _ => simp [cl] at h
  | tuple ds =>
    obtain ⟨h1, h2⟩ := cl_tup h
    match ds with
    | [] => simp [f_heaps_in, b_heaps_in, runF_eq, hiB]
    | [a] => simp [f_heaps_in, b_heaps_in, runF_eq, hiB]
    | [a, b] =>
      have ha : cl a = true := h1 a (by simp)
      cases a with
      | dict _ => simp [cl] at ha
      | _ => simp [f_heaps_in, b_heaps_in, runF_eq, hiB, atI_zero]
    | a :: b :: c :: r =>
      have : ¬ ((r.length : Int) + 1 + 1 + 1 = 2) := by omega
      simp [f_heaps_in, b_heaps_in, runF_eq, hiB, this]
  | _ => simp [f_heaps_in, b_heaps_in, runF_eq, hiB]
def msB : D → Bool
  | .tuple [] => false
  | .tuple (x :: r) => decide (r.length ≤ 5) && (decide (1 ≤ hiB x) && decide (hiB x ≤ 4) && (x :: r).all (mvB (hiB x)))
  | _ => false
theorem r_is_moves {x : D} (h : cl x = true) : f_is_moves [.d x] = ret (.d (.bool (msB x))) := by
  cases x with
  | dict _ => simp [cl] at h
  | tuple ds =>
    obtain ⟨h1, h2⟩ := cl_tup h
    cases ds with
    | nil => simp [f_is_moves, b_is_moves, runF_eq, msB]
    | cons a r =>
      by_cases hr : r.length ≤ 5
      · have c1 : (1 : Int) ≤ (r.length : Int) + 1 := by omega
        have c2 : (r.length : Int) + 1 ≤ 6 := by omega
        have e : is_moves_C1 [some (Val.d (PyData.tuple (a :: r))), some (Val.d (PyData.int (hiB a))), none] = ret (.d (.list ((a :: r).map fun x => .bool (mvB (hiB a) x)))) :=
          eLc_map (a :: r) .d _ (by simp) h2 fun p hp => by
            simp [r_is_move (h1 p hp)]
        have ha := r_heaps_in (h1 a (by simp))
        by_cases g1 : (1 : Int) ≤ (hiB a : Int)
        · by_cases g2 : (hiB a : Int) ≤ 4
          · have g1' : 1 ≤ hiB a := by omega
            have g2' : hiB a ≤ 4 := by omega
            have ea := bAll_map (mvB (hiB a)) (a :: r)
            simp only [List.map_cons] at e ea
            simp [f_is_moves, b_is_moves, runF_eq, msB, hr, c1, c2, atI_zero, ha, e, ea, g1, g2, g1', g2']
          · have g2' : ¬ hiB a ≤ 4 := by omega
            simp [f_is_moves, b_is_moves, runF_eq, msB, hr, c1, c2, atI_zero, ha, g1, g2, g2']
        · have g1' : ¬ 1 ≤ hiB a := by omega
          simp [f_is_moves, b_is_moves, runF_eq, msB, hr, c1, c2, atI_zero, ha, g1, g1']
      · have c1 : (1 : Int) ≤ (r.length : Int) + 1 := by omega
        have c2 : ¬ ((r.length : Int) + 1 ≤ 6) := by omega
        simp [f_is_moves, b_is_moves, runF_eq, msB, hr, c1, c2]
  | _ => simp [f_is_moves, b_is_moves, runF_eq, msB]
theorem r_need_moves {x : D} (h : cl x = true) : f_need_moves [.d x] = if msB x = true then ret (.d .none) else thr 1 := by
  by_cases hm : msB x = true <;> simp [f_need_moves, b_need_moves, runF_eq, r_is_moves h, hm]
/-! ### moves as they are -/
structure WF (ms : List Mv) (h : Nat) : Prop where
  n1 : 1 ≤ ms.length
  n6 : ms.length ≤ 6
  h1 : 1 ≤ h
  h4 : h ≤ 4
  l1 : ∀ m ∈ ms, m.1.length = h
  l2 : ∀ m ∈ ms, m.2.length = h
  b1 : ∀ m ∈ ms, ∀ x ∈ m.1, 0 ≤ x ∧ x ≤ 9
  b2 : ∀ m ∈ ms, ∀ x ∈ m.2, 0 ≤ x ∧ x ≤ 9
theorem lim_eq : lim = 100000 := rfl
theorem cl_mv {m : Mv} (h1 : m.1.length ≤ lim) (h2 : m.2.length ≤ lim) : cl (eMv m) = true := by
  simp [eMv, cl, clA, lim]
  exact ⟨cl_ints _ h1, cl_ints _ h2⟩
theorem WF.cl {ms : List Mv} {h : Nat} (w : WF ms h) : cl (eMs ms) = true := by
  have := w.n6
  have := w.h4
  simp only [eMs, Y.cl, Bool.and_eq_true, clA_iff, decide_eq_true_eq, List.length_map]
  refine ⟨fun x hx => ?_, by rw [lim_eq]; omega⟩
  obtain ⟨m, hm, rfl⟩ := List.mem_map.mp hx
  exact cl_mv (by rw [w.l1 m hm, lim_eq]; omega) (by rw [w.l2 m hm, lim_eq]; omega)
theorem aw_ints {a : List Int} {h : Nat} {hi : Int} : awB h hi (tI a) = (decide (a.length = h) && a.all fun x => decide (0 ≤ x) && decide (x ≤ hi)) := by
  simp [awB, tI, intsD, List.all_map]
  rfl
theorem mv_eMv {m : Mv} {h : Nat} (h1 : m.1.length = h) (h2 : m.2.length = h) (b1 : ∀ x ∈ m.1, 0 ≤ x ∧ x ≤ 9) (b2 : ∀ x ∈ m.2, 0 ≤ x ∧ x ≤ 9) : mvB h (eMv m) = true := by
  simp only [mvB, eMv, List.length_cons, List.length_nil, List.all_cons, List.all_nil, aw_ints, h1, h2]
  simp
  exact ⟨b1, b2⟩
theorem hi_eMv (m : Mv) : hiB (eMv m) = m.1.length := by
  show (intsD m.1).length = _
  simp
theorem WF.ms {ms : List Mv} {h : Nat} (w : WF ms h) : msB (eMs ms) = true := by
  cases ms with
  | nil => have := w.n1; simp at this
  | cons m r =>
    have hh : hiB (eMv m) = h := by rw [hi_eMv, w.l1 m (by simp)]
    have e : eMs (m :: r) = .tuple (eMv m :: r.map eMv) := rfl
    rw [e]
    have n6 := w.n6
    simp only [List.length_cons] at n6
    simp only [msB, hh, Bool.and_eq_true, decide_eq_true_eq, List.length_map, List.all_eq_true]
    refine ⟨by omega, ⟨w.h1, w.h4⟩, fun x hx => ?_⟩
    have : x ∈ (m :: r).map eMv := by simpa using hx
    obtain ⟨y, hy, rfl⟩ := List.mem_map.mp this
    exact mv_eMv (w.l1 y hy) (w.l2 y hy) (w.b1 y hy) (w.b2 y hy)
theorem WF.need {ms : List Mv} {h : Nat} (w : WF ms h) : f_need_moves [.d (eMs ms)] = ret (.d .none) := by
  rw [r_need_moves w.cl, if_pos w.ms]
theorem atI_nat {α : Type} {xs : List α} {i : Int} {j : Nat} {x : α} (hi : i = (j : Int)) (h : xs[j]? = some x) : atI xs i = some x := by
  have hj : j < xs.length := (List.getElem?_eq_some_iff.mp h).1
  unfold atI ixN
  rw [if_pos (by omega), if_pos (by omega), hi]
  simpa using h

theorem WF.heaps {ms : List Mv} {h : Nat} (w : WF ms h) : f_heaps_of [.d (eMs ms)] = ret (.d (.int h)) := by
  cases ms with
  | nil => have := w.n1; simp at this
  | cons m r =>
    have hh := w.l1 m (by simp)
    simp [f_heaps_of, b_heaps_of, runF_eq, eMs, atI_zero, eMv, tI, hh]

def chg (m : Mv) : List Int := (m.1.zip m.2).map fun p => p.2 - p.1
theorem intsD_map {α : Type} (f : α → Int) (L : List α) : intsD (L.map f) = L.map fun p => .int (f p) := by
  simp [intsD]
theorem r_change (m : Mv) (h : m.1.length ≤ lim) : f_change [.d (eMv m)] = ret (.d (tI (chg m))) := by
  have e : change_C1 [some (Val.d (eMv m)), none, none] = ret (.d (.list (intsD (chg m)))) := by
    rw [chg, intsD_map]
    refine eLc_map (m.1.zip m.2) (fun p => Val.d (.tuple [.int p.1, .int p.2])) _ ?_ (by rw [List.length_zip]; omega) fun p hp => ?_
    · simp [eMv, atI_zero, atI_one, tI, zip2_ints]
    · simp
  simp [f_change, b_change, runF_eq, e]
  rfl

def ovB (a b : List Int) : Bool := (a.zip b).all fun p => decide (p.2 ≤ p.1)

def addL (a b : List Int) : List Int := (a.zip b).map fun p => p.1 + p.2

def mxL (f n g : List Int) : List Int := (f.zip (n.zip g)).map fun p => if p.2.1 - p.2.2 > p.1 then p.2.1 - p.2.2 else p.1
theorem mxL_len {f n g : List Int} (h1 : f.length = n.length) (h2 : n.length = g.length) : (mxL f n g).length = f.length := by
  unfold mxL
  rw [List.length_map, List.length_zip, List.length_zip]
  omega

theorem addL_len {a b : List Int} (h : a.length = b.length) : (addL a b).length = a.length := by
  unfold addL
  rw [List.length_map, List.length_zip]
  omega
theorem chg_len {m : Mv} (h : m.1.length = m.2.length) : (chg m).length = m.1.length := by
  unfold chg
  rw [List.length_map, List.length_zip]
  omega

theorem WF.at {ms : List Mv} {h : Nat} (w : WF ms h) {i : Nat} (hi : i < ms.length) : ∃ m, ms[i]? = some m ∧ m.1.length = h ∧ m.2.length = h ∧ (∀ x ∈ m.1, 0 ≤ x ∧ x ≤ 9) ∧ ∀ x ∈ m.2, 0 ≤ x ∧ x ≤ 9 :=
  have hm := List.getElem_mem hi
  ⟨ms[i], List.getElem?_eq_getElem hi, w.l1 _ hm, w.l2 _ hm, w.b1 _ hm, w.b2 _ hm⟩
theorem ix_ms {ms : List Mv} {i : Nat} {m : Mv} (h : ms[i]? = some m) : bIx (.d (eMs ms)) (.d (.int (i : Int))) = ret (.d (eMv m)) := by
  have e : atI (ms.map eMv) (i : Int) = some (eMv m) := atI_nat rfl (by rw [List.getElem?_map, h]; rfl)
  show bd (oget (atI (ms.map eMv) (i : Int))) _ = _
  rw [e]
  rfl
theorem ix_mv0 (m : Mv) : bIx (.d (eMv m)) (.d (.int 0)) = ret (.d (tI m.1)) := by simp [eMv, atI_zero]
theorem ix_mv1 (m : Mv) : bIx (.d (eMv m)) (.d (.int 1)) = ret (.d (tI m.2)) := by simp [eMv, atI_one]

def dO (c j : Int) : Ob := .lst [.d (.int c), .d (.int j)]
/-- the k-th object is a dice -/
def DS (k : Nat) (st : Store) : Prop := ∃ c j, st[k]? = some (dO c j)
/-- of what stood there the dice alone changed -/
def Dc (k : Nat) (st st' : Store) : Prop := st.length ≤ st'.length ∧ DS k st' ∧ ∀ i, i < st.length → i ≠ k → st'[i]? = st[i]?
theorem DS.lt {k : Nat} {st : Store} (h : DS k st) : k < st.length := by
  obtain ⟨c, j, e⟩ := h
  exact (List.getElem?_eq_some_iff.mp e).1
theorem Dc.ds {k : Nat} {st st' : Store} (h : Dc k st st') (d : DS k st) : DS k st' := h.2.1
theorem Dc.trans {k : Nat} {st st' st'' : Store} (h : Dc k st st') (h' : Dc k st' st'') : Dc k st st'' := ⟨Nat.le_trans h.1 h'.1, h'.2.1, fun i hi hk => by rw [h'.2.2 i (Nat.lt_of_lt_of_le hi h.1) hk, h.2.2 i hi hk]⟩
theorem Dc.refl {k : Nat} {st : Store} (d : DS k st) : Dc k st st := ⟨Nat.le_refl _, d, fun _ _ _ => rfl⟩
theorem Dc.set {k : Nat} {st : Store} (d : DS k st) (c j : Int) : Dc k st (st.set k (dO c j)) := ⟨by rw [List.length_set]; exact Nat.le_refl _, ⟨c, j, List.getElem?_set_self d.lt⟩, fun i _ hk => List.getElem?_set_ne (Ne.symm hk)⟩
theorem Dc.app {k : Nat} {st : Store} (d : DS k st) (xs : List Ob) : Dc k st (st ++ xs) := ⟨by simp, by
  obtain ⟨c, j, e⟩ := d
  exact ⟨c, j, by rw [List.getElem?_append_left (List.getElem?_eq_some_iff.mp e).1]; exact e⟩, fun i hi _ => List.getElem?_append_left hi⟩
theorem Dc.other {k i : Nat} {st st' : Store} (h : Dc k st st') (hi : k ≠ i) (hl : i < st.length) : st'[i]? = st[i]? := h.2.2 i hl (Ne.symm hi)
/-! ### one draw -/
theorem bIx_o {k : Nat} {i : Int} {st : Store} {xs : List Val} {v : Val} (h : st[k]? = some (.lst xs)) (e : atI xs i = some v) : bIx (.o k) (.d (.int i)) st = .ok v st := by
  show (match st[k]? with | some (.lst xs) => (bd (oget (atI xs i)) ret) st | _ => .bad) = _
  rw [h]
  dsimp only
  rw [e]
  rfl
theorem pow18 : bPow (.d (.int 10)) (.d (.int 18)) = ret (.d (.int 1000000000000000000)) := by
  show (if (0 : Int) ≤ 18 ∧ (18 : Int) ≤ 1000000 ∧ (10 : Int).natAbs < 2 ^ 64 then ret (vI (10 ^ (18 : Int).toNat)) else die) = _
  rw [if_pos (by decide)]
  rfl
theorem mulOk_r {i j : Int} (h : j.natAbs < 2 ^ 64) : mulOk i j = true := by
  unfold mulOk
  rw [decide_eq_true h]
  simp
theorem mulOk_b {i j : Int} (h : i.natAbs < 2 ^ 400) (h' : j.natAbs < 2 ^ 400) : mulOk i j = true := by
  unfold mulOk
  have a : i.natAbs.log2 ≤ 400 := by
    by_cases e : i.natAbs = 0
    · rw [e]; decide
    · have := (Nat.log2_lt e).mpr h
      omega
  have b : j.natAbs.log2 ≤ 400 := by
    by_cases e : j.natAbs = 0
    · rw [e]; decide
    · have := (Nat.log2_lt e).mpr h'
      omega
  rw [decide_eq_true (show i.natAbs.log2 + j.natAbs.log2 < 1000000 by omega)]
  simp
theorem drawn_ex (c j : Int) : ∃ x : Int, f_law_drawn [.d (.int c), .d (.int j)] = ret (.d (.int x)) ∧ 0 ≤ x := by
  have m1 : mulOk c 6364136223846793005 = true := mulOk_r (by decide)
  have m2 : mulOk (j + 1) 1442695040888963407 = true := mulOk_r (by decide)
  generalize hp : (340282366920938463463374607431768211507 : Int) = P
  generalize hq : (340282366920938463463374607431768211297 : Int) = Q
  generalize hr : (18446744073709551557 : Int) = Rr
  have p0 : 0 < P := by omega
  have q0 : 0 < Q := by omega
  have r0 : 0 < Rr := by omega
  have dv : Rr.natAbs.log2 < 9000 := by rw [← hr]; decide
  generalize hx : (c * 6364136223846793005 + (j + 1) * 1442695040888963407) % P = x
  have x0 : 0 ≤ x := by rw [← hx]; exact Int.emod_nonneg _ (by omega)
  have x1 : x < P := by rw [← hx]; exact Int.emod_lt_of_pos _ p0
  have bP : P < 2 ^ 129 := by rw [← hp]; decide
  have bQ : Q < 2 ^ 129 := by rw [← hq]; decide
  have bR : Rr < 2 ^ 129 := by rw [← hr]; decide
  have big : (2 : Int) ^ 129 ≤ 2 ^ 400 := by decide
  have m3 : mulOk x x = true := mulOk_b (by omega) (by omega)
  generalize hy : (x * x) % Q = y
  have y0 : 0 ≤ y := by rw [← hy]; exact Int.emod_nonneg _ (by omega)
  have y1 : y < Q := by rw [← hy]; exact Int.emod_lt_of_pos _ q0
  generalize ha : y % Rr + 1 = a
  generalize hb : y / Rr + 1 = b
  have a0 : 0 ≤ a ∧ a ≤ Rr := by
    have := Int.emod_nonneg y (show Rr ≠ 0 by omega)
    have := Int.emod_lt_of_pos y r0
    omega
  have b0 : 0 ≤ b ∧ b ≤ y + 1 := by
    have h1 := Int.ediv_nonneg y0 (show 0 ≤ Rr by omega)
    have h2 := Int.ediv_le_self Rr y0
    omega
  have m4 : mulOk a b = true := mulOk_b (by omega) (by omega)
  have ab : a * b ≤ 2 ^ 130 * 2 ^ 130 := by
    refine Int.le_trans (Int.mul_le_mul_of_nonneg_left (show b ≤ 2 ^ 130 by omega) a0.1) (Int.mul_le_mul_of_nonneg_right (show a ≤ 2 ^ 130 by omega) (by decide))
  have ab0 : 0 ≤ a * b := Int.mul_nonneg a0.1 b0.1
  have big2 : (2 : Int) ^ 130 * 2 ^ 130 < 2 ^ 400 := by decide
  have m5 : mulOk (a * b) y = true := mulOk_b (by omega) (by omega)
  refine ⟨(a * b * y) % P, ?_, Int.emod_nonneg _ (by omega)⟩
  simp [f_law_drawn, b_law_drawn, runF_eq, hp, hq, hr, m1, m2, p0, hx, m3, q0, hy, r0, dv, ha, hb, m4, m5]
theorem gSub_o {k : Nat} {i : Int} {j : Nat} {st : Store} {xs : List Val} {v : Val} {loc : Loc} {o e : E} (ho : o loc = ret (.o k)) (he : e loc = ret (.d (.int i))) (h : st[k]? = some (.lst xs)) (hj : ixN xs.length i = some j) : gSub o e v loc st = .ok loc (st.set k (.lst (xs.set j v))) := by
  show (bd (o loc) fun x => bd (e loc) fun y => match x, y with
    | .o k, .d (.int j) => fun st => match st[k]? with
      | some (.lst xs) => (match ixN xs.length j with
        | some m => .ok loc (st.set k (.lst (xs.set m v)))
        | none => .bad)
      | _ => .bad
    | _, _ => die) st = _
  rw [ho, he, bd_ret, bd_ret]
  dsimp only
  rw [h]
  dsimp only
  rw [hj]
theorem roll_ex {k : Nat} {st : Store} (d : DS k st) {many : Int} (h0 : 0 < many) (h1 : many ≤ 1000000) : ∃ r st', f_law_roll [.o k, .d (.int many)] st = .ok (.d (.int r)) st' ∧ 0 ≤ r ∧ r < many ∧ Dc k st st' := by
  obtain ⟨c, j, e⟩ := d
  have hk : k < st.length := (List.getElem?_eq_some_iff.mp e).1
  have lg : many.natAbs.log2 < 9000 := by
    by_cases z : many.natAbs = 0
    · rw [z]; decide
    · have : many.natAbs < 2 ^ 21 := by omega
      have := (Nat.log2_lt z).mpr this
      omega
  have i0 : ∀ {st : Store} {c j : Int}, st[k]? = some (dO c j) → bIx (.o k) (.d (.int 0)) st = .ok (.d (.int c)) st := fun h => bIx_o h (atI_zero _ _)
  have i1 : ∀ {st : Store} {c j : Int}, st[k]? = some (dO c j) → bIx (.o k) (.d (.int 1)) st = .ok (.d (.int j)) st := fun h => bIx_o h (atI_one _ _ _)
  by_cases hc : (1000000000000000000 : Int) ≤ c
  · refine ⟨c % many, st.set k (dO (c / many) j), ?_, Int.emod_nonneg _ (by omega), Int.emod_lt_of_pos _ h0, Dc.set ⟨c, j, e⟩ _ _⟩
    simp only [f_law_roll, b_law_roll, runF_eq]
    simp [pow18, h0, lg]
    rw [bd_eq (i0 e)]
    simp [hc]
    rw [bd_eq (i0 e)]
    simp [h0]
    rw [bd_eq (i0 e)]
    simp [h0, lg]
    rw [bd_eq (gSub_o (k := k) (i := 0) (j := 0) (xs := [.d (.int c), .d (.int j)]) (by simp) (by simp) e rfl)]
    rfl
  · have e' : (st.set k (dO c (j + 1)))[k]? = some (dO c (j + 1)) := List.getElem?_set_self hk
    obtain ⟨x, hx, x0⟩ := drawn_ex c (j + 1)
    refine ⟨(x / 8) % many, st.set k (dO c (j + 1)), ?_, Int.emod_nonneg _ (by omega), Int.emod_lt_of_pos _ h0, Dc.set ⟨c, j, e⟩ _ _⟩
    simp only [f_law_roll, b_law_roll, runF_eq]
    simp [pow18, h0, lg]
    rw [bd_eq (i0 e)]
    simp [hc]
    rw [bd_eq (i1 e)]
    simp
    rw [bd_eq (gSub_o (k := k) (i := 1) (j := 1) (xs := [.d (.int c), .d (.int j)]) (by simp) (by simp) e rfl)]
    simp
    show bd _ _ (List.set st k (dO c (j + 1))) = _
    rw [bd_eq (i0 e')]
    rw [bd_eq (i1 e')]
    rw [hx]
    have l8 : Nat.log2 8 < 9000 := by decide
    simp [h0, l8]
/-! ### comprehensions that draw -/
theorem compL_st {α β : Type} {k : Nat} {body : Val → M (Option Val)} (enc : α → Val) (dec : β → D) (P : β → Prop) : ∀ (L : List α) (st : Store), DS k st → (∀ p ∈ L, ∀ st, DS k st → ∃ (y : β) (st' : Store), body (enc p) st = .ok (some (.d (dec y))) st' ∧ P y ∧ Dc k st st') →
    ∃ (ys : List β) (st' : Store), compL body (L.map enc) st = .ok (ys.map fun y => .d (dec y)) st' ∧ ys.length = L.length ∧ (∀ y ∈ ys, P y) ∧ Dc k st st'
  | [], st, d, _ => ⟨[], st, rfl, rfl, (fun _ h => nomatch h), Dc.refl d⟩
  | p :: L, st, d, hp => by
    obtain ⟨y, st1, e1, p1, d1⟩ := hp p List.mem_cons_self st d
    obtain ⟨ys, st2, e2, l2, p2, d2⟩ := compL_st enc dec P L st1 (d1.ds d) fun q hq => hp q (List.mem_cons_of_mem _ hq)
    refine ⟨y :: ys, st2, ?_, by simp [l2], fun z hz => ?_, d1.trans d2⟩
    · show bd (body (enc p)) _ st = _
      rw [bd_eq e1, bd_eq e2]
      rfl
    · rcases List.mem_cons.mp hz with rfl | h
      · exact p1
      · exact p2 z h
theorem eLc_st {α β : Type} {k : Nat} {it : I} {g : G} {t : Tst} {e : E} {vs : List Nat} {loc : Loc} {st st0 : Store} (L : List α) (enc : α → Val) (dec : β → D) (P : β → Prop) (hi : it loc st = .ok (L.map enc) st0) (hl : L.length ≤ lim) (d : DS k st0)
    (hb : ∀ p ∈ L, ∀ st, DS k st → ∃ (y : β) (st' : Store), cBody g t e (wip loc vs) (enc p) st = .ok (some (.d (dec y))) st' ∧ P y ∧ Dc k st st') :
    ∃ (ys : List β) (st' : Store), eLc it g t e vs loc st = .ok (.d (.list (ys.map dec))) st' ∧ ys.length = L.length ∧ (∀ y ∈ ys, P y) ∧ Dc k st0 st' := by
  obtain ⟨ys, st', e1, l1, p1, d1⟩ := compL_st (k := k) enc dec P L st0 d hb
  refine ⟨ys, st', ?_, l1, p1, d1⟩
  unfold eLc
  rw [bd_eq hi, if_pos (by rw [List.length_map]; exact hl), bd_eq (noex_eq e1), bLst_map dec ys (by rw [l1]; exact hl)]
  rfl
theorem rng_eq (lo : Int) (n : Nat) : rng lo n = (List.range n).map fun (i : Nat) => Val.d (.int (lo + (i : Int))) := rfl
theorem kRg1_nat {z : Int} {n : Nat} (e : z = (n : Int)) (h : n ≤ 1000) : kRg1 [.d (.int z)] = ret ((List.range n).map fun (i : Nat) => Val.d (.int (0 + (i : Int)))) := by
  subst e
  rw [kRg1_eq, if_pos (by omega), Int.toNat_natCast]
  rfl
theorem five {a b c d e : Int} {r : Int} (h0 : 0 ≤ r) (h1 : r < 5) : ∃ x, atI [PyData.int a, .int b, .int c, .int d, .int e] r = some (.int x) ∧ (x = a ∨ x = b ∨ x = c ∨ x = d ∨ x = e) := by
  have : r = 0 ∨ r = 1 ∨ r = 2 ∨ r = 3 ∨ r = 4 := by omega
  rcases this with rfl | rfl | rfl | rfl | rfl
  · exact ⟨a, rfl, by simp⟩
  · exact ⟨b, rfl, by simp⟩
  · exact ⟨c, rfl, by simp⟩
  · exact ⟨d, rfl, by simp⟩
  · exact ⟨e, rfl, by simp⟩
theorem ints_map (ys : List Int) : ys.map PyData.int = intsD ys := rfl

theorem any_move_ex {k : Nat} {st : Store} (d : DS k st) {h : Nat} (hh : h ≤ 4) : ∃ m st', f_law_any_move [.o k, .d (.int h)] st = .ok (.d (eMv m)) st' ∧ m.1.length = h ∧ m.2.length = h ∧ (∀ x ∈ m.1, 0 ≤ x ∧ x ≤ 2) ∧ (∀ x ∈ m.2, 0 ≤ x ∧ x ≤ 2) ∧ Dc k st st' := by
  have hr : ∀ {st : Store} {x : Option Val}, iCall kRg1 (aC (eV 1) aN) [some (.o k), some (.d (.int h)), x, none] st = .ok ((List.range h).map fun (i : Nat) => Val.d (.int (0 + (i : Int)))) st := fun {st x} => by
    have e := kRg1_nat (z := (h : Int)) rfl (by omega)
    simp only [iCall_eq, aC_eq, eV_succ, eV_zero, aN_eq, bd_ret, e, ret_ap]
  obtain ⟨n1, st1, e1, l1, p1, d1⟩ := eLc_st (k := k) (g := gN 3) (t := tTr) (e := eO bIx (eB bLst (aC (eC (.int 0)) (aC (eC (.int 0)) (aC (eC (.int 1)) (aC (eC (.int 1)) (aC (eC (.int 2)) aN)))))) (eB (fixN 2 f_law_roll) (aC (eV 0) (aC (eC (.int 5)) aN)))) (vs := [3]) (List.range h) (fun (i : Nat) => Val.d (.int (0 + (i : Int)))) PyData.int (fun x => 0 ≤ x ∧ x ≤ 2) (hr (st := st) (x := none)) (by rw [List.length_range, lim_eq]; omega) d (fun p hp st d => by
    obtain ⟨r, st', er, r0, r1, dr⟩ := roll_ex d (many := 5) (by decide) (by decide)
    obtain ⟨x, ex, hx⟩ := five (a := 0) (b := 0) (c := 1) (d := 1) (e := 2) r0 r1
    refine ⟨x, st', ?_, by omega, dr⟩
    simp
    rw [bd_eq er]
    simp [ex])
  obtain ⟨n2, st2, e2, l2, p2, d2⟩ := eLc_st (k := k) (g := gN 3) (t := tTr) (e := eO bIx (eB bLst (aC (eC (.int 0)) (aC (eC (.int 0)) (aC (eC (.int 0)) (aC (eC (.int 1)) (aC (eC (.int 2)) aN)))))) (eB (fixN 2 f_law_roll) (aC (eV 0) (aC (eC (.int 5)) aN)))) (vs := [3]) (List.range h) (fun (i : Nat) => Val.d (.int (0 + (i : Int)))) PyData.int (fun x => 0 ≤ x ∧ x ≤ 2) (hr (st := st1) (x := some (.d (tI n1)))) (by rw [List.length_range, lim_eq]; omega) (d1.ds d) (fun p hp st d => by
    obtain ⟨r, st', er, r0, r1, dr⟩ := roll_ex d (many := 5) (by decide) (by decide)
    obtain ⟨x, ex, hx⟩ := five (a := 0) (b := 0) (c := 0) (d := 1) (e := 2) r0 r1
    refine ⟨x, st', ?_, by omega, dr⟩
    simp
    rw [bd_eq er]
    simp [ex])
  refine ⟨(n1, n2), st2, ?_, by simpa using l1, by simpa using l2, p1, p2, d1.trans d2⟩
  simp only [f_law_any_move, b_law_any_move, runF_eq]
  simp [law_any_move_C1_eq, law_any_move_C2_eq]
  rw [bd_eq e1]
  simp
  rw [ints_map]
  rw [show PyData.tuple (intsD n1) = tI n1 from rfl, bd_eq e2]
  simp
  rfl
theorem any_move_ex' {k : Nat} {st : Store} (d : DS k st) {h : Nat} (hh : h ≤ 4) {z : Int} (hz : z = (h : Int)) : ∃ m st', f_law_any_move [.o k, .d (.int z)] st = .ok (.d (eMv m)) st' ∧ (m.1.length = h ∧ m.2.length = h ∧ (∀ x ∈ m.1, 0 ≤ x ∧ x ≤ 2) ∧ (∀ x ∈ m.2, 0 ≤ x ∧ x ≤ 2)) ∧ Dc k st st' := by
  subst hz
  obtain ⟨m, st', em, a1, a2, a3, a4, dm⟩ := any_move_ex d hh
  exact ⟨m, st', em, ⟨a1, a2, a3, a4⟩, dm⟩
theorem any_moves_ex {k : Nat} {st : Store} (d : DS k st) {high : Nat} (h0 : 1 ≤ high) (h6 : high ≤ 6) : ∃ ms h st', f_law_any_moves [.o k, .d (.int high)] st = .ok (.d (eMs ms)) st' ∧ WF ms h ∧ h ≤ 3 ∧ ms.length ≤ high ∧ (∀ m ∈ ms, (∀ x ∈ m.1, 0 ≤ x ∧ x ≤ 2) ∧ ∀ x ∈ m.2, 0 ≤ x ∧ x ≤ 2) ∧ Dc k st st' := by
  obtain ⟨r, st1, e1, r0, r1, d1⟩ := roll_ex d (many := 3) (by decide) (by decide)
  obtain ⟨q, st2, e2, q0, q1, d2⟩ := roll_ex (d1.ds d) (many := high) (by omega) (by omega)
  obtain ⟨n, rfl⟩ : ∃ n : Nat, q = (n : Int) := ⟨q.toNat, by omega⟩
  obtain ⟨h, hz⟩ : ∃ h : Nat, 1 + r = (h : Int) := ⟨(1 + r).toNat, by omega⟩
  have h4 : h ≤ 4 := by omega
  generalize hz' : 1 + r = z at hz
  have hi : iCall kRg1 (aC (eO bAdd (eC (.int 1)) (eB (fixN 2 f_law_roll) (aC (eV 0) (aC (eV 1) aN)))) aN) [some (.o k), some (.d (.int high)), some (.d (.int z)), none] st1 = .ok ((List.range (n + 1)).map fun (i : Nat) => Val.d (.int (0 + (i : Int)))) st2 := by
    have e := kRg1_nat (z := 1 + (n : Int)) (n := n + 1) (by omega) (by omega)
    simp only [iCall_eq, aC_eq, eO_eq, eC_eq, eB_eq, eV_succ, eV_zero, aN_eq, bd_ret, bd_bd, fix2]
    rw [bd_eq e2]
    simp only [bAdd_int, bd_ret, e, ret_ap]
  obtain ⟨ms, st3, e3, l3, p3, d3⟩ := eLc_st (k := k) (g := gN 3) (t := tTr) (e := eB (fixN 2 f_law_any_move) (aC (eV 0) (aC (eV 2) aN))) (vs := [3]) (List.range (n + 1)) (fun (i : Nat) => Val.d (.int (0 + (i : Int)))) eMv (fun m => m.1.length = h ∧ m.2.length = h ∧ (∀ x ∈ m.1, 0 ≤ x ∧ x ≤ 2) ∧ ∀ x ∈ m.2, 0 ≤ x ∧ x ≤ 2) hi (by rw [List.length_range, lim_eq]; omega) (d2.ds (d1.ds d)) (fun p hp st d => by
    obtain ⟨m, st', em, a1, dm⟩ := any_move_ex' d h4 hz
    refine ⟨m, st', ?_, a1, dm⟩
    simp only [cBody_eq, wip_cons, wip_nil, gN_eq, bd_ret, tTr_eq, eB_eq, aC_eq, aN_eq, eV_zero, eV_succ, List.set_cons_succ, List.set_cons_zero, if_true, bd_bd, fix2]
    rw [bd_eq em]
    rfl)
  have ln : ms.length = n + 1 := by simpa using l3
  refine ⟨ms, h, st3, ?_, ⟨by omega, by omega, by omega, by omega, fun m hm => (p3 m hm).1, fun m hm => (p3 m hm).2.1, fun m hm x hx => ?_, fun m hm x hx => ?_⟩, by omega, by omega, fun m hm => ⟨(p3 m hm).2.2.1, (p3 m hm).2.2.2⟩, d1.trans (d2.trans d3)⟩
  · simp only [f_law_any_moves, b_law_any_moves, runF_eq]
    simp
    rw [bd_eq e1]
    simp [law_any_moves_C1_eq, hz']
    rw [bd_eq e3]
    simp
    rfl
  · have := (p3 m hm).2.2.1 x hx
    omega
  · have := (p3 m hm).2.2.2 x hx
    omega

/-! ### the law's own look at two standings -/
theorem shaped_ints (a : List Int) : PySem.SeqAt.shaped (.list (intsD a)) = true := by
  have h1 : ∀ a : List Int, PyData.canLayAll0 (intsD a) = true := fun a => by
    induction a with
    | nil => rfl
    | cons x a ih => simpa [intsD, PyData.canLayAll0, PyData.canLay0] using ih
  have h2 : ∀ a : List Int, PyData.depthAll (intsD a) ≤ 1 := fun a => by
    induction a with
    | nil => simp [intsD, PyData.depthAll]
    | cons x a ih => simpa [intsD, PyData.depthAll, PyData.depth] using ih
  have := h2 a
  simp [PySem.SeqAt.shaped, PyData.canLay0, h1 a, PyData.depth]
  omega

theorem cell_ex (ns : List Int) (hl : ns.length ≤ 1000) (k : Nat) : ∃ c : Int, f_law_cell [.s ns, .d (.int (k : Int))] = ret (.d (.int c)) := by
  have e0 : bEq (.s ns) (.d (.list [])) = ret (.d (.bool ns.isEmpty)) := by
    show bd (eqD (.list (intsD ns)) (.list [])) (fun r => ret (vB r)) = _
    rw [eqD_eq (shaped_ints ns) (show PySem.SeqAt.shaped (.list []) = true from shaped_ints [])]
    cases ns <;> rfl
  cases ns with
  | nil =>
    refine ⟨(k : Int) * 7919, ?_⟩
    have m : mulOk (k : Int) 7919 = true := mulOk_r (by decide)
    simp [f_law_cell, b_law_cell, runF_eq, e0, m]
  | cons a r =>
    have hp : (0 : Int) < ((a :: r).length : Int) := by simp only [List.length_cons]; omega
    have lg : ((a :: r).length : Int).natAbs.log2 < 9000 := by
      have : ((a :: r).length : Int).natAbs ≠ 0 := by omega
      have h2 : ((a :: r).length : Int).natAbs < 2 ^ 11 := by omega
      have := (Nat.log2_lt this).mpr h2
      omega
    generalize hL : ((a :: r).length : Int) = L at hp lg
    have hm0 := Int.emod_nonneg (k : Int) (show L ≠ 0 by omega)
    have hm1 := Int.emod_lt_of_pos (k : Int) hp
    obtain ⟨j, hj⟩ : ∃ j : Nat, (k : Int) % L = (j : Int) := ⟨((k : Int) % L).toNat, by omega⟩
    have hj' : j < (a :: r).length := by omega
    have ex : bIx (.s (a :: r)) (.d (.int (j : Int))) = ret (.d (.int (a :: r)[j])) := by
      have : atI (a :: r) (j : Int) = some (a :: r)[j] := atI_nat rfl (List.getElem?_eq_getElem hj')
      show bd (oget (atI (a :: r) (j : Int))) _ = _
      rw [this]; rfl
    have el : bLen [.s (a :: r)] = ret (.d (.int L)) := by rw [← hL]; rfl
    have m : mulOk ((k : Int) / L) 104729 = true := mulOk_r (by decide)
    refine ⟨(a :: r)[j] + (k : Int) / L * 104729, ?_⟩
    simp only [f_law_cell, b_law_cell, runF_eq]
    simp [e0, el, hp, lg, hj, ex, m, -bLen_s]
theorem rounds_comp {e : E} {vs : List Nat} {loc : Loc} (hb : ∀ (i : Nat) (st : Store), ∃ c : Int, cBody (gN 2) tTr e loc (.d (.int (0 + (i : Int)))) st = .ok (some (.o st.length)) (st ++ [dO c 0])) : ∀ (L : List Nat) (st : Store), ∃ cs : List Int,
    compL (cBody (gN 2) tTr e loc) (L.map fun (i : Nat) => Val.d (.int (0 + (i : Int)))) st = .ok ((List.range L.length).map fun i => Val.o (st.length + i)) (st ++ cs.map fun c => dO c 0) ∧ cs.length = L.length
  | [], st => ⟨[], by simp [compL], rfl⟩
  | p :: L, st => by
    obtain ⟨c, e1⟩ := hb p st
    obtain ⟨cs, e2, l2⟩ := rounds_comp (vs := vs) hb L (st ++ [dO c 0])
    refine ⟨c :: cs, ?_, by simp [l2]⟩
    show bd (cBody (gN 2) tTr e loc (.d (.int (0 + (p : Int))))) _ st = _
    rw [bd_eq e1, bd_eq e2]
    show R.ok (Val.o st.length :: (List.range L.length).map fun i => Val.o ((st ++ [dO c 0]).length + i)) ((st ++ [dO c 0]) ++ cs.map fun c => dO c 0) = _
    rw [List.length_cons, List.range_succ_eq_map, List.map_cons, List.map_map, List.append_assoc]
    congr 1
    simp
    intro i _
    omega
theorem rounds_ex (ns : List Int) (hl : ns.length ≤ 1000) (high : Nat) (hh : high ≤ 1000) : ∃ (n : Nat) (st : Store), f_law_rounds [.s ns, .d (.int (high : Int))] [] = .ok (.o n) st ∧ st[n]? = some (.lst ((List.range n).map .o)) ∧ ∀ i < n, DS i st := by
  obtain ⟨n, hn⟩ : ∃ n : Nat, (if (if (ns.length : Int) < (high : Int) then (ns.length : Int) else (high : Int)) > 1 then (if (ns.length : Int) < (high : Int) then (ns.length : Int) else (high : Int)) else 1) = (n : Int) := ⟨Int.toNat _, (Int.toNat_of_nonneg (by repeat' split <;> omega)).symm⟩
  have hn' : n ≤ 1000 := by
    revert hn
    repeat' split <;> omega
  have hi : iCall kRg1 (aC (eB bMax2 (aC (eC (.int 1)) (aC (eB bMin2 (aC (eV 1) (aC (eB bLen (aC (eV 0) aN)) aN))) aN))) aN) [some (.s ns), some (.d (.int high)), none] = ret ((List.range n).map fun (i : Nat) => Val.d (.int (0 + (i : Int)))) := by
    have e := kRg1_nat hn hn'
    simp only [iCall_eq, aC_eq, eB_eq, eC_eq, eV_zero, eV_succ, aN_eq, bd_ret, bd_bd, bLen_s, bMin2_eq, bMax2_eq, e]
  obtain ⟨cs, e2, l2⟩ := rounds_comp (vs := [2]) (loc := [some (.s ns), some (.d (.int high)), none]) (e := eB bNew (aC (eB (fixN 2 f_law_cell) (aC (eV 0) (aC (eV 2) aN))) (aC (eC (.int 0)) aN))) (fun i st => by
    obtain ⟨c, hc⟩ := cell_ex ns hl i
    refine ⟨c, ?_⟩
    have hz : (0 : Int) + (i : Int) = (i : Int) := by omega
    rw [hz]
    simp only [cBody_eq, gN_eq, bd_ret, tTr_eq, eB_eq, aC_eq, aN_eq, eC_eq, eV_zero, eV_succ, List.set_cons_succ, List.set_cons_zero, if_true, bd_bd, fix2, hc]
    rw [bd_eq (show bNew [.d (.int c), .d (.int 0)] st = .ok (.o st.length) (st ++ [dO c 0]) from rfl)]
    rfl) (List.range n) []
  simp only [List.length_range] at e2 l2
  refine ⟨n, (cs.map fun c => dO c 0) ++ [.lst ((List.range n).map .o)], ?_, ?_, fun i hi => ?_⟩
  · simp only [f_law_rounds, b_law_rounds, runF_eq]
    simp only [List.map_cons, List.map_nil, List.length_cons, List.length_nil, List.replicate, List.cons_append, List.nil_append, sRet_eq, law_rounds_C1_eq, bd_bd, bd_ret]
    have ew : eLcN (iCall kRg1 (aC (eB bMax2 (aC (eC (.int 1)) (aC (eB bMin2 (aC (eV 1) (aC (eB bLen (aC (eV 0) aN)) aN))) aN))) aN)) (gN 2) tTr (eB bNew (aC (eB (fixN 2 f_law_cell) (aC (eV 0) (aC (eV 2) aN))) (aC (eC (.int 0)) aN))) [2] [some (.s ns), some (.d (.int high)), none] [] = .ok (.o n) ((cs.map fun c => dO c 0) ++ [.lst ((List.range n).map .o)]) := by
      unfold eLcN
      rw [hi, bd_ret, if_pos (by rw [List.length_map, List.length_range, lim_eq]; omega)]
      have : wip [some (Val.s ns), some (.d (.int high)), none] [2] = [some (Val.s ns), some (.d (.int high)), none] := rfl
      rw [this, bd_eq (noex_eq e2)]
      unfold bNew
      rw [if_pos (by rw [List.length_map, List.length_range, lim_eq]; omega)]
      simp [l2]
    rw [bd_eq ew]
    rfl
  · rw [List.getElem?_append_right (by rw [List.length_map]; omega), List.length_map, l2]
    simp
  · have hi' : i < cs.length := by omega
    refine ⟨cs[i], 0, ?_⟩
    rw [List.getElem?_append_left (by rw [List.length_map]; omega), List.getElem?_map, List.getElem?_eq_getElem hi']
    rfl
/-! ### loops that keep something -/
theorem forL_inv {body : Val → S} (P : Loc → Store → Prop) : ∀ (xs : List Val) (loc : Loc) (st : Store), P loc st → (∀ v ∈ xs, ∀ loc st, P loc st → ∃ loc' st', body v loc st = .ok (.nx, loc') st' ∧ P loc' st') → ∃ loc' st', forL body xs loc st = .ok (.nx, loc') st' ∧ P loc' st'
  | [], loc, st, p, _ => ⟨loc, st, rfl, p⟩
  | x :: xs, loc, st, p, h => by
    obtain ⟨l1, s1, e1, p1⟩ := h x List.mem_cons_self loc st p
    obtain ⟨l2, s2, e2, p2⟩ := forL_inv P xs l1 s1 p1 fun v hv => h v (List.mem_cons_of_mem _ hv)
    refine ⟨l2, s2, ?_, p2⟩
    show bd (body x loc) _ st = _
    rw [bd_eq e1]
    exact e2
theorem forO_inv {k : Nat} {xs0 : List Val} {body : Val → S} (P : Loc → Store → Prop) (hk : ∀ loc st, P loc st → st[k]? = some (.lst xs0)) : ∀ (xs : List Val) (loc : Loc) (st : Store), P loc st → (∀ v ∈ xs, ∀ loc st, P loc st → ∃ loc' st', body v loc st = .ok (.nx, loc') st' ∧ P loc' st') → ∃ loc' st', forO k xs0 body xs loc st = .ok (.nx, loc') st' ∧ P loc' st'
  | [], loc, st, p, _ => ⟨loc, st, by unfold forO; rw [if_pos (hk _ _ p)], p⟩
  | x :: xs, loc, st, p, h => by
    obtain ⟨l1, s1, e1, p1⟩ := h x List.mem_cons_self loc st p
    obtain ⟨l2, s2, e2, p2⟩ := forO_inv P hk xs l1 s1 p1 fun v hv => h v (List.mem_cons_of_mem _ hv)
    refine ⟨l2, s2, ?_, p2⟩
    unfold forO
    rw [if_pos (hk _ _ p), bd_eq e1]
    exact e2
theorem getL_o {k : Nat} {st : Store} {xs : List Val} (h : st[k]? = some (.lst xs)) : getL (.o k) st = .ok (k, xs) st := by
  show (match st[k]? with | some (.lst xs) => R.ok (k, xs) st | _ => .bad) = _
  rw [h]
/-- the frame of a law: one round for each dice -/
theorem law_frame {ns : List Int} {B : S} {G1 : G} {high : Nat} {m : Nat} (hl : ns.length ≤ 1000) (hh : high ≤ 1000) (P : Loc → Prop) (p0 : P (some (.s ns) :: List.replicate m none))
    (hB : ∀ (i : Nat) (loc : Loc) (st : Store), P loc → DS i st → ∃ loc' st', fBody G1 B (.o i) loc st = .ok (.nx, loc') st' ∧ P loc' ∧ Dc i st st') :
    ∃ st', runF (m + 1) (sSeq (sForO (eB (fixN 2 f_law_rounds) (aC (eV 0) (aC (eC (.int (high : Int))) aN))) G1 B) (sRet (eC (.bool true)))) [.s ns] [] = .ok (.d (.bool true)) st' := by
  obtain ⟨n, st, e1, hk, hd⟩ := rounds_ex ns hl high hh
  obtain ⟨loc', st', e2, _⟩ := forO_inv (k := n) (xs0 := (List.range n).map .o) (body := fBody G1 B) (fun loc st => P loc ∧ st[n]? = some (.lst ((List.range n).map .o)) ∧ ∀ i < n, DS i st) (fun _ _ p => p.2.1) ((List.range n).map .o) (some (.s ns) :: List.replicate m none) st ⟨p0, hk, hd⟩ (fun v hv loc st p => by
    obtain ⟨i, hi, rfl⟩ := List.mem_map.mp hv
    have hi' : i < n := List.mem_range.mp hi
    obtain ⟨loc', st', e, p', d⟩ := hB i loc st p.1 (p.2.2 i hi')
    refine ⟨loc', st', e, p', ?_, fun j hj => ?_⟩
    · rw [d.other (by omega) (List.getElem?_eq_some_iff.mp p.2.1).1]; exact p.2.1
    · by_cases hij : i = j
      · subst hij; exact d.ds (p.2.2 i hi')
      · obtain ⟨c, k, e⟩ := p.2.2 j hj
        exact ⟨c, k, by rw [d.other hij (List.getElem?_eq_some_iff.mp e).1]; exact e⟩)
  refine ⟨st', ?_⟩
  rw [runF_eq]
  have el : List.map some [Val.s ns] ++ List.replicate (m + 1 - [Val.s ns].length) none = some (.s ns) :: List.replicate m none := rfl
  rw [el, sSeq_eq, bd_bd]
  have es : sForO (eB (fixN 2 f_law_rounds) (aC (eV 0) (aC (eC (.int (high : Int))) aN))) G1 B (some (.s ns) :: List.replicate m none) [] = .ok (.nx, loc') st' := by
    unfold sForO
    simp only [eB_eq, aC_eq, eV_zero, eC_eq, aN_eq, bd_ret, bd_bd, fix2]
    rw [bd_eq e1, bd_eq (getL_o hk)]
    exact e2
  rw [bd_eq es]
  rfl

/-! ### lists of ints heap by heap -/
def gt (a : List Int) (i : Nat) : Int := a.getD i 0
theorem gt_cons0 (x : Int) (a : List Int) : gt (x :: a) 0 = x := rfl
theorem gt_consS (x : Int) (a : List Int) (i : Nat) : gt (x :: a) (i + 1) = gt a i := rfl
theorem gt_nil (i : Nat) : gt [] i = 0 := rfl
theorem gt_mem {a : List Int} {i : Nat} (h : i < a.length) : gt a i ∈ a := by
  unfold gt
  rw [List.getD_eq_getElem?_getD, List.getElem?_eq_getElem h]
  exact List.getElem_mem h
theorem gt_out {a : List Int} {i : Nat} (h : a.length ≤ i) : gt a i = 0 := by
  unfold gt
  rw [List.getD_eq_getElem?_getD, List.getElem?_eq_none h]
  rfl
theorem gt_mem' {a : List Int} {x : Int} (h : x ∈ a) : ∃ i, i < a.length ∧ gt a i = x := by
  obtain ⟨i, hi, e⟩ := List.mem_iff_getElem.mp h
  refine ⟨i, hi, ?_⟩
  unfold gt
  rw [List.getD_eq_getElem?_getD, List.getElem?_eq_getElem hi]
  exact e
theorem gt_ext : ∀ {a b : List Int}, a.length = b.length → (∀ i, gt a i = gt b i) → a = b
  | [], [], _, _ => rfl
  | x :: a, y :: b, hl, h => by
    have e0 : x = y := h 0
    have e1 : a = b := gt_ext (by simpa using hl) fun i => h (i + 1)
    rw [e0, e1]
theorem ovB_iff : ∀ {a b : List Int}, a.length = b.length → (ovB a b = true ↔ ∀ i, gt b i ≤ gt a i)
  | [], [], _ => by simp [ovB, gt]
  | x :: a, y :: b, hl => by
    have ih := ovB_iff (a := a) (b := b) (by simpa using hl)
    have e : ovB (x :: a) (y :: b) = (decide (y ≤ x) && ovB a b) := rfl
    rw [e, Bool.and_eq_true, decide_eq_true_eq, ih]
    constructor
    · rintro ⟨h0, h1⟩ (_ | i)
      · exact h0
      · exact h1 i
    · exact fun h => ⟨h 0, fun i => h (i + 1)⟩
theorem gt_add : ∀ {a b : List Int}, a.length = b.length → ∀ i, gt (addL a b) i = gt a i + gt b i
  | [], [], _, i => by simp [addL, gt]
  | x :: a, y :: b, hl, i => by
    have e : addL (x :: a) (y :: b) = (x + y) :: addL a b := rfl
    rw [e]
    cases i with
    | zero => rfl
    | succ i => exact gt_add (a := a) (b := b) (by simpa using hl) i
theorem gt_chg : ∀ {a b : List Int}, a.length = b.length → ∀ i, gt (chg (a, b)) i = gt b i - gt a i
  | [], [], _, i => by simp [chg, gt]
  | x :: a, y :: b, hl, i => by
    have e : chg (x :: a, y :: b) = (y - x) :: chg (a, b) := rfl
    rw [e]
    cases i with
    | zero => rfl
    | succ i => exact gt_chg (a := a) (b := b) (by simpa using hl) i
theorem gt_mx : ∀ {f n g : List Int}, f.length = n.length → n.length = g.length → ∀ i, gt (mxL f n g) i = max (gt f i) (gt n i - gt g i)
  | [], [], [], _, _, i => by simp [mxL, gt]
  | x :: a, y :: b, z :: c, hl, hl', i => by
    have e : mxL (x :: a) (y :: b) (z :: c) = (if y - z > x then y - z else x) :: mxL a b c := rfl
    rw [e]
    cases i with
    | zero =>
      rw [gt_cons0, gt_cons0, gt_cons0, gt_cons0]
      split <;> omega
    | succ i => exact gt_mx (f := a) (n := b) (g := c) (by simpa using hl) (by simpa using hl') i
theorem gt_rep (h i : Nat) : gt (List.replicate h 0) i = 0 := by
  unfold gt
  rw [List.getD_eq_getElem?_getD, List.getElem?_replicate]
  split <;> rfl
theorem add_assoc' {a b c : List Int} (h1 : a.length = b.length) (h2 : b.length = c.length) : addL (addL a b) c = addL a (addL b c) := by
  refine gt_ext ?_ fun i => ?_
  · rw [addL_len (by rw [addL_len h1]; omega), addL_len h1, addL_len (by rw [addL_len h2]; omega)]
  · rw [gt_add (by rw [addL_len h1]; omega), gt_add h1, gt_add (by rw [addL_len h2]; omega), gt_add h2]
    omega
theorem add_zero' {a : List Int} : addL a (List.replicate a.length 0) = a := by
  refine gt_ext (by rw [addL_len (by simp)]) fun i => ?_
  rw [gt_add (by simp), gt_rep]
  omega

/-! ### refusals told -/
theorem eTold_thr {cs : List Nat} {f : E} {loc : Loc} {c : Nat} (h : f loc = thr c) (hc : c ∈ cs) : eTold cs f loc = ret (.d (.tuple [.str "refused", .str (kindN c)])) := by
  funext st
  unfold eTold
  rw [h]
  show (if c ∈ cs then _ else _) = _
  rw [if_pos hc]
  rfl
theorem eTold_ret {cs : List Nat} {f : E} {loc : Loc} {v : Val} (h : f loc = ret v) : eTold cs f loc = ret v := by
  funext st
  unfold eTold
  rw [h]
  rfl
theorem ne_told {a b : Str} (h : PySem.SeqAt.shaped (.tuple [.str "refused", .str a]) = true) (h' : PySem.SeqAt.shaped (.tuple [.str "refused", .str b]) = true) (e : a = b) : bNe (.d (.tuple [.str "refused", .str a])) (.d (.tuple [.str "refused", .str b])) = ret (.d (.bool false)) := by
  subst e
  rw [bNe_d, eqD_eq h h']
  have : PyData.eqv (.tuple [.str "refused", .str a]) (.tuple [.str "refused", .str a]) = true := by
    simp [PyData.eqv, PyData.eqvAll]
  rw [this]
  rfl

end Y
end
section
set_option Elab.async false
set_option linter.all false
set_option maxRecDepth 10000
set_option exponentiation.threshold 5000
namespace Y
open PySem (PyData Str)
/-! ### like data -/
def Sh (n : Nat) (x : D) : Prop := x.canLay0 = true ∧ x.depth ≤ n
theorem Sh.int (i : Int) : Sh 1 (.int i) := ⟨rfl, by simp [PyData.depth]⟩
theorem Sh.none : Sh 1 .none := ⟨rfl, by simp [PyData.depth]⟩
theorem Sh.bool (b : Bool) : Sh 1 (.bool b) := ⟨rfl, by simp [PyData.depth]⟩
theorem Sh.mono {n m : Nat} {x : D} (h : Sh n x) (hl : n ≤ m) : Sh m x := ⟨h.1, Nat.le_trans h.2 hl⟩
theorem canAll : ∀ {ds : List D}, (∀ x ∈ ds, x.canLay0 = true) → PyData.canLayAll0 ds = true
  | [], _ => rfl
  | x :: r, h => by
    simp only [PyData.canLayAll0, Bool.and_eq_true]
    exact ⟨h x (by simp), canAll fun y hy => h y (by simp [hy])⟩
theorem depAll {n : Nat} : ∀ {ds : List D}, (∀ x ∈ ds, x.depth ≤ n) → PyData.depthAll ds ≤ n
  | [], _ => by simp [PyData.depthAll]
  | x :: r, h => by
    have a := h x (by simp)
    have b := depAll (ds := r) fun y hy => h y (by simp [hy])
    simp only [PyData.depthAll]
    omega
theorem Sh.list {n : Nat} {ds : List D} (h : ∀ x ∈ ds, Sh n x) : Sh (n + 1) (.list ds) := by
  refine ⟨?_, ?_⟩
  · simp only [PyData.canLay0]
    exact canAll fun x hx => (h x hx).1
  · have := depAll (n := n) fun x hx => (h x hx).2
    simp only [PyData.depth]
    omega
theorem Sh.tuple {n : Nat} {ds : List D} (h : ∀ x ∈ ds, Sh n x) : Sh (n + 1) (.tuple ds) := by
  refine ⟨?_, ?_⟩
  · simp only [PyData.canLay0]
    exact canAll fun x hx => (h x hx).1
  · have := depAll (n := n) fun x hx => (h x hx).2
    simp only [PyData.depth]
    omega
theorem Sh.tI (a : List Int) : Sh 2 (tI a) := Sh.tuple fun x hx => by
  obtain ⟨i, _, rfl⟩ := List.mem_map.mp hx
  exact Sh.int i
theorem Sh.lI (a : List Int) : Sh 2 (.list (intsD a)) := Sh.list fun x hx => by
  obtain ⟨i, _, rfl⟩ := List.mem_map.mp hx
  exact Sh.int i
theorem Sh.shaped {n : Nat} {x : D} (h : Sh n x) (hn : n ≤ 64) : PySem.SeqAt.shaped x = true := by
  simp only [PySem.SeqAt.shaped, Bool.and_eq_true, decide_eq_true_eq]
  exact ⟨h.1, Nat.le_trans h.2 hn⟩
mutual
theorem eqv_self : ∀ x : D, x.canLay0 = true → PyData.eqv x x = true
  | .none, _ => by simp [PyData.eqv]
  | .bool _, _ => by simp [PyData.eqv]
  | .int _, _ => by simp [PyData.eqv]
  | .str _, _ => by simp [PyData.eqv]
  | .list xs, h => by
    simp only [PyData.eqv]
    exact eqv_selfA xs (by simpa [PyData.canLay0] using h)
  | .tuple xs, h => by
    simp only [PyData.eqv]
    exact eqv_selfA xs (by simpa [PyData.canLay0] using h)
  | .dict _, h => by simp [PyData.canLay0] at h
theorem eqv_selfA : ∀ xs : List D, PyData.canLayAll0 xs = true → PyData.eqvAll xs xs = true
  | [], _ => by simp [PyData.eqvAll]
  | x :: r, h => by
    simp only [PyData.canLayAll0, Bool.and_eq_true] at h
    simp only [PyData.eqvAll, Bool.and_eq_true]
    exact ⟨eqv_self x h.1, eqv_selfA r h.2⟩
end
theorem eqD_self {n : Nat} {x : D} (h : Sh n x) (hn : n ≤ 64) : eqD x x = ret true := by
  rw [eqD_eq (h.shaped hn) (h.shaped hn), eqv_self x h.1]
theorem ne_self {n : Nat} {x : D} (h : Sh n x) (hn : n ≤ 64) : bNe (.d x) (.d x) = ret (.d (.bool false)) := by
  rw [bNe_d, eqD_self h hn]
  rfl
theorem eq_self {n : Nat} {x : D} (h : Sh n x) (hn : n ≤ 64) : bEq (.d x) (.d x) = ret (.d (.bool true)) := by
  rw [bEq_d, eqD_self h hn]
  rfl
def RfT (c : Nat) : D := .tuple [.str "refused", .str (kindN c)]
theorem Sh.rft {c : Nat} (h : PySem.SeqAt.shaped (RfT c) = true) : Sh 64 (RfT c) := by
  simp only [PySem.SeqAt.shaped, Bool.and_eq_true, decide_eq_true_eq] at h
  exact h

theorem toIs_ints (ns : List Int) : toIs (intsD ns) = some ns := by
  have := toIs_map (fun i : Int => i) ns
  rw [List.map_id'] at this
  exact this

def wtB : D → Bool
  | .int i => decide (0 ≤ i)
  | _ => false
def awtB (n : Nat) : D → Bool
  | .tuple ds => decide (ds.length = n) && ds.all wtB
  | _ => false

theorem r_all_changes {ms : List Mv} {h : Nat} (w : WF ms h) : f_all_changes [.d (eMs ms)] = ret (.d (.list (ms.map fun m => tI (chg m)))) := by
  have n6 := w.n6
  have h4 := w.h4
  have e : all_changes_C1 [some (Val.d (eMs ms)), none] = ret (.d (.list (ms.map fun m => tI (chg m)))) := by
    refine eLc_map ms (fun m => Val.d (eMv m)) _ ?_ (by rw [lim_eq]; omega) fun p hp => ?_
    · simp [eMs]; rfl
    · simp [r_change p (by rw [w.l1 p hp, lim_eq]; omega)]
  simp [f_all_changes, b_all_changes, runF_eq, e]

/-! ### counts, their sum -/
def sclL (k : Int) (a : List Int) : List Int := a.map fun x => k * x
theorem scl_len (k : Int) (a : List Int) : (sclL k a).length = a.length := by simp [sclL]
theorem gt_scl (k : Int) : ∀ (a : List Int) (i : Nat), gt (sclL k a) i = k * gt a i
  | [], i => by simp [sclL, gt]
  | x :: a, 0 => rfl
  | x :: a, i + 1 => gt_scl k a i
def totL (f : List Int) (L : List (Int × Mv)) : List Int := L.foldl (fun f p => addL f (sclL p.1 (chg p.2))) f
theorem tot_len {h : Nat} : ∀ (L : List (Int × Mv)) (f : List Int), f.length = h → (∀ p ∈ L, p.2.1.length = h ∧ p.2.2.length = h) → (totL f L).length = h
  | [], f, hf, _ => hf
  | p :: L, f, hf, hL => by
    obtain ⟨h1, h2⟩ := hL p (by simp)
    exact tot_len L _ (by rw [addL_len (by rw [scl_len, chg_len (by omega)]; omega), hf]) fun q hq => hL q (by simp [hq])
theorem tot_gt {h : Nat} (j : Nat) : ∀ (L : List (Int × Mv)) (f : List Int), f.length = h → (∀ p ∈ L, p.2.1.length = h ∧ p.2.2.length = h) → gt (totL f L) j = gt f j + (L.map fun p => p.1 * gt (chg p.2) j).sum
  | [], f, hf, _ => by simp [totL]
  | p :: L, f, hf, hL => by
    obtain ⟨h1, h2⟩ := hL p (by simp)
    have el : f.length = (sclL p.1 (chg p.2)).length := by rw [scl_len, chg_len (by omega)]; omega
    have := tot_gt j L (addL f (sclL p.1 (chg p.2))) (by rw [addL_len el, hf]) fun q hq => hL q (by simp [hq])
    show gt (totL (addL f (sclL p.1 (chg p.2))) L) j = _
    rw [this, gt_add el, gt_scl, List.map_cons, List.sum_cons]
    omega
theorem chg_sm {m : Mv} (b1 : ∀ x ∈ m.1, 0 ≤ x ∧ x ≤ 9) (b2 : ∀ x ∈ m.2, 0 ≤ x ∧ x ≤ 9) : ∀ x ∈ chg m, x.natAbs < 2 ^ 64 := by
  intro x hx
  obtain ⟨p, hp, rfl⟩ := List.mem_map.mp hx
  have q := List.of_mem_zip (a := p.1) (b := p.2) hp
  have := b1 _ q.1
  have := b2 _ q.2
  omega
theorem zip2_ch : ∀ (cs : List Int) (ms : List Mv), zip2 (intsD cs) (ms.map fun m => tI (chg m)) = (cs.zip ms).map fun p => Val.d (.tuple [.int p.1, tI (chg p.2)])
  | [], ms => by simp [intsD, zip2]
  | _ :: _, [] => by simp [intsD, zip2]
  | c :: cs, m :: ms => by
    show Val.d (.tuple [.int c, tI (chg m)]) :: zip2 (intsD cs) (ms.map fun m => tI (chg m)) = _
    rw [zip2_ch cs ms]
    rfl
theorem zip2_ms : ∀ (cs : List Int) (ms : List Mv), zip2 (intsD cs) (ms.map eMv) = (cs.zip ms).map fun p => Val.d (.tuple [.int p.1, eMv p.2])
  | [], ms => by simp [intsD, zip2]
  | _ :: _, [] => by simp [intsD, zip2]
  | c :: cs, m :: ms => by
    show Val.d (.tuple [.int c, eMv m]) :: zip2 (intsD cs) (ms.map eMv) = _
    rw [zip2_ms cs ms]
    rfl
theorem mul_zero1 {h : Nat} (h1 : 1 ≤ h) (h4 : h ≤ 100) : bMul (.d (.tuple [.int 0])) (.d (.int (h : Int))) = ret (.d (tI (List.replicate h 0))) := by
  rw [bMul_tup, if_pos ⟨by omega, by omega, by simp, by simp⟩]
  simp [repD, tI, intsD]
section
set_option Elab.async false
variable {ms : List Mv} {h : Nat} (w : WF ms h) {cs : List Int}
include w
theorem WF.zp : ∀ p ∈ cs.zip ms, p.2.1.length = h ∧ p.2.2.length = h ∧ ∀ x ∈ chg p.2, x.natAbs < 2 ^ 64 := fun p hp => by
  have q := (List.of_mem_zip (a := p.1) (b := p.2) hp).2
  exact ⟨w.l1 _ q, w.l2 _ q, chg_sm (w.b1 _ q) (w.b2 _ q)⟩
end

/-! ### weights -/
def wgt (a b : List Int) : Int := ((a.zip b).map fun p => p.1 * p.2).sum
def Sm (a : List Int) : Prop := ∀ x ∈ a, x.natAbs < 2 ^ 64
theorem sumS_ints (ns : List Int) : bSumS [.d (.list (intsD ns))] = ret (.d (.int ns.sum)) := by
  show bd (oget (toIs (intsD ns))) _ = _
  have : toIs (intsD ns) = some ns := by
    have := toIs_map (fun i : Int => i) ns
    rw [List.map_id'] at this
    exact this
  rw [this]
  rfl
theorem sumS_tup (ns : List Int) : bSumS [.d (tI ns)] = ret (.d (.int ns.sum)) := by
  show bd (oget (toIs (intsD ns))) _ = _
  have : toIs (intsD ns) = some ns := by
    have := toIs_map (fun i : Int => i) ns
    rw [List.map_id'] at this
    exact this
  rw [this]
  rfl
def lsF (ms : List Mv) (ws : List Int) : List Int := ms.map fun m => -(wgt ws (chg m))
section
set_option Elab.async false
variable {ms : List Mv} {h : Nat} (w : WF ms h)
def Wt (h : Nat) (ws : List Int) : Prop := ws.length = h ∧ ∀ x ∈ ws, 0 ≤ x
theorem Wt.aw {ws : List Int} (z : Wt h ws) : awtB h (tI ws) = true := by
  simp [awtB, tI, z.1]
  intro x hx
  obtain ⟨y, hy, rfl⟩ := List.mem_map.mp hx
  exact decide_eq_true (z.2 y hy)
def rgB (ms : List Mv) (ws : List Int) : Bool := (lsF ms ws).all fun x => decide (1 ≤ x)
theorem min_all {x : Int} {r : List Int} : decide (1 ≤ r.foldl min x) = ((x :: r).all fun y => decide (1 ≤ y)) := by
  obtain ⟨h1, h2⟩ := minI_spec r x
  rw [Bool.eq_iff_iff, decide_eq_true_eq, List.all_eq_true]
  constructor
  · intro z y hy
    have := h2 y hy
    exact decide_eq_true (by omega)
  · intro z
    exact of_decide_eq_true (z _ h1)
theorem minS_ints {x : Int} {r : List Int} : bMinS [.d (.list (intsD (x :: r)))] = ret (.d (.int (r.foldl min x))) := by
  show bd (oget (toIs (intsD (x :: r)))) _ = _
  have : toIs (intsD (x :: r)) = some (x :: r) := by
    have := toIs_map (fun i : Int => i) (x :: r)
    rw [List.map_id'] at this
    exact this
  rw [this]
  rfl
end

theorem wgt_chg : ∀ {ws a b : List Int}, a.length = b.length → ws.length = a.length → wgt ws a - wgt ws b = -(wgt ws (chg (a, b)))
  | [], [], [], _, _ => rfl
  | w :: ws, x :: a, y :: b, h1, h2 => by
    have ih := wgt_chg (ws := ws) (a := a) (b := b) (by simpa using h1) (by simpa using h2)
    have e1 : wgt (w :: ws) (x :: a) = w * x + wgt ws a := by simp [wgt]
    have e2 : wgt (w :: ws) (y :: b) = w * y + wgt ws b := by simp [wgt]
    have e3 : wgt (w :: ws) (chg (x :: a, y :: b)) = w * (y - x) + wgt ws (chg (a, b)) := by simp [wgt, chg]
    rw [e1, e2, e3, Int.mul_sub]
    omega

/-! ### rounds -/
theorem sumS_tI (ns : List Int) : bSumS [.d (tI ns)] = ret (.d (.int ns.sum)) := by
  show bd (oget (toIs (intsD ns))) _ = _
  rw [toIs_ints]
  rfl
theorem minS_tI {x : Int} {r : List Int} : bMinS [.d (tI (x :: r))] = ret (.d (.int (r.foldl min x))) := by
  show bd (oget (toIs (intsD (x :: r)))) _ = _
  rw [toIs_ints]
  rfl
theorem min_all0 {x : Int} {r : List Int} : decide (0 ≤ r.foldl min x) = ((x :: r).all fun y => decide (0 ≤ y)) := by
  obtain ⟨h1, h2⟩ := minI_spec r x
  rw [Bool.eq_iff_iff, decide_eq_true_eq, List.all_eq_true]
  constructor
  · intro h y hy
    have := h2 y hy
    exact decide_eq_true (by omega)
  · intro h
    exact of_decide_eq_true (h _ h1)
def Tot (h : Nat) (ms : List Mv) (cs : List Int) : List Int := totL (List.replicate h 0) (cs.zip ms)
def gdB (h : Nat) (ms : List Mv) (cs : List Int) : Bool := decide (0 < cs.sum) && (Tot h ms cs).all fun x => decide (0 ≤ x)
/-- counts, few of each -/
structure Ct (n : Nat) (cs : List Int) : Prop where
  l : cs.length = n
  b : ∀ x ∈ cs, 0 ≤ x
section
set_option Elab.async false
variable {ms : List Mv} {h : Nat} (w : WF ms h)
theorem Ct.aw {n : Nat} {cs : List Int} (z : Ct n cs) : awtB n (tI cs) = true := by
  simp only [awtB, tI, intsD_len, z.l, decide_true, Bool.true_and, List.all_eq_true]
  intro x hx
  obtain ⟨i, hi, rfl⟩ := List.mem_map.mp hx
  exact decide_eq_true (z.b i hi)
theorem Ct.cl {n : Nat} {cs : List Int} (z : Ct n cs) (hn : n ≤ 100) : cl (tI cs) = true := cl_ints cs (by rw [z.l, lim_eq]; omega)
include w in
theorem Tot_len (cs : List Int) : (Tot h ms cs).length = h := tot_len _ _ (by simp) fun p hp => ⟨(w.zp p hp).1, (w.zp p hp).2.1⟩
end

theorem WF.hlen0 {ms : List Mv} {h : Nat} (w : WF ms h) {loc : Loc} (h2 : eV 0 loc = ret (.d (eMs ms))) : eB bLen (aC (eO bIx (eO bIx (eV 0) (eC (.int 0))) (eC (.int 0))) aN) loc = ret (.d (.int (h : Int))) := by
  obtain ⟨m, hm, l1, _⟩ := w.at (i := 0) (by have := w.n1; omega)
  have i0 : bIx (.d (eMs ms)) (.d (.int 0)) = ret (.d (eMv m)) := ix_ms hm
  simp [h2, i0, ix_mv0]
  simp [tI, l1]

theorem set_mid {α : Type} (st : List α) (a b : α) (xs : List α) : (st ++ a :: xs).set st.length b = st ++ b :: xs := by
  induction st with
  | nil => rfl
  | cons x r ih => simp [ih]
theorem get_mid {α : Type} (st : List α) (a : α) (xs : List α) : (st ++ a :: xs)[st.length]? = some a := by simp

theorem bFrz_at {st : Store} {n : Nat} {ds : List D} (g : st[n]? = some (.lst (ds.map .d))) (hl : ds.length ≤ lim) : bFrz (.o n) st = .ok (.d (.list ds)) (st.set n .gone) := by
  show (match st[n]? with | some (.lst xs) => (match toDs xs with | some ds => if ds.length ≤ lim then R.ok (Val.d (.list ds)) (st.set n .gone) else .bad | none => .bad) | _ => .bad) = _
  rw [g]
  dsimp only
  have := toDs_map (fun x : D => x) ds
  rw [List.map_id'] at this
  rw [show (ds.map Val.d) = ds.map (fun p => Val.d ((fun x : D => x) p)) from rfl, this]
  dsimp only
  rw [if_pos hl]

/-! ### moves that fall under drawn weights -/
theorem forL_ix {body : Val → S} (P : Nat → Loc → Store → Prop) : ∀ (xs : List Val) (n : Nat) (loc : Loc) (st : Store), P n loc st → (∀ i v, v ∈ xs → i < n + xs.length → ∀ loc st, P i loc st → ∃ loc' st', body v loc st = .ok (.nx, loc') st' ∧ P (i + 1) loc' st') → ∃ loc' st', forL body xs loc st = .ok (.nx, loc') st' ∧ P (n + xs.length) loc' st'
  | [], n, loc, st, p, _ => ⟨loc, st, rfl, p⟩
  | x :: xs, n, loc, st, p, h => by
    obtain ⟨l1, s1, e1, p1⟩ := h n x List.mem_cons_self (by simp) loc st p
    obtain ⟨l2, s2, e2, p2⟩ := forL_ix P xs (n + 1) l1 s1 p1 fun i v hv hi => h i v (List.mem_cons_of_mem _ hv) (by simp only [List.length_cons]; omega)
    refine ⟨l2, s2, ?_, ?_⟩
    · show bd (body x loc) _ st = _
      rw [bd_eq e1]
      exact e2
    · have : n + (x :: xs).length = n + 1 + xs.length := by simp; omega
      rw [this]
      exact p2
theorem app_last' {o e : E} {loc : Loc} {st : Store} {xs : List Val} {v : Val} (ho : o loc = ret (.o st.length)) (he : e loc = ret v) (hl : xs.length < lim) : eApp o e loc (st ++ [.lst xs]) = .ok (.d .none) (st ++ [.lst (xs ++ [v])]) := by
  unfold eApp
  rw [ho, bd_ret]
  have g : (st ++ [Ob.lst xs])[st.length]? = some (.lst xs) := by simp
  have hc : chkL (.o st.length) (st ++ [.lst xs]) = .ok st.length (st ++ [.lst xs]) := by
    show (match (st ++ [Ob.lst xs])[st.length]? with | some (.lst _) => R.ok st.length (st ++ [Ob.lst xs]) | _ => .bad) = _
    rw [g]
  rw [bd_eq hc, he, bd_ret]
  unfold appS
  rw [g]
  dsimp only
  rw [if_pos hl]
  simp
theorem app_at {o e : E} {loc : Loc} {st st1 : Store} {k : Nat} {xs : List Val} {v : Val} (ho : o loc = ret (.o k)) (hk : st[k]? = some (.lst xs)) (he : e loc st = .ok v st1) (hk1 : st1[k]? = some (.lst xs)) (hl : xs.length < lim) : eApp o e loc st = .ok (.d .none) (st1.set k (.lst (xs ++ [v]))) := by
  unfold eApp
  rw [ho, bd_ret]
  have hc : chkL (.o k) st = .ok k st := by
    show (match st[k]? with | some (.lst _) => R.ok k st | _ => .bad) = _
    rw [hk]
  rw [bd_eq hc, bd_eq he]
  unfold appS
  rw [hk1]
  dsimp only
  rw [if_pos hl]

theorem bTuple_at {st : Store} {n : Nat} {ks : List Int} (g : st[n]? = some (.lst (ks.map fun i => Val.d (.int i)))) : bTuple [.o n] st = .ok (.d (tI ks)) st := by
  show (match st[n]? with | some (.lst xs) => (match toDs xs with | some ds => R.ok (Val.d (.tuple ds)) st | none => .bad) | _ => .bad) = _
  rw [g]
  dsimp only
  rw [toDs_map]
  rfl

/-! ### the law's own sum -/
theorem setD_ints (l : List Int) (i : Nat) (x : Int) : (l.map fun i => Val.d (.int i)).set i (.d (.int x)) = (l.set i x).map fun i => Val.d (.int i) := by
  rw [List.map_set]
theorem gt_set : ∀ {l : List Int} {i : Nat} (x : Int) (j : Nat), i < l.length → gt (l.set i x) j = if j = i then x else gt l j
  | [], i, x, j, h => by simp at h
  | y :: l, 0, x, 0, h => rfl
  | y :: l, 0, x, j + 1, h => rfl
  | y :: l, i + 1, x, 0, h => rfl
  | y :: l, i + 1, x, j + 1, h => by
    have := gt_set (l := l) (i := i) x j (by simpa using h)
    show gt (l.set i x) j = _
    rw [this]
    by_cases e : j = i <;> simp [e, gt_consS]
theorem atI_ints {l : List Int} {i : Nat} (h : i < l.length) : atI (l.map fun i => Val.d (.int i)) (i : Int) = some (.d (.int (gt l i))) :=
  atI_nat rfl (by rw [List.getElem?_map, List.getElem?_eq_getElem h]; simp [gt, List.getD_eq_getElem?_getD, List.getElem?_eq_getElem h])
theorem ixN_nat {n i : Nat} (h : i < n) : ixN n (i : Int) = some i := by
  unfold ixN
  rw [if_pos (by omega), if_pos (by omega)]
  simp
theorem ix_tI0 {a : List Int} {i : Nat} (h : i < a.length) : bIx (.d (tI a)) (.d (.int (i : Int))) = ret (.d (.int (gt a i))) := by
  have : atI (intsD a) (i : Int) = some (.int (gt a i)) := atI_nat rfl (by simp [intsD, gt, List.getElem?_eq_getElem h, List.getD_eq_getElem?_getD])
  show bd (oget (atI (intsD a) (i : Int))) _ = _
  rw [this]; rfl
theorem ix_tI {a : List Int} {i : Nat} (h : i < a.length) : bIx (.d (tI a)) (.d (.int (i : Int))) = ret (.d (.int (gt a i))) := by
  have : atI (intsD a) (i : Int) = some (.int (gt a i)) := atI_nat rfl (by simp [intsD, List.getElem?_eq_getElem h, gt, List.getD_eq_getElem?_getD])
  show bd (oget (atI (intsD a) (i : Int))) _ = _
  rw [this]; rfl
theorem sIx_nat {n d i : Nat} (h : i ≤ n) : sIx n d (some (i : Int)) = i := by
  show (if (i : Int) < 0 then ((i : Int) + (n : Int)).toNat else min (i : Int).toNat n) = i
  rw [if_neg (by omega)]
  simp
  omega
theorem cut_take (a : List Int) {i : Nat} (h : i ≤ a.length) : cutD (intsD a) none (some (i : Int)) = intsD (a.take i) := by
  unfold cutD
  rw [intsD_len, sIx_nat h]
  simp [sIx, intsD, List.map_take]
theorem cut_drop (a : List Int) {z : Int} {i : Nat} (hz : z = (i : Int)) (h : i ≤ a.length) : cutD (intsD a) (some z) none = intsD (a.drop i) := by
  subst hz
  unfold cutD
  rw [intsD_len, sIx_nat h]
  simp only [sIx, intsD, List.map_drop]
  rw [List.take_of_length_le (by simp)]
theorem tI_add {a b : List Int} (h : a.length + b.length ≤ 1000) : bAdd (.d (tI a)) (.d (tI b)) = ret (.d (tI (a ++ b))) := by
  show bAdd (.d (.tuple (intsD a))) (.d (.tuple (intsD b))) = _
  rw [bAdd_tup, if_pos (by rw [intsD_len, intsD_len, lim_eq]; omega)]
  simp [tI, intsD]

theorem cl_rep (n : Nat) (hn : n ≤ 1000) {y : D} (hy : cl y = true) : cl (.tuple (List.replicate n y)) = true := by
  simp only [cl, Bool.and_eq_true, clA_iff, decide_eq_true_eq, List.length_replicate]
  refine ⟨fun x hx => ?_, by rw [lim_eq]; omega⟩
  rw [List.eq_of_mem_replicate hx]; exact hy
theorem clL_rep (n : Nat) (hn : n ≤ 1000) {y : D} (hy : cl y = true) : cl (.list (List.replicate n y)) = true := by
  simp only [cl, Bool.and_eq_true, clA_iff, decide_eq_true_eq, List.length_replicate]
  refine ⟨fun x hx => ?_, by rw [lim_eq]; omega⟩
  rw [List.eq_of_mem_replicate hx]; exact hy
theorem aw_rep {n : Nat} (hn : 1 ≤ n) {hi : Int} {y : D} (hy : whB 0 hi y = false) : awB n hi (.tuple (List.replicate n y)) = false := by
  cases n with
  | zero => omega
  | succ n => simp [awB, List.replicate_succ, hy]
theorem aw_rep1 {n : Nat} {hi : Int} {y : D} (hy : whB 0 hi y = true) : awB n hi (.tuple (List.replicate n y)) = true := by
  simp [awB, hy]
theorem mul_tup1 {y : D} {z : Int} {n : Nat} (hz : z = (n : Int)) (h1 : 1 ≤ n) (h2 : n ≤ 100) : bMul (.d (.tuple [y])) (.d (.int z)) = ret (.d (.tuple (List.replicate n y))) := by
  subst hz
  rw [bMul_tup, if_pos ⟨by omega, by omega, by simp, by simp⟩]
  simp [repD]
theorem mul_lst1 {y : D} {z : Int} {n : Nat} (hz : z = (n : Int)) (h2 : n ≤ 1000) : bMul (.d (.list [y])) (.d (.int z)) = ret (.d (.list (List.replicate n y))) := by
  subst hz
  show (if (-1000 : Int) ≤ n ∧ (n : Int) ≤ 1000 ∧ [y].length ≤ 1000 then ret (Val.d (.list (repD n [y]))) else die) = _
  rw [if_pos ⟨by omega, by omega, by simp⟩]
  simp [repD]
theorem WF.hlen {ms : List Mv} {h : Nat} (w : WF ms h) {loc : Loc} (h2 : eV 2 loc = ret (.d (eMs ms))) : eB bLen (aC (eO bIx (eO bIx (eV 2) (eC (.int 0))) (eC (.int 0))) aN) loc = ret (.d (.int (h : Int))) := by
  obtain ⟨m, hm, l1, _⟩ := w.at (i := 0) (by have := w.n1; omega)
  have i0 : bIx (.d (eMs ms)) (.d (.int 0)) = ret (.d (eMv m)) := ix_ms hm
  simp [h2, i0, ix_mv0]
  simp [tI, l1]

end Y
end
section
set_option Elab.async false
set_option linter.all false
set_option maxRecDepth 10000
set_option exponentiation.threshold 5000
namespace Y
open PySem (PyData Str)
/-! ### while -/
theorem whl_mono {t : Tst} {b : S} : ∀ (n : Nat) (loc : Loc) (st : Store), whl t b n loc st ≠ .bad → whl t b (n + 1) loc st = whl t b n loc st
  | 0, loc, st, h => absurd rfl h
  | n + 1, loc, st, h => by
    show bd (t loc) _ st = bd (t loc) _ st
    unfold bd
    have h : bd (t loc) (fun c => if c = true then bd (b loc) fun r => match r.1 with | .nx => whl t b n r.2 | .ct => whl t b n r.2 | .bk => ret (.nx, r.2) | .rt v => ret (.rt v, r.2) else ret (.nx, loc)) st ≠ .bad := h
    unfold bd at h
    cases e : t loc st with
    | ex c s => rfl
    | bad => rfl
    | ok c s =>
      rw [e] at h
      dsimp only at h ⊢
      cases c with
      | false => rfl
      | true =>
        simp only [if_true] at h ⊢
        cases e2 : b loc s with
        | ex c s' => rfl
        | bad => rfl
        | ok r s' =>
          rw [e2] at h
          dsimp only at h ⊢
          obtain ⟨fl, l'⟩ := r
          cases fl with
          | nx => exact whl_mono n l' s' h
          | ct => exact whl_mono n l' s' h
          | bk => rfl
          | rt v => rfl
theorem whl_up {t : Tst} {b : S} {loc : Loc} {st : Store} {n : Nat} (h : whl t b n loc st ≠ .bad) : ∀ k, whl t b (n + k) loc st = whl t b n loc st
  | 0 => rfl
  | k + 1 => by
    have := whl_up h k
    rw [← Nat.add_assoc, whl_mono (n + k) loc st (by rw [this]; exact h), this]
theorem sWhile_at {t : Tst} {b : S} {loc : Loc} {st : Store} {n : Nat} (h : whl t b n loc st ≠ .bad) : sWhile t b loc st = whl t b n loc st := by
  unfold sWhile
  have hx : ∃ n, whl t b n loc st ≠ .bad := ⟨n, h⟩
  rw [dif_pos hx]
  have hc := hx.choose_spec
  rcases Nat.le_total n hx.choose with z | z
  · have := whl_up h (hx.choose - n)
    rw [show n + (hx.choose - n) = hx.choose by omega] at this
    exact this
  · have := whl_up hc (n - hx.choose)
    rw [show hx.choose + (n - hx.choose) = n by omega] at this
    exact this.symm
theorem whl_succ (t : Tst) (b : S) (n : Nat) (loc : Loc) : whl t b (n + 1) loc = bd (t loc) fun c => if c = true then bd (b loc) fun r => match r.1 with | .nx => whl t b n r.2 | .ct => whl t b n r.2 | .bk => ret (.nx, r.2) | .rt v => ret (.rt v, r.2) else ret (.nx, loc) := rfl
/-! ### shares -/
def big : Nat := 2 ^ 3000
theorem log_big {x : Int} (h : x.natAbs < big) : x.natAbs.log2 < 3000 := by
  by_cases e : x.natAbs = 0
  · rw [e]; decide
  · exact (Nat.log2_lt e).mpr h
theorem mul_big {x y : Int} (hx : x.natAbs < big) (hy : y.natAbs < big) : mulOk x y = true := by
  have a := log_big hx
  have b := log_big hy
  unfold mulOk
  rw [decide_eq_true (show x.natAbs.log2 + y.natAbs.log2 < 1000000 by omega)]
  simp
theorem div_ok {j : Int} (h : 0 < j) (hb : j.natAbs < big) : 0 < j ∧ j.natAbs.log2 < 9000 := ⟨h, by have := log_big hb; omega⟩
theorem gcd_step {x y : Nat} (hy : 0 < y) (hx : x < big) (hyb : y < big) : divider_L1 [some (.d (.int (x : Int))), some (.d (.int (y : Int)))] = ret (.nx, [some (.d (.int (y : Int))), some (.d (.int ((x % y : Nat) : Int)))]) := by
  have d := div_ok (j := (y : Int)) (by omega) (by omega)
  have q : (x : Int) / (y : Int) = ((x / y : Nat) : Int) := by omega
  have qb : ((x / y : Nat) : Int).natAbs < big := by
    rw [Int.natAbs_natCast]
    exact Nat.lt_of_le_of_lt (Nat.div_le_self x y) hx
  have m := mul_big qb (show ((y : Nat) : Int).natAbs < big by omega)
  have e : (x : Int) - ((x / y : Nat) : Int) * (y : Int) = ((x % y : Nat) : Int) := by
    have h1 := Nat.div_add_mod x y
    rw [Nat.mul_comm] at h1
    have h2 : ((x / y : Nat) : Int) * (y : Int) = ((x / y * y : Nat) : Int) := (Int.natCast_mul _ _).symm
    rw [h2]
    generalize x / y * y = t at *
    omega
  simp only [divider_L1_eq, sPar_eq, eO_eq, eV_zero, eV_succ, bd_ret, bd_bd, bDiv_int, d, and_self, if_true, q, bMul_int, m, bSub_int, e, List.set_cons_succ, List.set_cons_zero]
theorem gcd_loop (st : Store) : ∀ (y x : Nat), x < big → y < big → whl (tV (eO bNe (eV 1) (eC (.int 0)))) divider_L1 (y + 1) [some (.d (.int (x : Int))), some (.d (.int (y : Int)))] st = .ok (.nx, [some (.d (.int ((Nat.gcd y x : Nat) : Int))), some (.d (.int 0))]) st := fun y => by
  induction y using Nat.strongRecOn with
  | ind y ih =>
    intro x hx hy
    by_cases h : y = 0
    · subst h
      rw [whl_succ]
      simp
    · have tt : tV (eO bNe (eV 1) (eC (.int 0))) [some (.d (.int (x : Int))), some (.d (.int (y : Int)))] = ret true := by
        have hne : ((y : Int) == 0) = false := by rw [beq_eq_false_iff_ne]; omega
        simp only [tV_eq, eO_eq, eV_zero, eV_succ, eC_eq, bd_ret, bNe_d, eqD_int, hne, Bool.not_false, asB_eq]
      have lt := Nat.mod_lt x (show 0 < y by omega)
      have i := ih (x % y) lt y hy (by omega)
      have u := whl_up (t := tV (eO bNe (eV 1) (eC (.int 0)))) (b := divider_L1) (loc := [some (.d (.int (y : Int))), some (.d (.int ((x % y : Nat) : Int)))]) (st := st) (n := x % y + 1) (by rw [i]; exact fun z => by cases z) (y - (x % y + 1))
      rw [show x % y + 1 + (y - (x % y + 1)) = y by omega, i] at u
      rw [whl_succ, tt, bd_ret, if_pos rfl, gcd_step (by omega) hx hy, bd_ret]
      dsimp only
      rw [u, Nat.gcd_rec y x]
theorem r_divider {a b : Int} (ha : a.natAbs < big) (hb : b.natAbs < big) : f_divider [.d (.int a), .d (.int b)] = ret (.d (.int ((Nat.gcd b.natAbs a.natAbs : Nat) : Int))) := by
  funext st
  have e1 : ∀ i : Int, bAbs [.d (.int i)] = ret (.d (.int (i.natAbs : Int))) := fun i => by
    show ret (vI (if i < 0 then -i else i)) = _
    congr 2
    split <;> omega
  have l := gcd_loop st b.natAbs a.natAbs ha hb
  have w := sWhile_at (t := tV (eO bNe (eV 1) (eC (.int 0)))) (b := divider_L1) (n := b.natAbs + 1) (loc := [some (.d (.int (a.natAbs : Int))), some (.d (.int (b.natAbs : Int)))]) (st := st) (by rw [l]; exact fun z => by cases z)
  rw [l] at w
  have el : List.map some [Val.d (.int a), .d (.int b)] ++ List.replicate (2 - [Val.d (.int a), .d (.int b)].length) none = [some (.d (.int a)), some (.d (.int b))] := rfl
  simp only [f_divider, b_divider, runF_eq]
  rw [el]
  simp only [List.map_cons, List.map_nil, List.length_cons, List.length_nil, List.replicate, List.cons_append, List.nil_append, sSeq_eq, sPar_eq, eB_eq, aC_eq, aN_eq, eV_zero, eV_succ, bd_ret, bd_bd, e1, List.set_cons_succ, List.set_cons_zero]
  rw [bd_eq w]
  rfl
/-- a share as the program writes it -/
def sh (q : Rat) : D := .tuple [.int q.num, .int (q.den : Int)]
theorem r_lowest {a : Int} {b : Nat} (hb0 : 0 < b) (ha : a.natAbs < big) (hb : b < big) : f_lowest [.d (.int a), .d (.int (b : Int))] = ret (.d (sh (mkRat a b))) := by
  have g0 : 0 < Nat.gcd b a.natAbs := Nat.gcd_pos_of_pos_left _ hb0
  have gb : Nat.gcd b a.natAbs < big := Nat.lt_of_le_of_lt (Nat.gcd_le_left _ hb0) hb
  have rd := r_divider (a := a) (b := (b : Int)) ha (by omega)
  rw [Int.natAbs_natCast] at rd
  have d := div_ok (j := ((Nat.gcd b a.natAbs : Nat) : Int)) (by omega) (by omega)
  have c : (0 : Int) < (b : Int) := by omega
  have en : (mkRat a b).num = a / ((Nat.gcd b a.natAbs : Nat) : Int) := by rw [Rat.num_mkRat, if_neg (by omega)]
  have ed : (((mkRat a b).den : Nat) : Int) = (b : Int) / ((Nat.gcd b a.natAbs : Nat) : Int) := by
    rw [Rat.den_mkRat, if_neg (by omega)]
    exact Int.natCast_ediv _ _
  simp only [f_lowest, b_lowest, runF_eq]
  simp only [List.map_cons, List.map_nil, List.length_cons, List.length_nil, List.replicate, List.cons_append, List.nil_append, sSeq_eq, sAsg_eq, eIf_eq, tV_eq, eO_eq, eC_eq, eB_eq, aC_eq, aN_eq, eV_zero, eV_succ, bd_ret, bd_bd, bGt_int, asB_eq, c, decide_true, if_true, fix2, rd, gN_eq, List.set_cons_succ, List.set_cons_zero, sRet_eq, bDiv_int, d, and_self, bTup_eq2, sh, en, ed]
theorem rat_eq (p : Rat) : p = (p.num : Rat) / ((p.den : Nat) : Rat) := by rw [← Rat.mkRat_eq_div, Rat.mkRat_self]
theorem den0 (p : Rat) : ((p.den : Nat) : Rat) ≠ 0 := by exact_mod_cast p.den_nz
/-- small enough for all sums and products -/
def Sq (q : Rat) : Prop := q.num.natAbs < 2 ^ 1000 ∧ q.den < 2 ^ 1000
theorem sq_mul {x y : Nat} (hx : x < 2 ^ 1000) (hy : y < 2 ^ 1000) : x * y < 2 ^ 2000 := by
  have : x * y ≤ 2 ^ 1000 * 2 ^ 1000 := Nat.mul_le_mul (Nat.le_of_lt hx) (Nat.le_of_lt hy)
  have h1 : x * y < 2 ^ 1000 * 2 ^ 1000 := by
    by_cases z : y = 0
    · subst z
      rw [Nat.mul_zero]
      exact Nat.mul_pos (Nat.pow_pos (by omega)) (Nat.pow_pos (by omega))
    · exact Nat.lt_of_lt_of_le (Nat.mul_lt_mul_of_pos_right hx (by omega)) (Nat.mul_le_mul_left _ (Nat.le_of_lt hy))
  rw [← Nat.pow_add] at h1
  exact h1
theorem big_of {x : Nat} (h : x < 2 ^ 2000) : x < big := Nat.lt_of_lt_of_le h (Nat.pow_le_pow_right (by omega) (by omega))
theorem big_of1 {x : Nat} (h : x < 2 ^ 1000) : x < big := Nat.lt_of_lt_of_le h (Nat.pow_le_pow_right (by omega) (by omega))
theorem ix_sh0 (q : Rat) : bIx (.d (sh q)) (.d (.int 0)) = ret (.d (.int q.num)) := by unfold sh; rw [bIx_tup, atI_zero]; rfl
theorem ix_sh1 (q : Rat) : bIx (.d (sh q)) (.d (.int 1)) = ret (.d (.int (q.den : Int))) := by unfold sh; rw [bIx_tup, atI_one]; rfl
section
set_option Elab.async false
variable {p q : Rat} (hp : Sq p) (hq : Sq q)
include hp hq
theorem mOk (x y : Int) (hx : x.natAbs < 2 ^ 1000) (hy : y.natAbs < 2 ^ 1000) : mulOk x y = true := mul_big (big_of1 hx) (big_of1 hy)
theorem r_product : f_product [.d (sh p), .d (sh q)] = ret (.d (sh (p * q))) := by
  have e : mkRat (p.num * q.num) (p.den * q.den) = p * q := by
    rw [Rat.mkRat_eq_div]
    have := rat_eq p
    have := rat_eq q
    have := den0 p
    have := den0 q
    push_cast
    grind
  have l := r_lowest (a := p.num * q.num) (b := p.den * q.den) (Nat.mul_pos p.den_pos q.den_pos) (by rw [Int.natAbs_mul]; exact big_of (sq_mul hp.1 hq.1)) (big_of (sq_mul hp.2 hq.2))
  rw [e] at l
  push_cast at l
  have m1 : mulOk p.num q.num = true := mOk hp hq _ _ hp.1 hq.1
  have m2 : mulOk (p.den : Int) (q.den : Int) = true := mOk hp hq _ _ (by rw [Int.natAbs_natCast]; exact hp.2) (by rw [Int.natAbs_natCast]; exact hq.2)
  simp only [f_product, b_product, runF_eq]
  simp only [List.map_cons, List.map_nil, List.length_cons, List.length_nil, List.replicate, List.cons_append, List.nil_append, sRet_eq, eB_eq, aC_eq, aN_eq, eO_eq, eC_eq, eV_zero, eV_succ, bd_ret, bd_bd, ix_sh0, ix_sh1, bMul_int, m1, m2, if_true, fix2, l]
theorem r_over (h0 : 0 < q) : f_over [.d (sh p), .d (sh q)] = ret (.d (sh (p / q))) := by
  have qn : 0 < q.num := by
    have := (Rat.lt_iff 0 q).mp h0
    simpa using this
  obtain ⟨n, hn⟩ : ∃ n : Nat, q.num = (n : Int) := ⟨q.num.toNat, by omega⟩
  have n0 : 0 < n := by omega
  have nb : n < 2 ^ 1000 := by have := hq.1; omega
  have e : mkRat (p.num * (q.den : Int)) (p.den * n) = p / q := by
    rw [Rat.mkRat_eq_div]
    have e1 := rat_eq p
    have e2 := rat_eq q
    have := den0 p
    have := den0 q
    have hn' : (q.num : Rat) = ((n : Nat) : Rat) := by rw [hn]; rfl
    have : ((n : Nat) : Rat) ≠ 0 := by
      have : n ≠ 0 := by omega
      exact_mod_cast this
    rw [hn'] at e2
    push_cast
    grind
  have l := r_lowest (a := p.num * (q.den : Int)) (b := p.den * n) (Nat.mul_pos p.den_pos n0) (by rw [Int.natAbs_mul, Int.natAbs_natCast]; exact big_of (sq_mul hp.1 hq.2)) (big_of (sq_mul hp.2 nb))
  rw [e] at l
  push_cast at l
  rw [← hn] at l
  have m1 : mulOk p.num (q.den : Int) = true := mOk hp hq _ _ hp.1 (by rw [Int.natAbs_natCast]; exact hq.2)
  have m2 : mulOk (p.den : Int) q.num = true := mOk hp hq _ _ (by rw [Int.natAbs_natCast]; exact hp.2) hq.1
  simp only [f_over, b_over, runF_eq]
  simp only [List.map_cons, List.map_nil, List.length_cons, List.length_nil, List.replicate, List.cons_append, List.nil_append, sRet_eq, eB_eq, aC_eq, aN_eq, eO_eq, eC_eq, eV_zero, eV_succ, bd_ret, bd_bd, ix_sh0, ix_sh1, bMul_int, m1, m2, if_true, fix2, l]
theorem r_less : f_less [.d (sh p), .d (sh q)] = ret (.d (sh (p - q))) := by
  have e : mkRat (p.num * (q.den : Int) - q.num * (p.den : Int)) (p.den * q.den) = p - q := by
    rw [Rat.mkRat_eq_div]
    have := rat_eq p
    have := rat_eq q
    have := den0 p
    have := den0 q
    push_cast
    grind
  have s1 := sq_mul hp.1 hq.2
  have s2 := sq_mul hq.1 hp.2
  have nb : (p.num * (q.den : Int) - q.num * (p.den : Int)).natAbs < big := by
    have a1 : (p.num * (q.den : Int)).natAbs < 2 ^ 2000 := by rw [Int.natAbs_mul, Int.natAbs_natCast]; exact s1
    have a2 : (q.num * (p.den : Int)).natAbs < 2 ^ 2000 := by rw [Int.natAbs_mul, Int.natAbs_natCast]; exact s2
    have a3 : (2 : Nat) ^ 2000 + 2 ^ 2000 ≤ big := by
      have : (2 : Nat) ^ 2001 ≤ 2 ^ 3000 := Nat.pow_le_pow_right (by omega) (by omega)
      have e : (2 : Nat) ^ 2001 = 2 ^ 2000 * 2 := Nat.pow_succ ..
      unfold big
      omega
    generalize (2 : Nat) ^ 2000 = K at *
    omega
  have l := r_lowest (a := p.num * (q.den : Int) - q.num * (p.den : Int)) (b := p.den * q.den) (Nat.mul_pos p.den_pos q.den_pos) nb (big_of (sq_mul hp.2 hq.2))
  rw [e] at l
  push_cast at l
  have m1 : mulOk p.num (q.den : Int) = true := mOk hp hq _ _ hp.1 (by rw [Int.natAbs_natCast]; exact hq.2)
  have m2 : mulOk q.num (p.den : Int) = true := mOk hp hq _ _ hq.1 (by rw [Int.natAbs_natCast]; exact hp.2)
  have m3 : mulOk (p.den : Int) (q.den : Int) = true := mOk hp hq _ _ (by rw [Int.natAbs_natCast]; exact hp.2) (by rw [Int.natAbs_natCast]; exact hq.2)
  simp only [f_less, b_less, runF_eq]
  simp only [List.map_cons, List.map_nil, List.length_cons, List.length_nil, List.replicate, List.cons_append, List.nil_append, sRet_eq, eB_eq, aC_eq, aN_eq, eO_eq, eC_eq, eV_zero, eV_succ, bd_ret, bd_bd, ix_sh0, ix_sh1, bMul_int, m1, m2, m3, if_true, bSub_int, fix2, l]
theorem r_is_less : f_is_less [.d (sh p), .d (sh q)] = ret (.d (.bool (decide (p < q)))) := by
  have m1 : mulOk p.num (q.den : Int) = true := mOk hp hq _ _ hp.1 (by rw [Int.natAbs_natCast]; exact hq.2)
  have m2 : mulOk q.num (p.den : Int) = true := mOk hp hq _ _ hq.1 (by rw [Int.natAbs_natCast]; exact hp.2)
  have e : decide (p.num * (q.den : Int) < q.num * (p.den : Int)) = decide (p < q) := by
    rw [Bool.eq_iff_iff, decide_eq_true_eq, decide_eq_true_eq, Rat.lt_iff]
  simp only [f_is_less, b_is_less, runF_eq]
  simp only [List.map_cons, List.map_nil, List.length_cons, List.length_nil, List.replicate, List.cons_append, List.nil_append, sRet_eq, eB_eq, aC_eq, aN_eq, eO_eq, eC_eq, eV_zero, eV_succ, bd_ret, bd_bd, ix_sh0, ix_sh1, bMul_int, m1, m2, if_true, bLt_int, e]
end
theorem sh_inj {p q : Rat} (h : sh p = sh q) : p = q := by
  unfold sh at h
  injection h with h
  injection h with h1 h2
  injection h2 with h2 _
  injection h1 with h1
  injection h2 with h2
  exact Rat.ext h1 (by exact_mod_cast h2)

/-! ### attributes, methods -/
theorem ins_at {k c : Nat} {st : Store} {fs : List (Str × Val)} (h : st[k]? = some (.ins c fs)) : insOf c (.o k) st = .ok (k, fs) st := by
  show (match st[k]? with | some (.ins d fs) => if d = c then R.ok (k, fs) st else .bad | _ => .bad) = _
  rw [h]
  dsimp only
  rw [if_pos rfl]
theorem att_get {k c : Nat} {f : Str} {o : E} {loc : Loc} {st : Store} {fs : List (Str × Val)} {v : Val} (ho : o loc = ret (.o k)) (h : st[k]? = some (.ins c fs)) (hl : fs.lookup f = some v) : eAtt c f o loc st = .ok v st := by
  unfold eAtt
  rw [ho, bd_ret, bd_eq (ins_at h)]
  dsimp only
  rw [hl]
  rfl
theorem att_set {k c : Nat} {f : Str} {o : E} {loc : Loc} {st : Store} {fs : List (Str × Val)} {v : Val} (ho : o loc = ret (.o k)) (h : st[k]? = some (.ins c fs)) (hl : fs.length < 900) : gAtt c f o v loc st = .ok loc (st.set k (.ins c (putA f v fs))) := by
  unfold gAtt
  rw [ho, bd_ret, bd_eq (ins_at h)]
  dsimp only
  rw [if_pos hl]
theorem atf_d {k c : Nat} {f : Str} {o : E} {loc : Loc} {st : Store} {fs : List (Str × Val)} {x : D} (ho : o loc = ret (.o k)) (h : st[k]? = some (.ins c fs)) (hl : fs.lookup f = some (.d x)) : eAtF c f o loc st = .ok (.d x) st := by
  unfold eAtF
  rw [ho, bd_ret, bd_eq (ins_at h)]
  dsimp only
  rw [hl]
  rfl
theorem atf_o {k c j : Nat} {f : Str} {o : E} {loc : Loc} {st : Store} {fs : List (Str × Val)} {ds : List D} (ho : o loc = ret (.o k)) (h : st[k]? = some (.ins c fs)) (hl : fs.lookup f = some (.o j)) (hj : st[j]? = some (.lst (ds.map .d))) (hd : ds.length ≤ lim) (hne : j ≠ k) : eAtF c f o loc st = .ok (.d (.list ds)) ((st.set j .gone).set k (.ins c (putA f (.d (.list ds)) fs))) := by
  unfold eAtF
  rw [ho, bd_ret, bd_eq (ins_at h)]
  dsimp only
  rw [hl]
  show (match st[j]? with | some (.lst xs) => (match toDs xs with | some ds => if ds.length ≤ lim ∧ j ≠ k then R.ok (Val.d (.list ds)) ((st.set j .gone).set k (.ins c (putA f (.d (.list ds)) fs))) else .bad | none => .bad) | _ => .bad) = _
  rw [hj]
  dsimp only
  have := toDs_map (fun x : D => x) ds
  rw [List.map_id'] at this
  rw [show (ds.map Val.d) = ds.map (fun p => Val.d ((fun x : D => x) p)) from rfl, this]
  dsimp only
  rw [if_pos ⟨hd, hne⟩]
theorem met_at {k c : Nat} {m : Str} {f : List Val → M Val} {o : E} {as : A} {loc : Loc} {st : Store} {fs : List (Str × Val)} {vs : List Val} (ho : o loc = ret (.o k)) (h : st[k]? = some (.ins c fs)) (hm : fs.lookup m = none) (ha : as loc = ret vs) : eMet c m f o as loc st = f (.o k :: vs) st := by
  unfold eMet
  rw [ho, bd_ret, bd_eq (ins_at h)]
  dsimp only
  rw [hm]
  show (ite (true = true) (bd (as loc) fun vs => f (.o k :: vs)) die : M Val) st = _
  rw [if_pos rfl, ha, bd_ret]
/-! ### comprehensions that read the store and leave it -/
theorem compL_same {α : Type} {body : Val → M (Option Val)} {st : Store} (enc : α → Val) (h : α → Option Val) : ∀ (L : List α), (∀ p ∈ L, body (enc p) st = .ok (h p) st) → compL body (L.map enc) st = .ok (L.filterMap h) st
  | [], _ => rfl
  | p :: L, hp => by
    show bd (body (enc p)) _ st = _
    rw [bd_eq (hp p List.mem_cons_self), bd_eq (compL_same enc h L fun q hq => hp q (List.mem_cons_of_mem _ hq))]
    show R.ok (consO (h p) (L.filterMap h)) st = _
    cases e : h p with
    | none => rw [List.filterMap_cons_none e]; rfl
    | some y => rw [List.filterMap_cons_some e]; rfl
theorem eLc_mapS {α : Type} {it : I} {g : G} {t : Tst} {e : E} {vs : List Nat} {loc : Loc} {st st0 : Store} (L : List α) (enc : α → Val) (h : α → D) (hi : it loc st0 = .ok (L.map enc) st) (hl : L.length ≤ lim)
    (hb : ∀ p ∈ L, cBody g t e (wip loc vs) (enc p) st = .ok (some (.d (h p))) st) : eLc it g t e vs loc st0 = .ok (.d (.list (L.map h))) st := by
  unfold eLc
  rw [bd_eq hi, if_pos (by rw [List.length_map]; exact hl), bd_eq (noex_eq (compL_same enc (fun p => some (.d (h p))) L hb)), filterMap_some, bLst_map h L hl]
  rfl
theorem eLc_filterS {α : Type} {it : I} {g : G} {t : Tst} {e : E} {vs : List Nat} {loc : Loc} {st st0 : Store} (L : List α) (enc : α → Val) (p : α → Bool) (h : α → D) (hi : it loc st0 = .ok (L.map enc) st) (hl : L.length ≤ lim)
    (hb : ∀ x ∈ L, cBody g t e (wip loc vs) (enc x) st = .ok (if p x = true then some (.d (h x)) else none) st) : eLc it g t e vs loc st0 = .ok (.d (.list ((L.filter p).map h))) st := by
  have := List.length_filter_le p L
  unfold eLc
  rw [bd_eq hi, if_pos (by rw [List.length_map]; exact hl), bd_eq (noex_eq (compL_same enc (fun x => if p x = true then some (.d (h x)) else none) L hb)), filterMap_if p (fun x => Val.d (h x)), bLst_map h (L.filter p) (by omega)]
  rfl
/-! ### rows of shares -/
def eRow (row : List Rat) : D := .list (row.map sh)
def eRows (rows : List (List Rat)) : D := .list (rows.map eRow)
/-- small shares -/
def Ti (q : Rat) : Prop := q.num.natAbs < 2 ^ 80 ∧ q.den < 2 ^ 80
theorem Ti.sq {q : Rat} (h : Ti q) : Sq q := ⟨Nat.lt_of_lt_of_le h.1 (Nat.pow_le_pow_right (by omega) (by omega)), Nat.lt_of_lt_of_le h.2 (Nat.pow_le_pow_right (by omega) (by omega))⟩
theorem mk_bd (a : Int) {b : Nat} (hb : 0 < b) : (mkRat a b).num.natAbs ≤ a.natAbs ∧ (mkRat a b).den ≤ b := by
  have hd : (b : Int) ≠ 0 := by omega
  have e : ((b : Int) : Rat) * mkRat a b = (a : Rat) := by
    rw [Rat.mkRat_eq_div]
    have : ((b : Nat) : Rat) ≠ 0 := by
      have : b ≠ 0 := by omega
      exact_mod_cast this
    have e2 : (((b : Nat) : Int) : Rat) = ((b : Nat) : Rat) := rfl
    rw [e2]
    grind
  have := Lp.whole_bd hd e
  exact ⟨this.2, by simpa using this.1⟩
theorem Ti.mul {p q : Rat} (hp : Ti p) (hq : Ti q) : Sq (p * q) := by
  have e : mkRat (p.num * q.num) (p.den * q.den) = p * q := by
    rw [Rat.mkRat_eq_div]
    have := rat_eq p
    have := rat_eq q
    have := den0 p
    have := den0 q
    push_cast
    grind
  have b := mk_bd (p.num * q.num) (Nat.mul_pos p.den_pos q.den_pos)
  rw [e, Int.natAbs_mul] at b
  have k : ∀ x y : Nat, x < 2 ^ 80 → y < 2 ^ 80 → x * y < 2 ^ 1000 := fun x y hx hy => by
    have h1 : x * y ≤ 2 ^ 80 * 2 ^ 80 := Nat.mul_le_mul (Nat.le_of_lt hx) (Nat.le_of_lt hy)
    rw [← Nat.pow_add] at h1
    exact Nat.lt_of_le_of_lt h1 (Nat.pow_lt_pow_right (by omega) (by omega))
  exact ⟨Nat.lt_of_le_of_lt b.1 (k _ _ hp.1 hq.1), Nat.lt_of_le_of_lt b.2 (k _ _ hp.2 hq.2)⟩
theorem zip2_sh : ∀ a b : List Rat, zip2 (a.map sh) (b.map sh) = (a.zip b).map fun p => Val.d (.tuple [sh p.1, sh p.2])
  | [], b => by simp [zip2]
  | _ :: _, [] => by simp [zip2]
  | x :: a, y :: b => by
    show Val.d (.tuple [sh x, sh y]) :: zip2 (a.map sh) (b.map sh) = _
    rw [zip2_sh a b]
    rfl
theorem ix_row {row : List Rat} {c : Nat} (h : c < row.length) : bIx (.d (eRow row)) (.d (.int (c : Int))) = ret (.d (sh (Lp.ga row c))) := by
  have : atI (row.map sh) (c : Int) = some (sh (Lp.ga row c)) := atI_nat rfl (by rw [List.getElem?_map, List.getElem?_eq_getElem h]; simp [Lp.ga, List.getD_eq_getElem?_getD, h])
  show bd (oget (atI (row.map sh) (c : Int))) _ = _
  rw [this]
  rfl
theorem ga_mem {row : List Rat} {c : Nat} (h : c < row.length) : Lp.ga row c ∈ row := by
  unfold Lp.ga
  rw [List.getD_eq_getElem?_getD, List.getElem?_eq_getElem h]
  exact List.getElem_mem h
theorem r_cleared {row head : List Rat} {c : Nat} (hc : c < row.length) (hl : row.length ≤ 1000) (h1 : ∀ x ∈ row, Ti x) (h2 : ∀ x ∈ head, Ti x) : f_cleared [.d (eRow row), .d (eRow head), .d (.int (c : Int))] = ret (.d (eRow (Lp.clr row head c))) := by
  have e : cleared_C1 [some (.d (eRow row)), some (.d (eRow head)), some (.d (.int (c : Int))), none, none] = ret (.d (eRow (Lp.clr row head c))) := by
    rw [cleared_C1_eq]
    have := eLc_map (it := iCall kZip2 (aC (eV 0) (aC (eV 1) aN))) (g := gT 2 (gsC (gN 3) (gsC (gN 4) gsN))) (t := tTr) (e := eB (fixN 2 f_less) (aC (eV 3) (aC (eB (fixN 2 f_product) (aC (eO bIx (eV 0) (eV 2)) (aC (eV 4) aN))) aN))) (vs := [3, 4]) (loc := [some (.d (eRow row)), some (.d (eRow head)), some (.d (.int (c : Int))), none, none]) (row.zip head) (fun p => Val.d (.tuple [sh p.1, sh p.2])) (fun p => sh (p.1 - Lp.ga row c * p.2)) (by
        have : kZip2 [.d (eRow row), .d (eRow head)] = ret ((row.zip head).map fun p => Val.d (.tuple [sh p.1, sh p.2])) := by rw [← zip2_sh]; rfl
        simp only [iCall_eq, aC_eq, aN_eq, eV_zero, eV_succ, bd_ret, this]) (by rw [List.length_zip, lim_eq]; omega) (fun p hp => by
        have m := List.of_mem_zip (a := p.1) (b := p.2) hp
        have tc := h1 _ (ga_mem hc)
        have pr := r_product tc.sq (h2 _ m.2).sq
        have ls := r_less (h1 _ m.1).sq (tc.mul (h2 _ m.2))
        simp only [cBody_eq, wip_cons, wip_nil, gT_eq, List.length_cons, List.length_nil, if_true, List.map_cons, List.map_nil, gsC_eq, gsN_eq, gN_eq, bd_ret, tTr_eq, List.set_cons_succ, List.set_cons_zero, eB_eq, aC_eq, aN_eq, eO_eq, eV_zero, eV_succ, bd_bd, ix_row hc, fix2, pr, ls])
    rw [this]
    show ret (Val.d (.list _)) = ret (.d (.list _))
    congr 3
    unfold Lp.clr
    rw [List.map_map]
    rfl
  have el : List.map some [Val.d (eRow row), .d (eRow head), .d (.int (c : Int))] ++ List.replicate (5 - [Val.d (eRow row), .d (eRow head), .d (.int (c : Int))].length) none = [some (.d (eRow row)), some (.d (eRow head)), some (.d (.int (c : Int))), none, none] := rfl
  simp only [f_cleared, b_cleared, runF_eq]
  rw [el, sRet_eq, e]
  rfl
/-! ### a table of the store -/
def nmO (names : List Nat) : Ob := .lst (names.map fun (i : Nat) => Val.d (.int (i : Int)))
def Pre (s0 st : Store) : Prop := ∃ xs, st = s0 ++ xs
theorem Pre.set {s0 st : Store} (h : Pre s0 st) {k : Nat} (hk : s0.length ≤ k) (o : Ob) : Pre s0 (st.set k o) := by
  obtain ⟨xs, rfl⟩ := h
  exact ⟨xs.set (k - s0.length) o, by rw [List.set_append_right _ _ hk]⟩
theorem Pre.refl (s : Store) : Pre s s := ⟨[], by simp⟩
theorem Pre.trans {a b c : Store} (h : Pre a b) (h' : Pre b c) : Pre a c := by
  obtain ⟨x, rfl⟩ := h
  obtain ⟨y, rfl⟩ := h'
  exact ⟨x ++ y, by simp⟩
theorem ga_neg {q : Rat} : decide (q.num < 0) = decide (q < 0) := by
  rw [Bool.eq_iff_iff, decide_eq_true_eq, decide_eq_true_eq, Rat.lt_iff]
  simp
theorem ga_pos {q : Rat} : decide (0 < q.num) = decide (0 < q) := by
  rw [Bool.eq_iff_iff, decide_eq_true_eq, decide_eq_true_eq, Rat.lt_iff]
  simp
/-- a number or None -/
def oV : Option Nat → D
  | none => .none
  | some c => .int (c : Int)
theorem find_head {p : Nat → Bool} : ∀ l : List Nat, (l.filter p).head? = l.find? p
  | [] => rfl
  | x :: l => by
    by_cases h : p x = true
    · rw [List.filter_cons_of_pos h, List.find?_cons_of_pos h]
      rfl
    · rw [List.filter_cons_of_neg h, List.find?_cons_of_neg h, find_head l]
theorem entering_ex {k : Nat} {L : Lp.Lt} {fs : List (Str × Val)} {st : Store} (ho : st[k]? = some (.ins 0 fs)) (hf : fs.lookup ("last" : Str) = some (Val.d (eRow L.last))) (hl : L.last.length ≤ 1000) (h1 : 1 ≤ L.last.length) : f_Table_entering [.o k] st = .ok (.d (oV (Lp.enL L.last))) st := by
  have rg := kRg1_nat (z := (L.last.length : Int) - 1) (n := L.last.length - 1) (by omega) (by omega)
  have at1 : ∀ l : Loc, eAtt 0 "last" (eV 0) (some (.o k) :: l) st = .ok (.d (eRow L.last)) st := fun l => att_get rfl ho hf
  have hi : iCall kRg1 (aC (eO bSub (eB bLen (aC (eAtt 0 "last" (eV 0)) aN)) (eC (.int 1))) aN) [some (.o k), none, none] st = .ok ((List.range (L.last.length - 1)).map fun (i : Nat) => Val.d (.int (0 + (i : Int)))) st := by
    rw [iCall_eq, aC_eq, eO_eq, eB_eq, aC_eq]
    simp only [bd_bd]
    rw [bd_eq (at1 _)]
    have hlen : bLen [.d (eRow L.last)] = ret (.d (.int (L.last.length : Int))) := by
      show ret (vI (L.last.map sh).length) = _
      rw [List.length_map]
      rfl
    simp only [aN_eq, bd_ret, hlen, eC_eq, bSub_int]
    rw [rg]
    rfl
  have c1 : Table_entering_C1 [some (.o k), none, none] st = .ok (.d (.list (((List.range (L.last.length - 1)).filter fun j => decide (Lp.ga L.last j < 0)).map fun (i : Nat) => PyData.int (i : Int)))) st := by
    rw [Table_entering_C1_eq]
    refine eLc_filterS (List.range (L.last.length - 1)) (fun (i : Nat) => Val.d (.int (0 + (i : Int)))) _ _ hi (by rw [List.length_range, lim_eq]; omega) fun j hj => ?_
    have hj' := List.mem_range.mp hj
    have hz : (0 : Int) + (j : Int) = (j : Int) := by omega
    rw [hz]
    simp only [cBody_eq, wip_cons, wip_nil, gN_eq, bd_ret, List.set_cons_succ, List.set_cons_zero, tV_eq, eO_eq, bd_bd]
    rw [bd_eq (at1 _)]
    simp only [eV_zero, eV_succ, eC_eq, bd_ret, ix_row (show j < L.last.length by omega), ix_sh0, bLt_int, asB_eq, ga_neg]
    cases decide (Lp.ga L.last j < 0) <;> rfl
  have fh := find_head (p := fun j => decide (Lp.ga L.last j < 0)) (List.range (L.last.length - 1))
  have el : List.map some [Val.o k] ++ List.replicate (3 - [Val.o k].length) none = [some (.o k), none, none] := rfl
  simp only [f_Table_entering, b_Table_entering, runF_eq]
  rw [el, sSeq_eq, sAsg_eq, bd_bd, bd_bd, bd_eq c1]
  simp only [gN_eq, bd_ret, List.set_cons_succ, List.set_cons_zero]
  have en : Lp.enL L.last = ((List.range (L.last.length - 1)).filter fun j => decide (Lp.ga L.last j < 0)).head? := fh.symm
  rw [en]
  generalize ((List.range (L.last.length - 1)).filter fun j => decide (Lp.ga L.last j < 0)) = F
  cases F with
  | nil =>
    have q : eqD (.list []) (.list []) = ret true := by rw [eqD_eq (show PySem.SeqAt.shaped (.list []) = true from shaped_ints []) (show PySem.SeqAt.shaped (.list []) = true from shaped_ints [])]; rfl
    simp only [List.map_nil, sRet_eq, eIf_eq, tV_eq, eO_eq, eV_zero, eV_succ, eB_eq, aN_eq, bd_ret, bLst_eq0, bNe_d, q, Bool.not_true, asB_eq, Bool.false_eq_true, if_false, eC_eq, bd_bd]
    rfl
  | cons a F =>
    have q : eqD (.list ((a :: F).map fun (i : Nat) => PyData.int (i : Int))) (.list []) = ret false := by
      have e : ((a :: F).map fun (i : Nat) => PyData.int (i : Int)) = intsD ((a :: F).map fun (i : Nat) => (i : Int)) := by simp [intsD]
      rw [e, eqD_eq (shaped_ints _) (show PySem.SeqAt.shaped (.list []) = true from shaped_ints [])]
      rfl
    have i0 : bIx (.d (.list ((a :: F).map fun (i : Nat) => PyData.int (i : Int)))) (.d (.int 0)) = ret (.d (.int (a : Int))) := by rw [bIx_lst, List.map_cons, atI_zero]; rfl
    simp only [sRet_eq, eIf_eq, tV_eq, eO_eq, eV_zero, eV_succ, eB_eq, aN_eq, bd_ret, bLst_eq0, bNe_d, q, Bool.not_false, asB_eq, if_true, eC_eq, bd_bd, i0]
    rfl

end Y
end
section
set_option Elab.async false
set_option linter.all false
set_option maxRecDepth 10000
set_option exponentiation.threshold 5000
namespace Y
open PySem (PyData Str)
/-! ### steps with the store at hand -/
def rb {α β : Type} (r : R α) (f : α → Store → R β) : R β := match r with
  | .ok a s => f a s
  | .ex c s => .ex c s
  | .bad => .bad
theorem bd_ap {α β : Type} (m : M α) (f : α → M β) (st : Store) : bd m f st = rb (m st) f := rfl
theorem rb_ok {α β : Type} (a : α) (s : Store) (f : α → Store → R β) : rb (.ok a s) f = f a s := rfl
theorem ite_ap {α : Type} (c : Prop) [Decidable c] (a b : M α) (st : Store) : (if c then a else b) st = if c then a st else b st := by split <;> rfl
/-! ### a table of the store -/
def flds (n : Nat) (rv : Val) (last : List Rat) (nv : Val) : List (Str × Val) := [("many", .d (.int (n : Int))), ("rows", rv), ("last", .d (eRow last)), ("names", nv)]
def nmD (names : List Nat) : List D := names.map fun (i : Nat) => PyData.int (i : Int)
/-- the rows are an own list, or data -/
def RvO (s0 : Store) (k kb : Nat) (rows : List (List Rat)) (st : Store) (rv : Val) : Prop := rv = .d (eRows rows) ∨ ∃ j, rv = .o j ∧ s0.length ≤ j ∧ st[j]? = some (.lst ((rows.map eRow).map .d)) ∧ j ≠ k ∧ j ≠ kb
structure TG (s0 : Store) (n k kb : Nat) (L : Lp.Lt) (rv : Val) (st : Store) : Prop where
  o : st[k]? = some (.ins 0 (flds n rv L.last (.o kb)))
  v : RvO s0 k kb L.rows st rv
  b : st[kb]? = some (.lst ((nmD L.names).map .d))
  ne : k ≠ kb
  p : Pre s0 st
  lk : s0.length ≤ k
  lb : s0.length ≤ kb
theorem lt_of_some {st : Store} {k : Nat} {x : Ob} (h : st[k]? = some x) : k < st.length := (List.getElem?_eq_some_iff.mp h).1
theorem shaped_sh (q : Rat) : PySem.SeqAt.shaped (sh q) = true := rfl
theorem eqv_sh (p q : Rat) : PyData.eqv (sh p) (sh q) = decide (p = q) := by
  have e : PyData.eqv (sh p) (sh q) = ((p.num == q.num) && (((p.den : Int) == (q.den : Int)) && true)) := by
    unfold sh
    simp [PyData.eqv, PyData.eqvAll]
  rw [e, Bool.eq_iff_iff]
  simp only [Bool.and_true, Bool.and_eq_true, beq_iff_eq, decide_eq_true_eq]
  constructor
  · rintro ⟨h1, h2⟩
    exact Rat.ext h1 (by exact_mod_cast h2)
  · rintro rfl
    exact ⟨rfl, rfl⟩
theorem Ti.div {p q : Rat} (hp : Ti p) (hq : Ti q) (h0 : 0 < q) : Sq (p / q) := by
  have qn : 0 < q.num := by
    have := (Rat.lt_iff 0 q).mp h0
    simpa using this
  obtain ⟨n, hn⟩ : ∃ n : Nat, q.num = (n : Int) := ⟨q.num.toNat, by omega⟩
  have n0 : 0 < n := by omega
  have nb : n < 2 ^ 80 := by have := hq.1; omega
  have e : mkRat (p.num * (q.den : Int)) (p.den * n) = p / q := by
    rw [Rat.mkRat_eq_div]
    have e1 := rat_eq p
    have e2 := rat_eq q
    have := den0 p
    have := den0 q
    have hn' : (q.num : Rat) = ((n : Nat) : Rat) := by rw [hn]; rfl
    have : ((n : Nat) : Rat) ≠ 0 := by
      have : n ≠ 0 := by omega
      exact_mod_cast this
    rw [hn'] at e2
    push_cast
    grind
  have b := mk_bd (p.num * (q.den : Int)) (Nat.mul_pos p.den_pos n0)
  rw [e, Int.natAbs_mul, Int.natAbs_natCast] at b
  have k : ∀ x y : Nat, x < 2 ^ 80 → y < 2 ^ 80 → x * y < 2 ^ 1000 := fun x y hx hy => by
    have h1 : x * y ≤ 2 ^ 80 * 2 ^ 80 := Nat.mul_le_mul (Nat.le_of_lt hx) (Nat.le_of_lt hy)
    rw [← Nat.pow_add] at h1
    exact Nat.lt_of_le_of_lt h1 (Nat.pow_lt_pow_right (by omega) (by omega))
  exact ⟨Nat.lt_of_le_of_lt b.1 (k _ _ hp.1 hq.2), Nat.lt_of_le_of_lt b.2 (k _ _ hp.2 nb)⟩
theorem ix_last {row : List Rat} (h : 0 < row.length) : bIx (.d (eRow row)) (.d (.int (-1))) = ret (.d (sh (Lp.ga row (row.length - 1)))) := by
  have e : atI (row.map sh) (-1) = some (sh (Lp.ga row (row.length - 1))) := by
    unfold atI ixN
    rw [if_neg (by omega), if_pos (by rw [List.length_map]; omega)]
    have : ((-1 : Int) + ((row.map sh).length : Int)).toNat = row.length - 1 := by rw [List.length_map]; omega
    rw [this]
    show (row.map sh)[row.length - 1]? = _
    rw [List.getElem?_map, List.getElem?_eq_getElem (by omega)]
    have h' : row.length - 1 < row.length := by omega
    simp only [Lp.ga, List.getD_eq_getElem?_getD, List.getElem?_eq_getElem h', Option.getD_some, Option.map_some]
  show bd (oget (atI (row.map sh) (-1))) _ = _
  rw [e]
  rfl
theorem ix_nm {names : List Nat} {kb i : Nat} {st : Store} (h : st[kb]? = some (.lst ((nmD names).map .d))) (hi : i < names.length) : bIx (.o kb) (.d (.int (i : Int))) st = .ok (.d (.int ((names.getD i 0 : Nat) : Int))) st := by
  show (match st[kb]? with | some (.lst xs) => (bd (oget (atI xs (i : Int))) ret) st | _ => .bad) = _
  rw [h]
  dsimp only
  have : atI ((nmD names).map Val.d) (i : Int) = some (.d (.int ((names.getD i 0 : Nat) : Int))) := atI_nat rfl (by
    unfold nmD
    rw [List.getElem?_map, List.getElem?_map, List.getElem?_eq_getElem hi]
    simp [List.getD_eq_getElem?_getD, hi])
  rw [this]
  rfl
/-! ### leaving -/
def fD : Option (Rat × Nat × Nat) → D
  | none => .none
  | some (q, v, a) => .tuple [sh q, .int (v : Int), .int (a : Int)]
theorem ix_f0 (q : Rat) (v a : Nat) : bIx (.d (fD (some (q, v, a)))) (.d (.int 0)) = ret (.d (sh q)) := rfl
theorem ix_f1 (q : Rat) (v a : Nat) : bIx (.d (fD (some (q, v, a)))) (.d (.int 1)) = ret (.d (.int (v : Int))) := rfl
theorem ix_f2 (q : Rat) (v a : Nat) : bIx (.d (fD (some (q, v, a)))) (.d (.int 2)) = ret (.d (.int (a : Int))) := rfl
theorem bTup_eq3 (a b c : D) : bTup [.d a, .d b, .d c] = ret (.d (.tuple [a, b, c])) := rfl
def SqF (f : Option (Rat × Nat × Nat)) : Prop := ∀ q v a, f = some (q, v, a) → Sq q
section
set_option Elab.async false
variable {k kb c i : Nat} {fs : List (Str × Val)} {names : List Nat} {st : Store} (ho : st[k]? = some (.ins 0 fs)) (hf : fs.lookup ("names" : Str) = some (.o kb)) (hb : st[kb]? = some (.lst ((nmD names).map .d))) (hi : i < names.length)
include ho hf hb hi
theorem lv_step {row : List Rat} (hc : c < row.length) (ht : ∀ x ∈ row, Ti x) (f : Option (Rat × Nat × Nat)) (hs : SqF f) (x3 x4 x5 : Option Val) (rest : List (List Rat)) : ∃ f' y5, fBody (gT 2 (gsC (gN 3) (gsC (gN 4) gsN))) Table_leaving_L1 (.d (.tuple [.int (i : Int), eRow row])) [some (.o k), some (.d (.int (c : Int))), some (.d (fD f)), x3, x4, x5] st = .ok (.nx, [some (.o k), some (.d (.int (c : Int))), some (.d (fD f')), some (.d (.int (i : Int))), some (.d (eRow row)), y5]) st ∧ SqF f' ∧ Lp.lvF c names i (row :: rest) f = Lp.lvF c names (i + 1) rest f' := by
  have at1 : ∀ l : Loc, eAtt 0 "names" (eV 0) (some (.o k) :: l) st = .ok (.o kb) st := fun l => att_get rfl ho hf
  have in1 := ix_nm hb hi
  have h0 : 0 < row.length := by omega
  have tl := ht _ (ga_mem (row := row) (c := row.length - 1) (by omega))
  have tc := ht _ (ga_mem hc)
  have ixc := ix_row hc
  have ixl := ix_last h0
  by_cases hp : 0 < Lp.ga row c
  · have ov := r_over tl.sq tc.sq hp
    have sd := tl.div tc hp
    have pos : decide (0 < (Lp.ga row c).num) = true := by rw [ga_pos]; exact decide_eq_true hp
    have nw : SqF (some (Lp.ga row (row.length - 1) / Lp.ga row c, names.getD i 0, i)) := fun q v a e => by
      injection e with e
      injection e with e _
      rw [← e]
      exact sd
    have nwD : fD (some (Lp.ga row (row.length - 1) / Lp.ga row c, names.getD i 0, i)) = .tuple [sh (Lp.ga row (row.length - 1) / Lp.ga row c), .int ((names.getD i 0 : Nat) : Int), .int (i : Int)] := rfl
    cases f with
    | none =>
      refine ⟨some (Lp.ga row (row.length - 1) / Lp.ga row c, names.getD i 0, i), some (.d (sh (Lp.ga row (row.length - 1) / Lp.ga row c))), ?_, nw, ?_⟩
      · simp only [fBody_eq, gT_eq, List.length_cons, List.length_nil, if_true, List.map_cons, List.map_nil, gsC_eq, gsN_eq, gN_eq, bd_ret, bd_bd, List.set_cons_succ, List.set_cons_zero, Table_leaving_L1_eq, sIf_eq, sSeq_eq, sAsg_eq, tV_eq, tOrr_eq, eO_eq, eU_eq, eC_eq, eB_eq, aC_eq, aN_eq, eV_zero, eV_succ, ixc, ixl, ix_sh0, bGt_int, asB_eq, pos, bNeg_int, fix2, ov, bIsN_eq, fD, isN, if_true, bd_ap, rb_ok, at1, in1, ret_ap, bTup_eq3, sNil_eq]
      · show (if _ then _ else _) = _
        rw [if_pos hp]
    | some p =>
      obtain ⟨q, v, a⟩ := p
      have sq := hs q v a rfl
      have il := r_is_less sd sq
      have eqs : eqD (sh (Lp.ga row (row.length - 1) / Lp.ga row c)) (sh q) = ret (decide (Lp.ga row (row.length - 1) / Lp.ga row c = q)) := by rw [eqD_eq (shaped_sh _) (shaped_sh _), eqv_sh]
      have hN : isN (.d (fD (some (q, v, a)))) = false := rfl
      have lt : decide (((names.getD i 0 : Nat) : Int) < (v : Int)) = decide (names.getD i 0 < v) := by rw [Bool.eq_iff_iff]; simp
      by_cases hb : Lp.ga row (row.length - 1) / Lp.ga row c < q ∨ (Lp.ga row (row.length - 1) / Lp.ga row c = q ∧ names.getD i 0 < v)
      · refine ⟨some (Lp.ga row (row.length - 1) / Lp.ga row c, names.getD i 0, i), some (.d (sh (Lp.ga row (row.length - 1) / Lp.ga row c))), ?_, nw, ?_⟩
        · by_cases h1 : Lp.ga row (row.length - 1) / Lp.ga row c < q
          · simp only [fBody_eq, gT_eq, List.length_cons, List.length_nil, if_true, List.map_cons, List.map_nil, gsC_eq, gsN_eq, gN_eq, bd_ret, bd_bd, List.set_cons_succ, List.set_cons_zero, Table_leaving_L1_eq, sIf_eq, sSeq_eq, sAsg_eq, tV_eq, tOrr_eq, eO_eq, eU_eq, eC_eq, eB_eq, aC_eq, aN_eq, eV_zero, eV_succ, ixc, ixl, ix_sh0, bGt_int, asB_eq, pos, bNeg_int, fix2, ov, bIsN_eq, hN, ix_f0, il, h1, decide_true, Bool.false_eq_true, if_false, if_true, bd_ap, rb_ok, at1, in1, ret_ap, bTup_eq3, sNil_eq]
            rfl
          · obtain ⟨h2, h3⟩ := hb.resolve_left h1
            have h1' : decide (Lp.ga row (row.length - 1) / Lp.ga row c < q) = false := decide_eq_false h1
            have h2' : decide (Lp.ga row (row.length - 1) / Lp.ga row c = q) = true := decide_eq_true h2
            have h3' : decide (names.getD i 0 < v) = true := decide_eq_true h3
            simp only [fBody_eq, gT_eq, List.length_cons, List.length_nil, if_true, List.map_cons, List.map_nil, gsC_eq, gsN_eq, gN_eq, bd_ret, bd_bd, List.set_cons_succ, List.set_cons_zero, Table_leaving_L1_eq, sIf_eq, sSeq_eq, sAsg_eq, tV_eq, tOrr_eq, tAn_eq, eO_eq, eU_eq, eC_eq, eB_eq, aC_eq, aN_eq, eV_zero, eV_succ, ixc, ixl, ix_sh0, bGt_int, asB_eq, pos, bNeg_int, fix2, ov, bIsN_eq, hN, ix_f0, ix_f1, il, h1', bEq_d, eqs, h2', Bool.false_eq_true, if_false, if_true, bd_ap, rb_ok, at1, in1, ret_ap, bLt_int, lt, h3', bTup_eq3, sNil_eq]
            rfl
        · show (if _ then _ else _) = _
          rw [if_pos hp]
          dsimp only
          rw [if_pos hb]
      · refine ⟨some (q, v, a), some (.d (sh (Lp.ga row (row.length - 1) / Lp.ga row c))), ?_, hs, ?_⟩
        · have h1' : decide (Lp.ga row (row.length - 1) / Lp.ga row c < q) = false := decide_eq_false fun z => hb (Or.inl z)
          by_cases h2 : Lp.ga row (row.length - 1) / Lp.ga row c = q
          · have h2' : decide (Lp.ga row (row.length - 1) / Lp.ga row c = q) = true := decide_eq_true h2
            have h3' : decide (names.getD i 0 < v) = false := decide_eq_false fun z => hb (Or.inr ⟨h2, z⟩)
            simp only [fBody_eq, gT_eq, List.length_cons, List.length_nil, if_true, List.map_cons, List.map_nil, gsC_eq, gsN_eq, gN_eq, bd_ret, bd_bd, List.set_cons_succ, List.set_cons_zero, Table_leaving_L1_eq, sIf_eq, sSeq_eq, sAsg_eq, tV_eq, tOrr_eq, tAn_eq, eO_eq, eU_eq, eC_eq, eB_eq, aC_eq, aN_eq, eV_zero, eV_succ, ixc, ixl, ix_sh0, bGt_int, asB_eq, pos, bNeg_int, fix2, ov, bIsN_eq, hN, ix_f0, ix_f1, il, h1', bEq_d, eqs, h2', Bool.false_eq_true, if_false, if_true, bd_ap, rb_ok, at1, in1, ret_ap, bLt_int, lt, h3', bTup_eq3, sNil_eq]
          · have h2' : decide (Lp.ga row (row.length - 1) / Lp.ga row c = q) = false := decide_eq_false h2
            simp only [fBody_eq, gT_eq, List.length_cons, List.length_nil, if_true, List.map_cons, List.map_nil, gsC_eq, gsN_eq, gN_eq, bd_ret, bd_bd, List.set_cons_succ, List.set_cons_zero, Table_leaving_L1_eq, sIf_eq, sSeq_eq, sAsg_eq, tV_eq, tOrr_eq, tAn_eq, eO_eq, eU_eq, eC_eq, eB_eq, aC_eq, aN_eq, eV_zero, eV_succ, ixc, ixl, ix_sh0, bGt_int, asB_eq, pos, bNeg_int, fix2, ov, bIsN_eq, hN, ix_f0, ix_f1, il, h1', bEq_d, eqs, h2', Bool.false_eq_true, if_false, if_true, bd_ap, rb_ok, at1, in1, ret_ap, bTup_eq3, sNil_eq]
        · show (if _ then _ else _) = _
          rw [if_pos hp]
          dsimp only
          rw [if_neg hb]
  · have pos : decide (0 < (Lp.ga row c).num) = false := by rw [ga_pos]; exact decide_eq_false hp
    refine ⟨f, x5, ?_, hs, ?_⟩
    · simp only [fBody_eq, gT_eq, List.length_cons, List.length_nil, if_true, List.map_cons, List.map_nil, gsC_eq, gsN_eq, gN_eq, bd_ret, bd_bd, List.set_cons_succ, List.set_cons_zero, Table_leaving_L1_eq, sIf_eq, tV_eq, eO_eq, eC_eq, eV_zero, eV_succ, ixc, ix_sh0, bGt_int, asB_eq, pos, Bool.false_eq_true, if_false, sNil_eq, ret_ap]
    · show (if _ then _ else _) = _
      rw [if_neg hp]
end
theorem lv_loop {k kb c : Nat} {fs : List (Str × Val)} {names : List Nat} {st : Store} (ho : st[k]? = some (.ins 0 fs)) (hf : fs.lookup ("names" : Str) = some (.o kb)) (hb : st[kb]? = some (.lst ((nmD names).map .d))) : ∀ (rest : List (List Rat)) (i : Nat) (f : Option (Rat × Nat × Nat)) (x3 x4 x5 : Option Val), i + rest.length = names.length → (∀ row ∈ rest, c < row.length) → (∀ row ∈ rest, ∀ x ∈ row, Ti x) → SqF f → ∃ y3 y4 y5, forL (fBody (gT 2 (gsC (gN 3) (gsC (gN 4) gsN))) Table_leaving_L1) (enumF i (rest.map eRow)) [some (.o k), some (.d (.int (c : Int))), some (.d (fD f)), x3, x4, x5] st = .ok (.nx, [some (.o k), some (.d (.int (c : Int))), some (.d (fD (Lp.lvF c names i rest f))), y3, y4, y5]) st
  | [], i, f, x3, x4, x5, _, _, _, _ => ⟨x3, x4, x5, rfl⟩
  | row :: rest, i, f, x3, x4, x5, hi, hc, ht, hs => by
    simp only [List.length_cons] at hi
    obtain ⟨f', y5, e, hs', el⟩ := lv_step ho hf hb (show i < names.length by omega) (hc row List.mem_cons_self) (ht row List.mem_cons_self) f hs x3 x4 x5 rest
    obtain ⟨z3, z4, z5, ih⟩ := lv_loop ho hf hb rest (i + 1) f' _ _ y5 (by omega) (fun r hr => hc r (List.mem_cons_of_mem _ hr)) (fun r hr => ht r (List.mem_cons_of_mem _ hr)) hs'
    refine ⟨z3, z4, z5, ?_⟩
    show bd (fBody _ _ _ _) _ st = _
    rw [bd_eq e]
    dsimp only
    rw [ih, el]

/-! ### the rows become data -/
theorem put_rows (n : Nat) (rv v : Val) (last : List Rat) (nv : Val) : putA "rows" v (flds n rv last nv) = flds n v last nv := rfl
theorem put_last (n : Nat) (rv : Val) (last l2 : List Rat) (nv : Val) : putA "last" (.d (eRow l2)) (flds n rv last nv) = flds n rv l2 nv := rfl
theorem put_names (n : Nat) (rv nv v : Val) (last : List Rat) : putA "names" v (flds n rv last nv) = flds n rv last v := rfl
section
set_option Elab.async false
variable {s0 : Store} {n k kb : Nat} {L : Lp.Lt} {rv : Val} {st : Store}
theorem TG.frz (t : TG s0 n k kb L rv st) (hl : L.rows.length ≤ 1000) : ∃ st', (∀ (o : E) (loc : Loc), o loc = ret (.o k) → eAtF 0 "rows" o loc st = .ok (.d (eRows L.rows)) st') ∧ TG s0 n k kb L (.d (eRows L.rows)) st' := by
  rcases t.v with e | ⟨j, e, hj, h1, h2, h3⟩
  · subst e
    exact ⟨st, fun o loc ho => atf_d ho t.o rfl, t⟩
  · subst e
    have lk := lt_of_some t.o
    refine ⟨_, fun o loc ho => atf_o ho t.o rfl h1 (by rw [List.length_map, lim_eq]; omega) h2, ?_⟩
    rw [put_rows]
    refine ⟨?_, Or.inl rfl, ?_, t.ne, (t.p.set hj _).set t.lk _, t.lk, t.lb⟩
    · rw [List.getElem?_set_self (by rw [List.length_set]; exact lk)]
      rfl
    · rw [List.getElem?_set_ne t.ne, List.getElem?_set_ne h3]
      exact t.b
theorem leaving_ex (t : TG s0 n k kb L rv st) {c : Nat} (hl : L.rows.length ≤ 1000) (hn : L.names.length = L.rows.length) (hc : ∀ row ∈ L.rows, c < row.length) (ht : ∀ row ∈ L.rows, ∀ x ∈ row, Ti x) : ∃ st', f_Table_leaving [.o k, .d (.int (c : Int))] st = .ok (.d (oV (Lp.lvL L c))) st' ∧ TG s0 n k kb L (.d (eRows L.rows)) st' := by
  obtain ⟨st', ef, t'⟩ := t.frz hl
  obtain ⟨y3, y4, y5, el⟩ := lv_loop (c := c) t'.o (show (flds n (.d (eRows L.rows)) L.last (.o kb)).lookup ("names" : Str) = some (.o kb) from rfl) t'.b L.rows 0 none none none none (by rw [hn]; omega) hc ht (fun q v a e => by cases e)
  refine ⟨st', ?_, t'⟩
  have e0 : List.map some [Val.o k, .d (.int (c : Int))] ++ List.replicate (6 - [Val.o k, .d (.int (c : Int))].length) none = [some (.o k), some (.d (.int (c : Int))), none, none, none, none] := rfl
  simp only [f_Table_leaving, b_Table_leaving, runF_eq]
  rw [e0]
  simp only [sSeq_eq, sAsg_eq, eC_eq, bd_ret, gN_eq, List.set_cons_succ, List.set_cons_zero, sFor_eq, iCall_eq, aC_eq, bd_bd]
  rw [bd_eq (ef (eV 0) _ rfl)]
  have ek : kEnumS [.d (eRows L.rows)] = ret (enumF 0 (L.rows.map eRow)) := rfl
  simp only [aN_eq, bd_ret, ek]
  have el : _ = _ := el
  simp only [fD] at el
  rw [bd_eq el]
  unfold Lp.lvL
  generalize Lp.lvF c L.names 0 L.rows none = F
  cases F with
  | none => rfl
  | some p => rfl
/-! ### turning round -/
theorem ix_rows {rows : List (List Rat)} {a : Nat} (h : a < rows.length) : bIx (.d (eRows rows)) (.d (.int (a : Int))) = ret (.d (eRow (rows.getD a []))) := by
  have : atI (rows.map eRow) (a : Int) = some (eRow (rows.getD a [])) := atI_nat rfl (by rw [List.getElem?_map, List.getElem?_eq_getElem h]; simp [List.getD_eq_getElem?_getD, h])
  show bd (oget (atI (rows.map eRow) (a : Int))) _ = _
  rw [this]
  rfl
theorem enum_rows : ∀ (rows : List (List Rat)) (i : Nat), enumF i (rows.map eRow) = (rows.zipIdx i).map fun p => Val.d (.tuple [.int (p.2 : Int), eRow p.1])
  | [], i => rfl
  | r :: rows, i => by
    show Val.d (.tuple [.int (i : Int), eRow r]) :: enumF (i + 1) (rows.map eRow) = _
    rw [enum_rows rows (i + 1)]
    rfl
theorem gsub_nm {names : List Nat} {a c : Nat} {o i : E} {loc : Loc} (hb : st[kb]? = some (.lst ((nmD names).map .d))) (ha : a < names.length) (ho : o loc st = .ok (.o kb) st) (hi : i loc = ret (.d (.int (a : Int)))) : gSub o i (.d (.int (c : Int))) loc st = .ok loc (st.set kb (.lst ((nmD (names.set a c)).map .d))) := by
  unfold gSub
  rw [bd_eq ho, hi, bd_ret]
  show (match st[kb]? with | some (.lst xs) => (match ixN xs.length (a : Int) with | some m => R.ok loc (st.set kb (.lst (xs.set m (.d (.int (c : Int)))))) | none => .bad) | _ => .bad) = _
  rw [hb]
  dsimp only
  have : ixN ((nmD names).map Val.d).length (a : Int) = some a := by
    unfold ixN nmD
    rw [List.length_map, List.length_map, if_pos (by omega), if_pos (by omega)]
    simp
  rw [this]
  dsimp only
  unfold nmD
  rw [List.map_set, List.map_set]
theorem turn_ex {m N : Nat} (w : Lp.Wf m N L) (hm : m ≤ 1000) (hN : N ≤ 900) (t : TG s0 n k kb L (.d (eRows L.rows)) st) {a c : Nat} (ha : a < m) (hc : c < N + 1) (hp : 0 < Lp.ga (L.rows.getD a []) c) (ht : ∀ row ∈ L.rows, ∀ x ∈ row, Ti x) (hlt : ∀ x ∈ L.last, Ti x) (hh : ∀ x ∈ Lp.hdL L a c, Ti x) : ∃ st', f_Table_turn_round [.o k, .d (.int (a : Int)), .d (.int (c : Int))] st = .ok (.d .none) st' ∧ TG s0 n k kb (Lp.pvL L a c) (.d (eRows (Lp.pvL L a c).rows)) st' := by
  have har : a < L.rows.length := by rw [w.r]; exact ha
  have rm : L.rows.getD a [] ∈ L.rows := by rw [List.getD_eq_getElem?_getD, List.getElem?_eq_getElem har]; exact List.getElem_mem har
  have rl := w.row ha
  have lk := lt_of_some t.o
  have lkb := lt_of_some t.b
  have tc := ht _ rm _ (ga_mem (row := L.rows.getD a []) (c := c) (by omega))
  have atr : ∀ l : Loc, eAtt 0 "rows" (eV 0) (some (.o k) :: l) st = .ok (.d (eRows L.rows)) st := fun l => att_get rfl t.o rfl
  have c1 : ∀ x3 x4 x5 x6, Table_turn_round_C1 [some (.o k), some (.d (.int (a : Int))), some (.d (.int (c : Int))), x3, x4, x5, x6] st = .ok (.d (eRow (Lp.hdL L a c))) st := fun x3 x4 x5 x6 => by
    rw [Table_turn_round_C1_eq]
    have := eLc_mapS (it := iSeq (eO bIx (eAtt 0 "rows" (eV 0)) (eV 1))) (g := gN 4) (t := tTr) (e := eB (fixN 2 f_over) (aC (eV 4) (aC (eO bIx (eO bIx (eAtt 0 "rows" (eV 0)) (eV 1)) (eV 2)) aN))) (vs := [4]) (loc := [some (.o k), some (.d (.int (a : Int))), some (.d (.int (c : Int))), x3, x4, x5, x6]) (st0 := st) (st := st) (L.rows.getD a []) (fun q => Val.d (sh q)) (fun q => sh (q / Lp.ga (L.rows.getD a []) c)) (by
        rw [iSeq_eq, eO_eq, bd_bd, bd_eq (atr _)]
        simp only [eV_zero, eV_succ, bd_ret, bd_bd, ix_rows har]
        show bd (seqOf (.d (.list ((L.rows.getD a []).map sh)))) _ st = _
        rw [seqOf_lst, bd_ret, List.map_map]
        rfl) (by rw [rl, lim_eq]; omega) (fun q hq => by
        have ov := r_over (ht _ rm _ hq).sq tc.sq hp
        simp only [cBody_eq, wip_cons, wip_nil, gN_eq, bd_ret, List.set_cons_succ, List.set_cons_zero, tTr_eq, if_true, eB_eq, aC_eq, aN_eq, eO_eq, eV_zero, eV_succ, bd_bd]
        rw [bd_eq (atr _)]
        simp only [bd_ret, ix_rows har, ix_row (show c < (L.rows.getD a []).length by omega), fix2, ov, ret_ap])
    rw [this]
    show R.ok (Val.d (.list _)) st = R.ok (Val.d (.list _)) st
    unfold Lp.hdL
    rw [List.map_map]
    rfl
  have hl : (Lp.hdL L a c).length = N + 1 := w.hd ha c
  have c2 : ∀ x4 x5 x6, Table_turn_round_C2 [some (.o k), some (.d (.int (a : Int))), some (.d (.int (c : Int))), some (.d (eRow (Lp.hdL L a c))), x4, x5, x6] st = .ok (.d (eRows (Lp.pvL L a c).rows)) st := fun x4 x5 x6 => by
    rw [Table_turn_round_C2_eq]
    have atf : eAtF 0 "rows" (eV 0) [some (.o k), some (.d (.int (a : Int))), some (.d (.int (c : Int))), some (.d (eRow (Lp.hdL L a c))), x4, x5, x6] st = .ok (.d (eRows L.rows)) st := atf_d rfl t.o rfl
    have := eLc_mapS (it := iCall kEnumS (aC (eAtF 0 "rows" (eV 0)) aN)) (g := gT 2 (gsC (gN 5) (gsC (gN 6) gsN))) (t := tTr) (e := eIf (tV (eO bEq (eV 5) (eV 1))) (eV 3) (eB (fixN 3 f_cleared) (aC (eV 6) (aC (eV 3) (aC (eV 2) aN))))) (vs := [5, 6]) (loc := [some (.o k), some (.d (.int (a : Int))), some (.d (.int (c : Int))), some (.d (eRow (Lp.hdL L a c))), x4, x5, x6]) (st0 := st) (st := st) (L.rows.zipIdx 0) (fun p => Val.d (.tuple [.int (p.2 : Int), eRow p.1])) (fun p => eRow (if p.2 = a then Lp.hdL L a c else Lp.clr p.1 (Lp.hdL L a c) c)) (by
        rw [iCall_eq, aC_eq, bd_bd, bd_eq atf]
        have ek : kEnumS [.d (eRows L.rows)] = ret (enumF 0 (L.rows.map eRow)) := rfl
        simp only [aN_eq, bd_ret, ek, enum_rows, ret_ap]) (by rw [List.length_zipIdx, w.r, lim_eq]; omega) (fun p hp => by
        obtain ⟨row, i⟩ := p
        have hrow : row ∈ L.rows := by
          have := List.mem_zipIdx hp
          rw [this.2.2]
          exact List.getElem_mem _
        have rw_ := w.w row hrow
        simp only [cBody_eq, wip_cons, wip_nil, gT_eq, List.length_cons, List.length_nil, if_true, List.map_cons, List.map_nil, gsC_eq, gsN_eq, gN_eq, bd_ret, List.set_cons_succ, List.set_cons_zero, tTr_eq, eIf_eq, tV_eq, eO_eq, eV_zero, eV_succ, bEq_d, eqD_int, asB_eq, bd_bd]
        by_cases e : i = a
        · subst e
          simp only [beq_self_eq_true, if_true, bd_ret, ret_ap]
        · have : ((i : Int) == (a : Int)) = false := by rw [beq_eq_false_iff_ne]; omega
          have cr := r_cleared (row := row) (head := Lp.hdL L a c) (c := c) (by omega) (by omega) (ht row hrow) hh
          simp only [this, Bool.false_eq_true, if_false, eB_eq, aC_eq, aN_eq, eV_zero, eV_succ, bd_ret, bd_bd, fix3, cr, e, ret_ap])
    rw [this]
    show R.ok (Val.d (.list _)) st = R.ok (Val.d (.list _)) st
    unfold Lp.pvL
    rw [List.map_map]
    rfl
  have cl := r_cleared (row := L.last) (head := Lp.hdL L a c) (c := c) (by rw [w.l]; omega) (by rw [w.l]; omega) hlt hh
  have o1 : (st.set k (.ins 0 (flds n (.d (eRows (Lp.pvL L a c).rows)) L.last (.o kb))))[k]? = some (.ins 0 (flds n (.d (eRows (Lp.pvL L a c).rows)) L.last (.o kb))) := List.getElem?_set_self lk
  generalize hs1 : st.set k (.ins 0 (flds n (.d (eRows (Lp.pvL L a c).rows)) L.last (.o kb))) = st1 at o1
  have s1 : ∀ l : Loc, gAtt 0 "rows" (eV 0) (.d (eRows (Lp.pvL L a c).rows)) (some (.o k) :: l) st = .ok (some (.o k) :: l) st1 := fun l => by
    rw [att_set (k := k) rfl t.o (show _ < 900 from (by show 4 < 900; omega)), put_rows, hs1]
  have l1 : k < st1.length := by rw [← hs1, List.length_set]; exact lk
  have o2 : (st1.set k (.ins 0 (flds n (.d (eRows (Lp.pvL L a c).rows)) (Lp.clr L.last (Lp.hdL L a c) c) (.o kb))))[k]? = some (.ins 0 (flds n (.d (eRows (Lp.pvL L a c).rows)) (Lp.clr L.last (Lp.hdL L a c) c) (.o kb))) := List.getElem?_set_self l1
  generalize hs2 : st1.set k (.ins 0 (flds n (.d (eRows (Lp.pvL L a c).rows)) (Lp.clr L.last (Lp.hdL L a c) c) (.o kb))) = st2 at o2
  have at2 : ∀ l : Loc, eAtt 0 "last" (eV 0) (some (.o k) :: l) st1 = .ok (.d (eRow L.last)) st1 := fun l => att_get rfl o1 rfl
  have s2 : ∀ l : Loc, gAtt 0 "last" (eV 0) (.d (eRow (Lp.clr L.last (Lp.hdL L a c) c))) (some (.o k) :: l) st1 = .ok (some (.o k) :: l) st2 := fun l => by
    rw [att_set (k := k) rfl o1 (show _ < 900 from (by show 4 < 900; omega)), put_last, hs2]
  have b2 : st2[kb]? = some (.lst ((nmD L.names).map .d)) := by
    rw [← hs2, List.getElem?_set_ne t.ne, ← hs1, List.getElem?_set_ne t.ne]
    exact t.b
  have at3 : ∀ l : Loc, eAtt 0 "names" (eV 0) (some (.o k) :: l) st2 = .ok (.o kb) st2 := fun l => att_get rfl o2 rfl
  have s3 : ∀ l : Loc, gSub (eAtt 0 "names" (eV 0)) (eV 1) (.d (.int (c : Int))) (some (.o k) :: some (.d (.int (a : Int))) :: l) st2 = .ok (some (.o k) :: some (.d (.int (a : Int))) :: l) (st2.set kb (.lst ((nmD (L.names.set a c)).map .d))) := fun l => gsub_nm b2 (by rw [w.n]; exact ha) (at3 _) rfl
  refine ⟨st2.set kb (.lst ((nmD (L.names.set a c)).map .d)), ?_, ?_⟩
  · have e0 : List.map some [Val.o k, .d (.int (a : Int)), .d (.int (c : Int))] ++ List.replicate (7 - [Val.o k, .d (.int (a : Int)), .d (.int (c : Int))].length) none = [some (.o k), some (.d (.int (a : Int))), some (.d (.int (c : Int))), none, none, none, none] := rfl
    simp only [f_Table_turn_round, b_Table_turn_round, runF_eq]
    rw [e0]
    simp only [sSeq_eq, sAsg_eq, gN_eq, bd_bd, bd_ap, c1, rb_ok, ret_ap, List.set_cons_succ, List.set_cons_zero, c2, s1, eB_eq, aC_eq, aN_eq, at2, eV_zero, eV_succ, fix3, cl, s2, s3]
  · refine ⟨?_, Or.inl rfl, ?_, t.ne, ?_, t.lk, t.lb⟩
    · rw [List.getElem?_set_ne (Ne.symm t.ne)]
      exact o2
    · rw [List.getElem?_set_self (lt_of_some b2)]
      rfl
    · rw [← hs2, ← hs1]
      exact (((t.p.set t.lk _).set t.lk _).set t.lb _)
end

end Y
end
section
set_option Elab.async false
set_option linter.all false
set_option maxRecDepth 10000
set_option exponentiation.threshold 5000
namespace Y
open PySem (PyData Str)
/-! ### the unknowns that are asked for -/
def solF (n : Nat) (vals : Nat → Rat) : Nat → List Nat → List Rat → List Rat
  | _, [], f => f
  | i, v :: vs, f => solF n vals (i + 1) vs (if v < n then f.set v (vals i) else f)
theorem ga_set {f : List Rat} {v : Nat} (q : Rat) (j : Nat) (h : v < f.length) : Lp.ga (f.set v q) j = if j = v then q else Lp.ga f j := by
  unfold Lp.ga
  by_cases e : j = v
  · subst e
    rw [if_pos rfl, List.getD_eq_getElem?_getD, List.getElem?_set_self h]
    rfl
  · rw [if_neg e, List.getD_eq_getElem?_getD, List.getElem?_set_ne (Ne.symm e), ← List.getD_eq_getElem?_getD]
theorem sol_len {n : Nat} {vals : Nat → Rat} : ∀ (vs : List Nat) (i : Nat) (f : List Rat), (solF n vals i vs f).length = f.length
  | [], _, _ => rfl
  | v :: vs, i, f => by
    show (solF n vals (i + 1) vs _).length = _
    rw [sol_len vs]
    split
    · rw [List.length_set]
    · rfl
theorem sol_out {n : Nat} {vals : Nat → Rat} {j : Nat} : ∀ (vs : List Nat) (i : Nat) (f : List Rat), f.length = n → j ∉ vs → Lp.ga (solF n vals i vs f) j = Lp.ga f j
  | [], _, _, _, _ => rfl
  | v :: vs, i, f, hf, hj => by
    show Lp.ga (solF n vals (i + 1) vs _) j = _
    rw [sol_out vs _ _ (by split <;> simp [hf]) (fun h => hj (List.mem_cons_of_mem _ h))]
    split
    · rename_i hv
      rw [ga_set _ _ (by omega), if_neg (fun e => hj (by rw [e]; exact List.mem_cons_self))]
    · rfl
theorem sol_in {n : Nat} {vals : Nat → Rat} : ∀ (vs : List Nat) (i : Nat) (f : List Rat), f.length = n → vs.Nodup → ∀ p, p < vs.length → vs.getD p 0 < n → Lp.ga (solF n vals i vs f) (vs.getD p 0) = vals (i + p)
  | [], _, _, _, _, p, hp, _ => absurd hp (by simp)
  | v :: vs, i, f, hf, hd, p, hp, hv => by
    show Lp.ga (solF n vals (i + 1) vs _) _ = _
    rw [List.nodup_cons] at hd
    cases p with
    | zero =>
      have hv : v < n := hv
      show Lp.ga (solF n vals (i + 1) vs _) v = vals i
      rw [sol_out vs _ _ (by split <;> simp [hf]) hd.1, if_pos hv, ga_set _ _ (by omega), if_pos rfl]
    | succ p =>
      have := sol_in (vals := vals) vs (i + 1) (if v < n then f.set v (vals i) else f) (by split <;> simp [hf]) hd.2 p (by simpa using hp) hv
      rw [show i + (p + 1) = i + 1 + p by omega]
      exact this
theorem gsub_sh {f : List Rat} {v kf : Nat} {q : Rat} {o i : E} {loc : Loc} {st : Store} (hb : st[kf]? = some (.lst ((f.map sh).map .d))) (hv : v < f.length) (ho : o loc = ret (.o kf)) (hi : i loc = ret (.d (.int (v : Int)))) : gSub o i (.d (sh q)) loc st = .ok loc (st.set kf (.lst (((f.set v q).map sh).map .d))) := by
  unfold gSub
  rw [ho, bd_ret, hi, bd_ret]
  show (match st[kf]? with | some (.lst xs) => (match ixN xs.length (v : Int) with | some m => R.ok loc (st.set kf (.lst (xs.set m (.d (sh q))))) | none => .bad) | _ => .bad) = _
  rw [hb]
  dsimp only
  have : ixN ((f.map sh).map Val.d).length (v : Int) = some v := by
    unfold ixN
    rw [List.length_map, List.length_map, if_pos (by omega), if_pos (by omega)]
    simp
  rw [this]
  dsimp only
  rw [List.map_set, List.map_set]
theorem sol_loop {B : S} {g : G} {n m kf : Nat} {vals : Nat → Rat} {Kp : Store → Prop} (env : Option Val → Option Val → Loc) (hk : ∀ st o, Kp st → Kp (st.set kf o))
    (hB : ∀ (i v : Nat) (f : List Rat) (st : Store) (x y : Option Val), i < m → v < n → Kp st → st[kf]? = some (.lst ((f.map sh).map .d)) → f.length = n → fBody g B (.d (.tuple [.int ((i : Nat) : Int), .int ((v : Nat) : Int)])) (env x y) st = .ok (.nx, env (some (.d (.int (i : Int)))) (some (.d (.int (v : Int))))) (st.set kf (.lst (((f.set v (vals i)).map sh).map .d))))
    (hB' : ∀ (i v : Nat) (st : Store) (x y : Option Val), ¬ v < n → Kp st → fBody g B (.d (.tuple [.int ((i : Nat) : Int), .int ((v : Nat) : Int)])) (env x y) st = .ok (.nx, env (some (.d (.int (i : Int)))) (some (.d (.int (v : Int))))) st) : ∀ (vs : List Nat) (i : Nat) (f : List Rat) (x y : Option Val) (st : Store), i + vs.length ≤ m → Kp st → st[kf]? = some (.lst ((f.map sh).map .d)) → f.length = n → ∃ x' y' st', forL (fBody g B) (enumF i (nmD vs)) (env x y) st = .ok (.nx, env x' y') st' ∧ Kp st' ∧ st'[kf]? = some (.lst (((solF n vals i vs f).map sh).map .d))
  | [], i, f, x, y, st, _, h, hf, _ => ⟨x, y, st, rfl, h, hf⟩
  | v :: vs, i, f, x, y, st, hi, h, hf, hl => by
    simp only [List.length_cons] at hi
    by_cases hv : v < n
    · have e1 := hB i v f st x y (by omega) hv h hf hl
      obtain ⟨x', y', st', e2, h2, g2⟩ := sol_loop env hk hB hB' vs (i + 1) (f.set v (vals i)) (some (.d (.int (i : Int)))) (some (.d (.int (v : Int)))) _ (by omega) (hk st (.lst (((f.set v (vals i)).map sh).map .d)) h) (List.getElem?_set_self (lt_of_some hf)) (by rw [List.length_set]; exact hl)
      refine ⟨x', y', st', ?_, h2, ?_⟩
      · show bd (fBody g B _ _) _ st = _
        rw [bd_eq e1]
        exact e2
      · show _ = some (Ob.lst (((solF n vals (i + 1) vs (if v < n then f.set v (vals i) else f)).map sh).map .d))
        rw [if_pos hv]
        exact g2
    · have e1 := hB' i v st x y hv h
      obtain ⟨x', y', st', e2, h2, g2⟩ := sol_loop env hk hB hB' vs (i + 1) f (some (.d (.int (i : Int)))) (some (.d (.int (v : Int)))) st (by omega) h hf hl
      refine ⟨x', y', st', ?_, h2, ?_⟩
      · show bd (fBody g B _ _) _ st = _
        rw [bd_eq e1]
        exact e2
      · show _ = some (Ob.lst (((solF n vals (i + 1) vs (if v < n then f.set v (vals i) else f)).map sh).map .d))
        rw [if_neg hv]
        exact g2
theorem mulN_sh {n : Nat} (hn : n ≤ 1000) (st : Store) : bMulN (.d (.list [.tuple [.int 0, .int 1]])) (.d (.int (n : Int))) st = .ok (.o st.length) (st ++ [.lst (((List.replicate n (0 : Rat)).map sh).map .d)]) := by
  show (if -1000 ≤ (n : Int) ∧ (n : Int) ≤ 1000 ∧ [PyData.tuple [.int 0, .int 1]].length ≤ 1000 then R.ok (Val.o st.length) (st ++ [.lst ((repD (n : Int) [PyData.tuple [.int 0, .int 1]]).map .d)]) else .bad) = _
  rw [if_pos ⟨by omega, by omega, by simp⟩]
  have : repD (n : Int) [PyData.tuple [.int 0, .int 1]] = (List.replicate n (0 : Rat)).map sh := by
    unfold repD
    rw [show ((n : Int)).toNat = n by omega, List.map_replicate]
    have hs : sh 0 = PyData.tuple [.int 0, .int 1] := rfl
    rw [hs]
    induction n with
    | zero => rfl
    | succ n ih =>
      rw [List.replicate_succ, List.flatten_cons, ih (by omega), List.replicate_succ]
      rfl
  rw [this]

section
set_option Elab.async false
variable {s0 : Store} {n k kb : Nat} {L : Lp.Lt} {st : Store}
/-- the table while its names are data -/
def Kq (s0 : Store) (k : Nat) (fs : List (Str × Val)) (st : Store) : Prop := st[k]? = some (.ins 0 fs) ∧ Pre s0 st
theorem Kq.set {fs : List (Str × Val)} {kf : Nat} (h : s0.length ≤ kf) (hne : kf ≠ k) (st : Store) (o : Ob) (q : Kq s0 k fs st) : Kq s0 k fs (st.set kf o) := ⟨by rw [List.getElem?_set_ne hne]; exact q.1, q.2.set h o⟩
theorem TG.frn (t : TG s0 n k kb L (.d (eRows L.rows)) st) (hl : L.names.length ≤ 1000) (xs : List Ob) : ∃ st', (∀ (o : E) (loc : Loc), o loc = ret (.o k) → eAtF 0 "names" o loc (st ++ xs) = .ok (.d (.list (nmD L.names))) st') ∧ Kq s0 k (flds n (.d (eRows L.rows)) L.last (.d (.list (nmD L.names)))) st' ∧ ∀ i, st.length ≤ i → st'[i]? = (st ++ xs)[i]? := by
  have lk := lt_of_some t.o
  have lb := lt_of_some t.b
  have o' : (st ++ xs)[k]? = some (.ins 0 (flds n (.d (eRows L.rows)) L.last (.o kb))) := by rw [List.getElem?_append_left lk]; exact t.o
  have b' : (st ++ xs)[kb]? = some (.lst ((nmD L.names).map .d)) := by rw [List.getElem?_append_left lb]; exact t.b
  have pp : Pre s0 (st ++ xs) := t.p.trans ⟨xs, rfl⟩
  refine ⟨_, fun o loc ho => atf_o ho o' rfl b' (by unfold nmD; rw [List.length_map, lim_eq]; omega) (Ne.symm t.ne), ?_, ?_⟩
  · rw [put_names]
    refine ⟨?_, (pp.set t.lb _).set t.lk _⟩
    rw [List.getElem?_set_self (by rw [List.length_set]; exact lt_of_some o')]
  · intro i hi
    rw [List.getElem?_set_ne (by omega), List.getElem?_set_ne (by omega)]
theorem names_enum (ns : List Nat) (i : Nat) : kEnumS [.d (.list (nmD ns))] = ret (enumF 0 (nmD ns)) := rfl
theorem solution_ex {m N : Nat} (w : Lp.Wf m N L) (hm : m ≤ 1000) (hn : n ≤ 1000) (t : TG s0 n k kb L (.d (eRows L.rows)) st) : ∃ st', f_Table_solution [.o k] st = .ok (.d (eRow (solF n (fun i => Lp.ga (L.rows.getD i []) N) 0 L.names (List.replicate n 0)))) st' ∧ Kq s0 k (flds n (.d (eRows L.rows)) L.last (.d (.list (nmD L.names)))) st' := by
  have atm : ∀ l : Loc, eAtt 0 "many" (eV 0) (some (.o k) :: l) st = .ok (.d (.int (n : Int))) st := fun l => att_get rfl t.o rfl
  obtain ⟨st1, ef, q1, k1⟩ := t.frn (by rw [w.n]; exact hm) [.lst (((List.replicate n (0 : Rat)).map sh).map .d)]
  have lp : s0.length ≤ st.length := Nat.le_of_lt (Nat.lt_of_le_of_lt t.lk (lt_of_some t.o))
  have lk := lt_of_some t.o
  have g1 : st1[st.length]? = some (.lst (((List.replicate n (0 : Rat)).map sh).map .d)) := by
    rw [k1 _ (Nat.le_refl _)]
    simp
  obtain ⟨x', y', st2, e2, q2, g2⟩ := sol_loop (B := Table_solution_L1) (g := gT 2 (gsC (gN 2) (gsC (gN 3) gsN))) (n := n) (m := m) (kf := st.length) (vals := fun i => Lp.ga (L.rows.getD i []) N) (Kp := Kq s0 k (flds n (.d (eRows L.rows)) L.last (.d (.list (nmD L.names))))) (fun x y => [some (.o k), some (.o st.length), x, y]) (fun st' o => Kq.set lp (by omega) st' o)
    (fun i v f s x y hi hv q hf hl => by
      have at1 : ∀ l : Loc, eAtt 0 "many" (eV 0) (some (.o k) :: l) s = .ok (.d (.int (n : Int))) s := fun l => att_get rfl q.1 rfl
      have at2 : ∀ l : Loc, eAtt 0 "rows" (eV 0) (some (.o k) :: l) s = .ok (.d (eRows L.rows)) s := fun l => att_get rfl q.1 rfl
      have lt : decide ((v : Int) < (n : Int)) = true := decide_eq_true (by omega)
      have ir := ix_rows (rows := L.rows) (a := i) (by rw [w.r]; exact hi)
      have il := ix_last (row := L.rows.getD i []) (by rw [w.row hi]; omega)
      rw [w.row hi, Nat.add_sub_cancel] at il
      have gs : gSub (eV 1) (eV 3) (.d (sh (Lp.ga (L.rows.getD i []) N))) [some (.o k), some (.o st.length), some (.d (.int (i : Int))), some (.d (.int (v : Int)))] s = _ := gsub_sh hf (by omega) rfl rfl
      simp only [fBody_eq, gT_eq, List.length_cons, List.length_nil, if_true, List.map_cons, List.map_nil, gsC_eq, gsN_eq, gN_eq, bd_ret, bd_bd, List.set_cons_succ, List.set_cons_zero, Table_solution_L1_eq, sIf_eq, sAsg_eq, tV_eq, eO_eq, eU_eq, eC_eq, eV_zero, eV_succ, bd_ap, rb_ok, at1, at2, ret_ap, bLt_int, lt, asB_eq, bNeg_int, ir, il, gs])
    (fun i v s x y hv q => by
      have at1 : ∀ l : Loc, eAtt 0 "many" (eV 0) (some (.o k) :: l) s = .ok (.d (.int (n : Int))) s := fun l => att_get rfl q.1 rfl
      have lt : decide ((v : Int) < (n : Int)) = false := decide_eq_false (by omega)
      simp only [fBody_eq, gT_eq, List.length_cons, List.length_nil, if_true, List.map_cons, List.map_nil, gsC_eq, gsN_eq, gN_eq, bd_ret, bd_bd, List.set_cons_succ, List.set_cons_zero, Table_solution_L1_eq, sIf_eq, tV_eq, eO_eq, eV_zero, eV_succ, bd_ap, rb_ok, at1, ret_ap, bLt_int, lt, asB_eq, Bool.false_eq_true, if_false, sNil_eq])
    L.names 0 (List.replicate n 0) none none st1 (by rw [w.n]; omega) q1 g1 (by simp)
  refine ⟨st2.set st.length .gone, ?_, Kq.set lp (by omega) st2 _ q2⟩
  have ef' : ∀ l : Loc, eAtF 0 "names" (eV 0) (some (.o k) :: l) (st ++ [.lst (((List.replicate n (0 : Rat)).map sh).map .d)]) = .ok (.d (.list (nmD L.names))) st1 := fun l => ef (eV 0) _ rfl
  have e0 : List.map some [Val.o k] ++ List.replicate (4 - [Val.o k].length) none = [some (.o k), none, none, none] := rfl
  have fz := bFrz_at g2 (by rw [List.length_map, sol_len, List.length_replicate, lim_eq]; omega)
  simp only [f_Table_solution, b_Table_solution, runF_eq]
  rw [e0]
  simp only [sSeq_eq, sAsg_eq, eO_eq, eB_eq, aC_eq, aN_eq, eC_eq, bd_ret, bd_bd, bTup_eq2, bLst_eq1, bd_ap, rb_ok, atm, mulN_sh hn, gN_eq, ret_ap, List.set_cons_succ, List.set_cons_zero, sFor_eq, iCall_eq, ef', names_enum, e2, sRet_eq, eU_eq, eV_zero, eV_succ, fz]
  rfl
end

/-! ### a way -/
section
set_option Elab.async false
variable {s0 : Store} {n k kb : Nat} {L : Lp.Lt} {st : Store}
theorem Sq0 : Sq 0 := ⟨Nat.pow_pos (by omega), by show 1 < 2 ^ 1000; exact Nat.one_lt_two_pow (by omega)⟩
def wy0 (n c : Nat) : List Rat := if c < n then (List.replicate n 0).set c 1 else List.replicate n 0
theorem wy0_len (n c : Nat) : (wy0 n c).length = n := by unfold wy0; split <;> simp
theorem way_ex {m N : Nat} (w : Lp.Wf m N L) (hm : m ≤ 1000) (hn : n ≤ 1000) (t : TG s0 n k kb L (.d (eRows L.rows)) st) {c : Nat} (hc : c < N + 1) (ht : ∀ row ∈ L.rows, ∀ x ∈ row, Ti x) : ∃ st', f_Table_way_out [.o k, .d (.int (c : Int))] st = .ok (.d (eRow (solF n (fun i => 0 - Lp.ga (L.rows.getD i []) c) 0 L.names (wy0 n c)))) st' ∧ Kq s0 k (flds n (.d (eRows L.rows)) L.last (.d (.list (nmD L.names)))) st' := by
  have atm : ∀ l : Loc, eAtt 0 "many" (eV 0) (some (.o k) :: l) st = .ok (.d (.int (n : Int))) st := fun l => att_get rfl t.o rfl
  have lp : s0.length ≤ st.length := Nat.le_of_lt (Nat.lt_of_le_of_lt t.lk (lt_of_some t.o))
  have lk := lt_of_some t.o
  obtain ⟨st1, ef, q1, k1⟩ := t.frn (by rw [w.n]; exact hm) [.lst (((wy0 n c).map sh).map .d)]
  have g1 : st1[st.length]? = some (.lst (((wy0 n c).map sh).map .d)) := by
    rw [k1 _ (Nat.le_refl _)]
    simp
  obtain ⟨x', y', st2, e2, q2, g2⟩ := sol_loop (B := Table_way_out_L1) (g := gT 2 (gsC (gN 3) (gsC (gN 4) gsN))) (n := n) (m := m) (kf := st.length) (vals := fun i => 0 - Lp.ga (L.rows.getD i []) c) (Kp := Kq s0 k (flds n (.d (eRows L.rows)) L.last (.d (.list (nmD L.names))))) (fun x y => [some (.o k), some (.d (.int (c : Int))), some (.o st.length), x, y]) (fun st' o => Kq.set lp (by omega) st' o)
    (fun i v f s x y hi hv q hf hl => by
      have at1 : ∀ l : Loc, eAtt 0 "many" (eV 0) (some (.o k) :: l) s = .ok (.d (.int (n : Int))) s := fun l => att_get rfl q.1 rfl
      have at2 : ∀ l : Loc, eAtt 0 "rows" (eV 0) (some (.o k) :: l) s = .ok (.d (eRows L.rows)) s := fun l => att_get rfl q.1 rfl
      have lt : decide ((v : Int) < (n : Int)) = true := decide_eq_true (by omega)
      have hir : i < L.rows.length := by rw [w.r]; exact hi
      have ir := ix_rows (rows := L.rows) (a := i) hir
      have rl := w.row hi
      have il := ix_row (row := L.rows.getD i []) (c := c) (by omega)
      have rm : L.rows.getD i [] ∈ L.rows := by rw [List.getD_eq_getElem?_getD, List.getElem?_eq_getElem hir]; exact List.getElem_mem hir
      have ls : f_less [.d (.tuple [.int 0, .int 1]), .d (sh (Lp.ga (L.rows.getD i []) c))] = _ := r_less Sq0 (ht _ rm _ (ga_mem (row := L.rows.getD i []) (c := c) (by omega))).sq
      have gs : gSub (eV 2) (eV 4) (.d (sh (0 - Lp.ga (L.rows.getD i []) c))) [some (.o k), some (.d (.int (c : Int))), some (.o st.length), some (.d (.int (i : Int))), some (.d (.int (v : Int)))] s = _ := gsub_sh hf (by omega) rfl rfl
      simp only [fBody_eq, gT_eq, List.length_cons, List.length_nil, if_true, List.map_cons, List.map_nil, gsC_eq, gsN_eq, gN_eq, bd_ret, bd_bd, List.set_cons_succ, List.set_cons_zero, Table_way_out_L1_eq, sIf_eq, sAsg_eq, tV_eq, eO_eq, eB_eq, aC_eq, aN_eq, eC_eq, bTup_eq2, eV_zero, eV_succ, bd_ap, rb_ok, at1, at2, ret_ap, bLt_int, lt, asB_eq, ir, il, fix2, ls, gs])
    (fun i v s x y hv q => by
      have at1 : ∀ l : Loc, eAtt 0 "many" (eV 0) (some (.o k) :: l) s = .ok (.d (.int (n : Int))) s := fun l => att_get rfl q.1 rfl
      have lt : decide ((v : Int) < (n : Int)) = false := decide_eq_false (by omega)
      simp only [fBody_eq, gT_eq, List.length_cons, List.length_nil, if_true, List.map_cons, List.map_nil, gsC_eq, gsN_eq, gN_eq, bd_ret, bd_bd, List.set_cons_succ, List.set_cons_zero, Table_way_out_L1_eq, sIf_eq, tV_eq, eO_eq, eV_zero, eV_succ, bd_ap, rb_ok, at1, ret_ap, bLt_int, lt, asB_eq, Bool.false_eq_true, if_false, sNil_eq])
    L.names 0 (wy0 n c) none none st1 (by rw [w.n]; omega) q1 g1 (wy0_len n c)
  refine ⟨st2.set st.length .gone, ?_, Kq.set lp (by omega) st2 _ q2⟩
  have ef' : ∀ l : Loc, eAtF 0 "names" (eV 0) (some (.o k) :: l) (st ++ [.lst (((wy0 n c).map sh).map .d)]) = .ok (.d (.list (nmD L.names))) st1 := fun l => ef (eV 0) _ rfl
  have e0 : List.map some [Val.o k, .d (.int (c : Int))] ++ List.replicate (5 - [Val.o k, .d (.int (c : Int))].length) none = [some (.o k), some (.d (.int (c : Int))), none, none, none] := rfl
  have fz := bFrz_at g2 (by rw [List.length_map, sol_len, wy0_len, lim_eq]; omega)
  have o' : (st ++ [.lst (((List.replicate n (0 : Rat)).map sh).map .d)])[k]? = some (.ins 0 (flds n (.d (eRows L.rows)) L.last (.o kb))) := by rw [List.getElem?_append_left lk]; exact t.o
  have atm' : ∀ l : Loc, eAtt 0 "many" (eV 0) (some (.o k) :: l) (st ++ [.lst (((List.replicate n (0 : Rat)).map sh).map .d)]) = .ok (.d (.int (n : Int))) (st ++ [.lst (((List.replicate n (0 : Rat)).map sh).map .d)]) := fun l => att_get rfl o' rfl
  have ic : sIf (tV (eO bLt (eV 1) (eAtt 0 "many" (eV 0)))) (sAsg (eB bTup (aC (eC (.int 1)) (aC (eC (.int 1)) aN))) (gSub (eV 2) (eV 1))) sNil [some (.o k), some (.d (.int (c : Int))), some (.o st.length), none, none] (st ++ [.lst (((List.replicate n (0 : Rat)).map sh).map .d)]) = .ok (.nx, [some (.o k), some (.d (.int (c : Int))), some (.o st.length), none, none]) (st ++ [.lst (((wy0 n c).map sh).map .d)]) := by
    by_cases h : c < n
    · have lt : decide ((c : Int) < (n : Int)) = true := decide_eq_true (by omega)
      have gs : gSub (eV 2) (eV 1) (.d (sh 1)) [some (.o k), some (.d (.int (c : Int))), some (.o st.length), none, none] (st ++ [.lst (((List.replicate n (0 : Rat)).map sh).map .d)]) = _ := gsub_sh (f := List.replicate n 0) (v := c) (by simp) (by simp; omega) rfl rfl
      have s1 : sh 1 = .tuple [.int 1, .int 1] := rfl
      rw [s1] at gs
      simp only [sIf_eq, sAsg_eq, tV_eq, eO_eq, eB_eq, aC_eq, aN_eq, eC_eq, bTup_eq2, eV_zero, eV_succ, bd_ret, bd_bd, bd_ap, rb_ok, atm', ret_ap, bLt_int, lt, asB_eq, if_true, gs]
      congr 1
      unfold wy0
      rw [if_pos h]
      exact set_mid _ _ _ []
    · have lt : decide ((c : Int) < (n : Int)) = false := decide_eq_false (by omega)
      simp only [sIf_eq, tV_eq, eO_eq, eV_zero, eV_succ, bd_ret, bd_bd, bd_ap, rb_ok, atm', ret_ap, bLt_int, lt, asB_eq, Bool.false_eq_true, if_false, sNil_eq]
      congr 1
      unfold wy0
      rw [if_neg h]
  simp only [f_Table_way_out, b_Table_way_out, runF_eq]
  rw [e0]
  simp only [sSeq_eq, sAsg_eq, eO_eq, eB_eq, aC_eq, aN_eq, eC_eq, bd_ret, bd_bd, bTup_eq2, bLst_eq1, bd_ap, rb_ok, atm, mulN_sh hn, gN_eq, ret_ap, List.set_cons_succ, List.set_cons_zero]
  rw [ic]
  simp only [rb_ok, sFor_eq, iCall_eq, aC_eq, aN_eq, bd_ap, ef', ret_ap, names_enum, e2, sRet_eq, eU_eq, eV_zero, eV_succ, fz]
  rfl
end

end Y
end
section
set_option Elab.async false
set_option linter.all false
set_option maxRecDepth 10000
set_option exponentiation.threshold 5000
namespace Y
open PySem (PyData Str)
/-! ### a new table -/
def lZ (a : List Int) : D := .list (intsD a)
def qL (l : List Int) : List Rat := l.map fun x : Int => (x : Rat)
theorem sh_int (x : Int) : sh (x : Rat) = .tuple [.int x, .int 1] := by
  unfold sh
  rw [Rat.num_intCast, Rat.den_intCast]
  rfl
theorem eRow_q (l : List Int) : eRow (qL l) = .list (l.map fun x => .tuple [.int x, .int 1]) := by
  unfold eRow qL
  rw [List.map_map]
  congr 1
def rowZ (m i : Nat) (a : List Int) (hi : Int) : List Int := a ++ (List.range m).map (fun s => if s = i then (1 : Int) else 0) ++ [hi]
def rows0 (m : Nat) (hs : List Int) (i : Nat) (A : List (List Int)) : List (List Rat) := (A.zipIdx i).map fun p => qL (rowZ m p.2 p.1 (gt hs p.2))
def lastZ (m : Nat) (as : List Int) : List Int := as.map (fun x => -x) ++ List.replicate (m + 1) 0
def tab0 (A : List (List Int)) (hs as : List Int) : Lp.Lt := ⟨rows0 A.length hs 0 A, qL (lastZ A.length as), (List.range A.length).map fun i => as.length + i⟩
theorem app_atS {o e : E} {loc : Loc} {st : Store} {k : Nat} {xs : List Val} {v : Val} (ho : o loc st = .ok (.o k) st) (hk : st[k]? = some (.lst xs)) (he : e loc = ret v) (hl : xs.length < lim) : eApp o e loc st = .ok (.d .none) (st.set k (.lst (xs ++ [v]))) := by
  unfold eApp
  rw [bd_eq ho]
  have hc : chkL (.o k) st = .ok k st := by
    show (match st[k]? with | some (.lst _) => R.ok k st | _ => .bad) = _
    rw [hk]
  rw [bd_eq hc, he, bd_ret]
  unfold appS
  rw [hk]
  dsimp only
  rw [if_pos hl]
theorem ix_ints {a : List Int} {i : Nat} (h : i < a.length) : bIx (.d (lZ a)) (.d (.int (i : Int))) = ret (.d (.int (gt a i))) := by
  have : atI (intsD a) (i : Int) = some (.int (gt a i)) := atI_nat rfl (by
    unfold intsD gt
    rw [List.getElem?_map, List.getElem?_eq_getElem h]
    simp [List.getD_eq_getElem?_getD, h])
  show bd (oget (atI (intsD a) (i : Int))) _ = _
  rw [this]
  rfl
theorem init_C1 {m i : Nat} (hm : m ≤ 1000) (x0 x1 x2 x3 x6 x7 x8 x9 : Option Val) : Table_init_C1 [x0, x1, x2, x3, some (.d (.int (m : Int))), some (.d (.int (i : Int))), x6, x7, x8, x9] = ret (.d (.list ((List.range m).map fun s => .tuple [.int (if s = i then 1 else 0), .int 1]))) := by
  rw [Table_init_C1_eq]
  refine eLc_map (List.range m) (fun (i : Nat) => Val.d (.int (0 + (i : Int)))) _ ?_ (by rw [List.length_range, lim_eq]; omega) fun s hs => ?_
  · have e := kRg1_nat (z := (m : Int)) rfl hm
    simp only [iCall_eq, aC_eq, eV_succ, eV_zero, aN_eq, bd_ret, e]
  · have hz : (0 : Int) + (s : Int) = (s : Int) := by omega
    have hb : bInt1 [.d (.bool ((s : Int) == (i : Int)))] = ret (.d (.int (if s = i then 1 else 0))) := by
      show ret (vI (if ((s : Int) == (i : Int)) then 1 else 0)) = _
      by_cases h : s = i
      · subst h; simp
      · have : ((s : Int) == (i : Int)) = false := by rw [beq_eq_false_iff_ne]; omega
        rw [this, if_neg h]; rfl
    rw [hz]
    simp only [cBody_eq, wip_cons, wip_nil, gN_eq, bd_ret, List.set_cons_succ, List.set_cons_zero, tTr_eq, if_true, eB_eq, aC_eq, aN_eq, eO_eq, eC_eq, eV_zero, eV_succ, bd_bd, bEq_d, eqD_int, hb, bTup_eq2]
theorem init_C2 {a : List Int} (ha : a.length ≤ 1000) (x0 x1 x2 x3 x4 x5 x7 x8 x9 : Option Val) : Table_init_C2 [x0, x1, x2, x3, x4, x5, some (.d (lZ a)), x7, x8, x9] = ret (.d (.list (a.map fun x => .tuple [.int x, .int 1]))) := by
  rw [Table_init_C2_eq]
  refine eLc_map a (fun i => Val.d (.int i)) _ ?_ (by rw [lim_eq]; omega) fun s hs => ?_
  · have : seqOf (.d (lZ a)) = ret (intsD a) := rfl
    simp only [iSeq_eq, eV_succ, eV_zero, bd_ret, this, intsD, List.map_map]
    rfl
  · simp only [cBody_eq, wip_cons, wip_nil, gN_eq, bd_ret, List.set_cons_succ, List.set_cons_zero, tTr_eq, if_true, eB_eq, aC_eq, aN_eq, eC_eq, eV_zero, eV_succ, bd_bd, bTup_eq2]
theorem init_C3 {a : List Int} (ha : a.length ≤ 1000) (x0 x1 x2 x4 x5 x6 x7 x8 x9 : Option Val) : Table_init_C3 [x0, x1, x2, some (.d (lZ a)), x4, x5, x6, x7, x8, x9] = ret (.d (.list (a.map fun x => .tuple [.int (-x), .int 1]))) := by
  rw [Table_init_C3_eq]
  refine eLc_map a (fun i => Val.d (.int i)) _ ?_ (by rw [lim_eq]; omega) fun s hs => ?_
  · have : seqOf (.d (lZ a)) = ret (intsD a) := rfl
    simp only [iSeq_eq, eV_succ, eV_zero, bd_ret, this, intsD, List.map_map]
    rfl
  · simp only [cBody_eq, wip_cons, wip_nil, gN_eq, bd_ret, List.set_cons_succ, List.set_cons_zero, tTr_eq, if_true, eB_eq, aC_eq, aN_eq, eC_eq, eU_eq, bNeg_int, eV_zero, eV_succ, bd_bd, bTup_eq2]
section
set_option Elab.async false
variable {st : Store} {n : Nat} {hs as : List Int}
theorem init_step {m i : Nat} {a : List Int} {fs : List (Str × Val)} {acc : List D} (hf : fs.lookup ("rows" : Str) = some (.o (st.length + 1))) (hm : m ≤ 400) (ha : a.length ≤ 400) (hi : i < hs.length) (hacc : acc.length ≤ 1000) (x1 x3 x5 x6 x7 x8 x9 : Option Val) :
    fBody (gT 2 (gsC (gN 5) (gsC (gN 6) gsN))) Table_init_L1 (.d (.tuple [.int (i : Int), lZ a])) [some (.o st.length), x1, some (.d (lZ hs)), x3, some (.d (.int (m : Int))), x5, x6, x7, x8, x9] (st ++ [.ins 0 fs, .lst (acc.map .d)]) =
    .ok (.nx, [some (.o st.length), x1, some (.d (lZ hs)), x3, some (.d (.int (m : Int))), some (.d (.int (i : Int))), some (.d (lZ a)), some (.d (.list ((List.range m).map fun s => .tuple [.int (if s = i then 1 else 0), .int 1]))), x8, x9]) (st ++ [.ins 0 fs, .lst ((acc ++ [eRow (qL (rowZ m i a (gt hs i)))]).map .d)]) := by
  have g0 : (st ++ [Ob.ins 0 fs, .lst (acc.map .d)])[st.length]? = some (.ins 0 fs) := by simp
  have g1 : (st ++ [Ob.ins 0 fs, .lst (acc.map .d)])[st.length + 1]? = some (.lst (acc.map .d)) := by
    rw [List.getElem?_append_right (by omega)]
    simp
  have at1 : ∀ l : Loc, eAtt 0 "rows" (eV 0) (some (.o st.length) :: l) (st ++ [.ins 0 fs, .lst (acc.map .d)]) = .ok (.o (st.length + 1)) (st ++ [.ins 0 fs, .lst (acc.map .d)]) := fun l => att_get rfl g0 hf
  have ih := ix_ints hi
  have ev : eO bAdd (eO bAdd Table_init_C2 (eV 7)) (eB bLst (aC (eB bTup (aC (eO bIx (eV 2) (eV 5)) (aC (eC (.int 1)) aN))) aN)) [some (.o st.length), x1, some (.d (lZ hs)), x3, some (.d (.int (m : Int))), some (.d (.int (i : Int))), some (.d (lZ a)), some (.d (.list ((List.range m).map fun s => .tuple [.int (if s = i then 1 else 0), .int 1]))), x8, x9] = ret (.d (eRow (qL (rowZ m i a (gt hs i))))) := by
    rw [eRow_q]
    simp only [eO_eq, init_C2 (show a.length ≤ 1000 by omega), eV_zero, eV_succ, bd_ret, bd_bd, bAdd_lst, eB_eq, aC_eq, aN_eq, eC_eq, ih, bTup_eq2, bLst_eq1]
    rw [if_pos (by rw [List.length_map, List.length_map, List.length_range, lim_eq]; omega), bd_ret, bAdd_lst, if_pos (by simp [lim_eq]; omega)]
    unfold rowZ
    simp
    rfl
  have ap := app_atS (o := eAtt 0 "rows" (eV 0)) (at1 [x1, some (.d (lZ hs)), x3, some (.d (.int (m : Int))), some (.d (.int (i : Int))), some (.d (lZ a)), some (.d (.list ((List.range m).map fun s => .tuple [.int (if s = i then 1 else 0), .int 1]))), x8, x9]) g1 ev (by rw [List.length_map, lim_eq]; omega)
  have es : (st ++ [Ob.ins 0 fs, .lst (acc.map .d)]).set (st.length + 1) (.lst (acc.map .d ++ [.d (eRow (qL (rowZ m i a (gt hs i))))])) = st ++ [.ins 0 fs, .lst ((acc ++ [eRow (qL (rowZ m i a (gt hs i)))]).map .d)] := by
    rw [List.set_append_right _ _ (by omega)]
    simp
  rw [es] at ap
  simp only [fBody_eq, gT_eq, List.length_cons, List.length_nil, if_true, List.map_cons, List.map_nil, gsC_eq, gsN_eq, gN_eq, bd_ret, bd_bd, List.set_cons_succ, List.set_cons_zero, Table_init_L1_eq, sSeq_eq, sAsg_eq, init_C1 (show m ≤ 1000 by omega), sExp_eq]
  rw [bd_eq ap]
  rfl
theorem init_loop {m : Nat} {fs : List (Str × Val)} (hf : fs.lookup ("rows" : Str) = some (.o (st.length + 1))) (hm : m ≤ 400) (hh : hs.length ≤ 400) : ∀ (rest : List (List Int)) (i : Nat) (acc : List D) (x1 x3 x5 x6 x7 x8 x9 : Option Val), i + rest.length = hs.length → acc.length = i → (∀ a ∈ rest, a.length ≤ 400) → ∃ y5 y6 y7,
    forL (fBody (gT 2 (gsC (gN 5) (gsC (gN 6) gsN))) Table_init_L1) (enumF i (rest.map lZ)) [some (.o st.length), x1, some (.d (lZ hs)), x3, some (.d (.int (m : Int))), x5, x6, x7, x8, x9] (st ++ [.ins 0 fs, .lst (acc.map .d)]) =
    .ok (.nx, [some (.o st.length), x1, some (.d (lZ hs)), x3, some (.d (.int (m : Int))), y5, y6, y7, x8, x9]) (st ++ [.ins 0 fs, .lst ((acc ++ (rows0 m hs i rest).map eRow).map .d)])
  | [], i, acc, x1, x3, x5, x6, x7, x8, x9, _, _, _ => ⟨x5, x6, x7, by simp [rows0, enumF, forL]⟩
  | a :: rest, i, acc, x1, x3, x5, x6, x7, x8, x9, hi, hacc, hr => by
    simp only [List.length_cons] at hi
    have e1 := init_step (st := st) (hs := hs) (i := i) (m := m) (acc := acc) hf hm (hr a List.mem_cons_self) (by omega) (by omega) x1 x3 x5 x6 x7 x8 x9
    obtain ⟨y5, y6, y7, e2⟩ := init_loop hf hm hh rest (i + 1) (acc ++ [eRow (qL (rowZ m i a (gt hs i)))]) x1 x3 (some (.d (.int (i : Int)))) (some (.d (lZ a))) (some (.d (.list ((List.range m).map fun s => .tuple [.int (if s = i then 1 else 0), .int 1])))) x8 x9 (by omega) (by simp [hacc]) (fun b hb => hr b (List.mem_cons_of_mem _ hb))
    refine ⟨y5, y6, y7, ?_⟩
    show bd (fBody _ _ _ _) _ _ = _
    rw [bd_eq e1]
    dsimp only
    rw [e2]
    congr 2
    simp [rows0]
theorem bMul_sh {m : Nat} (h : m ≤ 900) : bMul (.d (.list [.tuple [.int 0, .int 1]])) (.d (.int ((m : Int) + 1))) = ret (.d (.list ((List.replicate (m + 1) (0 : Int)).map fun x => .tuple [.int x, .int 1]))) := by
  show (if -1000 ≤ ((m : Int) + 1) ∧ ((m : Int) + 1) ≤ 1000 ∧ [PyData.tuple [.int 0, .int 1]].length ≤ 1000 then ret (Val.d (.list (repD ((m : Int) + 1) [PyData.tuple [.int 0, .int 1]]))) else die) = _
  rw [if_pos ⟨by omega, by omega, by simp⟩]
  congr 3
  unfold repD
  rw [show ((m : Int) + 1).toNat = m + 1 by omega, List.map_replicate]
  generalize m + 1 = k
  induction k with
  | zero => rfl
  | succ k ih =>
    rw [List.replicate_succ, List.flatten_cons, ih, List.replicate_succ]
    rfl
theorem lastZ_row (m : Nat) (as : List Int) : PyData.list ((as.map fun x => PyData.tuple [.int (-x), .int 1]) ++ (List.replicate (m + 1) (0 : Int)).map fun x => .tuple [.int x, .int 1]) = eRow (qL (lastZ m as)) := by
  rw [eRow_q]
  unfold lastZ
  simp
theorem compL_sameN {α : Type} {it : I} {g : G} {t : Tst} {e : E} {vs : List Nat} {loc : Loc} {st st0 : Store} (L : List α) (enc : α → Val) (h : α → Val) (hi : it loc st0 = .ok (L.map enc) st) (hl : L.length ≤ lim)
    (hb : ∀ p ∈ L, cBody g t e (wip loc vs) (enc p) st = .ok (some (h p)) st) : eLcN it g t e vs loc st0 = .ok (.o st.length) (st ++ [.lst (L.map h)]) := by
  unfold eLcN
  rw [bd_eq hi, if_pos (by rw [List.length_map]; exact hl), bd_eq (noex_eq (compL_same enc (fun p => some (h p)) L hb)), filterMap_some]
  unfold bNew
  rw [if_pos (by rw [List.length_map]; exact hl)]
theorem init_ex {A : List (List Int)} (hA : A.length ≤ 400) (hl : hs.length = A.length) (ha : as.length ≤ 400) (hr : ∀ a ∈ A, a.length ≤ 400) (s0 : Store) : ∃ rv, mkI 0 f_Table_init [.d (.list (A.map lZ)), .d (lZ hs), .d (lZ as)] s0 = .ok (.o s0.length) (s0 ++ [.ins 0 (flds as.length (.o (s0.length + 1)) (tab0 A hs as).last (.o (s0.length + 2))), .lst (((tab0 A hs as).rows.map eRow).map .d), .lst ((nmD (tab0 A hs as).names).map .d)]) ∧ rv = Val.o (s0.length + 1) := by
  refine ⟨_, ?_, rfl⟩
  have b1 : bLen [.d (.list (A.map lZ))] = ret (.d (.int (A.length : Int))) := by rw [bLen_lst, List.length_map]
  have b2 : bLen [.d (lZ as)] = ret (.d (.int (as.length : Int))) := by
    show ret (vI (intsD as).length) = _
    rw [intsD_len]
    rfl
  have set0 : ∀ (x y : Ob) (zs : List Ob), (s0 ++ x :: zs).set s0.length y = s0 ++ y :: zs := fun x y zs => set_mid _ _ _ _
  have get0 : ∀ (x : Ob) (zs : List Ob), (s0 ++ x :: zs)[s0.length]? = some x := fun x zs => get_mid _ _ _
  have s1 : ∀ l : Loc, gAtt 0 "many" (eV 0) (.d (.int (as.length : Int))) (some (.o s0.length) :: l) (s0 ++ [.ins 0 []]) = .ok (some (.o s0.length) :: l) (s0 ++ [.ins 0 [("many", .d (.int (as.length : Int)))]]) := fun l => by
    rw [att_set (k := s0.length) rfl (get0 _ _) (show _ < 900 by show 0 < 900; omega), set0]
    rfl
  have nw : bNew [] (s0 ++ [.ins 0 [("many", .d (.int (as.length : Int)))]]) = .ok (.o (s0.length + 1)) (s0 ++ [.ins 0 [("many", .d (.int (as.length : Int)))], .lst []]) := by
    unfold bNew
    rw [if_pos (by simp)]
    simp
  have s2 : ∀ l : Loc, gAtt 0 "rows" (eV 0) (.o (s0.length + 1)) (some (.o s0.length) :: l) (s0 ++ [.ins 0 [("many", .d (.int (as.length : Int)))], .lst []]) = .ok (some (.o s0.length) :: l) (s0 ++ [.ins 0 [("many", .d (.int (as.length : Int))), ("rows", .o (s0.length + 1))], .lst (([] : List D).map .d)]) := fun l => by
    rw [att_set (k := s0.length) rfl (get0 _ _) (show _ < 900 by show 1 < 900; omega), set0]
    rfl
  have ek : kEnumS [.d (.list (A.map lZ))] = ret (enumF 0 (A.map lZ)) := rfl
  obtain ⟨y5, y6, y7, e3⟩ := init_loop (st := s0) (hs := hs) (m := A.length) (fs := [("many", .d (.int (as.length : Int))), ("rows", .o (s0.length + 1))]) rfl hA (by omega) A 0 [] (some (.d (.list (A.map lZ)))) (some (.d (lZ as))) none none none none none (by omega) rfl hr
  rw [List.nil_append] at e3
  simp only [List.map_nil] at e3
  have s4 : ∀ l : Loc, gAtt 0 "last" (eV 0) (.d (eRow (qL (lastZ A.length as)))) (some (.o s0.length) :: l) (s0 ++ [.ins 0 [("many", .d (.int (as.length : Int))), ("rows", .o (s0.length + 1))], .lst (((rows0 A.length hs 0 A).map eRow).map .d)]) = .ok (some (.o s0.length) :: l) (s0 ++ [.ins 0 [("many", .d (.int (as.length : Int))), ("rows", .o (s0.length + 1)), ("last", .d (eRow (qL (lastZ A.length as))))], .lst (((rows0 A.length hs 0 A).map eRow).map .d)]) := fun l => by
    rw [att_set (k := s0.length) rfl (get0 _ _) (show _ < 900 by show 2 < 900; omega), set0]
    rfl
  have c4 : ∀ x5 x6 x7 x8 x9, Table_init_C4 [some (.o s0.length), some (.d (.list (A.map lZ))), some (.d (lZ hs)), some (.d (lZ as)), some (.d (.int (A.length : Int))), x5, x6, x7, x8, x9] (s0 ++ [.ins 0 [("many", .d (.int (as.length : Int))), ("rows", .o (s0.length + 1)), ("last", .d (eRow (qL (lastZ A.length as))))], .lst (((rows0 A.length hs 0 A).map eRow).map .d)]) = .ok (.o (s0.length + 2)) (s0 ++ [.ins 0 [("many", .d (.int (as.length : Int))), ("rows", .o (s0.length + 1)), ("last", .d (eRow (qL (lastZ A.length as))))], .lst (((rows0 A.length hs 0 A).map eRow).map .d), .lst ((nmD (tab0 A hs as).names).map .d)]) := fun x5 x6 x7 x8 x9 => by
    rw [Table_init_C4_eq]
    have rg := kRg1_nat (z := (A.length : Int)) rfl (show A.length ≤ 1000 by omega)
    have := compL_sameN (it := iCall kRg1 (aC (eV 4) aN)) (g := gN 5) (t := tTr) (e := eO bAdd (eAtt 0 "many" (eV 0)) (eV 5)) (vs := [5]) (loc := [some (.o s0.length), some (.d (.list (A.map lZ))), some (.d (lZ hs)), some (.d (lZ as)), some (.d (.int (A.length : Int))), x5, x6, x7, x8, x9]) (st0 := s0 ++ [.ins 0 [("many", .d (.int (as.length : Int))), ("rows", .o (s0.length + 1)), ("last", .d (eRow (qL (lastZ A.length as))))], .lst (((rows0 A.length hs 0 A).map eRow).map .d)]) (st := s0 ++ [.ins 0 [("many", .d (.int (as.length : Int))), ("rows", .o (s0.length + 1)), ("last", .d (eRow (qL (lastZ A.length as))))], .lst (((rows0 A.length hs 0 A).map eRow).map .d)]) (List.range A.length) (fun (i : Nat) => Val.d (.int (0 + (i : Int)))) (fun i => Val.d (.int ((as.length + i : Nat) : Int))) (by
        simp only [iCall_eq, aC_eq, eV_succ, eV_zero, aN_eq, bd_ret, rg, ret_ap]) (by rw [List.length_range, lim_eq]; omega) (fun i hi => by
        have at1 : ∀ l : Loc, eAtt 0 "many" (eV 0) (some (.o s0.length) :: l) (s0 ++ [.ins 0 [("many", .d (.int (as.length : Int))), ("rows", .o (s0.length + 1)), ("last", .d (eRow (qL (lastZ A.length as))))], .lst (((rows0 A.length hs 0 A).map eRow).map .d)]) = .ok (.d (.int (as.length : Int))) _ := fun l => att_get rfl (get0 _ _) rfl
        have hz : (as.length : Int) + (0 + (i : Int)) = ((as.length + i : Nat) : Int) := by omega
        simp only [cBody_eq, wip_cons, wip_nil, gN_eq, bd_ret, List.set_cons_succ, List.set_cons_zero, tTr_eq, if_true, eO_eq, eV_zero, eV_succ, bd_bd, bd_ap, at1, rb_ok, ret_ap, bAdd_int, hz])
    rw [this]
    congr 1
    · simp
    · unfold nmD tab0
      simp
  have s5 : ∀ l : Loc, gAtt 0 "names" (eV 0) (.o (s0.length + 2)) (some (.o s0.length) :: l) (s0 ++ [.ins 0 [("many", .d (.int (as.length : Int))), ("rows", .o (s0.length + 1)), ("last", .d (eRow (qL (lastZ A.length as))))], .lst (((rows0 A.length hs 0 A).map eRow).map .d), .lst ((nmD (tab0 A hs as).names).map .d)]) = .ok (some (.o s0.length) :: l) (s0 ++ [.ins 0 (flds as.length (.o (s0.length + 1)) (tab0 A hs as).last (.o (s0.length + 2))), .lst (((tab0 A hs as).rows.map eRow).map .d), .lst ((nmD (tab0 A hs as).names).map .d)]) := fun l => by
    rw [att_set (k := s0.length) rfl (get0 _ _) (show _ < 900 by show 3 < 900; omega), set0]
    rfl
  have e0 : List.map some [Val.o s0.length, .d (.list (A.map lZ)), .d (lZ hs), .d (lZ as)] ++ List.replicate (10 - [Val.o s0.length, .d (.list (A.map lZ)), .d (lZ hs), .d (lZ as)].length) none = [some (.o s0.length), some (.d (.list (A.map lZ))), some (.d (lZ hs)), some (.d (lZ as)), none, none, none, none, none, none] := rfl
  have run : f_Table_init [.o s0.length, .d (.list (A.map lZ)), .d (lZ hs), .d (lZ as)] (s0 ++ [.ins 0 []]) = .ok (.d .none) (s0 ++ [.ins 0 (flds as.length (.o (s0.length + 1)) (tab0 A hs as).last (.o (s0.length + 2))), .lst (((tab0 A hs as).rows.map eRow).map .d), .lst ((nmD (tab0 A hs as).names).map .d)]) := by
    simp only [f_Table_init, b_Table_init, runF_eq]
    rw [e0]
    have l4 : (as.map fun x => PyData.tuple [.int (-x), .int 1]).length + ((List.replicate (A.length + 1) (0 : Int)).map fun x => PyData.tuple [.int x, .int 1]).length ≤ lim := by
      rw [List.length_map, List.length_map, List.length_replicate, lim_eq]; omega
    simp only [sSeq_eq, sAsg_eq, eB_eq, aC_eq, aN_eq, eV_zero, eV_succ, bd_ret, bd_bd, b1, b2, bTup_eq2, gT_eq, List.length_cons, List.length_nil, if_true, List.map_cons, List.map_nil, gsC_eq, gsN_eq, gN_eq, List.set_cons_succ, List.set_cons_zero, bd_ap, s1, rb_ok, ret_ap, nw, s2, sFor_eq, iCall_eq, ek, e3, eO_eq, init_C3 (show as.length ≤ 1000 by omega), eC_eq, bLst_eq1, bAdd_int, bMul_sh (show A.length ≤ 900 by omega), bAdd_lst, l4, lastZ_row, s4, c4, s5]
  unfold mkI
  rw [run]
end

/-! ### what is best -/
theorem ga_qL (l : List Int) (j : Nat) : Lp.ga (qL l) j = ((gt l j : Int) : Rat) := by
  unfold Lp.ga qL gt
  rw [List.getD_eq_getElem?_getD, List.getD_eq_getElem?_getD, List.getElem?_map]
  cases l[j]? with
  | none => rfl
  | some x => rfl
theorem gt_app_l {a b : List Int} {j : Nat} (h : j < a.length) : gt (a ++ b) j = gt a j := by
  unfold gt
  rw [List.getD_eq_getElem?_getD, List.getD_eq_getElem?_getD, List.getElem?_append_left h]
theorem gt_app_r {a b : List Int} {j : Nat} : gt (a ++ b) (a.length + j) = gt b j := by
  unfold gt
  rw [List.getD_eq_getElem?_getD, List.getD_eq_getElem?_getD, List.getElem?_append_right (by omega)]
  simp
/-- what is asked of rows, highs and aims -/
structure Bs (A : List (List Int)) (hs as : List Int) : Prop where
  m3 : A.length ≤ 3
  n6 : as.length ≤ 300
  hl : hs.length = A.length
  w : ∀ a ∈ A, a.length = as.length
  a9 : ∀ a ∈ A, ∀ x ∈ a, x.natAbs ≤ 9
  h0 : ∀ x ∈ hs, 0 ≤ x
  hb : ∀ x ∈ hs, x.natAbs ≤ 2 ^ 20
  ab : ∀ x ∈ as, x.natAbs ≤ 2 ^ 20
def AzL (A : List (List Int)) (hs : List Int) (i j : Nat) : Int := gt (rowZ A.length i (A.getD i []) (gt hs i)) j
def rzL (A : List (List Int)) (as : List Int) (j : Nat) : Int := gt (lastZ A.length as) j
section
set_option Elab.async false
variable {A : List (List Int)} {hs as : List Int}
theorem rows0_at {m i : Nat} (h : i < A.length) : (rows0 m hs 0 A).getD i [] = qL (rowZ m i (A.getD i []) (gt hs i)) := by
  unfold rows0
  simp [List.getD_eq_getElem?_getD, h]
theorem getD_mem {i : Nat} (h : i < A.length) : A.getD i [] ∈ A := by
  rw [List.getD_eq_getElem?_getD, List.getElem?_eq_getElem h]
  exact List.getElem_mem h
theorem gt_unit {m i k : Nat} (h : k < m) : gt ((List.range m).map (fun s => if s = i then (1 : Int) else 0)) k = if k = i then 1 else 0 := by
  unfold gt
  simp [List.getD_eq_getElem?_getD, h]
theorem rowZ_len (m i : Nat) (a : List Int) (x : Int) : (rowZ m i a x).length = a.length + m + 1 := by
  unfold rowZ
  simp
  omega
theorem rowZ_a {m i : Nat} {a : List Int} {x : Int} {j : Nat} (h : j < a.length) : gt (rowZ m i a x) j = gt a j := by
  unfold rowZ
  rw [gt_app_l (by simp; omega), gt_app_l h]
theorem rowZ_u {m i : Nat} {a : List Int} {x : Int} {k : Nat} (h : k < m) : gt (rowZ m i a x) (a.length + k) = if k = i then 1 else 0 := by
  unfold rowZ
  rw [gt_app_l (by simp; omega), gt_app_r, gt_unit h]
theorem rowZ_h {m i : Nat} {a : List Int} {x : Int} : gt (rowZ m i a x) (a.length + m) = x := by
  unfold rowZ
  have := gt_app_r (a := a ++ (List.range m).map (fun s => if s = i then (1 : Int) else 0)) (b := [x]) (j := 0)
  rw [show (a ++ (List.range m).map (fun s => if s = i then (1 : Int) else 0)).length + 0 = a.length + m by simp] at this
  rw [this]
  rfl
theorem lastZ_a {m : Nat} {j : Nat} (h : j < as.length) : gt (lastZ m as) j = - gt as j := by
  unfold lastZ
  rw [gt_app_l (by simpa using h)]
  unfold gt
  simp [List.getD_eq_getElem?_getD, h]
theorem lastZ_0 {m k : Nat} : gt (lastZ m as) (as.length + k) = 0 := by
  unfold lastZ
  have := gt_app_r (a := as.map (fun x => -x)) (b := List.replicate (m + 1) 0) (j := k)
  rw [List.length_map] at this
  rw [this]
  unfold gt
  rw [List.getD_eq_getElem?_getD, List.getElem?_replicate]
  split <;> rfl
theorem Bs.wf (b : Bs A hs as) : Lp.Wf A.length (as.length + A.length) (tab0 A hs as) := by
  refine ⟨by simp [tab0, rows0], fun row hr => ?_, ?_, by simp [tab0]⟩
  · obtain ⟨i, hi, e⟩ := List.mem_iff_getElem.mp hr
    have hi' : i < A.length := by simpa [tab0, rows0] using hi
    have := rows0_at (hs := hs) (m := A.length) hi'
    rw [List.getD_eq_getElem?_getD, List.getElem?_eq_getElem (by simpa [tab0, rows0] using hi)] at this
    have e2 : row = qL (rowZ A.length i (A.getD i []) (gt hs i)) := by rw [← e]; exact this
    rw [e2]
    unfold qL
    rw [List.length_map, rowZ_len, b.w _ (getD_mem hi')]
  · show (qL (lastZ A.length as)).length = _
    unfold qL lastZ
    simp
    omega
theorem Bs.ini (b : Bs A hs as) : Lp.In A.length as.length (as.length + A.length) (AzL A hs) (rzL A as) (Lp.tb (tab0 A hs as)) := by
  have wd : ∀ i, i < A.length → (A.getD i []).length = as.length := fun i hi => b.w _ (getD_mem hi)
  refine ⟨fun i hi j _ => ?_, fun j _ => ?_, fun i hi => ?_, fun i hi => ?_, fun i hi k hk hne => ?_, fun k hk => lastZ_0, fun i hi => ?_, rfl⟩
  · show Lp.ga ((tab0 A hs as).rows.getD i []) j = _
    show Lp.ga ((rows0 A.length hs 0 A).getD i []) j = _
    rw [rows0_at hi, ga_qL]
    rfl
  · show Lp.ga (qL (lastZ A.length as)) j = _
    rw [ga_qL]
    rfl
  · show ((List.range A.length).map fun i => as.length + i).getD i 0 = _
    simp [List.getD_eq_getElem?_getD, hi]
  · unfold AzL
    rw [← wd i hi, rowZ_u hi, if_pos rfl]
  · unfold AzL
    rw [← wd i hi, rowZ_u hk, if_neg (Ne.symm hne)]
  · unfold AzL
    rw [← wd i hi, rowZ_h]
    exact b.h0 _ (gt_mem (by rw [b.hl]; exact hi))
theorem Bs.azb (b : Bs A hs as) : ∀ k, k < A.length → ∀ j, j < as.length + A.length → (AzL A hs k j).natAbs ≤ 9 := fun k hk j hj => by
  have wd := b.w _ (getD_mem hk)
  unfold AzL
  by_cases h : j < as.length
  · rw [rowZ_a (by omega)]
    exact b.a9 _ (getD_mem hk) _ (gt_mem (by omega))
  · obtain ⟨l, rfl⟩ : ∃ l, j = as.length + l := ⟨j - as.length, by omega⟩
    rw [← wd, rowZ_u (by omega)]
    split <;> simp
theorem Bs.azh (b : Bs A hs as) : ∀ k, k < A.length → (AzL A hs k (as.length + A.length)).natAbs ≤ 2 ^ 20 := fun k hk => by
  have wd := b.w _ (getD_mem hk)
  unfold AzL
  rw [← wd, rowZ_h]
  exact b.hb _ (gt_mem (by rw [b.hl]; exact hk))
theorem Bs.rzb (b : Bs A hs as) : ∀ j, j ≤ as.length + A.length → (rzL A as j).natAbs ≤ 2 ^ 20 := fun j hj => by
  unfold rzL
  by_cases h : j < as.length
  · rw [lastZ_a h, Int.natAbs_neg]
    exact b.ab _ (gt_mem h)
  · obtain ⟨l, rfl⟩ : ∃ l, j = as.length + l := ⟨j - as.length, by omega⟩
    rw [lastZ_0]
    simp
theorem bdK : 6 * (9 * (9 * 9)) < 2 ^ 80 ∧ 18 * (9 * 9 * 2 ^ 20) < 2 ^ 80 ∧ 6 * (9 * (9 * 9)) * 2 ^ 20 + 18 * (2 ^ 20 * (9 * 9) * 2 ^ 20) < 2 ^ 80 := by decide
/-- all tables have small shares -/
theorem Bs.ti (b : Bs A hs as) {L : Lp.Lt} (v : Lp.Iv A.length as.length (as.length + A.length) (AzL A hs) (rzL A as) (Lp.tb (tab0 A hs as)) L) : (∀ row ∈ L.rows, ∀ x ∈ row, Ti x) ∧ ∀ x ∈ L.last, Ti x := by
  have t := Lp.tab_bd b.m3 rfl v.ok v.md (K := 9) (H := 2 ^ 20) (R := 2 ^ 20) (by omega) (by decide) b.azb b.azh b.rzb
  have k := bdK
  refine ⟨fun row hr x hx => ?_, fun x hx => ?_⟩
  · obtain ⟨i, hi, e⟩ := List.mem_iff_getElem.mp hr
    obtain ⟨j, hj, e2⟩ := List.mem_iff_getElem.mp hx
    have hi' : i < A.length := by rw [← v.wf.r]; exact hi
    have hj' : j < as.length + A.length + 1 := by rw [← v.wf.w row hr]; exact hj
    have := t.1 i hi' j (by omega)
    have ex : (Lp.tb L).T i j = x := by
      show Lp.ga (L.rows.getD i []) j = x
      rw [List.getD_eq_getElem?_getD, List.getElem?_eq_getElem hi]
      show Lp.ga L.rows[i] j = x
      rw [e]
      unfold Lp.ga
      rw [List.getD_eq_getElem?_getD, List.getElem?_eq_getElem hj]
      exact e2
    rw [ex] at this
    exact ⟨Nat.lt_of_le_of_lt this.2 k.2.1, Nat.lt_of_le_of_lt this.1 k.1⟩
  · obtain ⟨j, hj, e2⟩ := List.mem_iff_getElem.mp hx
    have hj' : j < as.length + A.length + 1 := by rw [← v.wf.l]; exact hj
    have := t.2 j (by omega)
    have ex : (Lp.tb L).r j = x := by
      show Lp.ga L.last j = x
      unfold Lp.ga
      rw [List.getD_eq_getElem?_getD, List.getElem?_eq_getElem hj]
      exact e2
    rw [ex] at this
    exact ⟨Nat.lt_of_le_of_lt this.2 k.2.2, Nat.lt_of_le_of_lt this.1 k.1⟩
end

/-! ### the turns one behind the other -/
theorem seq_nx {a b : S} {loc l : Loc} {st s : Store} (h : a loc st = .ok (.nx, l) s) : sSeq a b loc st = b l s := by
  rw [sSeq_eq, bd_eq h]
theorem seq_rt {a b : S} {loc l : Loc} {st s : Store} {v : Val} (h : a loc st = .ok (.rt v, l) s) : sSeq a b loc st = .ok (.rt v, l) s := by
  rw [sSeq_eq, bd_eq h]
  rfl
theorem asg_gN {e : E} {i : Nat} {loc : Loc} {st s : Store} {v : Val} (h : e loc st = .ok v s) : sAsg e (gN i) loc st = .ok (.nx, loc.set i (some v)) s := by
  rw [sAsg_eq, bd_eq h]
  rfl
theorem exp_at {e : E} {loc : Loc} {st s : Store} {v : Val} (h : e loc st = .ok v s) : sExp e loc st = .ok (.nx, loc) s := by
  rw [sExp_eq, bd_eq h]
  rfl
def wayD (n c : Nat) (L : Lp.Lt) : D := eRow (solF n (fun i => 0 - Lp.ga (L.rows.getD i []) c) 0 L.names (wy0 n c))
def bestT : Tst := tV (eU bNotN (eV 4))
section
set_option Elab.async false
variable {A : List (List Int)} {hs as : List Int} {s0 : Store} {k kb : Nat} {rv : Val} {st : Store} {L : Lp.Lt}
theorem TG.ent {n : Nat} {m N : Nat} (t : TG s0 n k kb L rv st) (w : Lp.Wf m N L) (hN : N ≤ 900) (x0 x1 x2 x4 x5 : Option Val) : eMet 0 "entering" (fixN 1 f_Table_entering) (eV 3) aN [x0, x1, x2, some (.o k), x4, x5] st = .ok (.d (oV (Lp.enL L.last))) st := by
  rw [met_at (k := k) (vs := []) rfl t.o rfl rfl, fix1]
  exact entering_ex t.o rfl (by rw [w.l]; omega) (by rw [w.l]; omega)
theorem TG.mono {n : Nat} (t : TG s0 n k kb L rv st) : Pre s0 st := t.p
theorem best_way (b : Bs A hs as) (v : Lp.Iv A.length as.length (as.length + A.length) (AzL A hs) (rzL A as) (Lp.tb (tab0 A hs as)) L) (t : TG s0 as.length k kb L rv st) {c : Nat} (e1 : Lp.enL L.last = some c) (e2 : Lp.lvL L c = none) (x0 x1 x2 x5 : Option Val) : ∃ st', best_L1 [x0, x1, x2, some (.o k), some (.d (oV (Lp.enL L.last))), x5] st = .ok (.rt (.d (.tuple [.str "way", wayD as.length c L, .list []])), [x0, x1, x2, some (.o k), some (.d (oV (Lp.enL L.last))), some (.d .none)]) st' ∧ Pre s0 st' := by
  have m3 := b.m3
  have n6 := b.n6
  have w := v.wf
  have en := Lp.en_some w e1
  have ti := (b.ti v).1
  obtain ⟨st1, el, t1⟩ := leaving_ex t (c := c) (by rw [w.r]; omega) (by rw [w.n, w.r]) (fun row hr => by rw [w.w row hr]; have := en.lt; omega) ti
  obtain ⟨st2, ew, q⟩ := way_ex w (by omega) (by omega) t1 (c := c) (by have := en.lt; omega) ti
  refine ⟨st2, ?_, q.2⟩
  rw [e2] at el
  rw [e1, best_L1_eq]
  have s1 : sAsg (eMet 0 "leaving" (fixN 2 f_Table_leaving) (eV 3) (aC (eV 4) aN)) (gN 5) [x0, x1, x2, some (.o k), some (.d (oV (some c))), x5] st = .ok (.nx, [x0, x1, x2, some (.o k), some (.d (oV (some c))), some (.d .none)]) st1 := by
    rw [asg_gN (v := .d .none) (s := st1) (by rw [met_at (k := k) (vs := [.d (.int (c : Int))]) rfl t.o rfl rfl, fix2]; exact el)]
    rfl
  rw [seq_nx s1]
  refine seq_rt ?_
  have s2 : eMet 0 "way_out" (fixN 2 f_Table_way_out) (eV 3) (aC (eV 4) aN) [x0, x1, x2, some (.o k), some (.d (oV (some c))), some (.d .none)] st1 = .ok (.d (wayD as.length c L)) st2 := by
    rw [met_at (k := k) (vs := [.d (.int (c : Int))]) rfl t1.o rfl rfl, fix2]
    exact ew
  simp only [sIf_eq, tV_eq, eU_eq, eV_zero, eV_succ, bd_ret, bIsN_eq, isN, asB_eq, if_true, sRet_eq, eB_eq, aC_eq, aN_eq, eC_eq, bd_bd, bd_ap, s2, rb_ok, ret_ap, bLst_eq0, bTup_eq3]
theorem best_turn (b : Bs A hs as) (v : Lp.Iv A.length as.length (as.length + A.length) (AzL A hs) (rzL A as) (Lp.tb (tab0 A hs as)) L) (t : TG s0 as.length k kb L rv st) {c a : Nat} (e1 : Lp.enL L.last = some c) (e2 : Lp.lvL L c = some a) (x0 x1 x2 x5 : Option Val) : ∃ y5 st', best_L1 [x0, x1, x2, some (.o k), some (.d (oV (Lp.enL L.last))), x5] st = .ok (.nx, [x0, x1, x2, some (.o k), some (.d (oV (Lp.enL (Lp.nxL L).last))), y5]) st' ∧ TG s0 as.length k kb (Lp.nxL L) (.d (eRows (Lp.nxL L).rows)) st' := by
  have m3 := b.m3
  have n6 := b.n6
  have w := v.wf
  have en := Lp.en_some w e1
  have lv := Lp.lv_some w e2
  have ti := b.ti v
  have nx : Lp.nxL L = Lp.pvL L a c := by unfold Lp.nxL; rw [e1]; dsimp only; rw [e2]
  have v' := v.nx
  have ti' := (b.ti v').1
  rw [nx] at ti'
  have w' := v'.wf
  rw [nx] at w' ⊢
  have hd : ∀ x ∈ Lp.hdL L a c, Ti x := by
    have hr := Lp.pv_row w (a := a) c lv.lt
    rw [if_pos rfl] at hr
    have hm : (Lp.pvL L a c).rows.getD a [] ∈ (Lp.pvL L a c).rows := by
      have : a < (Lp.pvL L a c).rows.length := by rw [w'.r]; exact lv.lt
      rw [List.getD_eq_getElem?_getD, List.getElem?_eq_getElem this]
      exact List.getElem_mem this
    rw [← hr]
    exact ti' _ hm
  obtain ⟨st1, el, t1⟩ := leaving_ex t (c := c) (by rw [w.r]; omega) (by rw [w.n, w.r]) (fun row hr => by rw [w.w row hr]; have := en.lt; omega) ti.1
  obtain ⟨st2, et, t2⟩ := turn_ex w (by omega) (by omega) t1 lv.lt (c := c) (by have := en.lt; omega) lv.pos ti.1 ti.2 hd
  have ee := t2.ent w' (by omega) x0 x1 x2 (some (.d (oV (some c)))) (some (.d (.int (a : Int))))
  rw [e2] at el
  refine ⟨some (.d (.int (a : Int))), st2, ?_, t2⟩
  rw [e1, best_L1_eq]
  have s1 : sAsg (eMet 0 "leaving" (fixN 2 f_Table_leaving) (eV 3) (aC (eV 4) aN)) (gN 5) [x0, x1, x2, some (.o k), some (.d (oV (some c))), x5] st = .ok (.nx, [x0, x1, x2, some (.o k), some (.d (oV (some c))), some (.d (.int (a : Int)))]) st1 := by
    rw [asg_gN (v := .d (.int (a : Int))) (s := st1) (by rw [met_at (k := k) (vs := [.d (.int (c : Int))]) rfl t.o rfl rfl, fix2]; exact el)]
    rfl
  rw [seq_nx s1]
  have s2 : sIf (tV (eU bIsN (eV 5))) (sRet (eB bTup (aC (eC (.str "way")) (aC (eMet 0 "way_out" (fixN 2 f_Table_way_out) (eV 3) (aC (eV 4) aN)) (aC (eB bLst aN) aN))))) sNil [x0, x1, x2, some (.o k), some (.d (oV (some c))), some (.d (.int (a : Int)))] st1 = .ok (.nx, [x0, x1, x2, some (.o k), some (.d (oV (some c))), some (.d (.int (a : Int)))]) st1 := by
    simp only [sIf_eq, tV_eq, eU_eq, eV_zero, eV_succ, bd_ret, bIsN_eq, isN, asB_eq, Bool.false_eq_true, if_false, sNil_eq, ret_ap]
  rw [seq_nx s2]
  have s3 : sExp (eMet 0 "turn_round" (fixN 3 f_Table_turn_round) (eV 3) (aC (eV 5) (aC (eV 4) aN))) [x0, x1, x2, some (.o k), some (.d (oV (some c))), some (.d (.int (a : Int)))] st1 = .ok (.nx, [x0, x1, x2, some (.o k), some (.d (oV (some c))), some (.d (.int (a : Int)))]) st2 :=
    exp_at (v := .d .none) (by rw [met_at (k := k) (vs := [.d (.int (a : Int)), .d (.int (c : Int))]) rfl t1.o rfl rfl, fix3]; exact et)
  rw [seq_nx s3, asg_gN ee]
  rfl
theorem best_loop (b : Bs A hs as) (x0 x1 x2 : Option Val) : ∀ (d j : Nat) (rv : Val) (st : Store) (x5 : Option Val), Lp.Stp (Lp.itL (tab0 A hs as) (j + d)) → (∀ i, i < j + d → ¬ Lp.Stp (Lp.itL (tab0 A hs as) i)) → TG s0 as.length k kb (Lp.itL (tab0 A hs as) j) rv st → (rv = .d (eRows (Lp.itL (tab0 A hs as) j).rows) ∨ j = 0) →
    (Lp.enL (Lp.itL (tab0 A hs as) (j + d)).last = none → ∃ y5 st' rv', whl (tV (eU bNotN (eV 4))) best_L1 (d + 1) [x0, x1, x2, some (.o k), some (.d (oV (Lp.enL (Lp.itL (tab0 A hs as) j).last))), x5] st = .ok (.nx, [x0, x1, x2, some (.o k), some (.d .none), y5]) st' ∧ TG s0 as.length k kb (Lp.itL (tab0 A hs as) (j + d)) rv' st' ∧ (rv' = .d (eRows (Lp.itL (tab0 A hs as) (j + d)).rows) ∨ j + d = 0)) ∧
    (∀ c, Lp.enL (Lp.itL (tab0 A hs as) (j + d)).last = some c → ∃ l' st', whl (tV (eU bNotN (eV 4))) best_L1 (d + 1) [x0, x1, x2, some (.o k), some (.d (oV (Lp.enL (Lp.itL (tab0 A hs as) j).last))), x5] st = .ok (.rt (.d (.tuple [.str "way", wayD as.length c (Lp.itL (tab0 A hs as) (j + d)), .list []])), l') st' ∧ Pre s0 st')
  | 0, j, rv, st, x5, hs0, hn, t, hr => by
    refine ⟨fun e => ⟨x5, st, rv, ?_, t, hr⟩, fun c e => ?_⟩
    · rw [Nat.add_zero] at e
      rw [e, whl_succ]
      simp only [tV_eq, eU_eq, eV_zero, eV_succ, bd_ret, bNotN_eq, oV, isN, Bool.not_true, asB_eq, Bool.false_eq_true, if_false, ret_ap]
    · rw [Nat.add_zero] at e ⊢
      have v := (Lp.In.iv b.wf b.ini).it j
      have lv : Lp.lvL (Lp.itL (tab0 A hs as) j) c = none := by
        rcases hs0 with h | ⟨c', h1, h2⟩
        · rw [Nat.add_zero, e] at h; cases h
        · rw [Nat.add_zero, e] at h1
          rw [Option.some.inj h1]
          exact h2
      obtain ⟨st', eb, p⟩ := best_way b v t e lv x0 x1 x2 x5
      refine ⟨[x0, x1, x2, some (.o k), some (.d (oV (Lp.enL (Lp.itL (tab0 A hs as) j).last))), some (.d .none)], st', ?_, p⟩
      rw [whl_succ]
      have tt : tV (eU bNotN (eV 4)) [x0, x1, x2, some (.o k), some (.d (oV (Lp.enL (Lp.itL (tab0 A hs as) j).last))), x5] = ret true := by
        rw [e]
        rfl
      rw [tt, bd_ret, if_pos rfl, bd_eq eb]
      rfl
  | d + 1, j, rv, st, x5, hs0, hn, t, hr => by
    have v := (Lp.In.iv b.wf b.ini).it j
    have ns := hn j (by omega)
    obtain ⟨c, e⟩ : ∃ c, Lp.enL (Lp.itL (tab0 A hs as) j).last = some c := by
      cases e : Lp.enL (Lp.itL (tab0 A hs as) j).last with
      | none => exact absurd (Or.inl e) ns
      | some c => exact ⟨c, rfl⟩
    obtain ⟨a, e2⟩ : ∃ a, Lp.lvL (Lp.itL (tab0 A hs as) j) c = some a := by
      cases e2 : Lp.lvL (Lp.itL (tab0 A hs as) j) c with
      | none => exact absurd (Or.inr ⟨c, e, e2⟩) ns
      | some a => exact ⟨a, rfl⟩
    obtain ⟨y5, st1, eb, t1⟩ := best_turn b v t e e2 x0 x1 x2 x5
    have ih := best_loop b x0 x1 x2 d (j + 1) (.d (eRows (Lp.itL (tab0 A hs as) (j + 1)).rows)) st1 y5 (by rw [show j + 1 + d = j + (d + 1) by omega]; exact hs0) (fun i hi => hn i (by omega)) t1 (Or.inl rfl)
    rw [show j + 1 + d = j + (d + 1) by omega] at ih
    have tt : tV (eU bNotN (eV 4)) [x0, x1, x2, some (.o k), some (.d (oV (Lp.enL (Lp.itL (tab0 A hs as) j).last))), x5] = ret true := by
      rw [e]
      rfl
    have step : whl (tV (eU bNotN (eV 4))) best_L1 (d + 1 + 1) [x0, x1, x2, some (.o k), some (.d (oV (Lp.enL (Lp.itL (tab0 A hs as) j).last))), x5] st = whl (tV (eU bNotN (eV 4))) best_L1 (d + 1) [x0, x1, x2, some (.o k), some (.d (oV (Lp.enL (Lp.itL (tab0 A hs as) (j + 1)).last))), y5] st1 := by
      rw [whl_succ, tt, bd_ret, if_pos rfl, bd_eq eb]
      rfl
    rw [step]
    exact ih
end

section
set_option Elab.async false
variable {A : List (List Int)} {hs as : List Int}
def solD (n N : Nat) (L : Lp.Lt) : List Rat := solF n (fun i => Lp.ga (L.rows.getD i []) N) 0 L.names (List.replicate n 0)
def wayL (n c : Nat) (L : Lp.Lt) : List Rat := solF n (fun i => 0 - Lp.ga (L.rows.getD i []) c) 0 L.names (wy0 n c)
def prL (n m : Nat) (L : Lp.Lt) : List Rat := (L.last.drop n).take m
theorem cut_pr {n m : Nat} {l : List Rat} (h : l.length = n + m + 1) : cutD (l.map sh) (some (n : Int)) (some (-1)) = ((l.drop n).take m).map sh := by
  unfold cutD sIx
  dsimp only
  rw [List.length_map, h]
  rw [if_neg (show ¬ ((n : Int) < 0) by omega), if_pos (show (-1 : Int) < 0 by omega)]
  rw [show min (n : Int).toNat (n + m + 1) = n by omega, show ((-1 : Int) + ((n + m + 1 : Nat) : Int)).toNat - n = m by omega, List.map_take, List.map_drop]
/-- what best tells -/
def BestV (A : List (List Int)) (hs as : List Int) (v : Val) : Prop := ∃ L, Lp.Iv A.length as.length (as.length + A.length) (AzL A hs) (rzL A as) (Lp.tb (tab0 A hs as)) L ∧
  ((Lp.enL L.last = none ∧ v = .d (.tuple [.str "most", eRow (solD as.length (as.length + A.length) L), eRow (prL as.length A.length L)])) ∨ ∃ c, Lp.enL L.last = some c ∧ Lp.lvL L c = none ∧ v = .d (.tuple [.str "way", eRow (wayL as.length c L), .list []]))
theorem best_ex (b : Bs A hs as) (hne : Lp.enL (tab0 A hs as).last ≠ none) (s0 : Store) : ∃ v st', f_best [.d (.list (A.map lZ)), .d (lZ hs), .d (lZ as)] s0 = .ok v st' ∧ BestV A hs as v ∧ Pre s0 st' := by
  have m3 := b.m3
  have n6 := b.n6
  obtain ⟨_, ei, _⟩ := init_ex (A := A) (hs := hs) (as := as) (by omega) b.hl (by omega) (fun a ha => by rw [b.w a ha]; omega) s0
  have t0 : TG s0 as.length s0.length (s0.length + 2) (tab0 A hs as) (.o (s0.length + 1)) (s0 ++ [.ins 0 (flds as.length (.o (s0.length + 1)) (tab0 A hs as).last (.o (s0.length + 2))), .lst (((tab0 A hs as).rows.map eRow).map .d), .lst ((nmD (tab0 A hs as).names).map .d)]) := by
    refine ⟨by simp, Or.inr ⟨s0.length + 1, rfl, by omega, ?_, by omega, by omega⟩, ?_, by omega, ⟨_, rfl⟩, by omega, by omega⟩
    · rw [List.getElem?_append_right (by omega)]
      simp
    · rw [List.getElem?_append_right (by omega)]
      simp
  generalize s0 ++ [.ins 0 (flds as.length (.o (s0.length + 1)) (tab0 A hs as).last (.o (s0.length + 2))), .lst (((tab0 A hs as).rows.map eRow).map .d), .lst ((nmD (tab0 A hs as).names).map .d)] = st1 at ei t0
  obtain ⟨kk, hstp, hlt⟩ := Lp.ends (Lp.In.iv b.wf b.ini)
  have ee := t0.ent b.wf (by omega) (some (.d (.list (A.map lZ)))) (some (.d (lZ hs))) (some (.d (lZ as))) none none
  have lp := best_loop b (some (.d (.list (A.map lZ)))) (some (.d (lZ hs))) (some (.d (lZ as))) kk 0 (.o (s0.length + 1)) st1 none (by rw [Nat.zero_add]; exact hstp) (fun i hi => hlt i (by omega)) t0 (Or.inr rfl)
  rw [Nat.zero_add] at lp
  simp only [show Lp.itL (tab0 A hs as) 0 = tab0 A hs as from rfl] at lp
  have v := (Lp.In.iv b.wf b.ini).it kk
  have e0 : List.map some [Val.d (.list (A.map lZ)), .d (lZ hs), .d (lZ as)] ++ List.replicate (6 - [Val.d (.list (A.map lZ)), .d (lZ hs), .d (lZ as)].length) none = [some (.d (.list (A.map lZ))), some (.d (lZ hs)), some (.d (lZ as)), none, none, none] := rfl
  have head : f_best [.d (.list (A.map lZ)), .d (lZ hs), .d (lZ as)] s0 = bd (sSeq (sWhile (tV (eU bNotN (eV 4))) best_L1)
    (sRet (eB bTup (aC (eC (.str "most")) (aC (eMet 0 "solution" (fixN 1 f_Table_solution) (eV 3) aN) (aC (eSl (eAtt 0 "last" (eV 3)) (oS (eAtt 0 "many" (eV 3))) (oS (eU bNeg (eC (.int 1))))) aN))))) [some (.d (.list (A.map lZ))), some (.d (lZ hs)), some (.d (lZ as)), some (.o s0.length), some (.d (oV (Lp.enL (tab0 A hs as).last))), none]) (fun r => match r.1 with
    | .rt v => ret v
    | .nx => ret (.d .none)
    | _ => die) st1 := by
    simp only [f_best, b_best, runF_eq]
    rw [e0]
    have s1 : sAsg (eB (fixN 3 (mkI 0 f_Table_init)) (aC (eV 0) (aC (eV 1) (aC (eV 2) aN)))) (gN 3) [some (.d (.list (A.map lZ))), some (.d (lZ hs)), some (.d (lZ as)), none, none, none] s0 = .ok (.nx, [some (.d (.list (A.map lZ))), some (.d (lZ hs)), some (.d (lZ as)), some (.o s0.length), none, none]) st1 := by
      rw [asg_gN (v := .o s0.length) (s := st1) (by simp only [eB_eq, aC_eq, aN_eq, eV_zero, eV_succ, bd_ret, bd_bd, fix3]; exact ei)]
      rfl
    rw [bd_ap, seq_nx s1, seq_nx (asg_gN ee)]
    rfl
  cases e : Lp.enL (Lp.itL (tab0 A hs as) kk).last with
  | none =>
    obtain ⟨y5, st2, rv, ew, t2, hr⟩ := lp.1 e
    have hk : kk ≠ 0 := fun z => by subst z; exact hne e
    have hr := hr.resolve_right hk
    subst hr
    have sw := sWhile_at (t := tV (eU bNotN (eV 4))) (b := best_L1) (n := kk + 1) (st := st1) (loc := [some (.d (.list (A.map lZ))), some (.d (lZ hs)), some (.d (lZ as)), some (.o s0.length), some (.d (oV (Lp.enL (tab0 A hs as).last))), none]) (by rw [ew]; exact fun z => by cases z)
    rw [ew] at sw
    obtain ⟨st3, es, q⟩ := solution_ex v.wf (by omega) (by omega) t2
    refine ⟨_, st3, ?_, ⟨_, v, Or.inl ⟨e, rfl⟩⟩, q.2⟩
    rw [head, bd_ap, seq_nx sw]
    have m1 : eMet 0 "solution" (fixN 1 f_Table_solution) (eV 3) aN [some (.d (.list (A.map lZ))), some (.d (lZ hs)), some (.d (lZ as)), some (.o s0.length), some (.d .none), y5] st2 = .ok (.d (eRow (solD as.length (as.length + A.length) (Lp.itL (tab0 A hs as) kk)))) st3 := by
      rw [met_at (k := s0.length) (vs := []) rfl t2.o rfl rfl, fix1]
      exact es
    have a1 : ∀ x0 x1 x2 x4 x5, eAtt 0 "last" (eV 3) [x0, x1, x2, some (.o s0.length), x4, x5] st3 = .ok (.d (eRow (Lp.itL (tab0 A hs as) kk).last)) st3 := fun _ _ _ _ _ => att_get rfl q.1 rfl
    have a2 : ∀ x0 x1 x2 x4 x5, eAtt 0 "many" (eV 3) [x0, x1, x2, some (.o s0.length), x4, x5] st3 = .ok (.d (.int (as.length : Int))) st3 := fun _ _ _ _ _ => att_get rfl q.1 rfl
    have sl : bSl (.d (eRow (Lp.itL (tab0 A hs as) kk).last)) (some (as.length : Int)) (some (-1)) = ret (.d (eRow (prL as.length A.length (Lp.itL (tab0 A hs as) kk)))) := by
      unfold eRow
      rw [bSl_lst, cut_pr (n := as.length) (m := A.length) v.wf.l]
      rfl
    simp only [sRet_eq, eB_eq, aC_eq, aN_eq, eC_eq, bd_ret, bd_bd, bd_ap, m1, rb_ok, eSl_eq, oS_eq, a1, a2, eU_eq, bNeg_int, asI_eq, sl, ret_ap, bTup_eq3]
  | some c =>
    have lv : Lp.lvL (Lp.itL (tab0 A hs as) kk) c = none := by
      rcases hstp with h | ⟨c', h1, h2⟩
      · rw [e] at h; cases h
      · rw [e] at h1
        rw [Option.some.inj h1]
        exact h2
    obtain ⟨l', st2, ew, p⟩ := lp.2 c e
    have sw := sWhile_at (t := tV (eU bNotN (eV 4))) (b := best_L1) (n := kk + 1) (st := st1) (loc := [some (.d (.list (A.map lZ))), some (.d (lZ hs)), some (.d (lZ as)), some (.o s0.length), some (.d (oV (Lp.enL (tab0 A hs as).last))), none]) (by rw [ew]; exact fun z => by cases z)
    rw [ew] at sw
    refine ⟨_, st2, ?_, ⟨_, v, Or.inr ⟨c, e, lv, rfl⟩⟩, p⟩
    rw [head, bd_ap, seq_rt sw]
    rfl
/-! ### what stands in the lists -/
theorem Iv_nodup {L : Lp.Lt} {m n N : Nat} {Az : Nat → Nat → Int} {rz : Nat → Int} {S0 : Lp.Tb} (v : Lp.Iv m n N Az rz S0 L) : L.names.Nodup := by
  unfold List.Nodup
  rw [List.pairwise_iff_getElem]
  intro i j hi hj hij e
  have := v.ok.inj (i := i) (k := j) (by rw [← v.wf.n]; exact hi) (by rw [← v.wf.n]; exact hj) (by
    show L.names.getD i 0 = L.names.getD j 0
    rw [List.getD_eq_getElem?_getD, List.getD_eq_getElem?_getD, List.getElem?_eq_getElem hi, List.getElem?_eq_getElem hj]
    exact e)
  omega
theorem mem_names {L : Lp.Lt} {j : Nat} : j ∈ L.names ↔ ∃ p, p < L.names.length ∧ L.names.getD p 0 = j := by
  constructor
  · intro h
    obtain ⟨p, hp, e⟩ := List.mem_iff_getElem.mp h
    exact ⟨p, hp, by rw [List.getD_eq_getElem?_getD, List.getElem?_eq_getElem hp]; exact e⟩
  · rintro ⟨p, hp, e⟩
    rw [← e, List.getD_eq_getElem?_getD, List.getElem?_eq_getElem hp]
    exact List.getElem_mem hp
theorem sol_pl {L : Lp.Lt} {m n N : Nat} {Az : Nat → Nat → Int} {rz : Nat → Int} {S0 : Lp.Tb} (v : Lp.Iv m n N Az rz S0 L) (vals : Nat → Rat) (f : List Rat) (hf : f.length = n) {j : Nat} (hj : j < n) (h0 : j ∈ L.names → Lp.ga f j = 0) : Lp.ga (solF n vals 0 L.names f) j = Lp.pl (Lp.tb L).B vals m j + Lp.ga f j := by
  by_cases h : j ∈ L.names
  · obtain ⟨p, hp, e⟩ := mem_names.mp h
    have := sol_in (n := n) (vals := vals) L.names 0 f hf (Iv_nodup v) p hp (by rw [e]; exact hj)
    rw [e, Nat.zero_add] at this
    rw [this, h0 h]
    have hpm : p < m := by rw [← v.wf.n]; exact hp
    unfold Lp.pl
    rw [Lp.sm_one (i := p) hpm fun q hq hne => by
      rw [if_neg]
      intro z
      exact hne (v.ok.inj hq hpm (by rw [z]; exact e.symm))]
    have : (Lp.tb L).B p = j := e
    rw [if_pos this]
    grind
  · rw [sol_out L.names 0 f hf h]
    unfold Lp.pl
    rw [Lp.sm_zero fun q hq => by
      rw [if_neg]
      intro z
      exact h (mem_names.mpr ⟨q, by rw [v.wf.n]; exact hq, z⟩)]
    grind
theorem ga_rep (n j : Nat) : Lp.ga (List.replicate n 0) j = 0 := by
  unfold Lp.ga
  rw [List.getD_eq_getElem?_getD, List.getElem?_replicate]
  split <;> rfl
theorem sol_bs {L : Lp.Lt} {m n N : Nat} {Az : Nat → Nat → Int} {rz : Nat → Int} {S0 : Lp.Tb} (v : Lp.Iv m n N Az rz S0 L) {j : Nat} (hj : j < n) : Lp.ga (solD n N L) j = Lp.bs m N (Lp.tb L) j := by
  unfold solD
  rw [sol_pl v _ _ (by simp) hj (fun _ => ga_rep n j), ga_rep]
  have : Lp.pl (Lp.tb L).B (fun i => Lp.ga (L.rows.getD i []) N) m j = Lp.bs m N (Lp.tb L) j := rfl
  rw [this]
  grind
theorem way_wy {L : Lp.Lt} {m n N : Nat} {Az : Nat → Nat → Int} {rz : Nat → Int} {S0 : Lp.Tb} (v : Lp.Iv m n N Az rz S0 L) {c : Nat} (e : Lp.enL L.last = some c) {j : Nat} (hj : j < n) : Lp.ga (wayL n c L) j = Lp.wy (Lp.tb L) m c j := by
  have en := Lp.en_some v.wf e
  have w0 : Lp.ga (wy0 n c) j = if j = c then 1 else 0 := by
    unfold wy0
    by_cases h : c < n
    · rw [if_pos h, ga_set _ _ (by simpa using h), ga_rep]
    · rw [if_neg h, ga_rep, if_neg (by omega)]
  unfold wayL
  rw [sol_pl v _ _ (wy0_len n c) hj (fun h => by
    rw [w0, if_neg]
    intro z
    subst z
    obtain ⟨p, hp, ep⟩ := mem_names.mp h
    exact v.ok.ne en (i := p) (by rw [← v.wf.n]; exact hp) ep), w0]
  unfold Lp.wy
  congr 1
  have : (fun i => 0 - Lp.ga (L.rows.getD i []) c) = fun i => - (Lp.tb L).T i c := by
    funext i
    show 0 - Lp.ga (L.rows.getD i []) c = - Lp.ga (L.rows.getD i []) c
    grind
  rw [this]
theorem solD_len (n N : Nat) (L : Lp.Lt) : (solD n N L).length = n := by unfold solD; rw [sol_len]; simp
theorem wayL_len (n c : Nat) (L : Lp.Lt) : (wayL n c L).length = n := by unfold wayL; rw [sol_len, wy0_len]
theorem prL_len {L : Lp.Lt} {m n N : Nat} {Az : Nat → Nat → Int} {rz : Nat → Int} {S0 : Lp.Tb} (v : Lp.Iv m n N Az rz S0 L) (hN : N = n + m) : (prL n m L).length = m := by
  unfold prL
  rw [List.length_take, List.length_drop, v.wf.l]
  omega
theorem prL_at {L : Lp.Lt} {m n : Nat} {k : Nat} (hk : k < m) : Lp.ga (prL n m L) k = (Lp.tb L).r (n + k) := by
  show Lp.ga (prL n m L) k = Lp.ga L.last (n + k)
  unfold prL Lp.ga
  rw [List.getD_eq_getElem?_getD, List.getD_eq_getElem?_getD, List.getElem?_take, if_pos hk, List.getElem?_drop]
end

end Y
end
section
set_option Elab.async false
set_option linter.all false
set_option maxRecDepth 10000
set_option exponentiation.threshold 5000
namespace Y
open PySem (PyData Str)
/-! ### shares made whole -/
def lcmF : Nat → List Rat → Nat
  | b, [] => b
  | b, q :: Q => lcmF (Nat.lcm b q.den) Q
theorem lcmF_dvd : ∀ (Q : List Rat) (b : Nat), b ∣ lcmF b Q ∧ ∀ q ∈ Q, q.den ∣ lcmF b Q
  | [], b => ⟨Nat.dvd_refl _, fun _ h => nomatch h⟩
  | q :: Q, b => by
    obtain ⟨h1, h2⟩ := lcmF_dvd Q (Nat.lcm b q.den)
    refine ⟨Nat.dvd_trans (Nat.dvd_lcm_left b q.den) h1, fun p hp => ?_⟩
    rcases List.mem_cons.mp hp with e | hp
    · rw [e]; exact Nat.dvd_trans (Nat.dvd_lcm_right b q.den) h1
    · exact h2 p hp
theorem lcmF_pos : ∀ (Q : List Rat) (b : Nat), 0 < b → 0 < lcmF b Q
  | [], b, h => h
  | q :: Q, b, h => lcmF_pos Q _ (Nat.lcm_pos h q.den_pos)
theorem pow_up {i j : Nat} (h : i ≤ j) : (2 : Nat) ^ i ≤ 2 ^ j := Nat.pow_le_pow_right (by omega) h
theorem lcm_lt {b d i : Nat} (hb : b < 2 ^ (80 * i)) (hd : d < 2 ^ 80) : b * d < 2 ^ (80 * (i + 1)) := by
  have h1 : b * d ≤ b * 2 ^ 80 := Nat.mul_le_mul_left _ (Nat.le_of_lt hd)
  have h2 : b * 2 ^ 80 < 2 ^ (80 * i) * 2 ^ 80 := Nat.mul_lt_mul_of_pos_right hb (Nat.pow_pos (by omega))
  rw [← Nat.pow_add] at h2
  rw [show 80 * (i + 1) = 80 * i + 80 by omega]
  omega
theorem lcm_le {b d : Nat} (hb : 0 < b) : Nat.lcm b d ≤ b * d := by
  unfold Nat.lcm
  exact Nat.div_le_self _ _
theorem lcmF_lt : ∀ (Q : List Rat) (b i : Nat), 0 < b → b < 2 ^ (80 * i) → (∀ q ∈ Q, Ti q) → lcmF b Q < 2 ^ (80 * (i + Q.length))
  | [], b, i, _, h, _ => h
  | q :: Q, b, i, h0, h, ht => by
    have := lcmF_lt Q (Nat.lcm b q.den) (i + 1) (Nat.lcm_pos h0 q.den_pos) (Nat.lt_of_le_of_lt (lcm_le h0) (lcm_lt h (ht q List.mem_cons_self).2)) fun p hp => ht p (List.mem_cons_of_mem _ hp)
    rw [show i + 1 + Q.length = i + (q :: Q).length by simp; omega] at this
    exact this
theorem whole_step {b i : Nat} {q : Rat} (h0 : 0 < b) (hb : b < 2 ^ (80 * i)) (hi : i ≤ 6) (ht : Ti q) (s x2 x3 : Option Val) : fBody (gT 2 (gsC (gN 2) (gsC (gN 3) gsN))) whole_L1 (.d (sh q)) [s, some (.d (.int (b : Int))), x2, x3] = ret (.nx, [s, some (.d (.int ((Nat.lcm b q.den : Nat) : Int))), some (.d (.int q.num)), some (.d (.int (q.den : Int)))]) := by
  have bb : b < big := Nat.lt_of_lt_of_le hb (pow_up (by omega))
  have db : q.den < big := Nat.lt_of_lt_of_le ht.2 (pow_up (by omega))
  have m1 : mulOk (b : Int) (q.den : Int) = true := mul_big (by rw [Int.natAbs_natCast]; exact bb) (by rw [Int.natAbs_natCast]; exact db)
  have rd := r_divider (a := (b : Int)) (b := (q.den : Int)) (by rw [Int.natAbs_natCast]; exact bb) (by rw [Int.natAbs_natCast]; exact db)
  rw [Int.natAbs_natCast, Int.natAbs_natCast] at rd
  have g0 : 0 < Nat.gcd q.den b := Nat.gcd_pos_of_pos_left _ q.den_pos
  have d := div_ok (j := ((Nat.gcd q.den b : Nat) : Int)) (by omega) (by rw [Int.natAbs_natCast]; exact Nat.lt_of_le_of_lt (Nat.gcd_le_left _ q.den_pos) db)
  have e : (b : Int) * (q.den : Int) / ((Nat.gcd q.den b : Nat) : Int) = ((Nat.lcm b q.den : Nat) : Int) := by
    unfold Nat.lcm
    rw [Nat.gcd_comm b q.den]
    push_cast
    rfl
  unfold sh
  simp only [fBody_eq, gT_eq, List.length_cons, List.length_nil, if_true, List.map_cons, List.map_nil, gsC_eq, gsN_eq, gN_eq, bd_ret, bd_bd, List.set_cons_succ, List.set_cons_zero, whole_L1_eq, sAsg_eq, eO_eq, eB_eq, aC_eq, aN_eq, eV_zero, eV_succ, bMul_int, m1, fix2, rd, bDiv_int, d, and_self, e]
theorem whole_loop (s : Option Val) : ∀ (Q : List Rat) (b i : Nat) (x2 x3 : Option Val), 0 < b → b < 2 ^ (80 * i) → i + Q.length ≤ 7 → (∀ q ∈ Q, Ti q) → ∃ y2 y3, forL (fBody (gT 2 (gsC (gN 2) (gsC (gN 3) gsN))) whole_L1) (Q.map fun q => Val.d (sh q)) [s, some (.d (.int (b : Int))), x2, x3] = ret (.nx, [s, some (.d (.int (lcmF b Q : Int))), y2, y3])
  | [], b, i, x2, x3, _, _, _, _ => ⟨x2, x3, rfl⟩
  | q :: Q, b, i, x2, x3, h0, hb, hi, ht => by
    simp only [List.length_cons] at hi
    have e1 := whole_step h0 hb (by omega) (ht q List.mem_cons_self) s x2 x3
    obtain ⟨y2, y3, e2⟩ := whole_loop s Q (Nat.lcm b q.den) (i + 1) (some (.d (.int q.num))) (some (.d (.int (q.den : Int)))) (Nat.lcm_pos h0 q.den_pos) (Nat.lt_of_le_of_lt (lcm_le h0) (lcm_lt hb (ht q List.mem_cons_self).2)) (by omega) fun p hp => ht p (List.mem_cons_of_mem _ hp)
    refine ⟨y2, y3, ?_⟩
    show bd (fBody _ _ _ _) _ = _
    rw [e1, bd_ret]
    exact e2
def whQ (Q : List Rat) : List Int := Q.map fun q => q.num * ((lcmF 1 Q / q.den : Nat) : Int)
theorem r_whole {Q : List Rat} (hl : Q.length ≤ 6) (ht : ∀ q ∈ Q, Ti q) : f_whole [.d (eRow Q)] = ret (.d (tI (whQ Q))) := by
  have one : (1 : Nat) < 2 ^ (80 * 1) := Nat.one_lt_two_pow (by omega)
  obtain ⟨y2, y3, el⟩ := whole_loop (some (.d (eRow Q))) Q 1 1 none none (by omega) one (by omega) ht
  have bl := lcmF_lt Q 1 1 (by omega) one ht
  have bb : lcmF 1 Q < big := Nat.lt_of_lt_of_le bl (pow_up (by omega))
  have c1 : whole_C1 [some (.d (eRow Q)), some (.d (.int (lcmF 1 Q : Int))), y2, y3] = ret (.d (.list (Q.map fun q => .int (q.num * ((lcmF 1 Q / q.den : Nat) : Int))))) := by
    rw [whole_C1_eq]
    refine eLc_map Q (fun q => Val.d (sh q)) _ ?_ (by rw [lim_eq]; omega) fun q hq => ?_
    · have sq : seqOf (.d (eRow Q)) = ret (Q.map sh) := rfl
      simp only [iSeq_eq, eV_zero, bd_ret, sq, List.map_map]
      rfl
    · have t := ht q hq
      have d := div_ok (j := (q.den : Int)) (by have := q.den_pos; omega) (by rw [Int.natAbs_natCast]; exact Nat.lt_of_lt_of_le t.2 (pow_up (by omega)))
      have e : (lcmF 1 Q : Int) / (q.den : Int) = ((lcmF 1 Q / q.den : Nat) : Int) := by push_cast; rfl
      have m1 : mulOk q.num ((lcmF 1 Q / q.den : Nat) : Int) = true := mul_big (Nat.lt_of_lt_of_le t.1 (pow_up (by omega))) (by rw [Int.natAbs_natCast]; exact Nat.lt_of_le_of_lt (Nat.div_le_self _ _) bb)
      unfold sh
      simp only [cBody_eq, wip_cons, wip_nil, gT_eq, List.length_cons, List.length_nil, if_true, List.map_cons, List.map_nil, gsC_eq, gsN_eq, gN_eq, bd_ret, bd_bd, List.set_cons_succ, List.set_cons_zero, tTr_eq, eO_eq, eV_zero, eV_succ, bDiv_int, d, and_self, e, bMul_int, m1]
  have e0 : List.map some [Val.d (eRow Q)] ++ List.replicate (4 - [Val.d (eRow Q)].length) none = [some (.d (eRow Q)), none, none, none] := rfl
  simp only [f_whole, b_whole, runF_eq]
  rw [e0]
  have sq : seqOf (.d (eRow Q)) = ret (Q.map sh) := rfl
  have mm : (Q.map sh).map Val.d = Q.map fun q => Val.d (sh q) := by rw [List.map_map]; rfl
  have el' : forL (fBody (gT 2 (gsC (gN 2) (gsC (gN 3) gsN))) whole_L1) (Q.map fun q => Val.d (sh q)) [some (.d (eRow Q)), some (.d (.int 1)), none, none] = _ := el
  simp only [sSeq_eq, sAsg_eq, eC_eq, bd_ret, gN_eq, List.set_cons_succ, List.set_cons_zero, sFor_eq, iSeq_eq, eV_zero, eV_succ, bd_bd, sq, mm, el', sRet_eq, eB_eq, aC_eq, aN_eq, c1, bTuple_lst]
  unfold tI whQ intsD
  rw [List.map_map]
  rfl
theorem whQ_at (Q : List Rat) : 0 < lcmF 1 Q ∧ (whQ Q).length = Q.length ∧ ∀ j, j < Q.length → ((gt (whQ Q) j : Int) : Rat) = (lcmF 1 Q : Rat) * Lp.ga Q j := by
  refine ⟨lcmF_pos Q 1 (by omega), by simp [whQ], fun j hj => ?_⟩
  have e1 : gt (whQ Q) j = Q[j].num * ((lcmF 1 Q / Q[j].den : Nat) : Int) := by
    unfold gt whQ
    simp [List.getD_eq_getElem?_getD, hj]
  have e2 : Lp.ga Q j = Q[j] := by
    unfold Lp.ga
    simp [List.getD_eq_getElem?_getD, hj]
  rw [e1, e2]
  obtain ⟨c, hc⟩ := (lcmF_dvd Q 1).2 Q[j] (List.getElem_mem hj)
  have hd := Q[j].den_pos
  rw [hc, Nat.mul_div_cancel_left _ hd]
  generalize Q[j] = q at *
  have e3 := rat_eq q
  have e4 := den0 q
  push_cast
  have : (q.den : Rat) * q = (q.num : Rat) := by grind
  have : (q.den : Rat) * (c : Rat) * q = (q.num : Rat) * (c : Rat) := by grind
  exact this.symm
theorem ti_mem {Q : List Rat} (h : ∀ j, j < Q.length → Ti (Lp.ga Q j)) : ∀ q ∈ Q, Ti q := fun q hq => by
  obtain ⟨j, hj, e⟩ := List.mem_iff_getElem.mp hq
  have := h j hj
  unfold Lp.ga at this
  rw [List.getD_eq_getElem?_getD, List.getElem?_eq_getElem hj] at this
  rw [← e]
  exact this

/-! ### what counts of moves win -/
def Aw (ms : List Mv) (h : Nat) : List (List Int) := (List.range h).map fun k => ms.map fun m => -(gt (chg m) k)
theorem Aw_len (ms : List Mv) (h : Nat) : (Aw ms h).length = h := by simp [Aw]
theorem Aw_at {ms : List Mv} {h k : Nat} (hk : k < h) : (Aw ms h).getD k [] = ms.map fun m => -(gt (chg m) k) := by
  unfold Aw
  simp [List.getD_eq_getElem?_getD, hk]
theorem chg9 {m : Mv} (b1 : ∀ x ∈ m.1, 0 ≤ x ∧ x ≤ 9) (b2 : ∀ x ∈ m.2, 0 ≤ x ∧ x ≤ 9) : ∀ x ∈ chg m, x.natAbs ≤ 9 := fun x hx => by
  unfold chg at hx
  obtain ⟨p, hp, rfl⟩ := List.mem_map.mp hx
  have hz := List.of_mem_zip (a := p.1) (b := p.2) hp
  have := b1 _ hz.1
  have := b2 _ hz.2
  omega
section
set_option Elab.async false
variable {ms : List Mv} {h : Nat} (w : WF ms h)
include w
theorem WF.clen {m : Mv} (hm : m ∈ ms) : (chg m).length = h := by
  unfold chg
  rw [List.length_map, List.length_zip, w.l1 m hm, w.l2 m hm]
  omega
theorem Aw_bs (h3 : h ≤ 3) {sd as : List Int} (hs : sd.length = h) (s0 : ∀ x ∈ sd, 0 ≤ x ∧ x ≤ 100000) (ha : as.length = ms.length) (a1 : ∀ x ∈ as, x.natAbs ≤ 1) : Bs (Aw ms h) sd as := by
  have big : ∀ x : Nat, x ≤ 100000 → x ≤ 2 ^ 20 := fun x hx => Nat.le_trans hx (by decide)
  refine ⟨by rw [Aw_len]; exact h3, by rw [ha]; have := w.n6; omega, by rw [Aw_len, hs], fun a haw => ?_, fun a haw x hx => ?_, fun x hx => (s0 x hx).1, fun x hx => ?_, fun x hx => ?_⟩
  · obtain ⟨k, hk, rfl⟩ := List.mem_map.mp haw
    rw [List.length_map, ha]
  · obtain ⟨k, hk, rfl⟩ := List.mem_map.mp haw
    obtain ⟨m, hm, rfl⟩ := List.mem_map.mp hx
    rw [Int.natAbs_neg]
    by_cases hk : k < (chg m).length
    · exact chg9 (w.b1 m hm) (w.b2 m hm) _ (gt_mem hk)
    · rw [gt_out (by omega)]; simp
  · exact big _ (by have := s0 x hx; omega)
  · exact big _ (by have := a1 x hx; omega)
theorem won_rows (x1 x2 : Option Val) : won_C2 [some (.d (eMs ms)), x1, x2, some (.d (.list (ms.map fun m => tI (chg m)))), none, none, none] = ret (.d (.list ((Aw ms h).map lZ))) := by
  have h4 := w.h4
  have n6 := w.n6
  rw [won_C2_eq]
  have := eLc_map (it := iCall kRg1 (aC (eB (fixN 1 f_heaps_of) (aC (eV 0) aN)) aN)) (g := gN 6) (t := tTr) (e := won_C1) (vs := [6]) (loc := [some (.d (eMs ms)), x1, x2, some (.d (.list (ms.map fun m => tI (chg m)))), none, none, none]) (List.range h) (fun (i : Nat) => Val.d (.int (0 + (i : Int)))) (fun k => lZ (ms.map fun m => -(gt (chg m) k))) (by
      have e := kRg1_nat (z := (h : Int)) rfl (by omega)
      simp only [iCall_eq, aC_eq, eB_eq, eV_zero, aN_eq, bd_ret, bd_bd, fix1, w.heaps, e]) (by rw [List.length_range, lim_eq]; omega) (fun k hk => by
      have hk := List.mem_range.mp hk
      have hz : (0 : Int) + (k : Int) = (k : Int) := by omega
      have c1 : won_C1 [some (.d (eMs ms)), x1, x2, some (.d (.list (ms.map fun m => tI (chg m)))), none, none, some (.d (.int (k : Int)))] = ret (.d (lZ (ms.map fun m => -(gt (chg m) k)))) := by
        rw [won_C1_eq]
        have := eLc_map (it := iSeq (eV 3)) (g := gN 5) (t := tTr) (e := eU bNeg (eO bIx (eV 5) (eV 6))) (vs := [5]) (loc := [some (.d (eMs ms)), x1, x2, some (.d (.list (ms.map fun m => tI (chg m)))), none, none, some (.d (.int (k : Int)))]) ms (fun m => Val.d (tI (chg m))) (fun m => .int (-(gt (chg m) k))) (by
            simp only [iSeq_eq, eV_zero, eV_succ, bd_ret, seqOf_lst, List.map_map]
            rfl) (by rw [lim_eq]; omega) (fun m hm => by
            have ix := ix_tI0 (a := chg m) (i := k) (by rw [w.clen hm]; exact hk)
            simp only [cBody_eq, wip_cons, wip_nil, gN_eq, bd_ret, List.set_cons_succ, List.set_cons_zero, tTr_eq, if_true, eU_eq, eO_eq, eV_zero, eV_succ, bd_bd, ix, bNeg_int])
        rw [this]
        unfold lZ intsD
        rw [List.map_map]
        rfl
      rw [hz]
      simp only [cBody_eq, wip_cons, wip_nil, gN_eq, bd_ret, List.set_cons_succ, List.set_cons_zero, tTr_eq, if_true, c1])
  rw [this]
  unfold Aw
  rw [List.map_map]
  rfl
theorem won_ex (h3 : h ≤ 3) {sd as : List Int} (hs : sd.length = h) (s0 : ∀ x ∈ sd, 0 ≤ x ∧ x ≤ 100000) (ha : as.length = ms.length) (a1 : ∀ x ∈ as, x.natAbs ≤ 1) (hp : 0 < gt as 0) (st : Store) : ∃ v st', f_won [.d (eMs ms), .d (tI sd), .d (lZ as)] st = .ok v st' ∧ BestV (Aw ms h) sd as v ∧ Pre st st' := by
  have n1 := w.n1
  have b := Aw_bs w h3 hs s0 ha a1
  have hne : Lp.enL (tab0 (Aw ms h) sd as).last ≠ none := fun z => by
    have := Lp.en_none b.wf z 0 (by rw [ha]; omega)
    rw [b.ini.r 0 (by omega)] at this
    unfold rzL at this
    rw [lastZ_a (by omega)] at this
    have : (0 : Int) ≤ - gt as 0 := by exact_mod_cast this
    omega
  obtain ⟨v, st', e, hv, p⟩ := best_ex b hne st
  refine ⟨v, st', ?_, hv, p⟩
  have e0 : List.map some [Val.d (eMs ms), .d (tI sd), .d (lZ as)] ++ List.replicate (7 - [Val.d (eMs ms), .d (tI sd), .d (lZ as)].length) none = [some (.d (eMs ms)), some (.d (tI sd)), some (.d (lZ as)), none, none, none, none] := rfl
  have bl : bList [.d (tI sd)] = ret (.d (lZ sd)) := rfl
  simp only [f_won, b_won, runF_eq]
  rw [e0]
  simp only [sSeq_eq, sAsg_eq, eB_eq, aC_eq, aN_eq, eV_zero, eV_succ, bd_ret, bd_bd, fix1, r_all_changes w, gN_eq, List.set_cons_succ, List.set_cons_zero, won_rows w, sRet_eq, bl, fix3, bd_ap, e, rb_ok, ret_ap]
theorem for_all_ex (h3 : h ≤ 3) (st : Store) : ∃ v st', f_for_all [.d (eMs ms)] st = .ok v st' ∧ BestV (Aw ms h) (List.replicate h 1) (List.replicate ms.length 1) v ∧ Pre st st' := by
  have n1 := w.n1
  have n6 := w.n6
  have h1 := w.h1
  obtain ⟨v, st', e, hv, p⟩ := won_ex w h3 (sd := List.replicate h 1) (as := List.replicate ms.length 1) (by simp) (fun x hx => by rw [List.eq_of_mem_replicate hx]; omega) (by simp) (fun x hx => by rw [List.eq_of_mem_replicate hx]; simp) (by
    obtain ⟨n, hn⟩ : ∃ n, ms.length = n + 1 := ⟨ms.length - 1, by omega⟩
    rw [hn]
    show (0 : Int) < 1
    omega) st
  refine ⟨v, st', ?_, hv, p⟩
  have m1 : bMul (.d (.tuple [.int 1])) (.d (.int (h : Int))) = ret (.d (tI (List.replicate h 1))) := by
    rw [bMul_tup, if_pos ⟨by omega, by omega, by simp, by simp⟩]
    congr 3
    unfold repD
    rw [show ((h : Int)).toNat = h by omega]
    unfold intsD
    rw [List.map_replicate]
    generalize h = k
    induction k with
    | zero => rfl
    | succ k ih => rw [List.replicate_succ, List.flatten_cons, ih, List.replicate_succ]; rfl
  have m2 : bMul (.d (.list [.int 1])) (.d (.int (ms.length : Int))) = ret (.d (lZ (List.replicate ms.length 1))) := by
    show (if -1000 ≤ (ms.length : Int) ∧ (ms.length : Int) ≤ 1000 ∧ [PyData.int 1].length ≤ 1000 then ret (Val.d (.list (repD (ms.length : Int) [PyData.int 1]))) else die) = _
    rw [if_pos ⟨by omega, by omega, by simp⟩]
    unfold lZ
    congr 3
    unfold repD
    rw [show ((ms.length : Int)).toNat = ms.length by omega]
    unfold intsD
    rw [List.map_replicate]
    generalize ms.length = k
    induction k with
    | zero => rfl
    | succ k ih => rw [List.replicate_succ, List.flatten_cons, ih, List.replicate_succ]; rfl
  have bl : bLen [.d (eMs ms)] = ret (.d (.int (ms.length : Int))) := by
    show ret (vI (ms.map eMv).length) = _
    rw [List.length_map]
    rfl
  have e0 : List.map some [Val.d (eMs ms)] ++ List.replicate (1 - [Val.d (eMs ms)].length) none = [some (.d (eMs ms))] := rfl
  simp only [f_for_all, b_for_all, runF_eq]
  rw [e0]
  simp only [sRet_eq, eB_eq, aC_eq, aN_eq, eO_eq, eC_eq, eV_zero, bd_ret, bd_bd, bTup_eq1, bLst_eq1, fix1, w.heaps, m1, bl, m2, fix3, bd_ap, e, rb_ok, ret_ap]
end

end Y
end
section
set_option Elab.async false
set_option linter.all false
set_option maxRecDepth 10000
set_option exponentiation.threshold 5000
namespace Y
open PySem (PyData Str)
/-! ### weights or a round, one of both -/
theorem sum_sm {α : Type} (g : α → Int) (d : α) : ∀ l : List α, (((l.map g).sum : Int) : Rat) = Lp.sm (fun j => ((g (l.getD j d) : Int) : Rat)) l.length
  | [] => rfl
  | x :: l => by
    rw [List.map_cons, List.sum_cons, List.length_cons, Nat.add_comm l.length 1, Lp.sm_split]
    have ih := sum_sm g d l
    push_cast
    rw [ih]
    have e1 : Lp.sm (fun j => ((g ((x :: l).getD j d) : Int) : Rat)) 1 = ((g x : Int) : Rat) := by
      show (0 : Rat) + ((g x : Int) : Rat) = _
      grind
    have e2 : (fun k => ((g ((x :: l).getD (1 + k) d) : Int) : Rat)) = fun j => ((g (l.getD j d) : Int) : Rat) := by
      funext k
      rw [Nat.add_comm 1 k]
      rfl
    rw [e1, e2]
theorem zip_getD {α β : Type} (a : List α) (b : List β) (x : α) (y : β) (h : a.length = b.length) (j : Nat) : (a.zip b).getD j (x, y) = (a.getD j x, b.getD j y) := by
  by_cases hj : j < a.length
  · have h2 : j < b.length := by omega
    have hz : (a.zip b)[j]? = some (a[j], b[j]) := by
      rw [List.getElem?_zip_eq_some]
      exact ⟨List.getElem?_eq_getElem hj, List.getElem?_eq_getElem h2⟩
    simp only [List.getD_eq_getElem?_getD, hz, List.getElem?_eq_getElem hj, List.getElem?_eq_getElem h2, Option.getD_some]
  · simp only [List.getD_eq_getElem?_getD]
    rw [List.getElem?_eq_none (by simp; omega), List.getElem?_eq_none (by omega), List.getElem?_eq_none (by omega)]
    rfl
theorem wgt_sm {a b : List Int} {h : Nat} (ha : a.length = h) (hb : b.length = h) : ((wgt a b : Int) : Rat) = Lp.sm (fun k => ((gt a k : Int) : Rat) * ((gt b k : Int) : Rat)) h := by
  unfold wgt
  rw [sum_sm (fun p : Int × Int => p.1 * p.2) (0, 0), List.length_zip, ha, hb, Nat.min_self]
  apply Lp.sm_congr
  intro k _
  rw [zip_getD _ _ _ _ (by omega)]
  push_cast
  rfl
theorem wgt_add : ∀ (ws a b : List Int), a.length = b.length → wgt ws (addL a b) = wgt ws a + wgt ws b
  | [], a, b, _ => by simp [wgt]
  | x :: ws, [], [], _ => by simp [wgt, addL]
  | x :: ws, y :: a, z :: b, h => by
    have ih := wgt_add ws a b (by simpa using h)
    have e1 : wgt (x :: ws) (y :: a) = x * y + wgt ws a := by simp [wgt]
    have e2 : wgt (x :: ws) (z :: b) = x * z + wgt ws b := by simp [wgt]
    have e3 : wgt (x :: ws) (addL (y :: a) (z :: b)) = x * (y + z) + wgt ws (addL a b) := by simp [wgt, addL]
    rw [e1, e2, e3, ih, Int.mul_add]
    omega
theorem wgt_scl (k : Int) : ∀ (ws a : List Int), wgt ws (sclL k a) = k * wgt ws a
  | [], a => by simp [wgt]
  | x :: ws, [] => by simp [wgt, sclL]
  | x :: ws, y :: a => by
    have ih := wgt_scl k ws a
    have e1 : wgt (x :: ws) (y :: a) = x * y + wgt ws a := by simp [wgt]
    have e3 : wgt (x :: ws) (sclL k (y :: a)) = x * (k * y) + wgt ws (sclL k a) := by simp [wgt, sclL]
    rw [e1, e3, ih, Int.mul_add, Int.mul_left_comm]
theorem wgt_nn : ∀ {ws a : List Int}, (∀ x ∈ ws, 0 ≤ x) → (∀ x ∈ a, 0 ≤ x) → 0 ≤ wgt ws a
  | [], a, _, _ => by simp [wgt]
  | x :: ws, [], _, _ => by simp [wgt]
  | x :: ws, y :: a, h1, h2 => by
    have ih := wgt_nn (ws := ws) (a := a) (fun z hz => h1 z (List.mem_cons_of_mem _ hz)) (fun z hz => h2 z (List.mem_cons_of_mem _ hz))
    have e1 : wgt (x :: ws) (y :: a) = x * y + wgt ws a := by simp [wgt]
    have := Int.mul_nonneg (h1 x List.mem_cons_self) (h2 y List.mem_cons_self)
    omega
theorem wgt_zero (ws : List Int) (h : Nat) : wgt ws (List.replicate h 0) = 0 := by
  have e : (List.replicate h (0 : Int)) = sclL 0 (List.replicate h 0) := by simp [sclL]
  rw [e, wgt_scl]
  omega
theorem wgt_tot {h : Nat} (ws : List Int) : ∀ (L : List (Int × Mv)) (f : List Int), f.length = h → (∀ p ∈ L, (chg p.2).length = h) → wgt ws (totL f L) = wgt ws f + (L.map fun p => p.1 * wgt ws (chg p.2)).sum
  | [], f, _, _ => by simp [totL]
  | p :: L, f, hf, hL => by
    have hp := hL p List.mem_cons_self
    have l2 : (addL f (sclL p.1 (chg p.2))).length = h := by
      rw [addL_len (by rw [scl_len, hp, hf]), hf]
    have ih := wgt_tot ws L (addL f (sclL p.1 (chg p.2))) l2 fun q hq => hL q (List.mem_cons_of_mem _ hq)
    show wgt ws (totL (addL f (sclL p.1 (chg p.2))) L) = _
    rw [ih, wgt_add _ _ _ (by rw [scl_len, hp, hf]), wgt_scl, List.map_cons, List.sum_cons]
    omega
theorem sum_le_neg : ∀ (L : List (Int × Mv)) (g : Mv → Int), (∀ p ∈ L, 0 ≤ p.1 ∧ g p.2 ≤ -1) → (L.map fun p => p.1 * g p.2).sum ≤ -(L.map fun p => p.1).sum
  | [], _, _ => by simp
  | p :: L, g, h => by
    have ih := sum_le_neg L g fun q hq => h q (List.mem_cons_of_mem _ hq)
    obtain ⟨h1, h2⟩ := h p List.mem_cons_self
    have := Int.mul_le_mul_of_nonneg_left h2 h1
    simp only [List.map_cons, List.sum_cons]
    omega
section
set_option Elab.async false
variable {ms : List Mv} {h : Nat} (w : WF ms h)
theorem rg_iff {ws : List Int} : rgB ms ws = true ↔ ∀ m ∈ ms, wgt ws (chg m) ≤ -1 := by
  unfold rgB lsF
  simp only [List.all_map, List.all_eq_true, Function.comp_apply, decide_eq_true_eq]
  constructor
  · intro z m hm
    have := z m hm
    omega
  · intro z m hm
    have := z m hm
    omega
include w in
theorem farkas {ws cs : List Int} (hw : Wt h ws) (hr : rgB ms ws = true) (hc : Ct ms.length cs) (hg : gdB h ms cs = true) : False := by
  unfold gdB at hg
  simp only [Bool.and_eq_true, decide_eq_true_eq, List.all_eq_true] at hg
  have h1 := rg_iff.mp hr
  have t := wgt_tot (h := h) ws (cs.zip ms) (List.replicate h 0) (by simp) fun p hp => w.clen (List.of_mem_zip (a := p.1) (b := p.2) hp).2
  rw [wgt_zero] at t
  have nn : 0 ≤ wgt ws (Tot h ms cs) := wgt_nn hw.2 hg.2
  have le := sum_le_neg (cs.zip ms) (fun m => wgt ws (chg m)) fun p hp => by
    have z := List.of_mem_zip (a := p.1) (b := p.2) hp
    exact ⟨hc.b _ z.1, h1 _ z.2⟩
  have es : ((cs.zip ms).map fun p => p.1) = cs := by
    have : (fun p : Int × Mv => p.1) = Prod.fst := rfl
    rw [this, List.map_fst_zip (by rw [hc.l]; omega)]
  rw [es] at le
  unfold Tot at nn
  omega
def EndsP (ms : List Mv) (h : Nat) : Prop := ∃ ws, Wt h ws ∧ rgB ms ws = true
def GoesP (ms : List Mv) (h : Nat) : Prop := ∃ cs, Ct ms.length cs ∧ gdB h ms cs = true
include w in
theorem not_both (a : EndsP ms h) (b : GoesP ms h) : False := by
  obtain ⟨ws, a1, a2⟩ := a
  obtain ⟨cs, b1, b2⟩ := b
  exact farkas w a1 a2 b1 b2
include w in
theorem Az_w {sd : List Int} {k j : Nat} (hk : k < h) (hj : j < ms.length) : AzL (Aw ms h) sd k j = -(gt (chg (ms.getD j ([], []))) k) := by
  unfold AzL
  rw [Aw_at hk, rowZ_a (by simpa using hj)]
  unfold gt
  simp [List.getD_eq_getElem?_getD, hj]
theorem rz_w {n k j : Nat} {A : List (List Int)} (hj : j < n) : rzL A (List.replicate n 1) j = -1 := by
  unfold rzL
  rw [lastZ_a (by simpa using hj)]
  unfold gt
  simp [List.getD_eq_getElem?_getD, hj]
theorem mem_getD {j : Nat} (hj : j < ms.length) : ms.getD j ([], []) ∈ ms := by
  rw [List.getD_eq_getElem?_getD, List.getElem?_eq_getElem hj]
  exact List.getElem_mem hj
theorem rat_nn_int {x : Int} (h : (0 : Rat) ≤ (x : Rat)) : 0 ≤ x := by exact_mod_cast h
include w in
/-- at the end of the turns: weights that are right -/
theorem most_wt (h3 : h ≤ 3) {sd : List Int} {L : Lp.Lt} (v : Lp.Iv (Aw ms h).length (List.replicate ms.length (1 : Int)).length ((List.replicate ms.length (1 : Int)).length + (Aw ms h).length) (AzL (Aw ms h) sd) (rzL (Aw ms h) (List.replicate ms.length 1)) (Lp.tb (tab0 (Aw ms h) sd (List.replicate ms.length 1))) L) (e : Lp.enL L.last = none) : (prL ms.length h L).length = h ∧ (∀ k, k < h → 0 ≤ Lp.ga (prL ms.length h L) k) ∧ ∀ j, j < ms.length → 1 ≤ Lp.sm (fun k => Lp.ga (prL ms.length h L) k * (((-(gt (chg (ms.getD j ([], []))) k) : Int)) : Rat)) h := by
  have hl := Aw_len ms h
  have rl : (List.replicate ms.length (1 : Int)).length = ms.length := by simp
  rw [hl, rl] at v
  obtain ⟨c1, c2⟩ := Lp.opt_cert v rfl e
  refine ⟨prL_len v rfl, fun k hk => ?_, fun j hj => ?_⟩
  · rw [prL_at hk]
    exact c1 k hk
  · have := c2 j hj
    rw [rz_w (k := 0) hj] at this
    have e2 : Lp.sm (fun k => (Lp.tb L).r (ms.length + k) * (AzL (Aw ms h) sd k j : Rat)) h = Lp.sm (fun k => Lp.ga (prL ms.length h L) k * (((-(gt (chg (ms.getD j ([], []))) k) : Int)) : Rat)) h := Lp.sm_congr fun k hk => by
      rw [prL_at hk, Az_w w hk hj]
    rw [e2] at this
    have e3 : (((-1 : Int)) : Rat) = -1 := rfl
    rw [e3] at this
    grind
include w in
theorem most_right (h3 : h ≤ 3) {sd : List Int} {L : Lp.Lt} (v : Lp.Iv (Aw ms h).length (List.replicate ms.length (1 : Int)).length ((List.replicate ms.length (1 : Int)).length + (Aw ms h).length) (AzL (Aw ms h) sd) (rzL (Aw ms h) (List.replicate ms.length 1)) (Lp.tb (tab0 (Aw ms h) sd (List.replicate ms.length 1))) L) (e : Lp.enL L.last = none) : Wt h (whQ (prL ms.length h L)) ∧ rgB ms (whQ (prL ms.length h L)) = true := by
  obtain ⟨m1, m2, m3⟩ := most_wt w h3 v e
  obtain ⟨q0, q1, q2⟩ := whQ_at (prL ms.length h L)
  have qr : (0 : Rat) < (lcmF 1 (prL ms.length h L) : Rat) := by exact_mod_cast q0
  have wl : (whQ (prL ms.length h L)).length = h := by rw [q1, m1]
  refine ⟨⟨wl, fun x hx => ?_⟩, rg_iff.mpr fun m hm => ?_⟩
  · obtain ⟨k, hk, rfl⟩ := gt_mem' hx
    have hk' : k < h := by omega
    apply rat_nn_int
    rw [q2 k (by omega)]
    exact Rat.mul_nonneg (Rat.le_of_lt qr) (m2 k hk')
  · obtain ⟨j, hj, rfl⟩ := List.mem_iff_getElem.mp hm
    have hj2 : ms.getD j ([], []) = ms[j] := by rw [List.getD_eq_getElem?_getD, List.getElem?_eq_getElem hj]; rfl
    have t := m3 j hj
    rw [hj2] at t
    have e1 : ((-(wgt (whQ (prL ms.length h L)) (chg ms[j])) : Int) : Rat) = (lcmF 1 (prL ms.length h L) : Rat) * Lp.sm (fun k => Lp.ga (prL ms.length h L) k * (((-(gt (chg ms[j]) k) : Int)) : Rat)) h := by
      rw [← Lp.sm_mul]
      have : ((-(wgt (whQ (prL ms.length h L)) (chg ms[j])) : Int) : Rat) = (-1) * ((wgt (whQ (prL ms.length h L)) (chg ms[j]) : Int) : Rat) := by push_cast; grind
      rw [this, wgt_sm wl (w.clen hm), ← Lp.sm_mul]
      apply Lp.sm_congr
      intro k hk
      rw [q2 k (by omega)]
      push_cast
      grind
    have q1' : (1 : Rat) ≤ (lcmF 1 (prL ms.length h L) : Rat) := by exact_mod_cast q0
    have : (1 : Rat) ≤ ((-(wgt (whQ (prL ms.length h L)) (chg ms[j])) : Int) : Rat) := by
      rw [e1]
      have := Rat.mul_le_mul_of_nonneg_left t (Rat.le_of_lt qr)
      grind
    have : (1 : Int) ≤ -(wgt (whQ (prL ms.length h L)) (chg ms[j])) := by exact_mod_cast this
    omega
include w in
/-- a way is a round -/
theorem way_round (h3 : h ≤ 3) {sd : List Int} (b : Bs (Aw ms h) sd (List.replicate ms.length 1)) {L : Lp.Lt} (v : Lp.Iv (Aw ms h).length (List.replicate ms.length (1 : Int)).length ((List.replicate ms.length (1 : Int)).length + (Aw ms h).length) (AzL (Aw ms h) sd) (rzL (Aw ms h) (List.replicate ms.length 1)) (Lp.tb (tab0 (Aw ms h) sd (List.replicate ms.length 1))) L) {c : Nat} (e : Lp.enL L.last = some c) (f : Lp.lvL L c = none) : Ct ms.length (whQ (wayL ms.length c L)) ∧ gdB h ms (whQ (wayL ms.length c L)) = true := by
  have hl := Aw_len ms h
  have rl : (List.replicate ms.length (1 : Int)).length = ms.length := by simp
  have ini := b.ini
  rw [hl, rl] at v ini
  obtain ⟨c1, c2, c3⟩ := Lp.way_cert v ini e f
  obtain ⟨q0, q1, q2⟩ := whQ_at (wayL ms.length c L)
  rw [wayL_len] at q1 q2
  have qr : (0 : Rat) < (lcmF 1 (wayL ms.length c L) : Rat) := by exact_mod_cast q0
  have at_ : ∀ j, j < ms.length → ((gt (whQ (wayL ms.length c L)) j : Int) : Rat) = (lcmF 1 (wayL ms.length c L) : Rat) * Lp.wy (Lp.tb L) h c j := fun j hj => by rw [q2 j hj, way_wy v e hj]
  have nn : ∀ x ∈ whQ (wayL ms.length c L), 0 ≤ x := fun x hx => by
    obtain ⟨j, hj, rfl⟩ := gt_mem' hx
    apply rat_nn_int
    rw [at_ j (by omega)]
    exact Rat.mul_nonneg (Rat.le_of_lt qr) (c1 j)
  refine ⟨⟨q1, nn⟩, ?_⟩
  unfold gdB
  simp only [Bool.and_eq_true, decide_eq_true_eq, List.all_eq_true]
  refine ⟨?_, fun x hx => ?_⟩
  · have s1 : (((whQ (wayL ms.length c L)).sum : Int) : Rat) = (lcmF 1 (wayL ms.length c L) : Rat) * Lp.sm (fun j => Lp.wy (Lp.tb L) h c j) ms.length := by
      have := sum_sm (fun x : Int => x) 0 (whQ (wayL ms.length c L))
      rw [List.map_id'] at this
      rw [this, q1, ← Lp.sm_mul]
      exact Lp.sm_congr fun j hj => at_ j hj
    have s2 : 0 < Lp.sm (fun j => Lp.wy (Lp.tb L) h c j) ms.length := by
      have : Lp.sm (fun j => (rzL (Aw ms h) (List.replicate ms.length 1) j : Rat) * Lp.wy (Lp.tb L) h c j) ms.length = (-1) * Lp.sm (fun j => Lp.wy (Lp.tb L) h c j) ms.length := by
        rw [← Lp.sm_mul]
        exact Lp.sm_congr fun j hj => by rw [rz_w (k := 0) hj]; rfl
      rw [this] at c3
      grind
    have : (0 : Rat) < (((whQ (wayL ms.length c L)).sum : Int) : Rat) := by rw [s1]; exact Rat.mul_pos qr s2
    exact_mod_cast this
  · obtain ⟨k, hk, rfl⟩ := gt_mem' hx
    rw [Tot_len w] at hk
    unfold Tot
    have zp : ∀ p ∈ (whQ (wayL ms.length c L)).zip ms, p.2.1.length = h ∧ p.2.2.length = h := fun p hp => ⟨(w.zp p hp).1, (w.zp p hp).2.1⟩
    rw [tot_gt (h := h) k _ _ (by simp) zp, gt_rep]
    apply rat_nn_int
    rw [Int.zero_add, sum_sm (fun p : Int × Mv => p.1 * gt (chg p.2) k) (0, ([], [])), List.length_zip, q1, Nat.min_self]
    have := c2 k hk
    have e5 : Lp.sm (fun j => (((((whQ (wayL ms.length c L)).zip ms).getD j (0, ([], []))).1 * gt (chg (((whQ (wayL ms.length c L)).zip ms).getD j (0, ([], []))).2) k : Int) : Rat)) ms.length = (-(lcmF 1 (wayL ms.length c L) : Rat)) * Lp.sm (fun j => (AzL (Aw ms h) sd k j : Rat) * Lp.wy (Lp.tb L) h c j) ms.length := by
      rw [← Lp.sm_mul]
      refine Lp.sm_congr fun j hj => ?_
      rw [zip_getD _ _ _ _ q1, Az_w w hk hj]
      have := at_ j hj
      unfold gt at this
      push_cast
      rw [this]
      grind
    rw [e5]
    have : 0 ≤ (lcmF 1 (wayL ms.length c L) : Rat) * (-(Lp.sm (fun j => (AzL (Aw ms h) sd k j : Rat) * Lp.wy (Lp.tb L) h c j) ms.length)) := Rat.mul_nonneg (Rat.le_of_lt qr) (by grind)
    grind
end

/-! ### what is told of moves -/
theorem eqD_str {a b : Str} {r : Bool} (h1 : PySem.SeqAt.shaped (.str a) = true) (h2 : PySem.SeqAt.shaped (.str b) = true) (h3 : PyData.eqv (.str a) (.str b) = r) : eqD (.str a) (.str b) = ret r := by rw [eqD_eq h1 h2, h3]
theorem sol_all {n : Nat} {vals : Nat → Rat} (P : Rat → Prop) : ∀ (vs : List Nat) (i : Nat) (f : List Rat), (∀ x ∈ f, P x) → (∀ p, i ≤ p → p < i + vs.length → P (vals p)) → ∀ x ∈ solF n vals i vs f, P x
  | [], _, _, h, _ => h
  | v :: vs, i, f, h, hv => by
    refine sol_all P vs (i + 1) _ ?_ fun p h1 h2 => hv p (by omega) (by simp only [List.length_cons]; omega)
    split
    · intro x hx
      rcases List.mem_or_eq_of_mem_set hx with hx | hx
      · exact h x hx
      · rw [hx]; exact hv i (by omega) (by simp)
    · exact h
theorem Ti0 : Ti 0 := ⟨Nat.pow_pos (by omega), by show 1 < 2 ^ 80; exact Nat.one_lt_two_pow (by omega)⟩
theorem Ti1 : Ti 1 := ⟨by show 1 < 2 ^ 80; exact Nat.one_lt_two_pow (by omega), by show 1 < 2 ^ 80; exact Nat.one_lt_two_pow (by omega)⟩
theorem Ti.neg {q : Rat} (h : Ti q) : Ti (0 - q) := by
  have e : 0 - q = -q := by grind
  rw [e]
  refine ⟨?_, ?_⟩
  · rw [Rat.neg_num, Int.natAbs_neg]; exact h.1
  · rw [Rat.neg_den]; exact h.2
section
set_option Elab.async false
variable {A : List (List Int)} {hs as : List Int}
theorem ti_pr (b : Bs A hs as) {L : Lp.Lt} (v : Lp.Iv A.length as.length (as.length + A.length) (AzL A hs) (rzL A as) (Lp.tb (tab0 A hs as)) L) : ∀ x ∈ prL as.length A.length L, Ti x := fun x hx => (b.ti v).2 x (List.mem_of_mem_drop (List.mem_of_mem_take hx))
theorem ti_row (b : Bs A hs as) {L : Lp.Lt} (v : Lp.Iv A.length as.length (as.length + A.length) (AzL A hs) (rzL A as) (Lp.tb (tab0 A hs as)) L) {i c : Nat} (hi : i < A.length) (hc : c < as.length + A.length + 1) : Ti (Lp.ga (L.rows.getD i []) c) := by
  have hir : i < L.rows.length := by rw [v.wf.r]; exact hi
  have rm : L.rows.getD i [] ∈ L.rows := by rw [List.getD_eq_getElem?_getD, List.getElem?_eq_getElem hir]; exact List.getElem_mem hir
  exact (b.ti v).1 _ rm _ (ga_mem (by rw [v.wf.row hi]; exact hc))
theorem ti_way (b : Bs A hs as) {L : Lp.Lt} (v : Lp.Iv A.length as.length (as.length + A.length) (AzL A hs) (rzL A as) (Lp.tb (tab0 A hs as)) L) {c : Nat} (hc : c < as.length + A.length + 1) : ∀ x ∈ wayL as.length c L, Ti x := by
  refine sol_all Ti _ _ _ (fun x hx => ?_) fun p _ hp => (ti_row b v (by rw [v.wf.n] at hp; omega) hc).neg
  unfold wy0 at hx
  split at hx
  · rcases List.mem_or_eq_of_mem_set hx with hx | hx
    · rw [List.eq_of_mem_replicate hx]; exact Ti0
    · rw [hx]; exact Ti1
  · rw [List.eq_of_mem_replicate hx]; exact Ti0
theorem ti_sol (b : Bs A hs as) {L : Lp.Lt} (v : Lp.Iv A.length as.length (as.length + A.length) (AzL A hs) (rzL A as) (Lp.tb (tab0 A hs as)) L) : ∀ x ∈ solD as.length (as.length + A.length) L, Ti x :=
  sol_all Ti _ _ _ (fun x hx => by rw [List.eq_of_mem_replicate hx]; exact Ti0) fun p _ hp => ti_row b v (by rw [v.wf.n] at hp; omega) (by omega)
end
section
set_option Elab.async false
variable {ms : List Mv} {h : Nat} (w : WF ms h)
include w
theorem Aw_one (h3 : h ≤ 3) : Bs (Aw ms h) (List.replicate h 1) (List.replicate ms.length 1) := Aw_bs w h3 (by simp) (fun x hx => by rw [List.eq_of_mem_replicate hx]; omega) (by simp) (fun x hx => by rw [List.eq_of_mem_replicate hx]; simp)
/-- weights, or None and there is a round -/
def WtsV (ms : List Mv) (h : Nat) (x : D) : Prop := (∃ ws, x = tI ws ∧ Wt h ws ∧ rgB ms ws = true) ∨ (x = .none ∧ GoesP ms h)
def RndV (ms : List Mv) (h : Nat) (x : D) : Prop := (∃ cs, x = tI cs ∧ Ct ms.length cs ∧ gdB h ms cs = true) ∨ (x = .none ∧ EndsP ms h)
theorem some_weights_ex (h3 : h ≤ 3) (st : Store) : ∃ x st', f_some_weights [.d (eMs ms)] st = .ok (.d x) st' ∧ WtsV ms h x ∧ Pre st st' := by
  have n6 := w.n6
  obtain ⟨v, st', e, ⟨L, iv, hv⟩, p⟩ := for_all_ex w h3 st
  have b := Aw_one w h3
  have e0 : List.map some [Val.d (eMs ms)] ++ List.replicate (4 - [Val.d (eMs ms)].length) none = [some (.d (eMs ms)), none, none, none] := rfl
  rcases hv with ⟨en, rfl⟩ | ⟨c, en, lv, rfl⟩
  · have r := most_right w h3 iv en
    have ti := ti_pr b iv
    have rl : (List.replicate ms.length (1 : Int)).length = ms.length := by simp
    rw [rl, Aw_len] at e ti
    have wq := r_whole (Q := prL ms.length h L) (by
      have := (most_wt w h3 iv en).1
      omega) ti
    refine ⟨_, st', ?_, Or.inl ⟨_, rfl, r⟩, p⟩
    have q : eqD (.str "most") (.str "most") = ret true := eqD_str (by decide +kernel) (by decide +kernel) (by decide +kernel)
    simp only [f_some_weights, b_some_weights, runF_eq]
    rw [e0]
    simp only [sSeq_eq, sAsg_eq, eB_eq, aC_eq, aN_eq, eV_zero, eV_succ, bd_ret, bd_bd, fix1, bd_ap, e, rb_ok, gT_eq, List.length_cons, List.length_nil, if_true, List.map_cons, List.map_nil, gsC_eq, gsN_eq, gN_eq, List.set_cons_succ, List.set_cons_zero, ret_ap, sRet_eq, eIf_eq, tV_eq, eO_eq, eC_eq, bEq_d, q, asB_eq, wq]
  · have r := way_round w h3 b iv en lv
    refine ⟨.none, st', ?_, Or.inr ⟨rfl, _, r⟩, p⟩
    have q : eqD (.str "way") (.str "most") = ret false := eqD_str (by decide +kernel) (by decide +kernel) (by decide +kernel)
    simp only [f_some_weights, b_some_weights, runF_eq]
    rw [e0]
    simp only [sSeq_eq, sAsg_eq, eB_eq, aC_eq, aN_eq, eV_zero, eV_succ, bd_ret, bd_bd, fix1, bd_ap, e, rb_ok, gT_eq, List.length_cons, List.length_nil, if_true, List.map_cons, List.map_nil, gsC_eq, gsN_eq, gN_eq, List.set_cons_succ, List.set_cons_zero, ret_ap, sRet_eq, eIf_eq, tV_eq, eO_eq, eC_eq, bEq_d, q, asB_eq, Bool.false_eq_true, if_false]
end

section
set_option Elab.async false
variable {ms : List Mv} {h : Nat} (w : WF ms h)
include w
theorem some_round_ex (h3 : h ≤ 3) (st : Store) : ∃ x st', f_some_round [.d (eMs ms)] st = .ok (.d x) st' ∧ RndV ms h x ∧ Pre st st' := by
  have n6 := w.n6
  obtain ⟨v, st', e, ⟨L, iv, hv⟩, p⟩ := for_all_ex w h3 st
  have b := Aw_one w h3
  have e0 : List.map some [Val.d (eMs ms)] ++ List.replicate (4 - [Val.d (eMs ms)].length) none = [some (.d (eMs ms)), none, none, none] := rfl
  rcases hv with ⟨en, rfl⟩ | ⟨c, en, lv, rfl⟩
  · have r := most_right w h3 iv en
    refine ⟨.none, st', ?_, Or.inr ⟨rfl, _, r⟩, p⟩
    have q : eqD (.str "most") (.str "way") = ret false := eqD_str (by decide +kernel) (by decide +kernel) (by decide +kernel)
    simp only [f_some_round, b_some_round, runF_eq]
    rw [e0]
    simp only [sSeq_eq, sAsg_eq, eB_eq, aC_eq, aN_eq, eV_zero, eV_succ, bd_ret, bd_bd, fix1, bd_ap, e, rb_ok, gT_eq, List.length_cons, List.length_nil, if_true, List.map_cons, List.map_nil, gsC_eq, gsN_eq, gN_eq, List.set_cons_succ, List.set_cons_zero, ret_ap, sRet_eq, eIf_eq, tV_eq, eO_eq, eC_eq, bEq_d, q, asB_eq, Bool.false_eq_true, if_false]
  · have r := way_round w h3 b iv en lv
    have ti := ti_way b iv (c := c) (by have := (Lp.en_some iv.wf en).lt; omega)
    have rl : (List.replicate ms.length (1 : Int)).length = ms.length := by simp
    rw [rl] at e ti
    have wq := r_whole (Q := wayL ms.length c L) (by rw [wayL_len]; exact n6) ti
    refine ⟨_, st', ?_, Or.inl ⟨_, rfl, r⟩, p⟩
    have q : eqD (.str "way") (.str "way") = ret true := eqD_str (by decide +kernel) (by decide +kernel) (by decide +kernel)
    simp only [f_some_round, b_some_round, runF_eq]
    rw [e0]
    simp only [sSeq_eq, sAsg_eq, eB_eq, aC_eq, aN_eq, eV_zero, eV_succ, bd_ret, bd_bd, fix1, bd_ap, e, rb_ok, gT_eq, List.length_cons, List.length_nil, if_true, List.map_cons, List.map_nil, gsC_eq, gsN_eq, gN_eq, List.set_cons_succ, List.set_cons_zero, ret_ap, sRet_eq, eIf_eq, tV_eq, eO_eq, eC_eq, bEq_d, q, asB_eq, wq]
end

end Y
end
section
set_option Elab.async false
set_option linter.all false
set_option maxRecDepth 10000
set_option exponentiation.threshold 5000
namespace Y
open PySem (PyData Str)
theorem Pre.dc {k : Nat} {st st' : Store} (p : Pre st st') (d : DS k st) : Dc k st st' := by
  obtain ⟨xs, rfl⟩ := p
  exact Dc.app d xs
theorem min_ge {ns : List Int} {b : Int} (h : 1 ≤ ns.length) (hb : ∀ x ∈ ns, b ≤ x) : ∃ m, b ≤ m ∧ bMinS [.d (tI ns)] = ret (.d (.int m)) ∧ bMinS [.d (.list (intsD ns))] = ret (.d (.int m)) := by
  cases ns with
  | nil => simp at h
  | cons x r =>
    refine ⟨r.foldl min x, ?_, minS_tI, minS_ints⟩
    exact hb _ (minI_spec r x).1
theorem isN_tI (a : List Int) : isN (.d (tI a)) = false := rfl
section
set_option Elab.async false
variable {ms : List Mv} {h : Nat} (w : WF ms h) (h3 : h ≤ 3)
include w h3 in
theorem weights_of_ex (st : Store) : ∃ x st', f_weights_of [.d (eMs ms)] st = .ok (.d x) st' ∧ WtsV ms h x ∧ Pre st st' := by
  obtain ⟨x, st', e, v, p⟩ := some_weights_ex w h3 st
  refine ⟨x, st', ?_, v, p⟩
  have e0 : List.map some [Val.d (eMs ms)] ++ List.replicate (1 - [Val.d (eMs ms)].length) none = [some (.d (eMs ms))] := rfl
  simp only [f_weights_of, b_weights_of, runF_eq]
  rw [e0]
  simp only [sSeq_eq, sExp_eq, eB_eq, aC_eq, aN_eq, eV_zero, bd_ret, bd_bd, fix1, w.need, sRet_eq, bd_ap, e, rb_ok, ret_ap]
include w h3 in
theorem round_of_ex (st : Store) : ∃ x st', f_round_of [.d (eMs ms)] st = .ok (.d x) st' ∧ RndV ms h x ∧ Pre st st' := by
  obtain ⟨x, st', e, v, p⟩ := some_round_ex w h3 st
  refine ⟨x, st', ?_, v, p⟩
  have e0 : List.map some [Val.d (eMs ms)] ++ List.replicate (1 - [Val.d (eMs ms)].length) none = [some (.d (eMs ms))] := rfl
  simp only [f_round_of, b_round_of, runF_eq]
  rw [e0]
  simp only [sSeq_eq, sExp_eq, eB_eq, aC_eq, aN_eq, eV_zero, bd_ret, bd_bd, fix1, w.need, sRet_eq, bd_ap, e, rb_ok, ret_ap]
include w h3 in
theorem ends_ex (st : Store) : ∃ b st', f_ends [.d (eMs ms)] st = .ok (.d (.bool b)) st' ∧ ((b = true ∧ EndsP ms h) ∨ (b = false ∧ GoesP ms h)) ∧ Pre st st' := by
  obtain ⟨x, st', e, v, p⟩ := some_weights_ex w h3 st
  refine ⟨!isN (.d x), st', ?_, ?_, p⟩
  · have e0 : List.map some [Val.d (eMs ms)] ++ List.replicate (1 - [Val.d (eMs ms)].length) none = [some (.d (eMs ms))] := rfl
    simp only [f_ends, b_ends, runF_eq]
    rw [e0]
    simp only [sSeq_eq, sExp_eq, eB_eq, aC_eq, aN_eq, eV_zero, bd_ret, bd_bd, fix1, w.need, sRet_eq, eU_eq, bd_ap, e, rb_ok, ret_ap, bNotN_eq]
  · rcases v with ⟨ws, rfl, a, b⟩ | ⟨rfl, g⟩
    · exact Or.inl ⟨rfl, ws, a, b⟩
    · exact Or.inr ⟨rfl, g⟩
end

end Y
end
section
set_option Elab.async false
set_option linter.all false
set_option maxRecDepth 10000
set_option exponentiation.threshold 5000
namespace Y
open PySem (PyData Str)
/-! ### least good lists -/
def nD (xs : List Nat) : D := .list (xs.map fun (i : Nat) => PyData.int (i : Int))
def nsD (L : List (List Nat)) : D := .list (L.map nD)
def pD (xs : List Nat) : D := .tuple [.int (xs.length : Int), nD xs]
def subB (a b : List Nat) : Bool := a.all fun x => b.contains x
theorem subB_refl (a : List Nat) : subB a a = true := by
  unfold subB
  rw [List.all_eq_true]
  intro x hx
  simpa using hx
theorem subB_trans {a b c : List Nat} (h1 : subB a b = true) (h2 : subB b c = true) : subB a c = true := by
  unfold subB at *
  rw [List.all_eq_true] at *
  intro x hx
  have := h1 x hx
  exact h2 x (by simpa using this)
def chF (n : Nat) : Nat → List (List Nat)
  | 0 => [[]]
  | k + 1 => (List.range (n - k)).flatMap fun f => (chF' (n - f - 1) k).map fun r => f :: r.map fun o => f + 1 + o
where chF' : Nat → Nat → List (List Nat)
  | _, 0 => [[]]
  | n, k + 1 => (List.range (n - k)).flatMap fun f => (chF' (n - f - 1) k).map fun r => f :: r.map fun o => f + 1 + o
def CSt (n : Nat) : List (List Nat) := (List.range (n + 1)).flatMap (chF n)
def AL : Nat → List (List Nat)
  | 0 => [[]]
  | n + 1 => AL n ++ (AL n).map fun r => r ++ [n]
def leN (a b : List Nat) : Bool := PySem.W.dataLe false pD a b
def minG (G : List Nat → Bool) (L : List (List Nat)) (x : List Nat) : Bool := G x && L.all fun y => !(G y) || y == x || !(subB y x)
def stepF (G : List Nat → Bool) (found : List (List Nat)) (x : List Nat) : List (List Nat) := if (!(found.any fun c => subB c x) && G x) = true then found ++ [x] else found
theorem minG_iff {G : List Nat → Bool} {L : List (List Nat)} {x : List Nat} : minG G L x = true ↔ G x = true ∧ ∀ y ∈ L, G y = true → subB y x = true → y = x := by
  unfold minG
  rw [Bool.and_eq_true, List.all_eq_true]
  refine and_congr_right fun _ => forall_congr' fun y => forall_congr' fun hy => ?_
  cases hg : G y with
  | false => simp
  | true =>
    cases hs : subB y x with
    | false => simp
    | true => simp
theorem fold_min {G : List Nat → Bool} {L : List (List Nat)} : ∀ (q p : List (List Nat)), (p ++ q).Pairwise (fun a b => subB b a = false) → (∀ y, y ∈ p ++ q ↔ y ∈ L) → (∀ x ∈ p, G x = true → ∃ z ∈ p, minG G L z = true ∧ subB z x = true) → q.foldl (stepF G) (p.filter (minG G L)) = (p ++ q).filter (minG G L) ∧ ∀ x ∈ p ++ q, G x = true → ∃ z ∈ p ++ q, minG G L z = true ∧ subB z x = true
  | [], p, _, _, ex => by
    rw [List.append_nil]
    exact ⟨rfl, ex⟩
  | x :: q, p, pw, hm, ex => by
    have hxL : x ∈ L := (hm x).mp (by simp)
    have hpL : ∀ y ∈ p, y ∈ L := fun y hy => (hm y).mp (by simp [hy])
    have before : ∀ y ∈ L, y ≠ x → subB y x = true → y ∈ p := fun y hy hne hs => by
      have := (hm y).mpr hy
      rw [List.mem_append, List.mem_cons] at this
      rcases this with h | h | h
      · exact h
      · exact absurd h hne
      · have p2 := (List.pairwise_append.mp pw).2.1
        have p3 := (List.pairwise_cons.mp p2).1 y h
        rw [hs] at p3; cases p3
    have nox : ∀ y ∈ p, y ≠ x := fun y hy e => by
      have := (List.pairwise_append.mp pw).2.2 y hy x (by simp)
      rw [e, subB_refl] at this; cases this
    have key : stepF G (p.filter (minG G L)) x = (p ++ [x]).filter (minG G L) := by
      rw [List.filter_append]
      unfold stepF
      cases hmx : minG G L x with
      | true =>
        have m := minG_iff.mp hmx
        have na : ((p.filter (minG G L)).any fun c => subB c x) = false := by
          rw [List.any_eq_false]
          intro c hc hs
          obtain ⟨hcp, hcm⟩ := List.mem_filter.mp hc
          exact nox c hcp (m.2 c (hpL c hcp) (minG_iff.mp hcm).1 hs)
        rw [na, m.1]
        simp [hmx]
      | false =>
        have nadd : (!((p.filter (minG G L)).any fun c => subB c x) && G x) = false := by
          cases hg : G x with
          | false => simp
          | true =>
            have : ∃ y ∈ L, G y = true ∧ subB y x = true ∧ y ≠ x := by
              refine Classical.byContradiction fun hn => ?_
              have : minG G L x = true := minG_iff.mpr ⟨hg, fun y hy hgy hs => Classical.byContradiction fun hne => hn ⟨y, hy, hgy, hs, hne⟩⟩
              rw [hmx] at this; cases this
            obtain ⟨y, hy, hgy, hs, hne⟩ := this
            obtain ⟨z, hz, hzm, hzs⟩ := ex y (before y hy hne hs) hgy
            have : ((p.filter (minG G L)).any fun c => subB c x) = true := by
              rw [List.any_eq_true]
              exact ⟨z, List.mem_filter.mpr ⟨hz, hzm⟩, subB_trans hzs hs⟩
            rw [this]; rfl
        rw [nadd]
        simp [hmx]
    have ex' : ∀ y ∈ p ++ [x], G y = true → ∃ z ∈ p ++ [x], minG G L z = true ∧ subB z y = true := fun y hy hg => by
      rcases List.mem_append.mp hy with hy | hy
      · obtain ⟨z, hz, a, b⟩ := ex y hy hg
        exact ⟨z, by simp [hz], a, b⟩
      · rw [List.mem_singleton] at hy
        subst hy
        cases hmx : minG G L y with
        | true => exact ⟨y, by simp, hmx, subB_refl y⟩
        | false =>
          have : ∃ u ∈ L, G u = true ∧ subB u y = true ∧ u ≠ y := by
            refine Classical.byContradiction fun hn => ?_
            have : minG G L y = true := minG_iff.mpr ⟨hg, fun u hu hgu hs => Classical.byContradiction fun hne => hn ⟨u, hu, hgu, hs, hne⟩⟩
            rw [hmx] at this; cases this
          obtain ⟨u, hu, hgu, hs, hne⟩ := this
          obtain ⟨z, hz, a, b⟩ := ex u (before u hu hne hs) hgu
          exact ⟨z, by simp [hz], a, subB_trans b hs⟩
    have ih := fold_min q (p ++ [x]) (by simpa using pw) (by simpa using hm) ex'
    rw [List.foldl_cons, key]
    simpa using ih
/-- what is known of the lists of up to five numbers -/
def OrdOk (n : Nat) : Prop := (CSt n).Pairwise (fun a b => subB b a = false ∧ leN a b = true ∧ leN b a = false) ∧ (CSt n).Perm (AL n)
theorem ord5 : ∀ n, n ≤ 5 → (CSt n).Perm (AL n) := by decide +kernel
theorem ord5' : ∀ n, n ≤ 5 → (CSt n).Pairwise (fun a b => subB b a = false ∧ leN a b = true ∧ leN b a = false) := by decide +kernel

theorem leN_total : PySem.W.TotalLe leN := by
  have h : PySem.W.TotalLe (PySem.W.dataLe false pD) := by
    unfold PySem.W.dataLe
    exact PySem.W.sortLe_total _ _ _
  exact h
theorem sort_min {n : Nat} (hn : n ≤ 5) {M : List Nat → Bool} {good : List (List Nat)} (hp : good.Perm ((CSt n).filter M)) : sortD (good.map pD) = ((CSt n).filter M).map pD := by
  have e : good.mergeSort leN = (CSt n).filter M := by
    have pw := ord5' n hn
    have pf : ((CSt n).filter M).Pairwise (fun a b => leN a b = true) := (pw.sublist List.filter_sublist).imp fun h => h.2.1
    refine List.Perm.eq_of_pairwise (le := fun a b => leN a b = true) (fun a b ha hb h1 h2 => ?_) (PySem.W.sort_pairwise leN_total good) pf ((List.mergeSort_perm _ _).trans hp)
    have ha' : a ∈ CSt n := (List.mem_filter.mp (hp.mem_iff.mp ((List.mergeSort_perm _ _).mem_iff.mp ha))).1
    have hb' : b ∈ CSt n := (List.mem_filter.mp hb).1
    refine Classical.byContradiction fun hne => ?_
    have anti : ∀ {l : List (List Nat)}, l.Pairwise (fun a b => subB b a = false ∧ leN a b = true ∧ leN b a = false) → ∀ a ∈ l, ∀ b ∈ l, a ≠ b → leN a b = false ∨ leN b a = false := by
      intro l h
      induction h with
      | nil => intro a ha; cases ha
      | cons h _ ih =>
        intro a ha b hb hne
        rcases List.mem_cons.mp ha with ea | ha2
        · rcases List.mem_cons.mp hb with eb | hb2
          · exact absurd (ea.trans eb.symm) hne
          · rw [ea]; exact Or.inr (h b hb2).2.2
        · rcases List.mem_cons.mp hb with eb | hb2
          · rw [eb]; exact Or.inl (h a ha2).2.2
          · exact ih a ha2 b hb2 hne
    rcases anti pw a ha' b hb' hne with h | h
    · rw [h] at h1; cases h1
    · rw [h] at h2; cases h2
  rw [← e]
  unfold sortD
  exact (PySem.W.sort_maps (r := leN) (s := PySem.W.dataLe false fun d : D => d) pD (fun _ _ _ _ => rfl)).symm
theorem alike_pD (a b : List Nat) : PySem.W.alike (pD a) (pD b) = true := by
  have h := PySem.W.alike_ints (a.map fun (i : Nat) => (i : Int)) (b.map fun (i : Nat) => (i : Int))
  rw [List.map_map, List.map_map] at h
  show (true && (PySem.W.alikeAll (a.map fun (i : Nat) => PyData.int (i : Int)) (b.map fun (i : Nat) => PyData.int (i : Int)) && true)) = true
  rw [Bool.true_and, Bool.and_true]
  exact h
theorem depth_nats : ∀ xs : List Nat, PyData.depthAll (xs.map fun (i : Nat) => PyData.int (i : Int)) ≤ 1
  | [] => by simp [PyData.depthAll]
  | x :: xs => by
    have := depth_nats xs
    simp only [List.map_cons, PyData.depthAll, PyData.depth]
    omega
theorem depth_pDs : ∀ L : List (List Nat), PyData.depthAll (L.map pD) ≤ 60
  | [] => by simp [PyData.depthAll]
  | x :: L => by
    have := depth_pDs L
    have h := depth_nats x
    simp only [List.map_cons, PyData.depthAll, pD, nD, PyData.depth]
    omega
theorem sort_ok {good : List (List Nat)} (hl : good.length ≤ lim) : sortOk (good.map pD) := by
  refine ⟨PySem.W.AllAlike.of fun a b => alike_pD a b, PySem.W.Sortable.tuples fun b => ⟨_, _, rfl⟩, depth_pDs good, by rw [List.length_map]; exact hl⟩
theorem CSt_len {n : Nat} (hn : n ≤ 5) : (CSt n).length ≤ 32 := by
  have : ∀ n, n ≤ 5 → (CSt n).length ≤ 32 := by decide +kernel
  exact this n hn
theorem AL_len {n : Nat} (hn : n ≤ 5) : (AL n).length ≤ 32 := by rw [← (ord5 n hn).length_eq]; exact CSt_len hn
/-- the law's own list of least good lists, before it is sorted -/
def dueG (G : List Nat → Bool) (L : List (List Nat)) : List (List Nat) := (L.filter G).filter fun x => (((L.filter G).filter fun y => !(y == x)).filter fun y => (y.filter fun i => !(x.contains i)).isEmpty).isEmpty
theorem sub_filter (y x : List Nat) : (y.filter fun i => !(x.contains i)).isEmpty = subB y x := by
  unfold subB
  rw [Bool.eq_iff_iff, List.isEmpty_iff, List.filter_eq_nil_iff, List.all_eq_true]
  refine forall_congr' fun i => forall_congr' fun _ => ?_
  cases x.contains i <;> simp
theorem due_eq (G : List Nat → Bool) (L : List (List Nat)) : dueG G L = L.filter (minG G L) := by
  unfold dueG
  rw [List.filter_filter]
  refine List.filter_congr fun x _ => ?_
  rw [Bool.eq_iff_iff, minG_iff, Bool.and_eq_true, List.isEmpty_iff, List.filter_eq_nil_iff]
  constructor
  · rintro ⟨h, hg⟩
    refine ⟨hg, fun y hy hgy hs => Classical.byContradiction fun hne => h y (List.mem_filter.mpr ⟨List.mem_filter.mpr ⟨hy, hgy⟩, ?_⟩) ?_⟩
    · simpa using hne
    · rw [sub_filter]; exact hs
  · rintro ⟨hg, h⟩
    refine ⟨fun y hy hs => ?_, hg⟩
    obtain ⟨hy1, hne⟩ := List.mem_filter.mp hy
    obtain ⟨hy2, hgy⟩ := List.mem_filter.mp hy1
    rw [sub_filter] at hs
    have := h y hy2 hgy hs
    rw [this] at hne
    simp at hne
/-- cuts: the fold is the filter -/
theorem cuts_fold {n : Nat} (hn : n ≤ 5) (G : List Nat → Bool) : (CSt n).foldl (stepF G) [] = (CSt n).filter (minG G (AL n)) ∧ ∀ x ∈ CSt n, G x = true → ∃ z ∈ CSt n, minG G (AL n) z = true ∧ subB z x = true := by
  have pw := (ord5' n hn).imp fun h => h.1
  have := fold_min (G := G) (L := AL n) (CSt n) [] (by simpa using pw) (by simpa using fun y => (ord5 n hn).mem_iff) (fun x hx => nomatch hx)
  simpa using this
theorem due_sorted {n : Nat} (hn : n ≤ 5) (G : List Nat → Bool) : sortD ((dueG G (AL n)).map pD) = ((CSt n).filter (minG G (AL n))).map pD := by
  refine sort_min hn ?_
  rw [due_eq]
  exact ((ord5 n hn).symm).filter _

end Y
end
section
set_option Elab.async false
set_option linter.all false
set_option maxRecDepth 10000
set_option exponentiation.threshold 5000
namespace Y
open PySem (PyData Str)
theorem told_exS {cs : List Nat} {f : E} {loc : Loc} {st st' : Store} {c : Nat} (h : f loc st = .ex c st') (hc : c ∈ cs) : eTold cs f loc st = .ok (.d (RfT c)) st' := by
  unfold eTold
  rw [h]
  show (if c ∈ cs then _ else _) = _
  rw [if_pos hc]
  rfl
theorem ne_rf {c : Nat} (h : PySem.SeqAt.shaped (RfT c) = true) : bNe (.d (RfT c)) (.d (RfT c)) = ret (.d (.bool false)) := ne_self (Sh.rft h) (Nat.le_refl _)
theorem Sh.ms (ms : List Mv) : Sh 4 (eMs ms) := by
  refine Sh.tuple fun x hx => ?_
  obtain ⟨m, _, rfl⟩ := List.mem_map.mp hx
  refine Sh.tuple fun y hy => ?_
  rcases List.mem_cons.mp hy with rfl | hy
  · exact Sh.tI m.1
  · rw [List.mem_singleton.mp hy]; exact Sh.tI m.2
theorem if_yes {t : Tst} {a b : S} {loc : Loc} {st st' : Store} (h : t loc st = .ok true st') : sIf t a b loc st = a loc st' := by
  rw [sIf_eq, bd_eq h]
  rfl
theorem if_no {t : Tst} {a b : S} {loc : Loc} {st st' : Store} (h : t loc st = .ok false st') : sIf t a b loc st = b loc st' := by
  rw [sIf_eq, bd_eq h]
  rfl
theorem or_no {t u : Tst} {loc : Loc} {st st1 st2 : Store} (h1 : t loc st = .ok false st1) (h2 : u loc st1 = .ok false st2) : tOrr t u loc st = .ok false st2 := by
  rw [tOrr_eq, bd_eq h1]
  exact h2
theorem tv_at {e : E} {loc : Loc} {st st' : Store} {b : Bool} (h : e loc st = .ok (.d (.bool b)) st') : tV e loc st = .ok b st' := by
  rw [tV_eq, bd_eq h]
  rfl

/-! ### comprehensions over own lists -/
theorem compO_same {α : Type} {body : Val → M (Option Val)} {st : Store} {k : Nat} {xs0 : List Val} (hk : st[k]? = some (.lst xs0)) (enc : α → Val) (h : α → Option Val) : ∀ (L : List α), (∀ p ∈ L, body (enc p) st = .ok (h p) st) → compO k xs0 body (L.map enc) st = .ok (L.filterMap h) st
  | [], _ => by
    rw [List.map_nil]
    unfold compO
    rw [if_pos hk]
    rfl
  | p :: L, hp => by
    have ih := compO_same hk enc h L fun q hq => hp q (List.mem_cons_of_mem _ hq)
    rw [List.map_cons]
    unfold compO
    rw [if_pos hk, bd_eq (hp p List.mem_cons_self), bd_eq ih]
    rw [List.filterMap_cons]
    cases h p <;> rfl
theorem eLcO_filter {α : Type} {e : E} {g : G} {t : Tst} {el : E} {vs : List Nat} {loc : Loc} {st : Store} {k : Nat} (L : List α) (enc : α → Val) (p : α → Bool) (h : α → D) (he : e loc st = .ok (.o k) st) (hk : st[k]? = some (.lst (L.map enc))) (hl : L.length ≤ lim)
    (hb : ∀ x ∈ L, cBody g t el (wip loc vs) (enc x) st = .ok (if p x = true then some (.d (h x)) else none) st) : eLcO e g t el vs loc st = .ok (.d (.list ((L.filter p).map h))) st := by
  have := List.length_filter_le p L
  have gl : getL (.o k) st = .ok (k, L.map enc) st := by
    show (match st[k]? with | some (.lst xs) => R.ok (k, xs) st | _ => .bad) = _
    rw [hk]
  unfold eLcO
  rw [bd_eq he, bd_eq gl]
  dsimp only
  rw [if_pos (by rw [List.length_map]; exact hl), bd_eq (noex_eq (compO_same hk enc (fun x => if p x = true then some (.d (h x)) else none) L hb))]
  have fm : L.filterMap (fun x => if p x = true then some (Val.d (h x)) else none) = (L.filter p).map fun x => Val.d (h x) := by
    clear hb hk hl gl he this
    induction L with
    | nil => rfl
    | cons x L ih =>
      rw [List.filterMap_cons, List.filter_cons]
      cases p x <;> simp [ih]
  rw [fm, bLst_map h _ (by omega)]
  rfl
theorem in_key (neg : Bool) (i : Nat) (xs : List Nat) : bInF neg (.d (.int (i : Int))) (.d (nD xs)) = ret (.d (.bool (if neg then !(xs.contains i) else xs.contains i))) := by
  have k : bInF neg (.d (.int (i : Int))) (.d (nD xs)) = if flatD (.int (i : Int)) = true ∧ ((xs.map fun (j : Nat) => PyData.int (j : Int)).all flatD) = true then ret (vB (if neg then !((xs.map fun (j : Nat) => PyData.int (j : Int)).any fun b => fEq b (.int (i : Int))) else (xs.map fun (j : Nat) => PyData.int (j : Int)).any fun b => fEq b (.int (i : Int)))) else die := rfl
  have al : ((xs.map fun (j : Nat) => PyData.int (j : Int)).all flatD) = true := by
    rw [List.all_map, List.all_eq_true]
    intro j _
    rfl
  have an : ((xs.map fun (j : Nat) => PyData.int (j : Int)).any fun b => fEq b (.int (i : Int))) = xs.contains i := by
    rw [List.any_map, Bool.eq_iff_iff, List.any_eq_true, List.contains_iff_mem]
    constructor
    · rintro ⟨j, hj, e⟩
      have e : ((j : Int) == (i : Int)) = true := e
      rw [beq_iff_eq] at e
      have : j = i := by omega
      rw [← this]; exact hj
    · intro hi
      refine ⟨i, hi, ?_⟩
      show ((i : Int) == (i : Int)) = true
      simp
  rw [k, if_pos ⟨rfl, al⟩, an]
  rfl
theorem in_nD (i : Nat) (xs : List Nat) : bIn (.d (.int (i : Int))) (.d (nD xs)) = ret (.d (.bool (xs.contains i))) := in_key false i xs
theorem nin_nD (i : Nat) (xs : List Nat) : bNIn (.d (.int (i : Int))) (.d (nD xs)) = ret (.d (.bool (!(xs.contains i)))) := in_key true i xs
theorem enumF_map {α : Type} (f : α → D) : ∀ (L : List α) (n : Nat), enumF n (L.map f) = (L.zipIdx n).map fun p => Val.d (.tuple [.int (p.2 : Int), f p.1])
  | [], _ => rfl
  | x :: L, n => by
    rw [List.zipIdx_cons, List.map_cons, List.map_cons, ← enumF_map f L (n + 1)]
    rfl
/-! ### moves without some of them -/
def wo (ms : List Mv) (xs : List Nat) : List Mv := (ms.zipIdx.filter fun p => !(xs.contains p.2)).map (·.1)
theorem wo_len (ms : List Mv) (xs : List Nat) : (wo ms xs).length ≤ ms.length := by
  unfold wo
  rw [List.length_map]
  have := List.length_filter_le (fun p : Mv × Nat => !(xs.contains p.2)) ms.zipIdx
  rw [List.length_zipIdx] at this
  exact this
theorem wo_mem {ms : List Mv} {xs : List Nat} {m : Mv} (h : m ∈ wo ms xs) : m ∈ ms := by
  unfold wo at h
  obtain ⟨p, hp, rfl⟩ := List.mem_map.mp h
  exact List.fst_mem_of_mem_zipIdx (List.mem_filter.mp hp).1
theorem wo_wf {ms : List Mv} {h : Nat} (w : WF ms h) {xs : List Nat} (hne : wo ms xs ≠ []) : WF (wo ms xs) h := by
  have l := wo_len ms xs
  have n6 := w.n6
  have p := List.length_pos_iff.mpr hne
  exact ⟨p, by omega, w.h1, w.h4, fun m hm => w.l1 m (wo_mem hm), fun m hm => w.l2 m (wo_mem hm), fun m hm => w.b1 m (wo_mem hm), fun m hm => w.b2 m (wo_mem hm)⟩
theorem wo_comp {ms : List Mv} (hl : ms.length ≤ 1000) {xs : List Nat} {vi vj a b : Nat} {loc : Loc} (hm : eV a loc = ret (.d (eMs ms))) (hb : ∀ p : Mv × Nat, cBody (gT 2 (gsC (gN vi) (gsC (gN vj) gsN))) (tV (eO bNIn (eV vi) (eV b))) (eV vj) (wip loc [vi, vj]) (.d (.tuple [.int (p.2 : Int), eMv p.1])) = ret (if (!(xs.contains p.2)) = true then some (.d (eMv p.1)) else none)) : eLc (iCall kEnumS (aC (eV a) aN)) (gT 2 (gsC (gN vi) (gsC (gN vj) gsN))) (tV (eO bNIn (eV vi) (eV b))) (eV vj) [vi, vj] loc = ret (.d (.list ((wo ms xs).map eMv))) := by
  have e := eLc_filter (it := iCall kEnumS (aC (eV a) aN)) (g := gT 2 (gsC (gN vi) (gsC (gN vj) gsN))) (t := tV (eO bNIn (eV vi) (eV b))) (e := eV vj) (vs := [vi, vj]) (loc := loc) ms.zipIdx (fun p => Val.d (.tuple [.int (p.2 : Int), eMv p.1])) (fun p => !(xs.contains p.2)) (fun p => eMv p.1) (by
    have ke : kEnumS [.d (eMs ms)] = ret (enumF 0 (ms.map eMv)) := rfl
    simp only [iCall_eq, aC_eq, aN_eq, hm, bd_ret, ke, enumF_map]) (by rw [List.length_zipIdx, lim_eq]; omega) fun p _ => hb p
  rw [e]
  unfold wo
  rw [List.map_map]
  rfl
theorem without_eq {ms : List Mv} (hl : ms.length ≤ 1000) (xs : List Nat) : f_without [.d (eMs ms), .d (nD xs)] = ret (.d (eMs (wo ms xs))) := by
  have e0 : List.map some [Val.d (eMs ms), .d (nD xs)] ++ List.replicate (4 - [Val.d (eMs ms), .d (nD xs)].length) none = [some (.d (eMs ms)), some (.d (nD xs)), none, none] := rfl
  have c : without_C1 [some (.d (eMs ms)), some (.d (nD xs)), none, none] = ret (.d (.list ((wo ms xs).map eMv))) := by
    rw [without_C1_eq]
    refine wo_comp hl rfl fun p => ?_
    simp only [cBody_eq, wip_cons, wip_nil, gT_eq, gsC_eq, gsN_eq, gN_eq, List.map_cons, List.map_nil, List.length_cons, List.length_nil, if_true, bd_ret, bd_bd, List.set_cons_succ, List.set_cons_zero, tV_eq, eO_eq, eV_zero, eV_succ, nin_nD, asB_eq]
    cases xs.contains p.2 <;> rfl
  simp only [f_without, b_without, runF_eq]
  rw [e0]
  simp only [sRet_eq, eB_eq, aC_eq, aN_eq, c, bd_ret, bd_bd, bTuple_lst]
  rfl
section
set_option Elab.async false
variable {ms : List Mv} {h : Nat}
open Classical in
noncomputable def Gd (ms : List Mv) (h : Nat) (x : List Nat) : Bool := decide (wo ms x = [] ∨ EndsP (wo ms x) h)
open Classical in
theorem Gd_iff {x : List Nat} : Gd ms h x = true ↔ wo ms x = [] ∨ EndsP (wo ms x) h := by
  unfold Gd
  rw [decide_eq_true_iff]
theorem eqD_ms0 (ls : List Mv) : eqD (eMs ls) (.tuple []) = ret ls.isEmpty := by
  rw [eqD_eq ((Sh.ms ls).shaped (by omega)) rfl]
  cases ls <;> rfl
theorem do_end_ex (w : WF ms h) (h3 : h ≤ 3) (x : List Nat) (st : Store) : ∃ st', Pre st st' ∧ f_do_end [.d (eMs (wo ms x))] st = .ok (.d (.bool (Gd ms h x))) st' := by
  have e0 : List.map some [Val.d (eMs (wo ms x))] ++ List.replicate (1 - [Val.d (eMs (wo ms x))].length) none = [some (.d (eMs (wo ms x)))] := rfl
  have bt : bTup [] = ret (.d (.tuple [])) := rfl
  by_cases hz : wo ms x = []
  · have g : Gd ms h x = true := Gd_iff.mpr (Or.inl hz)
    refine ⟨st, Pre.refl st, ?_⟩
    simp only [f_do_end, b_do_end, runF_eq]
    rw [e0, g]
    simp only [sRet_eq, eOr_eq, eO_eq, eB_eq, aN_eq, eV_zero, bd_ret, bd_bd, bt, bEq_d, eqD_ms0]
    rw [hz]
    rfl
  · have w' := wo_wf w hz
    obtain ⟨y, st', e, v, p⟩ := some_weights_ex w' h3 st
    refine ⟨st', p, ?_⟩
    have ie : (wo ms x).isEmpty = false := by
      cases hc : wo ms x with
      | nil => exact absurd hc hz
      | cons _ _ => rfl
    have g : (!isN (.d y)) = Gd ms h x := by
      rcases v with ⟨ws, rfl, a, b⟩ | ⟨rfl, gg⟩
      · rw [Gd_iff.mpr (Or.inr ⟨ws, a, b⟩)]
        rfl
      · cases hc : Gd ms h x with
        | false => rfl
        | true =>
          rcases Gd_iff.mp hc with z | z
          · exact absurd z hz
          · exact absurd z fun z => not_both w' z gg
    simp only [f_do_end, b_do_end, runF_eq]
    rw [e0]
    simp only [sRet_eq, eOr_eq, eO_eq, eU_eq, eB_eq, aC_eq, aN_eq, eV_zero, bd_ret, bd_bd, bt, bEq_d, eqD_ms0, ie, asB_eq, Bool.false_eq_true, if_false, fix1, bd_ap, e, rb_ok, ret_ap, bNotN_eq, g]
end

end Y
end
section
set_option Elab.async false
set_option linter.all false
set_option maxRecDepth 10000
set_option exponentiation.threshold 5000
namespace Y
open PySem (PyData Str)
/-! ### all cuts -/
theorem sFor_at {it : I} {g : G} {b : S} {loc : Loc} {st st' : Store} {xs : List Val} (h : it loc st = .ok xs st') : sFor it g b loc st = forL (fBody g b) xs loc st' := by
  rw [sFor_eq, bd_eq h]
def fV (L : List (List Nat)) : List Val := L.map fun x => Val.d (nD x)
theorem seq_nD (c : List Nat) : seqOf (.d (nD c)) = ret (c.map fun (i : Nat) => PyData.int (i : Int)) := rfl
section
set_option Elab.async false
variable {ms : List Mv} {h : Nat}
abbrev CL (ms : List Mv) (k : Nat) (x2 x3 x4 x5 x6 : Option Val) : Loc := [some (.d (eMs ms)), some (.o k), x2, x3, x4, x5, x6]
theorem cuts_C1 {k : Nat} {x c : List Nat} (hc : c.length ≤ 1000) (x2 x4 x5 : Option Val) : all_cuts_C1 (CL ms k x2 (some (.d (nD x))) x4 x5 (some (.d (nD c)))) = ret (.d (.list (c.map fun i => .bool (x.contains i)))) := by
  rw [all_cuts_C1_eq]
  refine eLc_map c (fun (i : Nat) => Val.d (.int (i : Int))) _ ?_ (by rw [lim_eq]; omega) fun i _ => ?_
  · simp only [iSeq_eq, eV_zero, eV_succ, bd_ret, bd_bd, seq_nD, List.map_map]
    rfl
  · simp only [cBody_eq, wip_cons, wip_nil, gN_eq, bd_ret, tTr_eq, eO_eq, eV_zero, eV_succ, List.set_cons_succ, List.set_cons_zero, if_true, bd_bd, in_nD]
theorem cuts_C2 {k : Nat} {x : List Nat} {found : List (List Nat)} (hf : found.length ≤ 1000) (hc : ∀ c ∈ found, c.length ≤ 1000) {st : Store} (hk : st[k]? = some (.lst (fV found))) (x2 x4 x5 x6 : Option Val) : all_cuts_C2 (CL ms k x2 (some (.d (nD x))) x4 x5 x6) st = .ok (.d (.list (found.map fun c => .bool (subB c x)))) st := by
  have e := eLcO_filter (e := eV 1) (g := gN 6) (t := tTr) (el := eB bAll (aC all_cuts_C1 aN)) (vs := [6]) (loc := CL ms k x2 (some (.d (nD x))) x4 x5 x6) (st := st) (k := k) found (fun c => Val.d (nD c)) (fun _ => true) (fun c => .bool (subB c x)) rfl hk (by rw [lim_eq]; omega) fun c hcm => by
    have c1 := cuts_C1 (ms := ms) (k := k) (x := x) (hc c hcm) x2 x4 x5
    simp only [cBody_eq, wip_cons, wip_nil, gN_eq, bd_ret, tTr_eq, eB_eq, aC_eq, aN_eq, List.set_cons_succ, List.set_cons_zero, if_true, bd_bd]
    rw [c1]
    simp only [bd_ret, bAll_map]
    rfl
  rw [all_cuts_C2_eq, e, List.filter_eq_self.mpr fun _ _ => rfl]
theorem cut_step (w : WF ms h) (h3 : h ≤ 3) {k : Nat} {x : List Nat} {found : List (List Nat)} (hf : found.length ≤ 900) (hc : ∀ c ∈ found, c.length ≤ 1000) {st : Store} (hk : st[k]? = some (.lst (fV found))) (x2 x3 x4 x5 x6 : Option Val) : ∃ y4 st', fBody (gN 3) all_cuts_L1 (.d (nD x)) (CL ms k x2 x3 x4 x5 x6) st = .ok (.nx, CL ms k x2 (some (.d (nD x))) y4 x5 x6) st' ∧ st'[k]? = some (.lst (fV (stepF (Gd ms h) found x))) ∧ ∀ s0, Pre s0 st → s0.length ≤ k → Pre s0 st' := by
  have n6 := w.n6
  have g : fBody (gN 3) all_cuts_L1 (.d (nD x)) (CL ms k x2 x3 x4 x5 x6) = all_cuts_L1 (CL ms k x2 (some (.d (nD x))) x4 x5 x6) := rfl
  have c2 := cuts_C2 (ms := ms) (x := x) (by omega : found.length ≤ 1000) hc hk x2 x4 x5 x6
  have s1 : sAsg (eNo (eB bAny (aC all_cuts_C2 aN))) (gN 4) (CL ms k x2 (some (.d (nD x))) x4 x5 x6) st = .ok (.nx, CL ms k x2 (some (.d (nD x))) (some (.d (.bool (!(found.any fun c => subB c x))))) x5 x6) st := by
    rw [asg_gN (v := .d (.bool (!(found.any fun c => subB c x)))) (s := st) (by
      simp only [eNo_eq, eB_eq, aC_eq, aN_eq, bd_bd]
      rw [bd_eq c2]
      simp only [bd_ret, bAny_map, asB_eq, vB_eq, ret_ap])]
    rfl
  cases ha : (found.any fun c => subB c x) with
  | true =>
    rw [ha] at s1
    refine ⟨some (.d (.bool false)), st, ?_, ?_, fun s0 p _ => p⟩
    · rw [g, all_cuts_L1_eq, seq_nx s1]
      rfl
    · unfold stepF
      rw [ha]
      simpa using hk
  | false =>
    rw [ha] at s1
    obtain ⟨st1, p1, e1⟩ := do_end_ex w h3 x st
    have hlt : k < st.length := (List.getElem?_eq_some_iff.mp hk).1
    have hk1 : st1[k]? = some (.lst (fV found)) := by
      obtain ⟨t, rfl⟩ := p1
      rw [List.getElem?_append_left hlt]
      exact hk
    have wq := without_eq (ms := ms) (by omega) x
    have t : tAn (tV (eV 4)) (tV (eB (fixN 1 f_do_end) (aC (eB (fixN 2 f_without) (aC (eV 0) (aC (eV 3) aN))) aN))) (CL ms k x2 (some (.d (nD x))) (some (.d (.bool (!false)))) x5 x6) st = .ok (Gd ms h x) st1 := by
      rw [tAn_eq]
      have t1 : tV (eV 4) (CL ms k x2 (some (.d (nD x))) (some (.d (.bool (!false)))) x5 x6) = ret true := rfl
      rw [t1]
      simp only [bd_ret, if_true]
      refine tv_at ?_
      simp only [eB_eq, aC_eq, aN_eq, eV_zero, eV_succ, bd_ret, bd_bd, fix1, fix2, wq]
      exact e1
    cases hg : Gd ms h x with
    | false =>
      rw [hg] at t
      refine ⟨some (.d (.bool (!false))), st1, ?_, ?_, fun s0 p _ => p.trans p1⟩
      · rw [g, all_cuts_L1_eq, seq_nx s1, if_no t]
        rfl
      · unfold stepF
        rw [ha, hg]
        simpa using hk1
    | true =>
      rw [hg] at t
      have lf : (fV found).length < lim := by
        unfold fV
        rw [List.length_map, lim_eq]; omega
      have ap := app_at (o := eV 1) (e := eV 3) (loc := CL ms k x2 (some (.d (nD x))) (some (.d (.bool (!false)))) x5 x6) (v := .d (nD x)) rfl hk1 rfl hk1 lf
      refine ⟨some (.d (.bool (!false))), st1.set k (.lst (fV found ++ [.d (nD x)])), ?_, ?_, fun s0 p hl => (p.trans p1).set hl _⟩
      · rw [g, all_cuts_L1_eq, seq_nx s1, if_yes t, exp_at ap]
      · have hlt1 : k < st1.length := (List.getElem?_eq_some_iff.mp hk1).1
        rw [List.getElem?_set_self hlt1]
        unfold stepF
        rw [ha, hg]
        simp [fV]
theorem stepF_len (G : List Nat → Bool) (found : List (List Nat)) (x : List Nat) : (stepF G found x).length ≤ found.length + 1 := by
  unfold stepF
  split <;> simp
theorem stepF_mem (G : List Nat → Bool) (found : List (List Nat)) (x : List Nat) {c : List Nat} (h : c ∈ stepF G found x) : c ∈ found ∨ c = x := by
  unfold stepF at h
  split at h
  · simpa using h
  · exact Or.inl h
theorem cut_loop (w : WF ms h) (h3 : h ≤ 3) {k : Nat} : ∀ (L : List (List Nat)) (found : List (List Nat)) (st : Store) (x2 x3 x4 x5 x6 : Option Val), found.length + L.length ≤ 900 → (∀ c ∈ found, c.length ≤ 1000) → (∀ c ∈ L, c.length ≤ 1000) → st[k]? = some (.lst (fV found)) → ∃ y3 y4 st', forL (fBody (gN 3) all_cuts_L1) (fV L) (CL ms k x2 x3 x4 x5 x6) st = .ok (.nx, CL ms k x2 y3 y4 x5 x6) st' ∧ st'[k]? = some (.lst (fV (L.foldl (stepF (Gd ms h)) found))) ∧ ∀ s0, Pre s0 st → s0.length ≤ k → Pre s0 st'
  | [], found, st, x2, x3, x4, x5, x6, _, _, _, hk => ⟨x3, x4, st, rfl, hk, fun _ p _ => p⟩
  | x :: L, found, st, x2, x3, x4, x5, x6, hl, hc, hL, hk => by
    rw [List.length_cons] at hl
    obtain ⟨y4, st1, e1, k1, p1⟩ := cut_step w h3 (x := x) (by omega) hc hk x2 x3 x4 x5 x6
    have sl := stepF_len (Gd ms h) found x
    obtain ⟨z3, z4, st2, e2, k2, p2⟩ := cut_loop w h3 L (stepF (Gd ms h) found x) st1 x2 (some (.d (nD x))) y4 x5 x6 (by omega) (fun c hm => by
      rcases stepF_mem _ _ _ hm with hm | rfl
      · exact hc c hm
      · exact hL c List.mem_cons_self) (fun c hm => hL c (List.mem_cons_of_mem _ hm)) k1
    refine ⟨z3, z4, st2, ?_, k2, fun s0 p hl => p2 s0 (p1 s0 p hl) hl⟩
    show bd (fBody _ _ _ _) _ st = _
    rw [bd_eq e1]
    exact e2
theorem chF_len {n k : Nat} (hn : n ≤ 5) (hk : k ≤ n) : (chF n k).length ≤ 10 ∧ ∀ c ∈ chF n k, c.length ≤ 5 := by
  have : ∀ n, n ≤ 5 → ∀ k, k ≤ 5 → (k ≤ n → (chF n k).length ≤ 10 ∧ ∀ c ∈ chF n k, c.length ≤ 5) := by decide +kernel
  exact this n hn k (by omega) hk
theorem chosen_eq : ∀ n : Nat, n ≤ 5 → ∀ k : Nat, k ≤ n → f_chosen [.d (.int (n : Int)), .d (.int (k : Int))] = ret (.d (nsD (chF n k)))
  | 0, _, 0, _ => by funext st; rfl
  | 1, _, 0, _ => by funext st; rfl
  | 1, _, 1, _ => by funext st; rfl
  | 2, _, 0, _ => by funext st; rfl
  | 2, _, 1, _ => by funext st; rfl
  | 2, _, 2, _ => by funext st; rfl
  | 3, _, 0, _ => by funext st; rfl
  | 3, _, 1, _ => by funext st; rfl
  | 3, _, 2, _ => by funext st; rfl
  | 3, _, 3, _ => by funext st; rfl
  | 4, _, 0, _ => by funext st; rfl
  | 4, _, 1, _ => by funext st; rfl
  | 4, _, 2, _ => by funext st; rfl
  | 4, _, 3, _ => by funext st; rfl
  | 4, _, 4, _ => by funext st; rfl
  | 5, _, 0, _ => by funext st; rfl
  | 5, _, 1, _ => by funext st; rfl
  | 5, _, 2, _ => by funext st; rfl
  | 5, _, 3, _ => by funext st; rfl
  | 5, _, 4, _ => by funext st; rfl
  | 5, _, 5, _ => by funext st; rfl
  | n + 6, h, _, _ => by omega
  | 0, _, k + 1, h => by omega
  | 1, _, k + 2, h => by omega
  | 2, _, k + 3, h => by omega
  | 3, _, k + 4, h => by omega
  | 4, _, k + 5, h => by omega
  | 5, _, k + 6, h => by omega
theorem all_lists_eq : ∀ n : Nat, n ≤ 5 → f_law_all_lists [.d (.int (n : Int))] = ret (.d (nsD (AL n)))
  | 0, _ => by funext st; rfl
  | 1, _ => by funext st; rfl
  | 2, _ => by funext st; rfl
  | 3, _ => by funext st; rfl
  | 4, _ => by funext st; rfl
  | 5, _ => by funext st; rfl
  | n + 6, h => by omega
theorem foldl_flat {α β : Type} (f : β → α → β) (g : Nat → List α) : ∀ (L : List Nat) (b : β), (L.flatMap g).foldl f b = L.foldl (fun b i => (g i).foldl f b) b
  | [], _ => rfl
  | i :: L, b => by rw [List.flatMap_cons, List.foldl_append, List.foldl_cons, foldl_flat f g L]
theorem foldl_step_len (G : List Nat → Bool) : ∀ (L found : List (List Nat)), (L.foldl (stepF G) found).length ≤ found.length + L.length
  | [], _ => by simp
  | x :: L, found => by
    have h1 := stepF_len G found x
    have h2 := foldl_step_len G L (stepF G found x)
    rw [List.foldl_cons, List.length_cons]
    omega
theorem foldl_step_mem (G : List Nat → Bool) : ∀ (L found : List (List Nat)) {c : List Nat}, c ∈ L.foldl (stepF G) found → c ∈ found ∨ c ∈ L
  | [], _, _, h => Or.inl h
  | x :: L, found, c, h => by
    rcases foldl_step_mem G L _ h with h | h
    · rcases stepF_mem _ _ _ h with h | rfl
      · exact Or.inl h
      · exact Or.inr List.mem_cons_self
    · exact Or.inr (List.mem_cons_of_mem _ h)
theorem cut_outer (w : WF ms h) (h3 : h ≤ 3) (n5 : ms.length ≤ 5) {k : Nat} : ∀ (m j : Nat) (found : List (List Nat)) (st : Store) (x2 x3 x4 x5 x6 : Option Val), j + m ≤ ms.length + 1 → found.length ≤ 10 * j → (∀ c ∈ found, c.length ≤ 1000) → st[k]? = some (.lst (fV found)) → ∃ y2 y3 y4 st', forL (fBody (gN 2) all_cuts_L2) ((List.range' j m).map fun (i : Nat) => Val.d (.int (0 + (i : Int)))) (CL ms k x2 x3 x4 x5 x6) st = .ok (.nx, CL ms k y2 y3 y4 x5 x6) st' ∧ st'[k]? = some (.lst (fV (((List.range' j m).flatMap (chF ms.length)).foldl (stepF (Gd ms h)) found))) ∧ ∀ s0, Pre s0 st → s0.length ≤ k → Pre s0 st'
  | 0, j, found, st, x2, x3, x4, x5, x6, _, _, _, hk => ⟨x2, x3, x4, st, rfl, hk, fun _ p _ => p⟩
  | m + 1, j, found, st, x2, x3, x4, x5, x6, hj, hf, hc, hk => by
    have z : (0 : Int) + (j : Int) = (j : Int) := by omega
    have ce := chosen_eq ms.length n5 j (by omega)
    obtain ⟨cl, cm⟩ := chF_len n5 (by omega : j ≤ ms.length)
    obtain ⟨y3, y4, st1, e1, k1, p1⟩ := cut_loop w h3 (chF ms.length j) found st (some (.d (.int (j : Int)))) x3 x4 x5 x6 (by omega) hc (fun c hm => by have := cm c hm; omega) hk
    have bl : bLen [.d (eMs ms)] = ret (.d (.int (ms.length : Int))) := by
      show ret (vI (ms.map eMv).length) = _
      rw [List.length_map]
      rfl
    have b : fBody (gN 2) all_cuts_L2 (.d (.int (0 + (j : Int)))) (CL ms k x2 x3 x4 x5 x6) st = .ok (.nx, CL ms k (some (.d (.int (j : Int)))) y3 y4 x5 x6) st1 := by
      have g : fBody (gN 2) all_cuts_L2 (.d (.int (0 + (j : Int)))) (CL ms k x2 x3 x4 x5 x6) = all_cuts_L2 (CL ms k (some (.d (.int (0 + (j : Int))))) x3 x4 x5 x6) := rfl
      have sq : seqOf (.d (nsD (chF ms.length j))) = ret ((chF ms.length j).map nD) := rfl
      rw [g, z, all_cuts_L2_eq, sFor_eq, iSeq_eq]
      simp only [eB_eq, aC_eq, aN_eq, eV_zero, eV_succ, bd_ret, bd_bd, fix2, bl, ce, sq, List.map_map]
      exact e1
    have fl := foldl_step_len (Gd ms h) (chF ms.length j) found
    obtain ⟨z2, z3, z4, st2, e2, k2, p2⟩ := cut_outer w h3 n5 m (j + 1) _ st1 (some (.d (.int (j : Int)))) y3 y4 x5 x6 (by omega) (by omega) (fun c hm => by
      rcases foldl_step_mem _ _ _ hm with hm | hm
      · exact hc c hm
      · have := cm c hm; omega) k1
    refine ⟨z2, z3, z4, st2, ?_, ?_, fun s0 p hl => p2 s0 (p1 s0 p hl) hl⟩
    · rw [List.range'_succ, List.map_cons]
      show bd (fBody _ _ _ _) _ st = _
      rw [bd_eq b]
      exact e2
    · rw [List.range'_succ, List.flatMap_cons, List.foldl_append]
      exact k2
/-- the cuts of moves -/
noncomputable def cutL (ms : List Mv) (h : Nat) : List (List Nat) := (CSt ms.length).filter (minG (Gd ms h) (AL ms.length))
theorem all_cuts_ex (w : WF ms h) (h3 : h ≤ 3) (n5 : ms.length ≤ 5) (st : Store) : ∃ st', Pre st st' ∧ f_all_cuts [.d (eMs ms)] st = .ok (.d (nsD (cutL ms h))) st' := by
  have e0 : List.map some [Val.d (eMs ms)] ++ List.replicate (7 - [Val.d (eMs ms)].length) none = [some (.d (eMs ms)), none, none, none, none, none, none] := rfl
  have s1 : sAsg (eB bNew aN) (gN 1) [some (.d (eMs ms)), none, none, none, none, none, none] st = .ok (.nx, CL ms st.length none none none none none) (st ++ [.lst (fV [])]) := rfl
  obtain ⟨y2, y3, y4, st1, e1, k1, p1⟩ := cut_outer w h3 n5 (k := st.length) (ms.length + 1) 0 [] (st ++ [.lst (fV [])]) none none none none none (by omega) (by simp) (fun c hc => nomatch hc) (by simp)
  rw [← List.range_eq_range'] at e1 k1
  have cs : (List.range (ms.length + 1)).flatMap (chF ms.length) = CSt ms.length := by unfold CSt; rfl
  have cf : (CSt ms.length).foldl (stepF (Gd ms h)) [] = cutL ms h := by unfold cutL; exact (cuts_fold n5 (Gd ms h)).1
  rw [cs, cf] at k1
  have fv : fV (cutL ms h) = ((cutL ms h).map nD).map Val.d := by unfold fV; rw [List.map_map]; rfl
  rw [fv] at k1
  have bl : bLen [.d (eMs ms)] = ret (.d (.int (ms.length : Int))) := by
    show ret (vI (ms.map eMv).length) = _
    rw [List.length_map]
    rfl
  have rg := kRg1_nat (z := (ms.length : Int) + 1) (n := ms.length + 1) (by omega) (by omega)
  have f1 : sFor (iCall kRg1 (aC (eO bAdd (eB bLen (aC (eV 0) aN)) (eC (.int 1))) aN)) (gN 2) all_cuts_L2 (CL ms st.length none none none none none) (st ++ [.lst (fV [])]) = .ok (.nx, CL ms st.length y2 y3 y4 none none) st1 := by
    have it : iCall kRg1 (aC (eO bAdd (eB bLen (aC (eV 0) aN)) (eC (.int 1))) aN) (CL ms st.length none none none none none) = ret ((List.range (ms.length + 1)).map fun (i : Nat) => Val.d (.int (0 + (i : Int)))) := by
      have a : aC (eO bAdd (eB bLen (aC (eV 0) aN)) (eC (.int 1))) aN (CL ms st.length none none none none none) = ret [.d (.int ((ms.length : Int) + 1))] := by
        simp only [eB_eq, aC_eq, aN_eq, eO_eq, eC_eq, eV_zero, bd_ret, bd_bd, bl, bAdd_int]
      rw [iCall_eq, a, bd_ret, rg]
    exact (sFor_at (by rw [it]; rfl)).trans e1
  have lc := CSt_len n5
  have lf : (cutL ms h).length ≤ (CSt ms.length).length := by unfold cutL; exact List.length_filter_le _ _
  have fz := bFrz_at (ds := (cutL ms h).map nD) k1 (by rw [List.length_map, lim_eq]; omega)
  refine ⟨st1.set st.length .gone, (p1 st ⟨[.lst (fV [])], rfl⟩ (Nat.le_refl _)).set (Nat.le_refl _) _, ?_⟩
  simp only [f_all_cuts, b_all_cuts, runF_eq]
  rw [e0, bd_ap, seq_nx s1, seq_nx f1]
  simp only [sRet_eq, eU_eq, eV_zero, eV_succ, bd_ret]
  rw [bd_eq fz]
  rfl
end

end Y
end
section
set_option Elab.async false
set_option linter.all false
set_option maxRecDepth 10000
set_option exponentiation.threshold 5000
namespace Y
open PySem (PyData Str)
/-! ### calls, with nothing unfolded -/
theorem call1 {f : List Val → M Val} {a : E} {loc : Loc} {st : Store} {v : Val} {r : R Val} (ha : a loc = ret v) (h : f [v] st = r) : eB (fixN 1 f) (aC a aN) loc st = r := by
  simp only [eB_eq, aC_eq, aN_eq, ha, bd_ret, bd_bd, fix1]
  exact h
theorem call2 {f : List Val → M Val} {a b : E} {loc : Loc} {st : Store} {v u : Val} {r : R Val} (ha : a loc = ret v) (hb : b loc = ret u) (h : f [v, u] st = r) : eB (fixN 2 f) (aC a (aC b aN)) loc st = r := by
  simp only [eB_eq, aC_eq, aN_eq, ha, hb, bd_ret, bd_bd, fix2]
  exact h
theorem ret_at {e : E} {loc : Loc} {st s : Store} {v : Val} (h : e loc st = .ok v s) : sRet e loc st = .ok (.rt v, loc) s := by
  rw [sRet_eq, bd_eq h]
  rfl
theorem run_rt {n : Nat} {b : S} {vs : List Val} {loc l : Loc} {st s : Store} {v : Val} (e0 : vs.map some ++ List.replicate (n - vs.length) none = loc) (h : b loc st = .ok (.rt v, l) s) : runF n b vs st = .ok v s := by
  rw [runF_eq, e0, bd_eq h]
  rfl
theorem op_at {o : Val → Val → M Val} {a b : E} {loc : Loc} {st st1 st2 st3 : Store} {v u x : Val} (ha : a loc st = .ok v st1) (hb : b loc st1 = .ok u st2) (h : o v u st2 = .ok x st3) : eO o a b loc st = .ok x st3 := by
  rw [eO_eq, bd_eq ha, bd_eq hb]
  exact h
theorem un_at {o : Val → M Val} {a : E} {loc : Loc} {st st1 st2 : Store} {v x : Val} (ha : a loc st = .ok v st1) (h : o v st1 = .ok x st2) : eU o a loc st = .ok x st2 := by
  rw [eU_eq, bd_eq ha]
  exact h
/-! ### a round meets every good list -/
theorem sum_le_neg' : ∀ (L : List (Int × Mv)) (g : Mv → Int), (∀ p ∈ L, 0 ≤ p.1 ∧ (p.1 = 0 ∨ g p.2 ≤ -1)) → (L.map fun p => p.1 * g p.2).sum ≤ -(L.map fun p => p.1).sum
  | [], _, _ => by simp
  | p :: L, g, h => by
    have ih := sum_le_neg' L g fun q hq => h q (List.mem_cons_of_mem _ hq)
    obtain ⟨h1, h2⟩ := h p List.mem_cons_self
    simp only [List.map_cons, List.sum_cons]
    rcases h2 with h2 | h2
    · rw [h2, Int.zero_mul]; omega
    · have := Int.mul_le_mul_of_nonneg_left h2 h1
      omega
section
set_option Elab.async false
variable {ms : List Mv} {h : Nat}
theorem farkas' (w : WF ms h) {ws cs : List Int} (hw : Wt h ws) (hr : ∀ p ∈ cs.zip ms, p.1 = 0 ∨ wgt ws (chg p.2) ≤ -1) (hc : Ct ms.length cs) (hg : gdB h ms cs = true) : False := by
  unfold gdB at hg
  simp only [Bool.and_eq_true, decide_eq_true_eq, List.all_eq_true] at hg
  have t := wgt_tot (h := h) ws (cs.zip ms) (List.replicate h 0) (by simp) fun p hp => w.clen (List.of_mem_zip (a := p.1) (b := p.2) hp).2
  rw [wgt_zero] at t
  have nn : 0 ≤ wgt ws (Tot h ms cs) := wgt_nn hw.2 hg.2
  have le := sum_le_neg' (cs.zip ms) (fun m => wgt ws (chg m)) fun p hp => by
    have z := List.of_mem_zip (a := p.1) (b := p.2) hp
    exact ⟨hc.b _ z.1, hr p hp⟩
  have es : ((cs.zip ms).map fun p => p.1) = cs := by
    have : (fun p : Int × Mv => p.1) = Prod.fst := rfl
    rw [this, List.map_fst_zip (by rw [hc.l]; omega)]
  rw [es] at le
  unfold Tot at nn
  omega
def usedL (cs : List Int) : List Nat := (cs.zipIdx.filter fun p => decide (0 < p.1)).map (·.2)
theorem used_mem {cs : List Int} {i : Nat} {v : Int} (h : cs[i]? = some v) (hv : 0 < v) : i ∈ usedL cs := by
  unfold usedL
  refine List.mem_map.mpr ⟨(v, i), List.mem_filter.mpr ⟨List.mem_zipIdx_iff_getElem?.mpr h, ?_⟩, rfl⟩
  simpa using hv
theorem wo_mem_of {xs : List Nat} {i : Nat} {m : Mv} (h : ms[i]? = some m) (hx : xs.contains i = false) : m ∈ wo ms xs := by
  unfold wo
  refine List.mem_map.mpr ⟨(m, i), List.mem_filter.mpr ⟨List.mem_zipIdx_iff_getElem?.mpr h, ?_⟩, rfl⟩
  show (!(xs.contains i)) = true
  rw [hx]
  rfl
theorem round_cut (w : WF ms h) {cs : List Int} (hc : Ct ms.length cs) (hg : gdB h ms cs = true) {x : List Nat} (gx : Gd ms h x = true) : (x.filter fun i => (usedL cs).contains i).isEmpty = false := by
  cases he : (x.filter fun i => (usedL cs).contains i).isEmpty with
  | false => rfl
  | true =>
    rw [List.isEmpty_iff, List.filter_eq_nil_iff] at he
    have zero : ∀ (i : Nat) (v : Int), cs[i]? = some v → x.contains i = true → v = 0 := fun i v hv hx => by
      have b := hc.b v (List.mem_of_getElem? hv)
      refine Classical.byContradiction fun hne => ?_
      exact he i (by simpa using hx) (by simpa using used_mem hv (by omega))
    have ix : ∀ p ∈ cs.zip ms, ∃ i : Nat, cs[i]? = some p.1 ∧ ms[i]? = some p.2 := fun p hp => by
      obtain ⟨i, hi⟩ := List.mem_iff_getElem?.mp hp
      have := List.getElem?_zip_eq_some.mp hi
      exact ⟨i, this.1, this.2⟩
    rcases Gd_iff.mp gx with hz | ⟨ws, hw, hr⟩
    · refine (farkas' (ws := List.replicate h 0) w ⟨by simp, fun y hy => by rw [(List.mem_replicate.mp hy).2]; omega⟩ (fun p hp => ?_) hc hg).elim
      obtain ⟨i, h1, h2⟩ := ix p hp
      cases hx : x.contains i with
      | true => exact Or.inl (zero i _ h1 hx)
      | false =>
        have := wo_mem_of h2 hx
        rw [hz] at this
        cases this
    · refine (farkas' w hw (fun p hp => ?_) hc hg).elim
      obtain ⟨i, h1, h2⟩ := ix p hp
      cases hx : x.contains i with
      | true => exact Or.inl (zero i _ h1 hx)
      | false => exact Or.inr (rg_iff.mp hr _ (wo_mem_of h2 hx))
/-! ### the first cut -/
theorem CSt_head {n : Nat} (hn : n ≤ 5) : CSt n = [] :: (CSt n).tail ∧ (∀ x ∈ (CSt n).tail, x ≠ []) ∧ List.range n ∈ CSt n ∧ [] ∈ AL n := by
  have : ∀ n, n ≤ 5 → CSt n = [] :: (CSt n).tail ∧ (∀ x ∈ (CSt n).tail, x ≠ []) ∧ List.range n ∈ CSt n ∧ [] ∈ AL n := by decide +kernel
  exact this n hn
theorem wo_all (ms : List Mv) : wo ms (List.range ms.length) = [] := by
  unfold wo
  rw [List.map_eq_nil_iff, List.filter_eq_nil_iff]
  intro p hp
  have := (List.mem_zipIdx hp).2.1
  have : p.2 ∈ List.range ms.length := List.mem_range.mpr (by omega)
  simpa using this
theorem wo_nil (ms : List Mv) : wo ms [] = ms := by
  unfold wo
  have e : ms.zipIdx.filter (fun p => !(([] : List Nat).contains p.2)) = ms.zipIdx := List.filter_eq_self.mpr fun _ _ => rfl
  rw [e]
  exact List.zipIdx_map_fst 0 ms
theorem cutL_ne (n5 : ms.length ≤ 5) : ∃ c r, cutL ms h = c :: r := by
  obtain ⟨z, hz, hm, _⟩ := (cuts_fold n5 (Gd ms h)).2 _ (CSt_head n5).2.2.1 (Gd_iff.mpr (Or.inl (wo_all ms)))
  cases e : cutL ms h with
  | cons c r => exact ⟨c, r, rfl⟩
  | nil =>
    have : z ∈ cutL ms h := List.mem_filter.mpr ⟨hz, hm⟩
    rw [e] at this
    cases this
theorem cutL_nil (w : WF ms h) (n5 : ms.length ≤ 5) : (cutL ms h = [[]]) ↔ EndsP ms h := by
  have hne : ms ≠ [] := fun e => by have := w.n1; rw [e] at this; simp at this
  have g0 : Gd ms h [] = true ↔ EndsP ms h := by
    rw [Gd_iff, wo_nil]
    exact ⟨fun z => z.resolve_left hne, Or.inr⟩
  obtain ⟨c1, c2, _, c4⟩ := CSt_head n5
  constructor
  · intro e
    have : ([] : List Nat) ∈ cutL ms h := by rw [e]; exact List.mem_cons_self
    exact g0.mp (minG_iff.mp (List.mem_filter.mp this).2).1
  · intro e
    have g := g0.mpr e
    have m0 : minG (Gd ms h) (AL ms.length) [] = true := minG_iff.mpr ⟨g, fun y _ _ hs => by
      cases y with
      | nil => rfl
      | cons a y => simp [subB] at hs⟩
    have mt : (CSt ms.length).tail.filter (minG (Gd ms h) (AL ms.length)) = [] := by
      rw [List.filter_eq_nil_iff]
      intro x hx hm
      exact c2 x hx ((minG_iff.mp hm).2 [] c4 g rfl).symm
    unfold cutL
    rw [c1, List.filter_cons_of_pos m0, mt]
theorem cutL_good {c : List Nat} (hc : c ∈ cutL ms h) : Gd ms h c = true := (minG_iff.mp (List.mem_filter.mp hc).2).1
theorem cuts_ex (w : WF ms h) (h3 : h ≤ 3) (n5 : ms.length ≤ 5) (st : Store) : ∃ st', Pre st st' ∧ f_cuts [.d (eMs ms)] st = .ok (.d (nsD (cutL ms h))) st' := by
  obtain ⟨st', p, e⟩ := all_cuts_ex w h3 n5 st
  refine ⟨st', p, ?_⟩
  have e0 : List.map some [Val.d (eMs ms)] ++ List.replicate (1 - [Val.d (eMs ms)].length) none = [some (.d (eMs ms))] := rfl
  unfold f_cuts b_cuts
  refine run_rt e0 (l := [some (.d (eMs ms))]) ?_
  have nd : f_need_moves [.d (eMs ms)] st = .ok (.d .none) st := by rw [w.need]; rfl
  rw [seq_nx (exp_at (call1 rfl nd))]
  exact ret_at (call1 rfl e)
theorem first_cut_ex (w : WF ms h) (h3 : h ≤ 3) (n5 : ms.length ≤ 5) {c : List Nat} {r : List (List Nat)} (hc : cutL ms h = c :: r) (st : Store) : ∃ st', Pre st st' ∧ f_first_cut [.d (eMs ms)] st = .ok (.d (nD c)) st' := by
  obtain ⟨st', p, e⟩ := all_cuts_ex w h3 n5 st
  refine ⟨st', p, ?_⟩
  rw [hc] at e
  have e0 : List.map some [Val.d (eMs ms)] ++ List.replicate (1 - [Val.d (eMs ms)].length) none = [some (.d (eMs ms))] := rfl
  have ix : bIx (.d (nsD (c :: r))) (.d (.int 0)) = ret (.d (nD c)) := by
    show bIx (.d (.list (nD c :: r.map nD))) (.d (.int 0)) = _
    rw [bIx_lst, atI_zero]
    rfl
  unfold f_first_cut b_first_cut
  refine run_rt e0 (l := [some (.d (eMs ms))]) ?_
  have nd : f_need_moves [.d (eMs ms)] st = .ok (.d .none) st := by rw [w.need]; rfl
  rw [seq_nx (exp_at (call1 rfl nd))]
  exact ret_at (op_at (call1 rfl e) (u := .d (.int 0)) (st2 := st') rfl (by rw [ix]; rfl))
end
/-! ### equal lists of numbers -/
theorem Sh.nD (c : List Nat) : Sh 2 (nD c) := Sh.list fun x hx => by
  obtain ⟨i, _, rfl⟩ := List.mem_map.mp hx
  exact Sh.int _
theorem Sh.nsD (L : List (List Nat)) : Sh 3 (nsD L) := Sh.list fun x hx => by
  obtain ⟨c, _, rfl⟩ := List.mem_map.mp hx
  exact Sh.nD c
theorem eqvA_nD : ∀ a b : List Nat, PyData.eqvAll (a.map fun (i : Nat) => PyData.int (i : Int)) (b.map fun (i : Nat) => PyData.int (i : Int)) = (a == b)
  | [], [] => rfl
  | [], _ :: _ => rfl
  | _ :: _, [] => rfl
  | x :: a, y :: b => by
    have ih := eqvA_nD a b
    simp only [List.map_cons, PyData.eqvAll, ih, PyData.eqv]
    show ((x : Int) == (y : Int) && (a == b)) = (x == y && (a == b))
    congr 1
    rw [Bool.eq_iff_iff, beq_iff_eq, beq_iff_eq]
    omega
theorem eqD_nD (a b : List Nat) : eqD (nD a) (nD b) = ret (a == b) := by
  rw [eqD_eq ((Sh.nD a).shaped (by omega)) ((Sh.nD b).shaped (by omega))]
  show ret (PyData.eqvAll _ _) = _
  rw [eqvA_nD]
theorem eqD_nD0 (a : List Nat) : eqD (nD a) (.list []) = ret a.isEmpty := by
  have := eqD_nD a []
  rw [show nD [] = PyData.list [] from rfl] at this
  rw [this]
  cases a <;> rfl
theorem eqD_nsD0 (L : List (List Nat)) : eqD (nsD L) (.list []) = ret L.isEmpty := by
  rw [eqD_eq ((Sh.nsD L).shaped (by omega)) rfl]
  cases L <;> rfl
theorem eqD_nsD1 (L : List (List Nat)) : eqD (nsD L) (.list [.list []]) = ret (L == [[]]) := by
  rw [eqD_eq ((Sh.nsD L).shaped (by omega)) rfl]
  show ret (PyData.eqvAll (L.map nD) [.list []]) = _
  match L with
  | [] => rfl
  | [c] =>
    simp only [List.map_cons, List.map_nil, PyData.eqvAll]
    cases c <;> rfl
  | c :: d :: r =>
    simp only [List.map_cons, PyData.eqvAll]
    rw [Bool.and_false]
    congr 1
    symm
    rw [beq_eq_false_iff_ne]
    intro e
    injection e with _ e
    cases e

end Y
end
section
set_option Elab.async false
set_option linter.all false
set_option maxRecDepth 10000
set_option exponentiation.threshold 5000
namespace Y
open PySem (PyData Str)
/-! ### the law: good lists, least ones -/
abbrev LE (ns : List Int) (kd : Nat) (x2 x3 x4 x5 x6 x7 x8 x9 x10 x11 x12 x13 x14 : Option Val) : Loc := [some (.s ns), some (.o kd), x2, x3, x4, x5, x6, x7, x8, x9, x10, x11, x12, x13, x14]
theorem pre_get {s0 st : Store} (p : Pre s0 st) {k : Nat} {o : Ob} (h : s0[k]? = some o) : st[k]? = some o := by
  obtain ⟨t, rfl⟩ := p
  rw [List.getElem?_append_left (List.getElem?_eq_some_iff.mp h).1]
  exact h
section
set_option Elab.async false
variable {ns : List Int} {kd : Nat} {ms : List Mv} {h : Nat} {x6 x7 x8 x9 x10 x11 x12 x13 x14 : Option Val}
theorem left_eq (hl : ms.length ≤ 1000) {x : List Nat} (x3 x5 : Option Val) : law_C1 (LE ns kd (some (.d (eMs ms))) x3 (some (.d (nD x))) x5 x6 x7 x8 x9 x10 x11 x12 x13 x14) = ret (.d (.list ((wo ms x).map eMv))) := by
  rw [law_C1_eq]
  refine wo_comp hl rfl fun p => ?_
  simp only [cBody_eq, wip_cons, wip_nil, gT_eq, gsC_eq, gsN_eq, gN_eq, List.map_cons, List.map_nil, List.length_cons, List.length_nil, if_true, bd_ret, bd_bd, List.set_cons_succ, List.set_cons_zero, tV_eq, eO_eq, eV_zero, eV_succ, nin_nD, asB_eq]
  cases x.contains p.2 <;> rfl
theorem good_step (w : WF ms h) (h3 : h ≤ 3) {k : Nat} {x : List Nat} {good : List (List Nat)} (hf : good.length ≤ 900) {st : Store} (hk : st[k]? = some (.lst (fV good))) (x4 x5 : Option Val) : ∃ y5 st', fBody (gN 4) law_L1 (.d (nD x)) (LE ns kd (some (.d (eMs ms))) (some (.o k)) x4 x5 x6 x7 x8 x9 x10 x11 x12 x13 x14) st = .ok (.nx, LE ns kd (some (.d (eMs ms))) (some (.o k)) (some (.d (nD x))) y5 x6 x7 x8 x9 x10 x11 x12 x13 x14) st' ∧ st'[k]? = some (.lst (fV (good ++ [x].filter (Gd ms h)))) ∧ ∀ s0, Pre s0 st → s0.length ≤ k → Pre s0 st' := by
  have n6 := w.n6
  have g : fBody (gN 4) law_L1 (.d (nD x)) (LE ns kd (some (.d (eMs ms))) (some (.o k)) x4 x5 x6 x7 x8 x9 x10 x11 x12 x13 x14) = law_L1 (LE ns kd (some (.d (eMs ms))) (some (.o k)) (some (.d (nD x))) x5 x6 x7 x8 x9 x10 x11 x12 x13 x14) := rfl
  have c1 := left_eq (ns := ns) (kd := kd) (ms := ms) (x6 := x6) (x7 := x7) (x8 := x8) (x9 := x9) (x10 := x10) (x11 := x11) (x12 := x12) (x13 := x13) (x14 := x14) (by omega) (x := x) (some (.o k)) x5
  have s1 : sAsg (eB bTuple (aC law_C1 aN)) (gN 5) (LE ns kd (some (.d (eMs ms))) (some (.o k)) (some (.d (nD x))) x5 x6 x7 x8 x9 x10 x11 x12 x13 x14) st = .ok (.nx, LE ns kd (some (.d (eMs ms))) (some (.o k)) (some (.d (nD x))) (some (.d (eMs (wo ms x)))) x6 x7 x8 x9 x10 x11 x12 x13 x14) st := by
    rw [asg_gN (v := .d (eMs (wo ms x))) (s := st) (by
      rw [eB_eq, aC_eq, c1]
      simp only [aN_eq, bd_ret, bTuple_lst]
      rfl)]
    rfl
  have bt : bTup [] = ret (.d (.tuple [])) := rfl
  have tst : ∃ st1, Pre st st1 ∧ tOrr (tV (eO bEq (eV 5) (eB bTup aN))) (tV (eU bNotN (eB (fixN 1 f_weights_of) (aC (eV 5) aN)))) (LE ns kd (some (.d (eMs ms))) (some (.o k)) (some (.d (nD x))) (some (.d (eMs (wo ms x)))) x6 x7 x8 x9 x10 x11 x12 x13 x14) st = .ok (Gd ms h x) st1 := by
    have t1 : tV (eO bEq (eV 5) (eB bTup aN)) (LE ns kd (some (.d (eMs ms))) (some (.o k)) (some (.d (nD x))) (some (.d (eMs (wo ms x)))) x6 x7 x8 x9 x10 x11 x12 x13 x14) st = .ok (wo ms x).isEmpty st := by
      refine tv_at ?_
      simp only [eO_eq, eB_eq, aN_eq, eV_zero, eV_succ, bd_ret, bt, bEq_d, eqD_ms0, ret_ap]
    by_cases hz : wo ms x = []
    · have gg : Gd ms h x = true := Gd_iff.mpr (Or.inl hz)
      refine ⟨st, Pre.refl st, ?_⟩
      rw [hz] at t1
      rw [hz, gg, tOrr_eq, bd_eq t1]
      rfl
    · have w' := wo_wf w hz
      obtain ⟨y, st', e, v, p⟩ := weights_of_ex w' h3 st
      refine ⟨st', p, ?_⟩
      have ie : (wo ms x).isEmpty = false := by
        cases hc : wo ms x with
        | nil => exact absurd hc hz
        | cons _ _ => rfl
      have gg : (!isN (.d y)) = Gd ms h x := by
        rcases v with ⟨ws, rfl, a, b⟩ | ⟨rfl, gg⟩
        · rw [Gd_iff.mpr (Or.inr ⟨ws, a, b⟩)]
          rfl
        · cases hc : Gd ms h x with
          | false => rfl
          | true =>
            rcases Gd_iff.mp hc with z | z
            · exact absurd z hz
            · exact absurd z fun z => not_both w' z gg
      rw [ie] at t1
      rw [tOrr_eq, bd_eq t1]
      simp only [Bool.false_eq_true, if_false]
      refine tv_at (un_at (call1 rfl e) ?_)
      rw [← gg]
      rfl
  obtain ⟨st1, p1, t⟩ := tst
  have hk1 := pre_get p1 hk
  cases hg : Gd ms h x with
  | false =>
    rw [hg] at t
    refine ⟨some (.d (eMs (wo ms x))), st1, ?_, ?_, fun s0 p _ => p.trans p1⟩
    · rw [g, law_L1_eq, seq_nx s1, if_no t]
      rfl
    · rw [List.filter_cons_of_neg (by rw [hg]; decide), List.filter_nil, List.append_nil]
      exact hk1
  | true =>
    rw [hg] at t
    have lf : (fV good).length < lim := by
      unfold fV
      rw [List.length_map, lim_eq]; omega
    have ap := app_at (o := eV 3) (e := eV 4) (loc := LE ns kd (some (.d (eMs ms))) (some (.o k)) (some (.d (nD x))) (some (.d (eMs (wo ms x)))) x6 x7 x8 x9 x10 x11 x12 x13 x14) (v := .d (nD x)) rfl hk1 rfl hk1 lf
    refine ⟨some (.d (eMs (wo ms x))), st1.set k (.lst (fV good ++ [.d (nD x)])), ?_, ?_, fun s0 p hl => (p.trans p1).set hl _⟩
    · rw [g, law_L1_eq, seq_nx s1, if_yes t, exp_at ap]
    · have hlt1 : k < st1.length := (List.getElem?_eq_some_iff.mp hk1).1
      rw [List.getElem?_set_self hlt1, List.filter_cons_of_pos hg]
      simp [fV]
theorem good_loop (w : WF ms h) (h3 : h ≤ 3) {k : Nat} : ∀ (L good : List (List Nat)) (st : Store) (x4 x5 : Option Val), good.length + L.length ≤ 900 → st[k]? = some (.lst (fV good)) → ∃ y4 y5 st', forL (fBody (gN 4) law_L1) (fV L) (LE ns kd (some (.d (eMs ms))) (some (.o k)) x4 x5 x6 x7 x8 x9 x10 x11 x12 x13 x14) st = .ok (.nx, LE ns kd (some (.d (eMs ms))) (some (.o k)) y4 y5 x6 x7 x8 x9 x10 x11 x12 x13 x14) st' ∧ st'[k]? = some (.lst (fV (good ++ L.filter (Gd ms h)))) ∧ ∀ s0, Pre s0 st → s0.length ≤ k → Pre s0 st'
  | [], good, st, x4, x5, _, hk => ⟨x4, x5, st, rfl, by rw [List.filter_nil, List.append_nil]; exact hk, fun _ p _ => p⟩
  | x :: L, good, st, x4, x5, hl, hk => by
    rw [List.length_cons] at hl
    obtain ⟨y5, st1, e1, k1, p1⟩ := good_step (ns := ns) (kd := kd) (x6 := x6) (x7 := x7) (x8 := x8) (x9 := x9) (x10 := x10) (x11 := x11) (x12 := x12) (x13 := x13) (x14 := x14) w h3 (x := x) (by omega) hk x4 x5
    have fl := List.length_filter_le (Gd ms h) [x]
    simp only [List.length_cons, List.length_nil] at fl
    obtain ⟨z4, z5, st2, e2, k2, p2⟩ := good_loop w h3 L (good ++ [x].filter (Gd ms h)) st1 (some (.d (nD x))) y5 (by rw [List.length_append]; omega) k1
    refine ⟨z4, z5, st2, ?_, ?_, fun s0 p hl => p2 s0 (p1 s0 p hl) hl⟩
    · show bd (fBody _ _ _ _) _ st = _
      rw [bd_eq e1]
      exact e2
    · rw [k2, List.append_assoc, ← List.filter_append]
      rfl
/-! the least ones -/
def pV (L : List (List Nat)) : List Val := L.map fun x => Val.d (pD x)
def leastB (good : List (List Nat)) (x : List Nat) : Bool := ((good.filter fun y => !(y == x)).filter fun y => (y.filter fun i => !(x.contains i)).isEmpty).isEmpty
theorem seq_nsD (L : List (List Nat)) : seqOf (.d (nsD L)) = ret (L.map nD) := rfl
theorem ne_nD (a b : List Nat) : bNe (.d (nD a)) (.d (nD b)) = ret (.d (.bool (!(a == b)))) := by
  rw [bNe_d, eqD_nD]
  rfl
theorem others_eq {k : Nat} {x : List Nat} {good : List (List Nat)} (hf : good.length ≤ 900) {st : Store} (hk : st[k]? = some (.lst (fV good))) (x2 x5 : Option Val) : law_C2 (LE ns kd x2 (some (.o k)) (some (.d (nD x))) x5 x6 x7 x8 x9 x10 x11 x12 x13 x14) st = .ok (.d (nsD (good.filter fun y => !(y == x)))) st := by
  have e := eLcO_filter (e := eV 3) (g := gN 10) (t := tV (eO bNe (eV 10) (eV 4))) (el := eV 10) (vs := [10]) (loc := LE ns kd x2 (some (.o k)) (some (.d (nD x))) x5 x6 x7 x8 x9 x10 x11 x12 x13 x14) (st := st) (k := k) good (fun c => Val.d (nD c)) (fun y => !(y == x)) nD rfl hk (by rw [lim_eq]; omega) fun c _ => by
    simp only [cBody_eq, wip_cons, wip_nil, gN_eq, bd_ret, tV_eq, eO_eq, eV_zero, eV_succ, List.set_cons_succ, List.set_cons_zero, bd_bd, ne_nD, asB_eq]
    cases (c == x) <;> rfl
  rw [law_C2_eq, e]
  rfl
theorem rest_eq {x y : List Nat} (hy : y.length ≤ 1000) (x2 x3 x5 x6 x9 : Option Val) : law_C3 (LE ns kd x2 x3 (some (.d (nD x))) x5 x6 x7 x8 x9 (some (.d (nD y))) x11 x12 x13 x14) = ret (.d (nD (y.filter fun i => !(x.contains i)))) := by
  rw [law_C3_eq]
  have e := eLc_filter (it := iSeq (eV 10)) (g := gN 6) (t := tV (eO bNIn (eV 6) (eV 4))) (e := eV 6) (vs := [6]) (loc := LE ns kd x2 x3 (some (.d (nD x))) x5 x6 x7 x8 x9 (some (.d (nD y))) x11 x12 x13 x14) y (fun (i : Nat) => Val.d (.int (i : Int))) (fun i => !(x.contains i)) (fun (i : Nat) => .int (i : Int)) (by
    simp only [iSeq_eq, eV_zero, eV_succ, bd_ret, seq_nD, List.map_map]
    rfl) (by rw [lim_eq]; omega) fun i _ => by
    simp only [cBody_eq, wip_cons, wip_nil, gN_eq, bd_ret, tV_eq, eO_eq, eV_zero, eV_succ, List.set_cons_succ, List.set_cons_zero, bd_bd, nin_nD, asB_eq]
    cases x.contains i <;> rfl
  rw [e]
  rfl
theorem under_eq {x : List Nat} {L : List (List Nat)} (hl : L.length ≤ 900) (hL : ∀ y ∈ L, y.length ≤ 1000) (x2 x3 x5 x6 x10 : Option Val) : law_C4 (LE ns kd x2 x3 (some (.d (nD x))) x5 x6 x7 x8 (some (.d (nsD L))) x10 x11 x12 x13 x14) = ret (.d (nsD (L.filter fun y => (y.filter fun i => !(x.contains i)).isEmpty))) := by
  rw [law_C4_eq]
  have bl : bLst [] = ret (.d (.list [])) := rfl
  refine eLc_filter L (fun y => Val.d (nD y)) (fun y => (y.filter fun i => !(x.contains i)).isEmpty) nD ?_ (by rw [lim_eq]; omega) fun y hy => ?_
  · simp only [iSeq_eq, eV_zero, eV_succ, bd_ret, seq_nsD, List.map_map]
    rfl
  · have r := rest_eq (ns := ns) (kd := kd) (x7 := x7) (x8 := x8) (x11 := x11) (x12 := x12) (x13 := x13) (x14 := x14) (x := x) (hL y hy) x2 x3 x5 x6 (some (.d (nsD L)))
    simp only [cBody_eq, wip_cons, wip_nil, gN_eq, bd_ret, tV_eq, eO_eq, eB_eq, aN_eq, List.set_cons_succ, List.set_cons_zero, bd_bd]
    rw [r]
    simp only [bd_ret, bl, bEq_d, eqD_nD0, bd_bd, asB_eq, eV_zero, eV_succ]
    cases (y.filter fun i => !(x.contains i)).isEmpty <;> rfl
theorem due_step {k k2 : Nat} (hne : k ≠ k2) {x : List Nat} {good due : List (List Nat)} (hf : good.length ≤ 900) (hL : ∀ y ∈ good, y.length ≤ 1000) (hd : due.length ≤ 900) {st : Store} (hk : st[k]? = some (.lst (fV good))) (hk2 : st[k2]? = some (.lst (pV due))) (x2 x4 x5 x9 : Option Val) : ∃ st', fBody (gN 4) law_L2 (.d (nD x)) (LE ns kd x2 (some (.o k)) x4 x5 x6 x7 (some (.o k2)) x9 x10 x11 x12 x13 x14) st = .ok (.nx, LE ns kd x2 (some (.o k)) (some (.d (nD x))) x5 x6 x7 (some (.o k2)) (some (.d (nsD (good.filter fun y => !(y == x))))) x10 x11 x12 x13 x14) st' ∧ st'[k]? = some (.lst (fV good)) ∧ st'[k2]? = some (.lst (pV (due ++ [x].filter (leastB good)))) ∧ ∀ s0, Pre s0 st → s0.length ≤ k2 → Pre s0 st' := by
  have g : fBody (gN 4) law_L2 (.d (nD x)) (LE ns kd x2 (some (.o k)) x4 x5 x6 x7 (some (.o k2)) x9 x10 x11 x12 x13 x14) = law_L2 (LE ns kd x2 (some (.o k)) (some (.d (nD x))) x5 x6 x7 (some (.o k2)) x9 x10 x11 x12 x13 x14) := rfl
  have c2 := others_eq (ns := ns) (kd := kd) (x6 := x6) (x7 := x7) (x8 := some (.o k2)) (x9 := x9) (x10 := x10) (x11 := x11) (x12 := x12) (x13 := x13) (x14 := x14) (x := x) hf hk x2 x5
  have s1 : sAsg law_C2 (gN 9) (LE ns kd x2 (some (.o k)) (some (.d (nD x))) x5 x6 x7 (some (.o k2)) x9 x10 x11 x12 x13 x14) st = .ok (.nx, LE ns kd x2 (some (.o k)) (some (.d (nD x))) x5 x6 x7 (some (.o k2)) (some (.d (nsD (good.filter fun y => !(y == x))))) x10 x11 x12 x13 x14) st := by
    rw [asg_gN c2]
    rfl
  have lf := List.length_filter_le (fun y => !(y == x)) good
  have c4 := under_eq (ns := ns) (kd := kd) (x7 := x7) (x8 := some (.o k2)) (x11 := x11) (x12 := x12) (x13 := x13) (x14 := x14) (x := x) (L := good.filter fun y => !(y == x)) (by omega) (fun y hy => hL y (List.mem_filter.mp hy).1) x2 (some (.o k)) x5 x6 x10
  have t : tV (eO bEq law_C4 (eB bLst aN)) (LE ns kd x2 (some (.o k)) (some (.d (nD x))) x5 x6 x7 (some (.o k2)) (some (.d (nsD (good.filter fun y => !(y == x))))) x10 x11 x12 x13 x14) st = .ok (leastB good x) st := by
    refine tv_at (op_at (v := .d (nsD ((good.filter fun y => !(y == x)).filter fun y => (y.filter fun i => !(x.contains i)).isEmpty))) (u := .d (.list [])) (st1 := st) (st2 := st) (by rw [c4]; rfl) rfl ?_)
    rw [bEq_d, eqD_nsD0]
    rfl
  cases hg : leastB good x with
  | false =>
    rw [hg] at t
    refine ⟨st, ?_, hk, ?_, fun s0 p _ => p⟩
    · rw [g, law_L2_eq, seq_nx s1, if_no t]
      rfl
    · rw [List.filter_cons_of_neg (by rw [hg]; decide), List.filter_nil, List.append_nil]
      exact hk2
  | true =>
    rw [hg] at t
    have lf : (pV due).length < lim := by
      unfold pV
      rw [List.length_map, lim_eq]; omega
    have bl : bLen [.d (nD x)] = ret (.d (.int (x.length : Int))) := by
      show ret (vI (x.map fun (i : Nat) => PyData.int (i : Int)).length) = _
      rw [List.length_map]
      rfl
    have pe : eB bTup (aC (eB bLen (aC (eV 4) aN)) (aC (eV 4) aN)) (LE ns kd x2 (some (.o k)) (some (.d (nD x))) x5 x6 x7 (some (.o k2)) (some (.d (nsD (good.filter fun y => !(y == x))))) x10 x11 x12 x13 x14) st = .ok (.d (pD x)) st := by
      simp only [eB_eq, aC_eq, aN_eq, eV_zero, eV_succ, bd_ret, bd_bd, bl, bTup_eq2]
      rfl
    have ap := app_at (o := eV 8) (e := eB bTup (aC (eB bLen (aC (eV 4) aN)) (aC (eV 4) aN))) (loc := LE ns kd x2 (some (.o k)) (some (.d (nD x))) x5 x6 x7 (some (.o k2)) (some (.d (nsD (good.filter fun y => !(y == x))))) x10 x11 x12 x13 x14) (v := .d (pD x)) rfl hk2 pe hk2 lf
    refine ⟨st.set k2 (.lst (pV due ++ [.d (pD x)])), ?_, ?_, ?_, fun s0 p hl => p.set hl _⟩
    · rw [g, law_L2_eq, seq_nx s1, if_yes t, exp_at ap]
    · rw [List.getElem?_set_ne (Ne.symm hne)]
      exact hk
    · have hlt1 : k2 < st.length := (List.getElem?_eq_some_iff.mp hk2).1
      rw [List.getElem?_set_self hlt1, List.filter_cons_of_pos hg]
      simp [pV]
theorem due_loop {k k2 : Nat} (hne : k ≠ k2) {good : List (List Nat)} (hf : good.length ≤ 900) (hL : ∀ y ∈ good, y.length ≤ 1000) : ∀ (L due : List (List Nat)) (st : Store) (x2 x4 x5 x9 : Option Val), due.length + L.length ≤ 900 → st[k]? = some (.lst (fV good)) → st[k2]? = some (.lst (pV due)) → ∃ y4 y9 st', forO k (fV good) (fBody (gN 4) law_L2) (fV L) (LE ns kd x2 (some (.o k)) x4 x5 x6 x7 (some (.o k2)) x9 x10 x11 x12 x13 x14) st = .ok (.nx, LE ns kd x2 (some (.o k)) y4 x5 x6 x7 (some (.o k2)) y9 x10 x11 x12 x13 x14) st' ∧ st'[k2]? = some (.lst (pV (due ++ L.filter (leastB good)))) ∧ ∀ s0, Pre s0 st → s0.length ≤ k2 → Pre s0 st'
  | [], due, st, x2, x4, x5, x9, _, hk, hk2 => ⟨x4, x9, st, by show forO k (fV good) _ [] _ st = _; unfold forO; rw [if_pos hk], by rw [List.filter_nil, List.append_nil]; exact hk2, fun _ p _ => p⟩
  | x :: L, due, st, x2, x4, x5, x9, hl, hk, hk2 => by
    rw [List.length_cons] at hl
    obtain ⟨st1, e1, k1, k21, p1⟩ := due_step (ns := ns) (kd := kd) (x6 := x6) (x7 := x7) (x10 := x10) (x11 := x11) (x12 := x12) (x13 := x13) (x14 := x14) hne (x := x) hf hL (by omega : due.length ≤ 900) hk hk2 x2 x4 x5 x9
    have fl := List.length_filter_le (leastB good) [x]
    simp only [List.length_cons, List.length_nil] at fl
    obtain ⟨z4, z9, st2, e2, k2', p2⟩ := due_loop hne hf hL L (due ++ [x].filter (leastB good)) st1 x2 (some (.d (nD x))) x5 (some (.d (nsD (good.filter fun y => !(y == x))))) (by rw [List.length_append]; omega) k1 k21
    refine ⟨z4, z9, st2, ?_, ?_, fun s0 p hl => p2 s0 (p1 s0 p hl) hl⟩
    · show forO k (fV good) _ (Val.d (nD x) :: fV L) _ st = _
      unfold forO
      rw [if_pos hk, bd_eq e1]
      exact e2
    · rw [k2', List.append_assoc, ← List.filter_append]
      rfl
end

end Y
end
section
set_option Elab.async false
set_option linter.all false
set_option maxRecDepth 10000
set_option exponentiation.threshold 5000
namespace Y
open PySem (PyData Str)
/-! ### the law: one cell -/
section
set_option Elab.async false
variable {ns : List Int} {kd : Nat} {ms : List Mv} {h : Nat} {x6 x7 x9 x10 x11 x12 x13 x14 : Option Val}
theorem sorted_own {k2 : Nat} {due : List (List Nat)} (hd : due.length ≤ 900) {st : Store} (hk2 : st[k2]? = some (.lst (pV due))) : bSortD [.o k2] st = .ok (.d (.list (sortD (due.map pD)))) st := by
  have td := toDs_map pD due
  have sa : seqAll (.o k2) st = .ok (due.map pD) st := by
    show (match st[k2]? with | some (.lst xs) => (match toDs xs with | some ds => R.ok ds st | none => .bad) | _ => .bad) = _
    rw [hk2]
    dsimp only [pV]
    rw [td]
  unfold bSortD
  dsimp only
  rw [bd_eq sa, if_pos (sort_ok (by rw [lim_eq]; omega))]
  rfl
theorem cuts_own {k2 : Nat} (n5 : ms.length ≤ 5) {st : Store} (hk2 : st[k2]? = some (.lst (pV (dueG (Gd ms h) (AL ms.length))))) (x2 x3 x4 x5 : Option Val) : law_C5 (LE ns kd x2 x3 x4 x5 x6 x7 (some (.o k2)) x9 x10 x11 x12 x13 x14) st = .ok (.o st.length) (st ++ [.lst (fV (cutL ms h))]) := by
  have al := AL_len n5
  have dl : (dueG (Gd ms h) (AL ms.length)).length ≤ 900 := by
    rw [due_eq]
    have := List.length_filter_le (minG (Gd ms h) (AL ms.length)) (AL ms.length)
    omega
  have so := sorted_own dl hk2
  rw [due_sorted n5] at so
  have cl : (cutL ms h).length ≤ (CSt ms.length).length := by unfold cutL; exact List.length_filter_le _ _
  have c32 := CSt_len n5
  rw [law_C5_eq]
  exact compL_sameN (cutL ms h) (fun x => Val.d (pD x)) (fun x => Val.d (nD x)) (by
    have sq : seqOf (.d (.list ((cutL ms h).map pD))) = ret ((cutL ms h).map pD) := rfl
    have a : eB bSortD (aC (eV 8) aN) (LE ns kd x2 x3 x4 x5 x6 x7 (some (.o k2)) x9 x10 x11 x12 x13 x14) st = .ok (.d (.list ((cutL ms h).map pD))) st := by
      simp only [eB_eq, aC_eq, aN_eq, eV_zero, eV_succ, bd_ret, bd_bd]
      exact so
    rw [iSeq_eq, bd_eq a, sq, bd_ret, List.map_map]
    rfl) (by rw [lim_eq]; omega) fun x _ => rfl
theorem snap_fV {k : Nat} {L : List (List Nat)} {st : Store} (hk : st[k]? = some (.lst (fV L))) : snap (.o k) st = .ok (nsD L) st := by
  have td := toDs_map nD L
  show (match st[k]? with | some (.lst xs) => (match toDs xs with | some ds => R.ok (PyData.list ds) st | none => .bad) | _ => .bad) = _
  rw [hk]
  dsimp only [fV]
  rw [td]
  rfl
theorem ne_own {k : Nat} {L : List (List Nat)} {st : Store} (hk : st[k]? = some (.lst (fV L))) : bNe (.d (nsD L)) (.o k) st = .ok (.d (.bool false)) st := by
  unfold bNe
  rw [snap_d, bd_ret, bd_eq (snap_fV hk), eqD_self (Sh.nsD L) (by omega)]
  rfl
theorem eq_own1 {k : Nat} {L : List (List Nat)} {st : Store} (hk : st[k]? = some (.lst (fV L))) : bEq (.o k) (.d (.list [.list []])) st = .ok (.d (.bool (L == [[]]))) st := by
  unfold bEq
  rw [bd_eq (snap_fV hk), snap_d, bd_ret, eqD_nsD1]
  rfl
theorem tests_ex (w : WF ms h) (h3 : h ≤ 3) (n5 : ms.length ≤ 5) {k : Nat} {st : Store} (hk : st[k]? = some (.lst (fV (cutL ms h)))) (x3 x4 x5 : Option Val) : ∃ st', Pre st st' ∧ sIf (tOrr (tV (eO bNe (eB (fixN 1 f_cuts) (aC (eV 2) aN)) (eV 8))) (tOrr (tV (eO bNe (eB (fixN 1 f_first_cut) (aC (eV 2) aN)) (eO bIx (eV 8) (eC (.int 0))))) (tV (eO bNe (eB (fixN 1 f_ends) (aC (eV 2) aN)) (eO bEq (eV 8) (eB bLst (aC (eB bLst aN) aN))))))) (sRet (eC (.bool false))) sNil (LE ns kd (some (.d (eMs ms))) x3 x4 x5 x6 x7 (some (.o k)) x9 x10 x11 x12 x13 x14) st = .ok (.nx, LE ns kd (some (.d (eMs ms))) x3 x4 x5 x6 x7 (some (.o k)) x9 x10 x11 x12 x13 x14) st' := by
  obtain ⟨c, r, hcr⟩ := cutL_ne (h := h) n5
  obtain ⟨st1, p1, e1⟩ := cuts_ex w h3 n5 st
  have hk1 := pre_get p1 hk
  obtain ⟨st2, p2, e2⟩ := first_cut_ex w h3 n5 hcr st1
  have hk2 := pre_get p2 hk1
  obtain ⟨b, st3, e3, v, p3⟩ := ends_ex w h3 st2
  have hk3 := pre_get p3 hk2
  have cb : (cutL ms h == [[]]) = b := by
    rcases v with ⟨rfl, a⟩ | ⟨rfl, gg⟩
    · rw [beq_iff_eq]; exact (cutL_nil w n5).mpr a
    · rw [beq_eq_false_iff_ne]
      intro z
      exact not_both w ((cutL_nil w n5).mp z) gg
  refine ⟨st3, (p1.trans p2).trans p3, ?_⟩
  have t1 : tV (eO bNe (eB (fixN 1 f_cuts) (aC (eV 2) aN)) (eV 8)) (LE ns kd (some (.d (eMs ms))) x3 x4 x5 x6 x7 (some (.o k)) x9 x10 x11 x12 x13 x14) st = .ok false st1 := tv_at (op_at (call1 rfl e1) (u := .o k) (st2 := st1) rfl (ne_own hk1))
  have t2 : tV (eO bNe (eB (fixN 1 f_first_cut) (aC (eV 2) aN)) (eO bIx (eV 8) (eC (.int 0)))) (LE ns kd (some (.d (eMs ms))) x3 x4 x5 x6 x7 (some (.o k)) x9 x10 x11 x12 x13 x14) st1 = .ok false st2 := by
    refine tv_at (op_at (call1 rfl e2) (u := .d (nD c)) (st2 := st2) (op_at (v := .o k) (u := .d (.int 0)) (st1 := st2) (st2 := st2) rfl rfl (bIx_o hk2 (by rw [hcr]; exact atI_zero _ _))) ?_)
    rw [ne_self (Sh.nD c) (by omega)]
    rfl
  have t3 : tV (eO bNe (eB (fixN 1 f_ends) (aC (eV 2) aN)) (eO bEq (eV 8) (eB bLst (aC (eB bLst aN) aN)))) (LE ns kd (some (.d (eMs ms))) x3 x4 x5 x6 x7 (some (.o k)) x9 x10 x11 x12 x13 x14) st2 = .ok false st3 := by
    refine tv_at (op_at (call1 rfl e3) (u := .d (.bool b)) (st2 := st3) (op_at (v := .o k) (u := .d (.list [.list []])) (st1 := st3) (st2 := st3) rfl rfl (by rw [eq_own1 hk3, cb])) ?_)
    rw [bNe_d, eqD_bool]
    cases b <;> rfl
  rw [if_no (or_no t1 (or_no t2 t3))]
  rfl
theorem used_eq {cs : List Int} (hl : cs.length ≤ 1000) (x2 x3 x4 x5 x8 : Option Val) : law_C6 (LE ns kd x2 x3 x4 x5 x6 x7 x8 x9 x10 x11 (some (.d (tI cs))) x13 x14) = ret (.d (nD (usedL cs))) := by
  have en : ∀ (l : List Int) (i : Nat), enumF i (intsD l) = (l.zipIdx i).map fun p => Val.d (.tuple [.int (p.2 : Int), .int p.1]) := fun l i => enumF_map PyData.int l i
  have ke : kEnumS [.d (tI cs)] = ret (enumF 0 (intsD cs)) := rfl
  rw [law_C6_eq]
  have e := eLc_filter (it := iCall kEnumS (aC (eV 12) aN)) (g := gT 2 (gsC (gN 6) (gsC (gN 14) gsN))) (t := tV (eO bGt (eV 14) (eC (.int 0)))) (e := eV 6) (vs := [6, 14]) (loc := LE ns kd x2 x3 x4 x5 x6 x7 x8 x9 x10 x11 (some (.d (tI cs))) x13 x14) cs.zipIdx (fun p => Val.d (.tuple [.int (p.2 : Int), .int p.1])) (fun p => decide (0 < p.1)) (fun p => .int (p.2 : Int)) (by
    simp only [iCall_eq, aC_eq, aN_eq, eV_zero, eV_succ, bd_ret, ke, en]) (by rw [List.length_zipIdx, lim_eq]; omega) fun p _ => by
    simp only [cBody_eq, wip_cons, wip_nil, gT_eq, gsC_eq, gsN_eq, gN_eq, List.map_cons, List.map_nil, List.length_cons, List.length_nil, if_true, bd_ret, bd_bd, List.set_cons_succ, List.set_cons_zero, tV_eq, eO_eq, eC_eq, eV_zero, eV_succ, bGt_int, asB_eq]
    cases decide (0 < p.1) <;> rfl
  rw [e]
  unfold usedL nD
  rw [List.map_map]
  rfl
theorem meet_eq {x u : List Nat} (hx : x.length ≤ 1000) (x2 x3 x5 x6 x8 : Option Val) : law_C7 (LE ns kd x2 x3 (some (.d (nD x))) x5 x6 x7 x8 x9 x10 x11 x12 (some (.d (nD u))) x14) = ret (.d (nD (x.filter fun i => u.contains i))) := by
  rw [law_C7_eq]
  have e := eLc_filter (it := iSeq (eV 4)) (g := gN 6) (t := tV (eO bIn (eV 6) (eV 13))) (e := eV 6) (vs := [6]) (loc := LE ns kd x2 x3 (some (.d (nD x))) x5 x6 x7 x8 x9 x10 x11 x12 (some (.d (nD u))) x14) x (fun (i : Nat) => Val.d (.int (i : Int))) (fun i => u.contains i) (fun (i : Nat) => .int (i : Int)) (by
    simp only [iSeq_eq, eV_zero, eV_succ, bd_ret, seq_nD, List.map_map]
    rfl) (by rw [lim_eq]; omega) fun i _ => by
    simp only [cBody_eq, wip_cons, wip_nil, gN_eq, bd_ret, tV_eq, eO_eq, eV_zero, eV_succ, List.set_cons_succ, List.set_cons_zero, bd_bd, in_nD, asB_eq]
    cases u.contains i <;> rfl
  rw [e]
  rfl
theorem missed_eq {k : Nat} {u : List Nat} {L : List (List Nat)} (hl : L.length ≤ 900) (hL : ∀ c ∈ L, c.length ≤ 1000 ∧ (c.filter fun i => u.contains i).isEmpty = false) {st : Store} (hk : st[k]? = some (.lst (fV L))) (x2 x3 x4 x5 : Option Val) : law_C8 (LE ns kd x2 x3 x4 x5 x6 x7 (some (.o k)) x9 x10 x11 x12 (some (.d (nD u))) x14) st = .ok (.d (.list [])) st := by
  have bl : bLst [] = ret (.d (.list [])) := rfl
  have e := eLcO_filter (e := eV 8) (g := gN 4) (t := tV (eO bEq law_C7 (eB bLst aN))) (el := eV 4) (vs := [4]) (loc := LE ns kd x2 x3 x4 x5 x6 x7 (some (.o k)) x9 x10 x11 x12 (some (.d (nD u))) x14) (st := st) (k := k) L (fun c => Val.d (nD c)) (fun _ => false) nD rfl hk (by rw [lim_eq]; omega) fun c hc => by
    have m := meet_eq (ns := ns) (kd := kd) (x7 := x7) (x9 := x9) (x10 := x10) (x11 := x11) (x12 := x12) (x14 := x14) (x := c) (u := u) (hL c hc).1 x2 x3 x5 x6 (some (.o k))
    simp only [cBody_eq, wip_cons, wip_nil, gN_eq, bd_ret, tV_eq, eO_eq, eB_eq, aN_eq, List.set_cons_succ, List.set_cons_zero, bd_bd]
    rw [m]
    simp only [bd_ret, bl, bEq_d, eqD_nD0, (hL c hc).2, bd_bd, asB_eq]
    rfl
  rw [law_C8_eq, e, List.filter_eq_nil_iff.mpr fun _ _ z => by cases z]
  rfl
theorem CSt_mem_len {n : Nat} (hn : n ≤ 5) : (∀ c ∈ CSt n, c.length ≤ 5) ∧ ∀ c ∈ AL n, c.length ≤ 5 := by
  have : ∀ n, n ≤ 5 → (∀ c ∈ CSt n, c.length ≤ 5) ∧ ∀ c ∈ AL n, c.length ≤ 5 := by decide +kernel
  exact this n hn
theorem round_ex (w : WF ms h) (h3 : h ≤ 3) (n5 : ms.length ≤ 5) {k : Nat} {st : Store} (hk : st[k]? = some (.lst (fV (cutL ms h)))) (x3 x4 x5 : Option Val) : ∃ y12 y13 st', Pre st st' ∧ sSeq (sAsg (eB (fixN 1 f_round_of) (aC (eV 2) aN)) (gN 12)) (sIf (tV (eU bNotN (eV 12))) (sSeq (sAsg law_C6 (gN 13)) (sIf (tV (eO bNe law_C8 (eB bLst aN))) (sRet (eC (.bool false))) sNil)) sNil) (LE ns kd (some (.d (eMs ms))) x3 x4 x5 x6 x7 (some (.o k)) x9 x10 x11 x12 x13 x14) st = .ok (.nx, LE ns kd (some (.d (eMs ms))) x3 x4 x5 x6 x7 (some (.o k)) x9 x10 x11 y12 y13 x14) st' := by
  have n6 := w.n6
  obtain ⟨x, st1, e1, v, p1⟩ := round_of_ex w h3 st
  have hk1 := pre_get p1 hk
  have s1 : sAsg (eB (fixN 1 f_round_of) (aC (eV 2) aN)) (gN 12) (LE ns kd (some (.d (eMs ms))) x3 x4 x5 x6 x7 (some (.o k)) x9 x10 x11 x12 x13 x14) st = .ok (.nx, LE ns kd (some (.d (eMs ms))) x3 x4 x5 x6 x7 (some (.o k)) x9 x10 x11 (some (.d x)) x13 x14) st1 := by
    rw [asg_gN (call1 rfl e1)]
    rfl
  rcases v with ⟨cs, rfl, hc, hg⟩ | ⟨rfl, _⟩
  · refine ⟨some (.d (tI cs)), some (.d (nD (usedL cs))), st1, p1, ?_⟩
    have u := used_eq (ns := ns) (kd := kd) (x6 := x6) (x7 := x7) (x9 := x9) (x10 := x10) (x11 := x11) (x13 := x13) (x14 := x14) (cs := cs) (by rw [hc.l]; omega) (some (.d (eMs ms))) x3 x4 x5 (some (.o k))
    have cl : (cutL ms h).length ≤ (CSt ms.length).length := by unfold cutL; exact List.length_filter_le _ _
    have c32 := CSt_len n5
    have m := missed_eq (ns := ns) (kd := kd) (x6 := x6) (x7 := x7) (x9 := x9) (x10 := x10) (x11 := x11) (x12 := some (.d (tI cs))) (x14 := x14) (u := usedL cs) (L := cutL ms h) (by omega) (fun c hcm => ⟨by have := (CSt_mem_len n5).1 c (List.mem_filter.mp hcm).1; omega, round_cut w hc hg (cutL_good hcm)⟩) hk1 (some (.d (eMs ms))) x3 x4 x5
    have s2 : sAsg law_C6 (gN 13) (LE ns kd (some (.d (eMs ms))) x3 x4 x5 x6 x7 (some (.o k)) x9 x10 x11 (some (.d (tI cs))) x13 x14) st1 = .ok (.nx, LE ns kd (some (.d (eMs ms))) x3 x4 x5 x6 x7 (some (.o k)) x9 x10 x11 (some (.d (tI cs))) (some (.d (nD (usedL cs)))) x14) st1 := by
      rw [asg_gN (v := .d (nD (usedL cs))) (s := st1) (by rw [u]; rfl)]
      rfl
    have t1 : tV (eU bNotN (eV 12)) (LE ns kd (some (.d (eMs ms))) x3 x4 x5 x6 x7 (some (.o k)) x9 x10 x11 (some (.d (tI cs))) x13 x14) st1 = .ok true st1 := rfl
    have t2 : tV (eO bNe law_C8 (eB bLst aN)) (LE ns kd (some (.d (eMs ms))) x3 x4 x5 x6 x7 (some (.o k)) x9 x10 x11 (some (.d (tI cs))) (some (.d (nD (usedL cs)))) x14) st1 = .ok false st1 := tv_at (op_at m (u := .d (.list [])) (st2 := st1) rfl (by rw [bNe_d, eqD_eq rfl rfl]; rfl))
    rw [seq_nx s1, if_yes t1, seq_nx s2, if_no t2]
    rfl
  · refine ⟨some (.d .none), x13, st1, p1, ?_⟩
    have t1 : tV (eU bNotN (eV 12)) (LE ns kd (some (.d (eMs ms))) x3 x4 x5 x6 x7 (some (.o k)) x9 x10 x11 (some (.d .none)) x13 x14) st1 = .ok false st1 := rfl
    rw [seq_nx s1, if_no t1]
    rfl
end
theorem cell18_ex {ns : List Int} {kd : Nat} {st : Store} (d : DS kd st) (x1 x2 x3 x4 x5 x6 x7 x8 x9 x10 x11 x12 x13 x14 : Option Val) : ∃ y2 y3 y4 y5 y6 y7 y8 y9 y10 y11 y12 y13 y14 st', fBody (gN 1) law_L3 (.o kd) [some (.s ns), x1, x2, x3, x4, x5, x6, x7, x8, x9, x10, x11, x12, x13, x14] st = .ok (.nx, LE ns kd y2 y3 y4 y5 y6 y7 y8 y9 y10 y11 y12 y13 y14) st' ∧ Dc kd st st' := by
  have g : fBody (gN 1) law_L3 (.o kd) [some (.s ns), x1, x2, x3, x4, x5, x6, x7, x8, x9, x10, x11, x12, x13, x14] = law_L3 (LE ns kd x2 x3 x4 x5 x6 x7 x8 x9 x10 x11 x12 x13 x14) := rfl
  obtain ⟨ms, h, st1, e1, w, h3, n5, _, d1⟩ := any_moves_ex d (high := 5) (by omega) (by omega)
  have n5' := n5
  have a1 : sAsg (eB (fixN 2 f_law_any_moves) (aC (eV 1) (aC (eC (.int 5)) aN))) (gN 2) (LE ns kd x2 x3 x4 x5 x6 x7 x8 x9 x10 x11 x12 x13 x14) st = .ok (.nx, LE ns kd (some (.d (eMs ms))) x3 x4 x5 x6 x7 x8 x9 x10 x11 x12 x13 x14) st1 := by
    rw [asg_gN (call2 rfl rfl e1)]
    rfl
  have a2 : sAsg (eB bNew aN) (gN 3) (LE ns kd (some (.d (eMs ms))) x3 x4 x5 x6 x7 x8 x9 x10 x11 x12 x13 x14) st1 = .ok (.nx, LE ns kd (some (.d (eMs ms))) (some (.o st1.length)) x4 x5 x6 x7 x8 x9 x10 x11 x12 x13 x14) (st1 ++ [.lst (fV [])]) := rfl
  have al := AL_len n5
  obtain ⟨y4, y5, st2, e2, k2, p2⟩ := good_loop (ns := ns) (kd := kd) (x6 := x6) (x7 := x7) (x8 := x8) (x9 := x9) (x10 := x10) (x11 := x11) (x12 := x12) (x13 := x13) (x14 := x14) w h3 (k := st1.length) (AL ms.length) [] (st1 ++ [.lst (fV [])]) x4 x5 (by simp; omega) (by simp)
  rw [List.nil_append] at k2
  have P2 : Pre st1 st2 := p2 st1 ⟨[.lst (fV [])], rfl⟩ (Nat.le_refl _)
  have bl : bLen [.d (eMs ms)] = ret (.d (.int (ms.length : Int))) := by
    show ret (vI (ms.map eMv).length) = _
    rw [List.length_map]
    rfl
  have a3 : sFor (iSeq (eB (fixN 1 f_law_all_lists) (aC (eB bLen (aC (eV 2) aN)) aN))) (gN 4) law_L1 (LE ns kd (some (.d (eMs ms))) (some (.o st1.length)) x4 x5 x6 x7 x8 x9 x10 x11 x12 x13 x14) (st1 ++ [.lst (fV [])]) = .ok (.nx, LE ns kd (some (.d (eMs ms))) (some (.o st1.length)) y4 y5 x6 x7 x8 x9 x10 x11 x12 x13 x14) st2 := by
    have c : eB (fixN 1 f_law_all_lists) (aC (eB bLen (aC (eV 2) aN)) aN) (LE ns kd (some (.d (eMs ms))) (some (.o st1.length)) x4 x5 x6 x7 x8 x9 x10 x11 x12 x13 x14) (st1 ++ [.lst (fV [])]) = .ok (.d (nsD (AL ms.length))) (st1 ++ [.lst (fV [])]) := call1 (v := .d (.int (ms.length : Int))) (by simp only [eB_eq, aC_eq, aN_eq, eV_zero, eV_succ, bd_ret, bd_bd, bl]) (by rw [all_lists_eq ms.length n5]; rfl)
    have it : iSeq (eB (fixN 1 f_law_all_lists) (aC (eB bLen (aC (eV 2) aN)) aN)) (LE ns kd (some (.d (eMs ms))) (some (.o st1.length)) x4 x5 x6 x7 x8 x9 x10 x11 x12 x13 x14) (st1 ++ [.lst (fV [])]) = .ok (fV (AL ms.length)) (st1 ++ [.lst (fV [])]) := by
      rw [iSeq_eq, bd_eq c, seq_nsD, bd_ret, List.map_map]
      rfl
    rw [sFor_at it]
    exact e2
  have a4 : sAsg (eB bNew aN) (gN 8) (LE ns kd (some (.d (eMs ms))) (some (.o st1.length)) y4 y5 x6 x7 x8 x9 x10 x11 x12 x13 x14) st2 = .ok (.nx, LE ns kd (some (.d (eMs ms))) (some (.o st1.length)) y4 y5 x6 x7 (some (.o st2.length)) x9 x10 x11 x12 x13 x14) (st2 ++ [.lst (pV [])]) := rfl
  have lt12 : st1.length < st2.length := (List.getElem?_eq_some_iff.mp k2).1
  have k2' : (st2 ++ [Ob.lst (pV [])])[st1.length]? = some (.lst (fV ((AL ms.length).filter (Gd ms h)))) := pre_get ⟨[.lst (pV [])], rfl⟩ k2
  have fl := List.length_filter_le (Gd ms h) (AL ms.length)
  obtain ⟨z4, z9, st3, e3, k3, p3⟩ := due_loop (ns := ns) (kd := kd) (x6 := x6) (x7 := x7) (x10 := x10) (x11 := x11) (x12 := x12) (x13 := x13) (x14 := x14) (k := st1.length) (k2 := st2.length) (by omega) (good := (AL ms.length).filter (Gd ms h)) (by omega) (fun y hy => by have := (CSt_mem_len n5).2 y (List.mem_filter.mp hy).1; omega) ((AL ms.length).filter (Gd ms h)) [] (st2 ++ [.lst (pV [])]) (some (.d (eMs ms))) y4 y5 x9 (by simp; omega) k2' (by simp)
  rw [List.nil_append] at k3
  have P3 : Pre st2 st3 := p3 st2 ⟨[.lst (pV [])], rfl⟩ (Nat.le_refl _)
  have a5 : sForO (eV 3) (gN 4) law_L2 (LE ns kd (some (.d (eMs ms))) (some (.o st1.length)) y4 y5 x6 x7 (some (.o st2.length)) x9 x10 x11 x12 x13 x14) (st2 ++ [.lst (pV [])]) = .ok (.nx, LE ns kd (some (.d (eMs ms))) (some (.o st1.length)) z4 y5 x6 x7 (some (.o st2.length)) z9 x10 x11 x12 x13 x14) st3 := by
    have gl : getL (.o st1.length) (st2 ++ [.lst (pV [])]) = .ok (st1.length, fV ((AL ms.length).filter (Gd ms h))) (st2 ++ [.lst (pV [])]) := by
      show (match (st2 ++ [Ob.lst (pV [])])[st1.length]? with | some (.lst xs) => R.ok (st1.length, xs) (st2 ++ [Ob.lst (pV [])]) | _ => .bad) = _
      rw [k2']
    have gv : eV 3 (LE ns kd (some (.d (eMs ms))) (some (.o st1.length)) y4 y5 x6 x7 (some (.o st2.length)) x9 x10 x11 x12 x13 x14) = ret (.o st1.length) := rfl
    unfold sForO
    rw [gv, bd_ret, bd_eq gl]
    exact e3
  have k3' : st3[st2.length]? = some (.lst (pV (dueG (Gd ms h) (AL ms.length)))) := k3
  have c5 := cuts_own (ns := ns) (kd := kd) (x6 := x6) (x7 := x7) (x9 := z9) (x10 := x10) (x11 := x11) (x12 := x12) (x13 := x13) (x14 := x14) n5 k3' (some (.d (eMs ms))) (some (.o st1.length)) z4 y5
  have a6 : sAsg law_C5 (gN 8) (LE ns kd (some (.d (eMs ms))) (some (.o st1.length)) z4 y5 x6 x7 (some (.o st2.length)) z9 x10 x11 x12 x13 x14) st3 = .ok (.nx, LE ns kd (some (.d (eMs ms))) (some (.o st1.length)) z4 y5 x6 x7 (some (.o st3.length)) z9 x10 x11 x12 x13 x14) (st3 ++ [.lst (fV (cutL ms h))]) := by
    rw [asg_gN c5]
    rfl
  have k4 : (st3 ++ [Ob.lst (fV (cutL ms h))])[st3.length]? = some (.lst (fV (cutL ms h))) := by simp
  obtain ⟨st5, p5, a7⟩ := tests_ex (ns := ns) (kd := kd) (x6 := x6) (x7 := x7) (x9 := z9) (x10 := x10) (x11 := x11) (x12 := x12) (x13 := x13) (x14 := x14) w h3 n5 k4 (some (.o st1.length)) z4 y5
  have k5 := pre_get p5 k4
  obtain ⟨y12, y13, st6, p6, a8⟩ := round_ex (ns := ns) (kd := kd) (x6 := x6) (x7 := x7) (x9 := z9) (x10 := x10) (x11 := x11) (x12 := x12) (x13 := x13) (x14 := x14) w h3 n5 k5 (some (.o st1.length)) z4 y5
  have P4 : Pre st3 (st3 ++ [.lst (fV (cutL ms h))]) := ⟨[.lst (fV (cutL ms h))], rfl⟩
  have P : Pre st1 st6 := (((P2.trans P3).trans P4).trans p5).trans p6
  refine ⟨some (.d (eMs ms)), some (.o st1.length), z4, y5, x6, x7, some (.o st3.length), z9, x10, x11, y12, y13, x14, st6, ?_, d1.trans (P.dc (d1.ds d))⟩
  rw [g, law_L3_eq, seq_nx a1, seq_nx a2, seq_nx a3, seq_nx a4, seq_nx a5, seq_nx a6, seq_nx a7]
  exact a8
theorem body3 (ns : List Int) (k : Nat) (loc : Loc) (st : Store) (p : ∃ x1 x2 x3 x4 x5 x6 x7 x8 x9 x10 x11 x12 x13 x14 : Option Val, loc = [some (.s ns), x1, x2, x3, x4, x5, x6, x7, x8, x9, x10, x11, x12, x13, x14]) (d : DS k st) : ∃ loc' st', fBody (gN 1) law_L3 (.o k) loc st = .ok (.nx, loc') st' ∧ (∃ x1 x2 x3 x4 x5 x6 x7 x8 x9 x10 x11 x12 x13 x14 : Option Val, loc' = [some (.s ns), x1, x2, x3, x4, x5, x6, x7, x8, x9, x10, x11, x12, x13, x14]) ∧ Dc k st st' := by
  obtain ⟨x1, x2, x3, x4, x5, x6, x7, x8, x9, x10, x11, x12, x13, x14, rfl⟩ := p
  obtain ⟨y2, y3, y4, y5, y6, y7, y8, y9, y10, y11, y12, y13, y14, st', e, dd⟩ := cell18_ex (ns := ns) d x1 x2 x3 x4 x5 x6 x7 x8 x9 x10 x11 x12 x13 x14
  exact ⟨_, st', e, ⟨some (.o k), y2, y3, y4, y5, y6, y7, y8, y9, y10, y11, y12, y13, y14, rfl⟩, dd⟩
theorem law_true (ns : List Int) (hl : ns.length ≤ 1000) : ∃ st, f_law [.s ns] [] = .ok (.d (.bool true)) st :=
  law_frame (ns := ns) (B := law_L3) (G1 := gN 1) (high := 4) (m := 14) hl (by omega) (fun loc => ∃ x1 x2 x3 x4 x5 x6 x7 x8 x9 x10 x11 x12 x13 x14 : Option Val, loc = [some (.s ns), x1, x2, x3, x4, x5, x6, x7, x8, x9, x10, x11, x12, x13, x14]) ⟨none, none, none, none, none, none, none, none, none, none, none, none, none, none, rfl⟩ fun k loc st p d => body3 ns k loc st p d

end Y
end
set_option Elab.async false
set_option linter.all false
set_option maxRecDepth 100000
set_option maxHeartbeats 2000000
namespace Y
open PySem PySem.Spec PyProof.Rows L2
theorem all_mk {P : Program} {w : World} {K : PySem.W.Frag} {h : Heap} {mg : Str → Option Value} {fa : Addr} (X : K.In h) (G : h.Ns mainGlobals mg) (hfa : mg "law" = some (.ref fa))
    {CH_Table : Addr} {od0 an0 : Option Addr} {sl0 : Array (Option Value)} {oc0 kV0 dc0 pm0 cd0 ct0 : Value} {f0 : Addr} {od1 an1 : Option Addr} {sl1 : Array (Option Value)} {oc1 kV1 dc1 pm1 cd1 ct1 : Value} {f1 : Addr} {od2 an2 : Option Addr} {sl2 : Array (Option Value)} {oc2 kV2 dc2 pm2 cd2 ct2 : Value} {f2 : Addr} {od3 an3 : Option Addr} {sl3 : Array (Option Value)} {oc3 kV3 dc3 pm3 cd3 ct3 : Value} {f3 : Addr} {od4 an4 : Option Addr} {sl4 : Array (Option Value)} {oc4 kV4 dc4 pm4 cd4 ct4 : Value} {f4 : Addr} {od5 an5 : Option Addr} {sl5 : Array (Option Value)} {oc5 kV5 dc5 pm5 cd5 ct5 : Value} {f5 : Addr} {od6 an6 : Option Addr} {sl6 : Array (Option Value)} {oc6 kV6 dc6 pm6 cd6 ct6 : Value} {f6 : Addr} {od7 an7 : Option Addr} {sl7 : Array (Option Value)} {oc7 kV7 dc7 pm7 cd7 ct7 : Value} {f7 : Addr} {od8 an8 : Option Addr} {sl8 : Array (Option Value)} {oc8 kV8 dc8 pm8 cd8 ct8 : Value} {f8 : Addr} {od9 an9 : Option Addr} {sl9 : Array (Option Value)} {oc9 kV9 dc9 pm9 cd9 ct9 : Value} {f9 : Addr} {od10 an10 : Option Addr} {sl10 : Array (Option Value)} {oc10 kV10 dc10 pm10 cd10 ct10 : Value} {f10 : Addr} {od11 an11 : Option Addr} {sl11 : Array (Option Value)} {oc11 kV11 dc11 pm11 cd11 ct11 : Value} {f11 : Addr} {od12 an12 : Option Addr} {sl12 : Array (Option Value)} {oc12 kV12 dc12 pm12 cd12 ct12 : Value} {f12 : Addr} {od13 an13 : Option Addr} {sl13 : Array (Option Value)} {oc13 kV13 dc13 pm13 cd13 ct13 : Value} {f13 : Addr} {od14 an14 : Option Addr} {sl14 : Array (Option Value)} {oc14 kV14 dc14 pm14 cd14 ct14 : Value} {f14 : Addr} {od15 an15 : Option Addr} {sl15 : Array (Option Value)} {oc15 kV15 dc15 pm15 cd15 ct15 : Value} {f15 : Addr} {od16 an16 : Option Addr} {sl16 : Array (Option Value)} {oc16 kV16 dc16 pm16 cd16 ct16 : Value} {f16 : Addr} {od17 an17 : Option Addr} {sl17 : Array (Option Value)} {oc17 kV17 dc17 pm17 cd17 ct17 : Value} {f17 : Addr} {od18 an18 : Option Addr} {sl18 : Array (Option Value)} {oc18 kV18 dc18 pm18 cd18 ct18 : Value} {f18 : Addr} {od19 an19 : Option Addr} {sl19 : Array (Option Value)} {oc19 kV19 dc19 pm19 cd19 ct19 : Value} {f19 : Addr} {od20 an20 : Option Addr} {sl20 : Array (Option Value)} {oc20 kV20 dc20 pm20 cd20 ct20 : Value} {f20 : Addr} {od21 an21 : Option Addr} {sl21 : Array (Option Value)} {oc21 kV21 dc21 pm21 cd21 ct21 : Value} {f21 : Addr} {od22 an22 : Option Addr} {sl22 : Array (Option Value)} {oc22 kV22 dc22 pm22 cd22 ct22 : Value} {f22 : Addr} {od23 an23 : Option Addr} {sl23 : Array (Option Value)} {oc23 kV23 dc23 pm23 cd23 ct23 : Value} {f23 : Addr} {od24 an24 : Option Addr} {sl24 : Array (Option Value)} {oc24 kV24 dc24 pm24 cd24 ct24 : Value} {f24 : Addr} {od25 an25 : Option Addr} {sl25 : Array (Option Value)} {oc25 kV25 dc25 pm25 cd25 ct25 : Value} {f25 : Addr} {od26 an26 : Option Addr} {sl26 : Array (Option Value)} {oc26 kV26 dc26 pm26 cd26 ct26 : Value} {f26 : Addr} {od27 an27 : Option Addr} {sl27 : Array (Option Value)} {oc27 kV27 dc27 pm27 cd27 ct27 : Value} {f27 : Addr} {od28 an28 : Option Addr} {sl28 : Array (Option Value)} {oc28 kV28 dc28 pm28 cd28 ct28 : Value} {f28 : Addr} {od29 an29 : Option Addr} {sl29 : Array (Option Value)} {oc29 kV29 dc29 pm29 cd29 ct29 : Value} {f29 : Addr} {od30 an30 : Option Addr} {sl30 : Array (Option Value)} {oc30 kV30 dc30 pm30 cd30 ct30 : Value} {f30 : Addr} {od31 an31 : Option Addr} {sl31 : Array (Option Value)} {oc31 kV31 dc31 pm31 cd31 ct31 : Value} {f31 : Addr} {od32 an32 : Option Addr} {sl32 : Array (Option Value)} {oc32 kV32 dc32 pm32 cd32 ct32 : Value} {f32 : Addr} {od33 an33 : Option Addr} {sl33 : Array (Option Value)} {oc33 kV33 dc33 pm33 cd33 ct33 : Value} {f33 : Addr} {od34 an34 : Option Addr} {sl34 : Array (Option Value)} {oc34 kV34 dc34 pm34 cd34 ct34 : Value} {f34 : Addr} {od35 an35 : Option Addr} {sl35 : Array (Option Value)} {oc35 kV35 dc35 pm35 cd35 ct35 : Value} {f35 : Addr} {od36 an36 : Option Addr} {sl36 : Array (Option Value)} {oc36 kV36 dc36 pm36 cd36 ct36 : Value} {f36 : Addr} {od37 an37 : Option Addr} {sl37 : Array (Option Value)} {oc37 kV37 dc37 pm37 cd37 ct37 : Value} {f37 : Addr} {od38 an38 : Option Addr} {sl38 : Array (Option Value)} {oc38 kV38 dc38 pm38 cd38 ct38 : Value} {f38 : Addr} {od39 an39 : Option Addr} {sl39 : Array (Option Value)} {oc39 kV39 dc39 pm39 cd39 ct39 : Value} {f39 : Addr} {od40 an40 : Option Addr} {sl40 : Array (Option Value)} {oc40 kV40 dc40 pm40 cd40 ct40 : Value} {f40 : Addr} {od41 an41 : Option Addr} {sl41 : Array (Option Value)} {oc41 kV41 dc41 pm41 cd41 ct41 : Value} {f41 : Addr} {od42 an42 : Option Addr} {sl42 : Array (Option Value)} {oc42 kV42 dc42 pm42 cd42 ct42 : Value} {f42 : Addr} {od43 an43 : Option Addr} {sl43 : Array (Option Value)} {oc43 kV43 dc43 pm43 cd43 ct43 : Value} {f43 : Addr} {od44 an44 : Option Addr} {sl44 : Array (Option Value)} {oc44 kV44 dc44 pm44 cd44 ct44 : Value} {f44 : Addr} {od45 an45 : Option Addr} {sl45 : Array (Option Value)} {oc45 kV45 dc45 pm45 cd45 ct45 : Value} {f45 : Addr} {od46 an46 : Option Addr} {sl46 : Array (Option Value)} {oc46 kV46 dc46 pm46 cd46 ct46 : Value} {f46 : Addr} {od47 an47 : Option Addr} {sl47 : Array (Option Value)} {oc47 kV47 dc47 pm47 cd47 ct47 : Value} {f47 : Addr} {od48 an48 : Option Addr} {sl48 : Array (Option Value)} {oc48 kV48 dc48 pm48 cd48 ct48 : Value} {f48 : Addr} {od49 an49 : Option Addr} {sl49 : Array (Option Value)} {oc49 kV49 dc49 pm49 cd49 ct49 : Value} {f49 : Addr} {od50 an50 : Option Addr} {sl50 : Array (Option Value)} {oc50 kV50 dc50 pm50 cd50 ct50 : Value} {f50 : Addr} {od51 an51 : Option Addr} {sl51 : Array (Option Value)} {oc51 kV51 dc51 pm51 cd51 ct51 : Value} {f51 : Addr} {CBadMoves : Addr} {t_MOST_HEAPS : Tok} {t_MOST_MOVES : Tok}
    (aH_Table : PySem.W.nsIn K mainGlobals "Table" = some (some (.ref CH_Table))) (mk_Table : PySem.W.makesIn K CH_Table = true) (kp_Table : PySem.W.keepIn K (.ref CH_Table) = true)
    (c1_Table : PySem.W.plainGet K CH_Table Str.empty = true) (c2_Table : PySem.W.hasDictIn K CH_Table = true) (c3_Table : PySem.W.plainOver K CH_Table = true) (c4_Table : PySem.W.findIn K (.ref CH_Table) "__setattr__" = some (some (.builtin "object.__setattr__")))
    (n_Table_rows : PySem.W.findIn K (.ref CH_Table) "rows" = some none)
    (n_Table_last : PySem.W.findIn K (.ref CH_Table) "last" = some none)
    (n_Table_names : PySem.W.findIn K (.ref CH_Table) "names" = some none)
    (n_Table_many : PySem.W.findIn K (.ref CH_Table) "many" = some none)
    (a0 : PySem.W.nsIn K mainGlobals "is_whole" = some (some (.ref f0))) (l0 : K.lookup f0 = some ⟨oc0, od0, .func (PySem.W.fnOf "is_whole" "is_whole" (defArgs s_is_whole) (defBody s_is_whole) (defScope s_is_whole) .none kV0 dc0 pm0 an0 cd0 ct0), sl0⟩) (c0 : PySem.W.codeIn K cd0 "is_whole" = true) (k0 : PySem.W.keepIn K (.ref f0) = true)
    (a1 : PySem.W.nsIn K mainGlobals "are_whole" = some (some (.ref f1))) (l1 : K.lookup f1 = some ⟨oc1, od1, .func (PySem.W.fnOf "are_whole" "are_whole" (defArgs s_are_whole) (defBody s_are_whole) (defScope s_are_whole) .none kV1 dc1 pm1 an1 cd1 ct1), sl1⟩) (c1 : PySem.W.codeIn K cd1 "are_whole" = true) (k1 : PySem.W.keepIn K (.ref f1) = true)
    (a2 : PySem.W.nsIn K mainGlobals "is_move" = some (some (.ref f2))) (l2 : K.lookup f2 = some ⟨oc2, od2, .func (PySem.W.fnOf "is_move" "is_move" (defArgs s_is_move) (defBody s_is_move) (defScope s_is_move) .none kV2 dc2 pm2 an2 cd2 ct2), sl2⟩) (c2 : PySem.W.codeIn K cd2 "is_move" = true) (k2 : PySem.W.keepIn K (.ref f2) = true)
    (a3 : PySem.W.nsIn K mainGlobals "heaps_in" = some (some (.ref f3))) (l3 : K.lookup f3 = some ⟨oc3, od3, .func (PySem.W.fnOf "heaps_in" "heaps_in" (defArgs s_heaps_in) (defBody s_heaps_in) (defScope s_heaps_in) .none kV3 dc3 pm3 an3 cd3 ct3), sl3⟩) (c3 : PySem.W.codeIn K cd3 "heaps_in" = true) (k3 : PySem.W.keepIn K (.ref f3) = true)
    (a4 : PySem.W.nsIn K mainGlobals "is_moves" = some (some (.ref f4))) (l4 : K.lookup f4 = some ⟨oc4, od4, .func (PySem.W.fnOf "is_moves" "is_moves" (defArgs s_is_moves) (defBody s_is_moves) (defScope s_is_moves) .none kV4 dc4 pm4 an4 cd4 ct4), sl4⟩) (c4 : PySem.W.codeIn K cd4 "is_moves" = true) (k4 : PySem.W.keepIn K (.ref f4) = true)
    (a5 : PySem.W.nsIn K mainGlobals "need_moves" = some (some (.ref f5))) (l5 : K.lookup f5 = some ⟨oc5, od5, .func (PySem.W.fnOf "need_moves" "need_moves" (defArgs s_need_moves) (defBody s_need_moves) (defScope s_need_moves) .none kV5 dc5 pm5 an5 cd5 ct5), sl5⟩) (c5 : PySem.W.codeIn K cd5 "need_moves" = true) (k5 : PySem.W.keepIn K (.ref f5) = true)
    (a6 : PySem.W.nsIn K mainGlobals "heaps_of" = some (some (.ref f6))) (l6 : K.lookup f6 = some ⟨oc6, od6, .func (PySem.W.fnOf "heaps_of" "heaps_of" (defArgs s_heaps_of) (defBody s_heaps_of) (defScope s_heaps_of) .none kV6 dc6 pm6 an6 cd6 ct6), sl6⟩) (c6 : PySem.W.codeIn K cd6 "heaps_of" = true) (k6 : PySem.W.keepIn K (.ref f6) = true)
    (a7 : PySem.W.nsIn K mainGlobals "change" = some (some (.ref f7))) (l7 : K.lookup f7 = some ⟨oc7, od7, .func (PySem.W.fnOf "change" "change" (defArgs s_change) (defBody s_change) (defScope s_change) .none kV7 dc7 pm7 an7 cd7 ct7), sl7⟩) (c7 : PySem.W.codeIn K cd7 "change" = true) (k7 : PySem.W.keepIn K (.ref f7) = true)
    (a8 : PySem.W.nsIn K mainGlobals "all_changes" = some (some (.ref f8))) (l8 : K.lookup f8 = some ⟨oc8, od8, .func (PySem.W.fnOf "all_changes" "all_changes" (defArgs s_all_changes) (defBody s_all_changes) (defScope s_all_changes) .none kV8 dc8 pm8 an8 cd8 ct8), sl8⟩) (c8 : PySem.W.codeIn K cd8 "all_changes" = true) (k8 : PySem.W.keepIn K (.ref f8) = true)
    (a9 : PySem.W.nsIn K mainGlobals "divider" = some (some (.ref f9))) (l9 : K.lookup f9 = some ⟨oc9, od9, .func (PySem.W.fnOf "divider" "divider" (defArgs s_divider) (defBody s_divider) (defScope s_divider) .none kV9 dc9 pm9 an9 cd9 ct9), sl9⟩) (c9 : PySem.W.codeIn K cd9 "divider" = true) (k9 : PySem.W.keepIn K (.ref f9) = true)
    (a10 : PySem.W.nsIn K mainGlobals "lowest" = some (some (.ref f10))) (l10 : K.lookup f10 = some ⟨oc10, od10, .func (PySem.W.fnOf "lowest" "lowest" (defArgs s_lowest) (defBody s_lowest) (defScope s_lowest) .none kV10 dc10 pm10 an10 cd10 ct10), sl10⟩) (c10 : PySem.W.codeIn K cd10 "lowest" = true) (k10 : PySem.W.keepIn K (.ref f10) = true)
    (a11 : PySem.W.nsIn K mainGlobals "product" = some (some (.ref f11))) (l11 : K.lookup f11 = some ⟨oc11, od11, .func (PySem.W.fnOf "product" "product" (defArgs s_product) (defBody s_product) (defScope s_product) .none kV11 dc11 pm11 an11 cd11 ct11), sl11⟩) (c11 : PySem.W.codeIn K cd11 "product" = true) (k11 : PySem.W.keepIn K (.ref f11) = true)
    (a12 : PySem.W.nsIn K mainGlobals "over" = some (some (.ref f12))) (l12 : K.lookup f12 = some ⟨oc12, od12, .func (PySem.W.fnOf "over" "over" (defArgs s_over) (defBody s_over) (defScope s_over) .none kV12 dc12 pm12 an12 cd12 ct12), sl12⟩) (c12 : PySem.W.codeIn K cd12 "over" = true) (k12 : PySem.W.keepIn K (.ref f12) = true)
    (a13 : PySem.W.nsIn K mainGlobals "less" = some (some (.ref f13))) (l13 : K.lookup f13 = some ⟨oc13, od13, .func (PySem.W.fnOf "less" "less" (defArgs s_less) (defBody s_less) (defScope s_less) .none kV13 dc13 pm13 an13 cd13 ct13), sl13⟩) (c13 : PySem.W.codeIn K cd13 "less" = true) (k13 : PySem.W.keepIn K (.ref f13) = true)
    (a14 : PySem.W.nsIn K mainGlobals "is_less" = some (some (.ref f14))) (l14 : K.lookup f14 = some ⟨oc14, od14, .func (PySem.W.fnOf "is_less" "is_less" (defArgs s_is_less) (defBody s_is_less) (defScope s_is_less) .none kV14 dc14 pm14 an14 cd14 ct14), sl14⟩) (c14 : PySem.W.codeIn K cd14 "is_less" = true) (k14 : PySem.W.keepIn K (.ref f14) = true)
    (a15 : PySem.W.nsIn K mainGlobals "cleared" = some (some (.ref f15))) (l15 : K.lookup f15 = some ⟨oc15, od15, .func (PySem.W.fnOf "cleared" "cleared" (defArgs s_cleared) (defBody s_cleared) (defScope s_cleared) .none kV15 dc15 pm15 an15 cd15 ct15), sl15⟩) (c15 : PySem.W.codeIn K cd15 "cleared" = true) (k15 : PySem.W.keepIn K (.ref f15) = true)
    (m216 : PySem.W.findIn K (.ref CH_Table) "__init__" = some (some (.ref f16))) (l16 : K.lookup f16 = some ⟨oc16, od16, .func (PySem.W.fnOf "__init__" "Table.__init__" (defArgs s_Table_init) (defBody s_Table_init) (defScope s_Table_init) .none kV16 dc16 pm16 an16 cd16 ct16), sl16⟩) (c16 : PySem.W.codeIn K cd16 "Table.__init__" = true) (k16 : PySem.W.keepIn K (.ref f16) = true) (m316 : PySem.W.isFn K (.ref f16) = true)
    (m217 : PySem.W.findIn K (.ref CH_Table) "entering" = some (some (.ref f17))) (l17 : K.lookup f17 = some ⟨oc17, od17, .func (PySem.W.fnOf "entering" "Table.entering" (defArgs s_Table_entering) (defBody s_Table_entering) (defScope s_Table_entering) .none kV17 dc17 pm17 an17 cd17 ct17), sl17⟩) (c17 : PySem.W.codeIn K cd17 "Table.entering" = true) (k17 : PySem.W.keepIn K (.ref f17) = true) (m317 : PySem.W.isFn K (.ref f17) = true)
    (m218 : PySem.W.findIn K (.ref CH_Table) "leaving" = some (some (.ref f18))) (l18 : K.lookup f18 = some ⟨oc18, od18, .func (PySem.W.fnOf "leaving" "Table.leaving" (defArgs s_Table_leaving) (defBody s_Table_leaving) (defScope s_Table_leaving) .none kV18 dc18 pm18 an18 cd18 ct18), sl18⟩) (c18 : PySem.W.codeIn K cd18 "Table.leaving" = true) (k18 : PySem.W.keepIn K (.ref f18) = true) (m318 : PySem.W.isFn K (.ref f18) = true)
    (m219 : PySem.W.findIn K (.ref CH_Table) "solution" = some (some (.ref f19))) (l19 : K.lookup f19 = some ⟨oc19, od19, .func (PySem.W.fnOf "solution" "Table.solution" (defArgs s_Table_solution) (defBody s_Table_solution) (defScope s_Table_solution) .none kV19 dc19 pm19 an19 cd19 ct19), sl19⟩) (c19 : PySem.W.codeIn K cd19 "Table.solution" = true) (k19 : PySem.W.keepIn K (.ref f19) = true) (m319 : PySem.W.isFn K (.ref f19) = true)
    (m220 : PySem.W.findIn K (.ref CH_Table) "turn_round" = some (some (.ref f20))) (l20 : K.lookup f20 = some ⟨oc20, od20, .func (PySem.W.fnOf "turn_round" "Table.turn_round" (defArgs s_Table_turn_round) (defBody s_Table_turn_round) (defScope s_Table_turn_round) .none kV20 dc20 pm20 an20 cd20 ct20), sl20⟩) (c20 : PySem.W.codeIn K cd20 "Table.turn_round" = true) (k20 : PySem.W.keepIn K (.ref f20) = true) (m320 : PySem.W.isFn K (.ref f20) = true)
    (m221 : PySem.W.findIn K (.ref CH_Table) "way_out" = some (some (.ref f21))) (l21 : K.lookup f21 = some ⟨oc21, od21, .func (PySem.W.fnOf "way_out" "Table.way_out" (defArgs s_Table_way_out) (defBody s_Table_way_out) (defScope s_Table_way_out) .none kV21 dc21 pm21 an21 cd21 ct21), sl21⟩) (c21 : PySem.W.codeIn K cd21 "Table.way_out" = true) (k21 : PySem.W.keepIn K (.ref f21) = true) (m321 : PySem.W.isFn K (.ref f21) = true)
    (a22 : PySem.W.nsIn K mainGlobals "best" = some (some (.ref f22))) (l22 : K.lookup f22 = some ⟨oc22, od22, .func (PySem.W.fnOf "best" "best" (defArgs s_best) (defBody s_best) (defScope s_best) .none kV22 dc22 pm22 an22 cd22 ct22), sl22⟩) (c22 : PySem.W.codeIn K cd22 "best" = true) (k22 : PySem.W.keepIn K (.ref f22) = true)
    (a23 : PySem.W.nsIn K mainGlobals "chosen" = some (some (.ref f23))) (l23 : K.lookup f23 = some ⟨oc23, od23, .func (PySem.W.fnOf "chosen" "chosen" (defArgs s_chosen_r0) (defBody s_chosen_r0) (defScope s_chosen_r0) .none kV23 dc23 pm23 an23 cd23 ct23), sl23⟩) (c23 : PySem.W.codeIn K cd23 "chosen" = true) (k23 : PySem.W.keepIn K (.ref f23) = true)
    (a24 : PySem.W.nsIn K mainGlobals "chosen" = some (some (.ref f24))) (l24 : K.lookup f24 = some ⟨oc24, od24, .func (PySem.W.fnOf "chosen" "chosen" (defArgs s_chosen_r1) (defBody s_chosen_r1) (defScope s_chosen_r1) .none kV24 dc24 pm24 an24 cd24 ct24), sl24⟩) (c24 : PySem.W.codeIn K cd24 "chosen" = true) (k24 : PySem.W.keepIn K (.ref f24) = true)
    (a25 : PySem.W.nsIn K mainGlobals "chosen" = some (some (.ref f25))) (l25 : K.lookup f25 = some ⟨oc25, od25, .func (PySem.W.fnOf "chosen" "chosen" (defArgs s_chosen_r2) (defBody s_chosen_r2) (defScope s_chosen_r2) .none kV25 dc25 pm25 an25 cd25 ct25), sl25⟩) (c25 : PySem.W.codeIn K cd25 "chosen" = true) (k25 : PySem.W.keepIn K (.ref f25) = true)
    (a26 : PySem.W.nsIn K mainGlobals "chosen" = some (some (.ref f26))) (l26 : K.lookup f26 = some ⟨oc26, od26, .func (PySem.W.fnOf "chosen" "chosen" (defArgs s_chosen_r3) (defBody s_chosen_r3) (defScope s_chosen_r3) .none kV26 dc26 pm26 an26 cd26 ct26), sl26⟩) (c26 : PySem.W.codeIn K cd26 "chosen" = true) (k26 : PySem.W.keepIn K (.ref f26) = true)
    (a27 : PySem.W.nsIn K mainGlobals "chosen" = some (some (.ref f27))) (l27 : K.lookup f27 = some ⟨oc27, od27, .func (PySem.W.fnOf "chosen" "chosen" (defArgs s_chosen_r4) (defBody s_chosen_r4) (defScope s_chosen_r4) .none kV27 dc27 pm27 an27 cd27 ct27), sl27⟩) (c27 : PySem.W.codeIn K cd27 "chosen" = true) (k27 : PySem.W.keepIn K (.ref f27) = true)
    (a28 : PySem.W.nsIn K mainGlobals "chosen" = some (some (.ref f28))) (l28 : K.lookup f28 = some ⟨oc28, od28, .func (PySem.W.fnOf "chosen" "chosen" (defArgs s_chosen_r5) (defBody s_chosen_r5) (defScope s_chosen_r5) .none kV28 dc28 pm28 an28 cd28 ct28), sl28⟩) (c28 : PySem.W.codeIn K cd28 "chosen" = true) (k28 : PySem.W.keepIn K (.ref f28) = true)
    (a29 : PySem.W.nsIn K mainGlobals "chosen" = some (some (.ref f29))) (l29 : K.lookup f29 = some ⟨oc29, od29, .func (PySem.W.fnOf "chosen" "chosen" (defArgs s_chosen_r6) (defBody s_chosen_r6) (defScope s_chosen_r6) .none kV29 dc29 pm29 an29 cd29 ct29), sl29⟩) (c29 : PySem.W.codeIn K cd29 "chosen" = true) (k29 : PySem.W.keepIn K (.ref f29) = true)
    (a30 : PySem.W.nsIn K mainGlobals "chosen" = some (some (.ref f30))) (l30 : K.lookup f30 = some ⟨oc30, od30, .func (PySem.W.fnOf "chosen" "chosen" (defArgs s_chosen) (defBody s_chosen) (defScope s_chosen) .none kV30 dc30 pm30 an30 cd30 ct30), sl30⟩) (c30 : PySem.W.codeIn K cd30 "chosen" = true) (k30 : PySem.W.keepIn K (.ref f30) = true)
    (a31 : PySem.W.nsIn K mainGlobals "whole" = some (some (.ref f31))) (l31 : K.lookup f31 = some ⟨oc31, od31, .func (PySem.W.fnOf "whole" "whole" (defArgs s_whole) (defBody s_whole) (defScope s_whole) .none kV31 dc31 pm31 an31 cd31 ct31), sl31⟩) (c31 : PySem.W.codeIn K cd31 "whole" = true) (k31 : PySem.W.keepIn K (.ref f31) = true)
    (a32 : PySem.W.nsIn K mainGlobals "won" = some (some (.ref f32))) (l32 : K.lookup f32 = some ⟨oc32, od32, .func (PySem.W.fnOf "won" "won" (defArgs s_won) (defBody s_won) (defScope s_won) .none kV32 dc32 pm32 an32 cd32 ct32), sl32⟩) (c32 : PySem.W.codeIn K cd32 "won" = true) (k32 : PySem.W.keepIn K (.ref f32) = true)
    (a33 : PySem.W.nsIn K mainGlobals "for_all" = some (some (.ref f33))) (l33 : K.lookup f33 = some ⟨oc33, od33, .func (PySem.W.fnOf "for_all" "for_all" (defArgs s_for_all) (defBody s_for_all) (defScope s_for_all) .none kV33 dc33 pm33 an33 cd33 ct33), sl33⟩) (c33 : PySem.W.codeIn K cd33 "for_all" = true) (k33 : PySem.W.keepIn K (.ref f33) = true)
    (a34 : PySem.W.nsIn K mainGlobals "some_weights" = some (some (.ref f34))) (l34 : K.lookup f34 = some ⟨oc34, od34, .func (PySem.W.fnOf "some_weights" "some_weights" (defArgs s_some_weights) (defBody s_some_weights) (defScope s_some_weights) .none kV34 dc34 pm34 an34 cd34 ct34), sl34⟩) (c34 : PySem.W.codeIn K cd34 "some_weights" = true) (k34 : PySem.W.keepIn K (.ref f34) = true)
    (a35 : PySem.W.nsIn K mainGlobals "some_round" = some (some (.ref f35))) (l35 : K.lookup f35 = some ⟨oc35, od35, .func (PySem.W.fnOf "some_round" "some_round" (defArgs s_some_round) (defBody s_some_round) (defScope s_some_round) .none kV35 dc35 pm35 an35 cd35 ct35), sl35⟩) (c35 : PySem.W.codeIn K cd35 "some_round" = true) (k35 : PySem.W.keepIn K (.ref f35) = true)
    (a36 : PySem.W.nsIn K mainGlobals "ends" = some (some (.ref f36))) (l36 : K.lookup f36 = some ⟨oc36, od36, .func (PySem.W.fnOf "ends" "ends" (defArgs s_ends) (defBody s_ends) (defScope s_ends) .none kV36 dc36 pm36 an36 cd36 ct36), sl36⟩) (c36 : PySem.W.codeIn K cd36 "ends" = true) (k36 : PySem.W.keepIn K (.ref f36) = true)
    (a37 : PySem.W.nsIn K mainGlobals "weights_of" = some (some (.ref f37))) (l37 : K.lookup f37 = some ⟨oc37, od37, .func (PySem.W.fnOf "weights_of" "weights_of" (defArgs s_weights_of) (defBody s_weights_of) (defScope s_weights_of) .none kV37 dc37 pm37 an37 cd37 ct37), sl37⟩) (c37 : PySem.W.codeIn K cd37 "weights_of" = true) (k37 : PySem.W.keepIn K (.ref f37) = true)
    (a38 : PySem.W.nsIn K mainGlobals "round_of" = some (some (.ref f38))) (l38 : K.lookup f38 = some ⟨oc38, od38, .func (PySem.W.fnOf "round_of" "round_of" (defArgs s_round_of) (defBody s_round_of) (defScope s_round_of) .none kV38 dc38 pm38 an38 cd38 ct38), sl38⟩) (c38 : PySem.W.codeIn K cd38 "round_of" = true) (k38 : PySem.W.keepIn K (.ref f38) = true)
    (a39 : PySem.W.nsIn K mainGlobals "do_end" = some (some (.ref f39))) (l39 : K.lookup f39 = some ⟨oc39, od39, .func (PySem.W.fnOf "do_end" "do_end" (defArgs s_do_end) (defBody s_do_end) (defScope s_do_end) .none kV39 dc39 pm39 an39 cd39 ct39), sl39⟩) (c39 : PySem.W.codeIn K cd39 "do_end" = true) (k39 : PySem.W.keepIn K (.ref f39) = true)
    (a40 : PySem.W.nsIn K mainGlobals "without" = some (some (.ref f40))) (l40 : K.lookup f40 = some ⟨oc40, od40, .func (PySem.W.fnOf "without" "without" (defArgs s_without) (defBody s_without) (defScope s_without) .none kV40 dc40 pm40 an40 cd40 ct40), sl40⟩) (c40 : PySem.W.codeIn K cd40 "without" = true) (k40 : PySem.W.keepIn K (.ref f40) = true)
    (a41 : PySem.W.nsIn K mainGlobals "all_cuts" = some (some (.ref f41))) (l41 : K.lookup f41 = some ⟨oc41, od41, .func (PySem.W.fnOf "all_cuts" "all_cuts" (defArgs s_all_cuts) (defBody s_all_cuts) (defScope s_all_cuts) .none kV41 dc41 pm41 an41 cd41 ct41), sl41⟩) (c41 : PySem.W.codeIn K cd41 "all_cuts" = true) (k41 : PySem.W.keepIn K (.ref f41) = true)
    (a42 : PySem.W.nsIn K mainGlobals "cuts" = some (some (.ref f42))) (l42 : K.lookup f42 = some ⟨oc42, od42, .func (PySem.W.fnOf "cuts" "cuts" (defArgs s_cuts) (defBody s_cuts) (defScope s_cuts) .none kV42 dc42 pm42 an42 cd42 ct42), sl42⟩) (c42 : PySem.W.codeIn K cd42 "cuts" = true) (k42 : PySem.W.keepIn K (.ref f42) = true)
    (a43 : PySem.W.nsIn K mainGlobals "first_cut" = some (some (.ref f43))) (l43 : K.lookup f43 = some ⟨oc43, od43, .func (PySem.W.fnOf "first_cut" "first_cut" (defArgs s_first_cut) (defBody s_first_cut) (defScope s_first_cut) .none kV43 dc43 pm43 an43 cd43 ct43), sl43⟩) (c43 : PySem.W.codeIn K cd43 "first_cut" = true) (k43 : PySem.W.keepIn K (.ref f43) = true)
    (a44 : PySem.W.nsIn K mainGlobals "_law_cell" = some (some (.ref f44))) (l44 : K.lookup f44 = some ⟨oc44, od44, .func (PySem.W.fnOf "_law_cell" "_law_cell" (defArgs s_law_cell) (defBody s_law_cell) (defScope s_law_cell) .none kV44 dc44 pm44 an44 cd44 ct44), sl44⟩) (c44 : PySem.W.codeIn K cd44 "_law_cell" = true) (k44 : PySem.W.keepIn K (.ref f44) = true)
    (a45 : PySem.W.nsIn K mainGlobals "_law_drawn" = some (some (.ref f45))) (l45 : K.lookup f45 = some ⟨oc45, od45, .func (PySem.W.fnOf "_law_drawn" "_law_drawn" (defArgs s_law_drawn) (defBody s_law_drawn) (defScope s_law_drawn) .none kV45 dc45 pm45 an45 cd45 ct45), sl45⟩) (c45 : PySem.W.codeIn K cd45 "_law_drawn" = true) (k45 : PySem.W.keepIn K (.ref f45) = true)
    (a46 : PySem.W.nsIn K mainGlobals "_law_roll" = some (some (.ref f46))) (l46 : K.lookup f46 = some ⟨oc46, od46, .func (PySem.W.fnOf "_law_roll" "_law_roll" (defArgs s_law_roll) (defBody s_law_roll) (defScope s_law_roll) .none kV46 dc46 pm46 an46 cd46 ct46), sl46⟩) (c46 : PySem.W.codeIn K cd46 "_law_roll" = true) (k46 : PySem.W.keepIn K (.ref f46) = true)
    (a47 : PySem.W.nsIn K mainGlobals "_law_rounds" = some (some (.ref f47))) (l47 : K.lookup f47 = some ⟨oc47, od47, .func (PySem.W.fnOf "_law_rounds" "_law_rounds" (defArgs s_law_rounds) (defBody s_law_rounds) (defScope s_law_rounds) .none kV47 dc47 pm47 an47 cd47 ct47), sl47⟩) (c47 : PySem.W.codeIn K cd47 "_law_rounds" = true) (k47 : PySem.W.keepIn K (.ref f47) = true)
    (a48 : PySem.W.nsIn K mainGlobals "_law_any_move" = some (some (.ref f48))) (l48 : K.lookup f48 = some ⟨oc48, od48, .func (PySem.W.fnOf "_law_any_move" "_law_any_move" (defArgs s_law_any_move) (defBody s_law_any_move) (defScope s_law_any_move) .none kV48 dc48 pm48 an48 cd48 ct48), sl48⟩) (c48 : PySem.W.codeIn K cd48 "_law_any_move" = true) (k48 : PySem.W.keepIn K (.ref f48) = true)
    (a49 : PySem.W.nsIn K mainGlobals "_law_any_moves" = some (some (.ref f49))) (l49 : K.lookup f49 = some ⟨oc49, od49, .func (PySem.W.fnOf "_law_any_moves" "_law_any_moves" (defArgs s_law_any_moves) (defBody s_law_any_moves) (defScope s_law_any_moves) .none kV49 dc49 pm49 an49 cd49 ct49), sl49⟩) (c49 : PySem.W.codeIn K cd49 "_law_any_moves" = true) (k49 : PySem.W.keepIn K (.ref f49) = true)
    (a50 : PySem.W.nsIn K mainGlobals "_law_all_lists" = some (some (.ref f50))) (l50 : K.lookup f50 = some ⟨oc50, od50, .func (PySem.W.fnOf "_law_all_lists" "_law_all_lists" (defArgs s_law_all_lists) (defBody s_law_all_lists) (defScope s_law_all_lists) .none kV50 dc50 pm50 an50 cd50 ct50), sl50⟩) (c50 : PySem.W.codeIn K cd50 "_law_all_lists" = true) (k50 : PySem.W.keepIn K (.ref f50) = true)
    (a51 : PySem.W.nsIn K mainGlobals "law" = some (some (.ref f51))) (l51 : K.lookup f51 = some ⟨oc51, od51, .func (PySem.W.fnOf "law" "law" (defArgs s_law) (defBody s_law) (defScope s_law) .none kV51 dc51 pm51 an51 cd51 ct51), sl51⟩) (c51 : PySem.W.codeIn K cd51 "law" = true) (k51 : PySem.W.keepIn K (.ref f51) = true)
    (gBadMoves : PySem.W.nsIn K mainGlobals "BadMoves" = some (some (.ref CBadMoves))) (xBadMoves : PySem.W.excIn K CBadMoves [.type "ValueError", .type "Exception", .type "BaseException", .type "object"] "ValueError.__new__" = true) (kBadMoves : PySem.W.keepIn K (.ref CBadMoves) = true) (bBadMoves : PySem.W.subIn K (.ref CBadMoves) (.type "BaseException") = some true) (tBadMoves : PySem.W.typeIn K (.ref CBadMoves) = some (.type "type"))
    (c_MOST_HEAPS : PySem.W.nsIn K mainGlobals "MOST_HEAPS" = some (some (.int 4 t_MOST_HEAPS)))
    (c_MOST_MOVES : PySem.W.nsIn K mainGlobals "MOST_MOVES" = some (some (.int 6 t_MOST_MOVES)))
    (z_abs : PySem.W.nsIn K mainGlobals "abs" = some none)
    (z_all : PySem.W.nsIn K mainGlobals "all" = some none)
    (z_any : PySem.W.nsIn K mainGlobals "any" = some none)
    (z_bool : PySem.W.nsIn K mainGlobals "bool" = some none)
    (z_enumerate : PySem.W.nsIn K mainGlobals "enumerate" = some none)
    (z_int : PySem.W.nsIn K mainGlobals "int" = some none)
    (z_isinstance : PySem.W.nsIn K mainGlobals "isinstance" = some none)
    (z_len : PySem.W.nsIn K mainGlobals "len" = some none)
    (z_list : PySem.W.nsIn K mainGlobals "list" = some none)
    (z_max : PySem.W.nsIn K mainGlobals "max" = some none)
    (z_min : PySem.W.nsIn K mainGlobals "min" = some none)
    (z_range : PySem.W.nsIn K mainGlobals "range" = some none)
    (z_sorted : PySem.W.nsIn K mainGlobals "sorted" = some none)
    (z_tuple : PySem.W.nsIn K mainGlobals "tuple" = some none)
    (z_zip : PySem.W.nsIn K mainGlobals "zip" = some none) :
    ∃ fd : FuncData, (∀ (s : Shared) (v : Value), BindsTo s fd ⟨[v], []⟩ [("script", v)]) ∧ ∀ base : Heap, K.In base → base.Ns mainGlobals mg → FnOk P w K mg base (L2N.CX P w) 13 fa fd ["script"] (spL K [] f_law) := by
  have e := hfa.symm.trans (PySem.W.mg_of X G a51)
  cases e
  have B : Blt mg := ⟨PySem.W.mg_none_of X G z_abs, PySem.W.mg_none_of X G z_all, PySem.W.mg_none_of X G z_any, PySem.W.mg_none_of X G z_bool, PySem.W.mg_none_of X G z_enumerate, PySem.W.mg_none_of X G z_int, PySem.W.mg_none_of X G z_isinstance, PySem.W.mg_none_of X G z_len, PySem.W.mg_none_of X G z_list, PySem.W.mg_none_of X G z_max, PySem.W.mg_none_of X G z_min, PySem.W.mg_none_of X G z_range, PySem.W.mg_none_of X G z_sorted, PySem.W.mg_none_of X G z_tuple, PySem.W.mg_none_of X G z_zip⟩
  have X_BadMoves : ExcF mg K "BadMoves" CBadMoves := exc_mk X G gBadMoves xBadMoves kBadMoves bBadMoves tBadMoves
  have q_MOST_HEAPS := PySem.W.mg_of X G c_MOST_HEAPS
  have q_MOST_MOVES := PySem.W.mg_of X G c_MOST_MOVES
  have F0 := fun_mk (st := s_is_whole) l0 c0 k0
  have A0 : DefAt mg K "is_whole" s_is_whole ["thing", "low", "high"] := at_mk X G a0 F0 (F0.binds (ps := ["thing", "low", "high"]) fun _ _ _ _ _ _ us hl => match us, hl with | [_, _, _], _ => rfl)
  have F1 := fun_mk (st := s_are_whole) l1 c1 k1
  have A1 : DefAt mg K "are_whole" s_are_whole ["thing", "many", "high"] := at_mk X G a1 F1 (F1.binds (ps := ["thing", "many", "high"]) fun _ _ _ _ _ _ us hl => match us, hl with | [_, _, _], _ => rfl)
  have F2 := fun_mk (st := s_is_move) l2 c2 k2
  have A2 : DefAt mg K "is_move" s_is_move ["thing", "heaps"] := at_mk X G a2 F2 (F2.binds (ps := ["thing", "heaps"]) fun _ _ _ _ _ _ us hl => match us, hl with | [_, _], _ => rfl)
  have F3 := fun_mk (st := s_heaps_in) l3 c3 k3
  have A3 : DefAt mg K "heaps_in" s_heaps_in ["thing"] := at_mk X G a3 F3 (F3.binds (ps := ["thing"]) fun _ _ _ _ _ _ us hl => match us, hl with | [_], _ => rfl)
  have F4 := fun_mk (st := s_is_moves) l4 c4 k4
  have A4 : DefAt mg K "is_moves" s_is_moves ["thing"] := at_mk X G a4 F4 (F4.binds (ps := ["thing"]) fun _ _ _ _ _ _ us hl => match us, hl with | [_], _ => rfl)
  have F5 := fun_mk (st := s_need_moves) l5 c5 k5
  have A5 : DefAt mg K "need_moves" s_need_moves ["thing"] := at_mk X G a5 F5 (F5.binds (ps := ["thing"]) fun _ _ _ _ _ _ us hl => match us, hl with | [_], _ => rfl)
  have F6 := fun_mk (st := s_heaps_of) l6 c6 k6
  have A6 : DefAt mg K "heaps_of" s_heaps_of ["moves"] := at_mk X G a6 F6 (F6.binds (ps := ["moves"]) fun _ _ _ _ _ _ us hl => match us, hl with | [_], _ => rfl)
  have F7 := fun_mk (st := s_change) l7 c7 k7
  have A7 : DefAt mg K "change" s_change ["move"] := at_mk X G a7 F7 (F7.binds (ps := ["move"]) fun _ _ _ _ _ _ us hl => match us, hl with | [_], _ => rfl)
  have F8 := fun_mk (st := s_all_changes) l8 c8 k8
  have A8 : DefAt mg K "all_changes" s_all_changes ["moves"] := at_mk X G a8 F8 (F8.binds (ps := ["moves"]) fun _ _ _ _ _ _ us hl => match us, hl with | [_], _ => rfl)
  have F9 := fun_mk (st := s_divider) l9 c9 k9
  have A9 : DefAt mg K "divider" s_divider ["one", "other"] := at_mk X G a9 F9 (F9.binds (ps := ["one", "other"]) fun _ _ _ _ _ _ us hl => match us, hl with | [_, _], _ => rfl)
  have F10 := fun_mk (st := s_lowest) l10 c10 k10
  have A10 : DefAt mg K "lowest" s_lowest ["top", "below"] := at_mk X G a10 F10 (F10.binds (ps := ["top", "below"]) fun _ _ _ _ _ _ us hl => match us, hl with | [_, _], _ => rfl)
  have F11 := fun_mk (st := s_product) l11 c11 k11
  have A11 : DefAt mg K "product" s_product ["one", "other"] := at_mk X G a11 F11 (F11.binds (ps := ["one", "other"]) fun _ _ _ _ _ _ us hl => match us, hl with | [_, _], _ => rfl)
  have F12 := fun_mk (st := s_over) l12 c12 k12
  have A12 : DefAt mg K "over" s_over ["one", "other"] := at_mk X G a12 F12 (F12.binds (ps := ["one", "other"]) fun _ _ _ _ _ _ us hl => match us, hl with | [_, _], _ => rfl)
  have F13 := fun_mk (st := s_less) l13 c13 k13
  have A13 : DefAt mg K "less" s_less ["one", "other"] := at_mk X G a13 F13 (F13.binds (ps := ["one", "other"]) fun _ _ _ _ _ _ us hl => match us, hl with | [_, _], _ => rfl)
  have F14 := fun_mk (st := s_is_less) l14 c14 k14
  have A14 : DefAt mg K "is_less" s_is_less ["one", "other"] := at_mk X G a14 F14 (F14.binds (ps := ["one", "other"]) fun _ _ _ _ _ _ us hl => match us, hl with | [_, _], _ => rfl)
  have F15 := fun_mk (st := s_cleared) l15 c15 k15
  have A15 : DefAt mg K "cleared" s_cleared ["row", "head", "column"] := at_mk X G a15 F15 (F15.binds (ps := ["row", "head", "column"]) fun _ _ _ _ _ _ us hl => match us, hl with | [_, _, _], _ => rfl)
  have F16 := fun_mk (st := s_Table_init) l16 c16 k16
  have mg16 := PySem.W.mg_of X G aH_Table
  have Bd16 := F16.binds (ps := ["self", "rows", "highs", "aims"]) fun _ _ _ _ _ _ us hl => match us, hl with | [_, _, _, _], _ => rfl
  have F17 := fun_mk (st := s_Table_entering) l17 c17 k17
  have mg17 := PySem.W.mg_of X G aH_Table
  have Bd17 := F17.binds (ps := ["self"]) fun _ _ _ _ _ _ us hl => match us, hl with | [_], _ => rfl
  have F18 := fun_mk (st := s_Table_leaving) l18 c18 k18
  have mg18 := PySem.W.mg_of X G aH_Table
  have Bd18 := F18.binds (ps := ["self", "column"]) fun _ _ _ _ _ _ us hl => match us, hl with | [_, _], _ => rfl
  have F19 := fun_mk (st := s_Table_solution) l19 c19 k19
  have mg19 := PySem.W.mg_of X G aH_Table
  have Bd19 := F19.binds (ps := ["self"]) fun _ _ _ _ _ _ us hl => match us, hl with | [_], _ => rfl
  have F20 := fun_mk (st := s_Table_turn_round) l20 c20 k20
  have mg20 := PySem.W.mg_of X G aH_Table
  have Bd20 := F20.binds (ps := ["self", "at", "column"]) fun _ _ _ _ _ _ us hl => match us, hl with | [_, _, _], _ => rfl
  have F21 := fun_mk (st := s_Table_way_out) l21 c21 k21
  have mg21 := PySem.W.mg_of X G aH_Table
  have Bd21 := F21.binds (ps := ["self", "column"]) fun _ _ _ _ _ _ us hl => match us, hl with | [_, _], _ => rfl
  have F22 := fun_mk (st := s_best) l22 c22 k22
  have A22 : DefAt mg K "best" s_best ["rows", "highs", "aims"] := at_mk X G a22 F22 (F22.binds (ps := ["rows", "highs", "aims"]) fun _ _ _ _ _ _ us hl => match us, hl with | [_, _, _], _ => rfl)
  have F23 := fun_mk (st := s_chosen_r0) l23 c23 k23
  have A23 : DefAt mg K "chosen" s_chosen_r0 ["many", "size"] := at_mk X G a23 F23 (F23.binds (ps := ["many", "size"]) fun _ _ _ _ _ _ us hl => match us, hl with | [_, _], _ => rfl)
  have F24 := fun_mk (st := s_chosen_r1) l24 c24 k24
  have A24 : DefAt mg K "chosen" s_chosen_r1 ["many", "size"] := at_mk X G a24 F24 (F24.binds (ps := ["many", "size"]) fun _ _ _ _ _ _ us hl => match us, hl with | [_, _], _ => rfl)
  have F25 := fun_mk (st := s_chosen_r2) l25 c25 k25
  have A25 : DefAt mg K "chosen" s_chosen_r2 ["many", "size"] := at_mk X G a25 F25 (F25.binds (ps := ["many", "size"]) fun _ _ _ _ _ _ us hl => match us, hl with | [_, _], _ => rfl)
  have F26 := fun_mk (st := s_chosen_r3) l26 c26 k26
  have A26 : DefAt mg K "chosen" s_chosen_r3 ["many", "size"] := at_mk X G a26 F26 (F26.binds (ps := ["many", "size"]) fun _ _ _ _ _ _ us hl => match us, hl with | [_, _], _ => rfl)
  have F27 := fun_mk (st := s_chosen_r4) l27 c27 k27
  have A27 : DefAt mg K "chosen" s_chosen_r4 ["many", "size"] := at_mk X G a27 F27 (F27.binds (ps := ["many", "size"]) fun _ _ _ _ _ _ us hl => match us, hl with | [_, _], _ => rfl)
  have F28 := fun_mk (st := s_chosen_r5) l28 c28 k28
  have A28 : DefAt mg K "chosen" s_chosen_r5 ["many", "size"] := at_mk X G a28 F28 (F28.binds (ps := ["many", "size"]) fun _ _ _ _ _ _ us hl => match us, hl with | [_, _], _ => rfl)
  have F29 := fun_mk (st := s_chosen_r6) l29 c29 k29
  have A29 : DefAt mg K "chosen" s_chosen_r6 ["many", "size"] := at_mk X G a29 F29 (F29.binds (ps := ["many", "size"]) fun _ _ _ _ _ _ us hl => match us, hl with | [_, _], _ => rfl)
  have F30 := fun_mk (st := s_chosen) l30 c30 k30
  have A30 : DefAt mg K "chosen" s_chosen ["many", "size"] := at_mk X G a30 F30 (F30.binds (ps := ["many", "size"]) fun _ _ _ _ _ _ us hl => match us, hl with | [_, _], _ => rfl)
  have F31 := fun_mk (st := s_whole) l31 c31 k31
  have A31 : DefAt mg K "whole" s_whole ["shares"] := at_mk X G a31 F31 (F31.binds (ps := ["shares"]) fun _ _ _ _ _ _ us hl => match us, hl with | [_], _ => rfl)
  have F32 := fun_mk (st := s_won) l32 c32 k32
  have A32 : DefAt mg K "won" s_won ["moves", "standing", "aims"] := at_mk X G a32 F32 (F32.binds (ps := ["moves", "standing", "aims"]) fun _ _ _ _ _ _ us hl => match us, hl with | [_, _, _], _ => rfl)
  have F33 := fun_mk (st := s_for_all) l33 c33 k33
  have A33 : DefAt mg K "for_all" s_for_all ["moves"] := at_mk X G a33 F33 (F33.binds (ps := ["moves"]) fun _ _ _ _ _ _ us hl => match us, hl with | [_], _ => rfl)
  have F34 := fun_mk (st := s_some_weights) l34 c34 k34
  have A34 : DefAt mg K "some_weights" s_some_weights ["moves"] := at_mk X G a34 F34 (F34.binds (ps := ["moves"]) fun _ _ _ _ _ _ us hl => match us, hl with | [_], _ => rfl)
  have F35 := fun_mk (st := s_some_round) l35 c35 k35
  have A35 : DefAt mg K "some_round" s_some_round ["moves"] := at_mk X G a35 F35 (F35.binds (ps := ["moves"]) fun _ _ _ _ _ _ us hl => match us, hl with | [_], _ => rfl)
  have F36 := fun_mk (st := s_ends) l36 c36 k36
  have A36 : DefAt mg K "ends" s_ends ["moves"] := at_mk X G a36 F36 (F36.binds (ps := ["moves"]) fun _ _ _ _ _ _ us hl => match us, hl with | [_], _ => rfl)
  have F37 := fun_mk (st := s_weights_of) l37 c37 k37
  have A37 : DefAt mg K "weights_of" s_weights_of ["moves"] := at_mk X G a37 F37 (F37.binds (ps := ["moves"]) fun _ _ _ _ _ _ us hl => match us, hl with | [_], _ => rfl)
  have F38 := fun_mk (st := s_round_of) l38 c38 k38
  have A38 : DefAt mg K "round_of" s_round_of ["moves"] := at_mk X G a38 F38 (F38.binds (ps := ["moves"]) fun _ _ _ _ _ _ us hl => match us, hl with | [_], _ => rfl)
  have F39 := fun_mk (st := s_do_end) l39 c39 k39
  have A39 : DefAt mg K "do_end" s_do_end ["moves"] := at_mk X G a39 F39 (F39.binds (ps := ["moves"]) fun _ _ _ _ _ _ us hl => match us, hl with | [_], _ => rfl)
  have F40 := fun_mk (st := s_without) l40 c40 k40
  have A40 : DefAt mg K "without" s_without ["moves", "numbers"] := at_mk X G a40 F40 (F40.binds (ps := ["moves", "numbers"]) fun _ _ _ _ _ _ us hl => match us, hl with | [_, _], _ => rfl)
  have F41 := fun_mk (st := s_all_cuts) l41 c41 k41
  have A41 : DefAt mg K "all_cuts" s_all_cuts ["moves"] := at_mk X G a41 F41 (F41.binds (ps := ["moves"]) fun _ _ _ _ _ _ us hl => match us, hl with | [_], _ => rfl)
  have F42 := fun_mk (st := s_cuts) l42 c42 k42
  have A42 : DefAt mg K "cuts" s_cuts ["moves"] := at_mk X G a42 F42 (F42.binds (ps := ["moves"]) fun _ _ _ _ _ _ us hl => match us, hl with | [_], _ => rfl)
  have F43 := fun_mk (st := s_first_cut) l43 c43 k43
  have A43 : DefAt mg K "first_cut" s_first_cut ["moves"] := at_mk X G a43 F43 (F43.binds (ps := ["moves"]) fun _ _ _ _ _ _ us hl => match us, hl with | [_], _ => rfl)
  have F44 := fun_mk (st := s_law_cell) l44 c44 k44
  have A44 : DefAt mg K "_law_cell" s_law_cell ["script", "k"] := at_mk X G a44 F44 (F44.binds (ps := ["script", "k"]) fun _ _ _ _ _ _ us hl => match us, hl with | [_, _], _ => rfl)
  have F45 := fun_mk (st := s_law_drawn) l45 c45 k45
  have A45 : DefAt mg K "_law_drawn" s_law_drawn ["cell", "k"] := at_mk X G a45 F45 (F45.binds (ps := ["cell", "k"]) fun _ _ _ _ _ _ us hl => match us, hl with | [_, _], _ => rfl)
  have F46 := fun_mk (st := s_law_roll) l46 c46 k46
  have A46 : DefAt mg K "_law_roll" s_law_roll ["dice", "many"] := at_mk X G a46 F46 (F46.binds (ps := ["dice", "many"]) fun _ _ _ _ _ _ us hl => match us, hl with | [_, _], _ => rfl)
  have F47 := fun_mk (st := s_law_rounds) l47 c47 k47
  have A47 : DefAt mg K "_law_rounds" s_law_rounds ["script", "high"] := at_mk X G a47 F47 (F47.binds (ps := ["script", "high"]) fun _ _ _ _ _ _ us hl => match us, hl with | [_, _], _ => rfl)
  have F48 := fun_mk (st := s_law_any_move) l48 c48 k48
  have A48 : DefAt mg K "_law_any_move" s_law_any_move ["dice", "heaps"] := at_mk X G a48 F48 (F48.binds (ps := ["dice", "heaps"]) fun _ _ _ _ _ _ us hl => match us, hl with | [_, _], _ => rfl)
  have F49 := fun_mk (st := s_law_any_moves) l49 c49 k49
  have A49 : DefAt mg K "_law_any_moves" s_law_any_moves ["dice", "high"] := at_mk X G a49 F49 (F49.binds (ps := ["dice", "high"]) fun _ _ _ _ _ _ us hl => match us, hl with | [_, _], _ => rfl)
  have F50 := fun_mk (st := s_law_all_lists) l50 c50 k50
  have A50 : DefAt mg K "_law_all_lists" s_law_all_lists ["many"] := at_mk X G a50 F50 (F50.binds (ps := ["many"]) fun _ _ _ _ _ _ us hl => match us, hl with | [_], _ => rfl)
  have F51 := fun_mk (st := s_law) l51 c51 k51
  refine ⟨PySem.W.fnOf "law" "law" (defArgs s_law) (defBody s_law) (defScope s_law) .none kV51 dc51 pm51 an51 cd51 ct51, fun s v => .of_eq rfl, fun base _ _ => ?_⟩
  let G : Glo := ⟨K, [], fun c => [0, CBadMoves, 0, 0, 0, 0, 0, 0, 0, 0, 0].getD c 0, fun c => [CH_Table].getD c 0⟩
  have CA_Table : ClsA K CH_Table ["rows", "last", "names", "many"] := ⟨⟨c1_Table, c2_Table, c3_Table, c4_Table⟩, (List.forall_mem_cons.mpr ⟨n_Table_rows, (List.forall_mem_cons.mpr ⟨n_Table_last, (List.forall_mem_cons.mpr ⟨n_Table_names, (List.forall_mem_cons.mpr ⟨n_Table_many, (fun _ h => nomatch h)⟩)⟩)⟩)⟩)⟩
  have D0 : DefOk P w mg base G 1 "is_whole" 3 f_is_whole := ok_is_whole (G := G) A0 B 
  have D1 : DefOk P w mg base G 2 "are_whole" 3 f_are_whole := ok_are_whole (G := G) A1 B D0
  have D2 : DefOk P w mg base G 3 "is_move" 2 f_is_move := ok_is_move (G := G) A2 B D1
  have D3 : DefOk P w mg base G 1 "heaps_in" 1 f_heaps_in := ok_heaps_in (G := G) A3 B 
  have D4 : DefOk P w mg base G 4 "is_moves" 1 f_is_moves := ok_is_moves (G := G) A4 B D3 D2 ⟨_, q_MOST_HEAPS⟩ ⟨_, q_MOST_MOVES⟩
  have D5 : DefOk P w mg base G 5 "need_moves" 1 f_need_moves := ok_need_moves (G := G) A5 B D4 X_BadMoves
  have D6 : DefOk P w mg base G 1 "heaps_of" 1 f_heaps_of := ok_heaps_of (G := G) A6 B 
  have D7 : DefOk P w mg base G 1 "change" 1 f_change := ok_change (G := G) A7 B 
  have D8 : DefOk P w mg base G 2 "all_changes" 1 f_all_changes := ok_all_changes (G := G) A8 B D7
  have D9 : DefOk P w mg base G 1 "divider" 2 f_divider := ok_divider (G := G) A9 B 
  have D10 : DefOk P w mg base G 2 "lowest" 2 f_lowest := ok_lowest (G := G) A10 B D9
  have D11 : DefOk P w mg base G 3 "product" 2 f_product := ok_product (G := G) A11 B D10
  have D12 : DefOk P w mg base G 3 "over" 2 f_over := ok_over (G := G) A12 B D10
  have D13 : DefOk P w mg base G 3 "less" 2 f_less := ok_less (G := G) A13 B D10
  have D14 : DefOk P w mg base G 1 "is_less" 2 f_is_less := ok_is_less (G := G) A14 B 
  have D15 : DefOk P w mg base G 4 "cleared" 3 f_cleared := ok_cleared (G := G) A15 B D13 D11
  have D16 : ClsOk P w mg base G 1 "Table" 0 3 f_Table_init := ok_Table_init (G := G) F16 mg16 ⟨mk_Table, m216, m316, kp_Table⟩ Bd16 B CA_Table
  have D17 : MetOk P w mg base G 1 0 "entering" 0 f_Table_entering := ok_Table_entering (G := G) F17 ⟨m217, m317, k17⟩ Bd17 B CA_Table
  have D18 : MetOk P w mg base G 4 0 "leaving" 1 f_Table_leaving := ok_Table_leaving (G := G) F18 ⟨m218, m318, k18⟩ Bd18 B D14 D12 CA_Table
  have D19 : MetOk P w mg base G 1 0 "solution" 0 f_Table_solution := ok_Table_solution (G := G) F19 ⟨m219, m319, k19⟩ Bd19 B CA_Table
  have D20 : MetOk P w mg base G 5 0 "turn_round" 2 f_Table_turn_round := ok_Table_turn_round (G := G) F20 ⟨m220, m320, k20⟩ Bd20 B D15 D12 CA_Table
  have D21 : MetOk P w mg base G 4 0 "way_out" 1 f_Table_way_out := ok_Table_way_out (G := G) F21 ⟨m221, m321, k21⟩ Bd21 B D13 CA_Table
  have D22 : DefOk P w mg base G 6 "best" 3 f_best := ok_best (G := G) A22 B D16 D17 D18 D19 D20 D21 CA_Table
  have D23 : DefOk P w mg base G 1 "chosen" 2 f_chosen_r0 := ok_chosen_r0 (G := G) A23 B 
  have D24 : DefOk P w mg base G 2 "chosen" 2 f_chosen_r1 := ok_chosen_r1 (G := G) A24 B D23
  have D25 : DefOk P w mg base G 3 "chosen" 2 f_chosen_r2 := ok_chosen_r2 (G := G) A25 B D24
  have D26 : DefOk P w mg base G 4 "chosen" 2 f_chosen_r3 := ok_chosen_r3 (G := G) A26 B D25
  have D27 : DefOk P w mg base G 5 "chosen" 2 f_chosen_r4 := ok_chosen_r4 (G := G) A27 B D26
  have D28 : DefOk P w mg base G 6 "chosen" 2 f_chosen_r5 := ok_chosen_r5 (G := G) A28 B D27
  have D29 : DefOk P w mg base G 7 "chosen" 2 f_chosen_r6 := ok_chosen_r6 (G := G) A29 B D28
  have D30 : DefOk P w mg base G 8 "chosen" 2 f_chosen := ok_chosen (G := G) A30 B D29
  have D31 : DefOk P w mg base G 2 "whole" 1 f_whole := ok_whole (G := G) A31 B D9
  have D32 : DefOk P w mg base G 7 "won" 3 f_won := ok_won (G := G) A32 B D8 D22 D6
  have D33 : DefOk P w mg base G 8 "for_all" 1 f_for_all := ok_for_all (G := G) A33 B D6 D32
  have D34 : DefOk P w mg base G 9 "some_weights" 1 f_some_weights := ok_some_weights (G := G) A34 B D33 D31
  have D35 : DefOk P w mg base G 9 "some_round" 1 f_some_round := ok_some_round (G := G) A35 B D33 D31
  have D36 : DefOk P w mg base G 10 "ends" 1 f_ends := ok_ends (G := G) A36 B D5 D34
  have D37 : DefOk P w mg base G 10 "weights_of" 1 f_weights_of := ok_weights_of (G := G) A37 B D5 D34
  have D38 : DefOk P w mg base G 10 "round_of" 1 f_round_of := ok_round_of (G := G) A38 B D5 D35
  have D39 : DefOk P w mg base G 10 "do_end" 1 f_do_end := ok_do_end (G := G) A39 B D34
  have D40 : DefOk P w mg base G 1 "without" 2 f_without := ok_without (G := G) A40 B 
  have D41 : DefOk P w mg base G 11 "all_cuts" 1 f_all_cuts := ok_all_cuts (G := G) A41 B D30 D39 D40
  have D42 : DefOk P w mg base G 12 "cuts" 1 f_cuts := ok_cuts (G := G) A42 B D41 D5
  have D43 : DefOk P w mg base G 12 "first_cut" 1 f_first_cut := ok_first_cut (G := G) A43 B D41 D5
  have D44 : DefOk P w mg base G 1 "_law_cell" 2 f_law_cell := ok_law_cell (G := G) A44 B 
  have D45 : DefOk P w mg base G 1 "_law_drawn" 2 f_law_drawn := ok_law_drawn (G := G) A45 B 
  have D46 : DefOk P w mg base G 2 "_law_roll" 2 f_law_roll := ok_law_roll (G := G) A46 B D45
  have D47 : DefOk P w mg base G 2 "_law_rounds" 2 f_law_rounds := ok_law_rounds (G := G) A47 B D44
  have D48 : DefOk P w mg base G 3 "_law_any_move" 2 f_law_any_move := ok_law_any_move (G := G) A48 B D46
  have D49 : DefOk P w mg base G 4 "_law_any_moves" 2 f_law_any_moves := ok_law_any_moves (G := G) A49 B D48 D46
  have D50 : DefOk P w mg base G 1 "_law_all_lists" 1 f_law_all_lists := ok_law_all_lists (G := G) A50 B 
  have L : FnOk P w K mg base (L2N.CX P w) 13 fa _ ["script"] (spF G 1 f_law) := ok_law (G := G) F51 B D50 D49 D47 D42 D36 D43 D38 D37
  exact L.imp fun vs H Q E q => q _ _
theorem walk {l : PySem.W.OpenLaw} {q : Program} {loose : List Str} {XP : (Str → Option Value) → Heap → Prop} {YP : World → Heap → Prop} {d : DefRec} {K : Params → PySem.W.Frag} (hn : l.most = some 63) (hdf : d.params.defaults = [])
    (hY : ∀ (w : World) (h : Heap), YP w h → (K w.params).In h)
    (F : ∀ (w : World) (mg : Str → Option Value) (fa : Addr) (h : Heap), (K w.params).In h → h.Ns mainGlobals mg → mg d.name = some (.ref fa) →
      ∃ fd : FuncData, (∀ (s : Shared) (u : Value), BindsTo s fd ⟨[u], []⟩ [("script", u)]) ∧ ∀ base : Heap, (K w.params).In base → base.Ns mainGlobals mg → FnOk l.prog w (K w.params) mg base (L2N.CX l.prog w) 13 fa fd ["script"] (spL (K w.params) [] f_law)) :
    PySem.W.WalkO q loose XP YP l.row.toRowW d [] (fun f vs => PySem.call f vs) :=
  L2.walk_ofB (n := 63) (k := 13) (x := "script") (CX := fun w => L2N.CX l.prog w) (sp := fun w => spL (K w.params) [] f_law) hn (by decide) hdf ⟨rfl, by decide, by decide⟩ hY F (fun _ H a ns hl hb hO hS => spL_true hO hS (law_true ns (Nat.le_trans hl (by decide)))) fun _ _ _ _ _ z => cx_false z
end Y
open PySem PySem.W PyProof.Rows
set_option maxRecDepth 100000 in
set_option maxHeartbeats 0 in
theorem PySem.Challenge.cw_spentheaps_k18_whole_cuts_holds : PySem.Challenge.rw_spentheaps_k18_whole_cuts.Holds := by
  w_on; o_law; k_head; (case hw => w_witness2)
  k_fill
  refine Y.walk (l := PySem.Challenge.rw_spentheaps_k18_whole_cuts) rfl rfl (fun w h Y => PySem.W.kIn_of Y) ?F
  case F =>
    intro w mg fa h KX G hmg
    refine' Y.all_mk KX G hmg ?aH_Table ?mk_Table ?kp_Table ?c1_Table ?c2_Table ?c3_Table ?c4_Table ?n_Table_rows ?n_Table_last ?n_Table_names ?n_Table_many ?a0 ?l0 ?c0 ?k0 ?a1 ?l1 ?c1 ?k1 ?a2 ?l2 ?c2 ?k2 ?a3 ?l3 ?c3 ?k3 ?a4 ?l4 ?c4 ?k4 ?a5 ?l5 ?c5 ?k5 ?a6 ?l6 ?c6 ?k6 ?a7 ?l7 ?c7 ?k7 ?a8 ?l8 ?c8 ?k8 ?a9 ?l9 ?c9 ?k9 ?a10 ?l10 ?c10 ?k10 ?a11 ?l11 ?c11 ?k11 ?a12 ?l12 ?c12 ?k12 ?a13 ?l13 ?c13 ?k13 ?a14 ?l14 ?c14 ?k14 ?a15 ?l15 ?c15 ?k15 ?m216 ?l16 ?c16 ?k16 ?m316 ?m217 ?l17 ?c17 ?k17 ?m317 ?m218 ?l18 ?c18 ?k18 ?m318 ?m219 ?l19 ?c19 ?k19 ?m319 ?m220 ?l20 ?c20 ?k20 ?m320 ?m221 ?l21 ?c21 ?k21 ?m321 ?a22 ?l22 ?c22 ?k22 ?a23 ?l23 ?c23 ?k23 ?a24 ?l24 ?c24 ?k24 ?a25 ?l25 ?c25 ?k25 ?a26 ?l26 ?c26 ?k26 ?a27 ?l27 ?c27 ?k27 ?a28 ?l28 ?c28 ?k28 ?a29 ?l29 ?c29 ?k29 ?a30 ?l30 ?c30 ?k30 ?a31 ?l31 ?c31 ?k31 ?a32 ?l32 ?c32 ?k32 ?a33 ?l33 ?c33 ?k33 ?a34 ?l34 ?c34 ?k34 ?a35 ?l35 ?c35 ?k35 ?a36 ?l36 ?c36 ?k36 ?a37 ?l37 ?c37 ?k37 ?a38 ?l38 ?c38 ?k38 ?a39 ?l39 ?c39 ?k39 ?a40 ?l40 ?c40 ?k40 ?a41 ?l41 ?c41 ?k41 ?a42 ?l42 ?c42 ?k42 ?a43 ?l43 ?c43 ?k43 ?a44 ?l44 ?c44 ?k44 ?a45 ?l45 ?c45 ?k45 ?a46 ?l46 ?c46 ?k46 ?a47 ?l47 ?c47 ?k47 ?a48 ?l48 ?c48 ?k48 ?a49 ?l49 ?c49 ?k49 ?a50 ?l50 ?c50 ?k50 ?a51 ?l51 ?c51 ?k51 ?gBadMoves ?xBadMoves ?kBadMoves ?bBadMoves ?tBadMoves ?c_MOST_HEAPS ?c_MOST_MOVES ?z_abs ?z_all ?z_any ?z_bool ?z_enumerate ?z_int ?z_isinstance ?z_len ?z_list ?z_max ?z_min ?z_range ?z_sorted ?z_tuple ?z_zip
    (case aH_Table => k_is)
    (case mk_Table => first | k_is | kernel_rfl)
    (case kp_Table => k_is)
    (case c1_Table => first | k_is | kernel_rfl)
    (case c2_Table => first | k_is | kernel_rfl)
    (case c3_Table => first | k_is | kernel_rfl)
    (case c4_Table => k_is)
    (case n_Table_rows => first | k_is | kernel_rfl)
    (case n_Table_last => first | k_is | kernel_rfl)
    (case n_Table_names => first | k_is | kernel_rfl)
    (case n_Table_many => first | k_is | kernel_rfl)
    (case a0 => k_is)
    (case l0 => k_is)
    (case c0 => k_is)
    (case k0 => k_is)
    (case a1 => k_is)
    (case l1 => k_is)
    (case c1 => k_is)
    (case k1 => k_is)
    (case a2 => k_is)
    (case l2 => k_is)
    (case c2 => k_is)
    (case k2 => k_is)
    (case a3 => k_is)
    (case l3 => k_is)
    (case c3 => k_is)
    (case k3 => k_is)
    (case a4 => k_is)
    (case l4 => k_is)
    (case c4 => k_is)
    (case k4 => k_is)
    (case a5 => k_is)
    (case l5 => k_is)
    (case c5 => k_is)
    (case k5 => k_is)
    (case a6 => k_is)
    (case l6 => k_is)
    (case c6 => k_is)
    (case k6 => k_is)
    (case a7 => k_is)
    (case l7 => k_is)
    (case c7 => k_is)
    (case k7 => k_is)
    (case a8 => k_is)
    (case l8 => k_is)
    (case c8 => k_is)
    (case k8 => k_is)
    (case a9 => k_is)
    (case l9 => k_is)
    (case c9 => k_is)
    (case k9 => k_is)
    (case a10 => k_is)
    (case l10 => k_is)
    (case c10 => k_is)
    (case k10 => k_is)
    (case a11 => k_is)
    (case l11 => k_is)
    (case c11 => k_is)
    (case k11 => k_is)
    (case a12 => k_is)
    (case l12 => k_is)
    (case c12 => k_is)
    (case k12 => k_is)
    (case a13 => k_is)
    (case l13 => k_is)
    (case c13 => k_is)
    (case k13 => k_is)
    (case a14 => k_is)
    (case l14 => k_is)
    (case c14 => k_is)
    (case k14 => k_is)
    (case a15 => k_is)
    (case l15 => k_is)
    (case c15 => k_is)
    (case k15 => k_is)
    (case m216 => k_is)
    (case l16 => k_is)
    (case c16 => k_is)
    (case k16 => k_is)
    (case m316 => first | k_is | kernel_rfl)
    (case m217 => k_is)
    (case l17 => k_is)
    (case c17 => k_is)
    (case k17 => k_is)
    (case m317 => first | k_is | kernel_rfl)
    (case m218 => k_is)
    (case l18 => k_is)
    (case c18 => k_is)
    (case k18 => k_is)
    (case m318 => first | k_is | kernel_rfl)
    (case m219 => k_is)
    (case l19 => k_is)
    (case c19 => k_is)
    (case k19 => k_is)
    (case m319 => first | k_is | kernel_rfl)
    (case m220 => k_is)
    (case l20 => k_is)
    (case c20 => k_is)
    (case k20 => k_is)
    (case m320 => first | k_is | kernel_rfl)
    (case m221 => k_is)
    (case l21 => k_is)
    (case c21 => k_is)
    (case k21 => k_is)
    (case m321 => first | k_is | kernel_rfl)
    (case a22 => k_is)
    (case l22 => k_is)
    (case c22 => k_is)
    (case k22 => k_is)
    (case a23 => k_is)
    (case l23 => k_is)
    (case c23 => k_is)
    (case k23 => k_is)
    (case a24 => k_is)
    (case l24 => k_is)
    (case c24 => k_is)
    (case k24 => k_is)
    (case a25 => k_is)
    (case l25 => k_is)
    (case c25 => k_is)
    (case k25 => k_is)
    (case a26 => k_is)
    (case l26 => k_is)
    (case c26 => k_is)
    (case k26 => k_is)
    (case a27 => k_is)
    (case l27 => k_is)
    (case c27 => k_is)
    (case k27 => k_is)
    (case a28 => k_is)
    (case l28 => k_is)
    (case c28 => k_is)
    (case k28 => k_is)
    (case a29 => k_is)
    (case l29 => k_is)
    (case c29 => k_is)
    (case k29 => k_is)
    (case a30 => k_is)
    (case l30 => k_is)
    (case c30 => k_is)
    (case k30 => k_is)
    (case a31 => k_is)
    (case l31 => k_is)
    (case c31 => k_is)
    (case k31 => k_is)
    (case a32 => k_is)
    (case l32 => k_is)
    (case c32 => k_is)
    (case k32 => k_is)
    (case a33 => k_is)
    (case l33 => k_is)
    (case c33 => k_is)
    (case k33 => k_is)
    (case a34 => k_is)
    (case l34 => k_is)
    (case c34 => k_is)
    (case k34 => k_is)
    (case a35 => k_is)
    (case l35 => k_is)
    (case c35 => k_is)
    (case k35 => k_is)
    (case a36 => k_is)
    (case l36 => k_is)
    (case c36 => k_is)
    (case k36 => k_is)
    (case a37 => k_is)
    (case l37 => k_is)
    (case c37 => k_is)
    (case k37 => k_is)
    (case a38 => k_is)
    (case l38 => k_is)
    (case c38 => k_is)
    (case k38 => k_is)
    (case a39 => k_is)
    (case l39 => k_is)
    (case c39 => k_is)
    (case k39 => k_is)
    (case a40 => k_is)
    (case l40 => k_is)
    (case c40 => k_is)
    (case k40 => k_is)
    (case a41 => k_is)
    (case l41 => k_is)
    (case c41 => k_is)
    (case k41 => k_is)
    (case a42 => k_is)
    (case l42 => k_is)
    (case c42 => k_is)
    (case k42 => k_is)
    (case a43 => k_is)
    (case l43 => k_is)
    (case c43 => k_is)
    (case k43 => k_is)
    (case a44 => k_is)
    (case l44 => k_is)
    (case c44 => k_is)
    (case k44 => k_is)
    (case a45 => k_is)
    (case l45 => k_is)
    (case c45 => k_is)
    (case k45 => k_is)
    (case a46 => k_is)
    (case l46 => k_is)
    (case c46 => k_is)
    (case k46 => k_is)
    (case a47 => k_is)
    (case l47 => k_is)
    (case c47 => k_is)
    (case k47 => k_is)
    (case a48 => k_is)
    (case l48 => k_is)
    (case c48 => k_is)
    (case k48 => k_is)
    (case a49 => k_is)
    (case l49 => k_is)
    (case c49 => k_is)
    (case k49 => k_is)
    (case a50 => k_is)
    (case l50 => k_is)
    (case c50 => k_is)
    (case k50 => k_is)
    (case a51 => k_is)
    (case l51 => k_is)
    (case c51 => k_is)
    (case k51 => k_is)
    (case gBadMoves => k_is)
    (case xBadMoves => k_exc)
    (case kBadMoves => k_is)
    (case bBadMoves => k_is)
    (case tBadMoves => k_is)
    (case c_MOST_HEAPS => k_is)
    (case c_MOST_MOVES => k_is)
    (case z_abs => k_is)
    (case z_all => k_is)
    (case z_any => k_is)
    (case z_bool => k_is)
    (case z_enumerate => k_is)
    (case z_int => k_is)
    (case z_isinstance => k_is)
    (case z_len => k_is)
    (case z_list => k_is)
    (case z_max => k_is)
    (case z_min => k_is)
    (case z_range => k_is)
    (case z_sorted => k_is)
    (case z_tuple => k_is)
    (case z_zip => k_is)
#print axioms PySem.Challenge.cw_spentheaps_k18_whole_cuts_holds
