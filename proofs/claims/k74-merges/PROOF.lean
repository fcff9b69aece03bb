import PyProof.Rows.All
import Wide.All
import OpenK.AllK
import Wide.FinOn
import HandS.ForMost
import HandS.Evl
import HandS.Walk
import KE.SortData
import KE.DataMinMax
import PyProof.ReprReads
import HandS.Exc
import HandS.WordsExc
import HandS.Nested
import HandS.List
import HandS.TupAny
import HandS.Conv
import HandS.Call
import HandS.Zip
import HandS.Wide
import HandS.WideBits
import HandS.Deep
import HandS.IsInst
import HandS.Style
import KE.DatumIndex
import HandS.RaiseMore
import PyProof.TupleOfSeq
import PyProof.ReprRoads
import KE.SortCalls
import HandS.Strs
import KE.GoesEnum
import HandS.Rev
import KE.KIndexOf
import HandS.SortKw
import HandS.Iter
import KE.DataMinKey
import HandS.Keys
import KE.SortKeyHeap
import HandS.Comp
import HandS.SetFor
import HandS.Defaults
import HandS.Ends
import HandS.HeadEnd
import HandS.HeadHook2
import HandS.HeadHook1
import HandS.HeadHook3
import HandS.HeadHook4
import HandS.Head2
import HandS.NestedK
import HandS.EndTab
import PyProof.ReprLen
import HandS.Head0
import HandS.Head1
import PySem.Challenge.RW_boardrows_k74_whole_merges_of_queues
set_option Elab.async false
set_option linter.all false
set_option maxRecDepth 100000
/-! A small evaluator of its own (values are PyData), for the text of the claims: syntax, semantics. -/
namespace BR
open PySem
/-- a mutable thing that several hold: its content -/
inductive Cell where
  | lst (xs : List PyData)
  | dct (kvs : List (PyData × PyData))
  | ins (c : Nat) (fs : List (Str × PyData))
inductive Res (α : Type) where
  | ok (a : α) (C : List Cell)
  | exc (x : Str) (fs : List (Str × PyData)) (C : List Cell)
  | stuck
def Res.bind {α β : Type} (r : Res α) (f : α → List Cell → Res β) : Res β :=
  match r with
  | .ok a C => f a C
  | .exc x fs C => .exc x fs C
  | .stuck => .stuck
def opt {α : Type} (o : Option α) (C : List Cell) : Res α :=
  match o with
  | some a => .ok a C
  | none => .stuck
theorem bind_ok {α β : Type} (a : α) (C : List Cell) (f : α → List Cell → Res β) : (Res.ok a C).bind f = f a C := rfl
theorem opt_some {α : Type} (a : α) (C : List Cell) : opt (some a) C = Res.ok a C := rfl
/-- handles among the data -/
abbrev hcell (k : Nat) : PyData := .dict [(.none, .int k)]
abbrev hfn (k : Nat) : PyData := .dict [(.bool true, .int k)]
/-- a def made within a def -/
abbrev hnf (k : Nat) : PyData := .dict [(.str Str.empty, .int k)]
/-- a list that nobody changes: the script -/
abbrev hscr (xs : List PyData) : PyData := .dict [(.bool false, .list xs)]
inductive Bi where
  | len | sum | max1 | min1 | max2 | min2 | sorted | tuple | list | all | any | int | abs | str | repr | divmod
  deriving DecidableEq
inductive Ty where
  | int | bool | str | tuple | list
  deriving DecidableEq
inductive Tgs where
  | nil
  | nm (i : Nat) (r : Tgs)
  | tp (t : Tgs) (r : Tgs)
/-- a target: a name, or a tuple of targets -/
inductive Tg where
  | nm (i : Nat)
  | tp (ts : Tgs)
mutual
inductive E where
  | var (i : Nat)
  | glo (x : Str)
  | fnv (x : Str) (k : Nat)
  | int (i : Int)
  | str (x : Str)
  | bl (b : Bool)
  | non
  | tup (es : Es)
  | lst (es : Es)
  | newl (es : Es)
  | newc (e : E)
  | bin (op : Operator) (a b : E)
  | neg (a : E)
  | nt (a : E)
  | cmp (op : CmpOp) (a b : E)
  | cmp2 (op op' : CmpOp) (a b c : E)
  | and (a : E) (es : Es)
  | or (a : E) (es : Es)
  | ite (c a b : E)
  | idx (a b : E)
  | sl (a : E) (lo hi : Eo)
  | rvs (a : E)
  | call (x : Str) (k : Nat) (es : Es)
  | callk (x : Str) (k : Nat) (es : Es) (ks : List Str) (ix : List Nat) (kes : Es)
  | callv (i : Nat) (es : Es)
  | bi (b : Bi) (es : Es)
  | isi (t : Ty) (a : E)
  | index (o a : E)
  | split (o a : E)
  | sset (a : E)
  | lset (a : E)
  | cpop (o ix : E)
  | trg (a : E)
  | lrg (a : E)
  | lam (k : Nat)
  | minkey (a g : E)
  | sortkey (a g : E)
  | lc (own : List (Str × Nat)) (t : Tg) (i : It) (c : Eo) (e : E)
  | lc2 (own : List (Str × Nat)) (t : Tg) (i : It) (c : Eo) (vs : List Nat) (t1 : Tg) (i1 : It) (c1 : Eo) (e : E)
inductive Es where
  | nil
  | cons (e : E) (r : Es)
inductive Eo where
  | none
  | some (e : E)
inductive It where
  | seq (e : E)
  | chars (e : E)
  | rg1 (a : E)
  | rg2 (a b : E)
  | zip (a b : E)
  | enum (a : E)
  | rev (a : E)
end
mutual
inductive S where
  | asg (flat : Bool) (t : Tg) (e : E)
  | own (i : Nat) (e : E)
  | asgN (i : Nat) (e : E)
  | ownN (i : Nat) (e : E)
  | parn (ms : List (Bool × Bool × Nat)) (es : Es)
  | mv (i j : Nat)
  | frz (i : Nat)
  | app (flat : Bool) (i : Nat) (e : E)
  | ext (flat : Bool) (i : Nat) (e : E)
  | seti (flat : Bool) (i : Nat) (ix e : E)
  | cset (o ix e : E)
  | cset2 (o ix : E) (i : Nat) (e : E)
  | iff (c : E) (a b : Ss)
  | loop (flat : Bool) (t : Tg) (i : It) (b : Ss)
  | whil (c : E) (b : Ss)
  | ret (e : E)
  | retN
  | expr (e : E)
  | brk
  | pass
  | never
  | ndef (i k : Nat)
inductive Ss where
  | nil
  | cons (s : S) (r : Ss)
end
/-! ### what the operations give -/
/-- the line of sizes -/
abbrev big : Nat := 16000000
def gd {α : Type} (b : Bool) (a : α) : Option α := if b = true then some a else none
def truth : PyData → Option Bool
  | .none => some false
  | .bool b => some b
  | .int i => some (i != 0)
  | .str x => gd (decide (x.length ≤ big)) ((x.length : Int) != 0)
  | .list xs => some (!xs.isEmpty)
  | .tuple xs => some (!xs.isEmpty)
  | .dict _ => none
def addF : PyData → PyData → Option PyData
  | .int i, .int j => some (.int (i + j))
  | .str x, .str y => gd (decide (x.length + y.length ≤ big)) (.str (x ++ y))
  | .tuple xs, .tuple ys => gd (decide (xs.length + ys.length ≤ big)) (.tuple (xs ++ ys))
  | .list xs, .list ys => gd (decide (xs.length + ys.length ≤ big)) (.list (xs ++ ys))
  | _, _ => none
def mulF : PyData → PyData → Option PyData
  | .int i, .int j => gd (decide (i.natAbs < 2 ^ 60) || decide (j.natAbs < 2 ^ 60)) (.int (i * j))
  | .str x, .int k => gd (decide (0 ≤ k) && decide (k ≤ 1000) && decide (x.length ≤ 1000)) (.str ⟨((List.replicate k.toNat x.cps.toList).flatten).toArray⟩)
  | .list xs, .int k => gd (decide (0 ≤ k) && decide (k ≤ 1000) && decide (xs.length ≤ 1000)) (.list (List.replicate k.toNat xs).flatten)
  | _, _ => none
def binF (op : Operator) (a b : PyData) : Option PyData :=
  match op with
  | .Add => addF a b
  | .Mult => mulF a b
  | .Sub => (match a, b with | .int i, .int j => some (.int (i - j)) | _, _ => none)
  | .FloorDiv => (match a, b with | .int i, .int j => gd (decide (0 < j) && decide (j < 2 ^ 29)) (.int (i / j)) | _, _ => none)
  | .Mod => (match a, b with | .int i, .int j => gd (decide (0 < j)) (.int (i % j)) | _, _ => none)
  | .Pow => (match a, b with | .int i, .int j => gd (decide (0 ≤ j) && decide (j ≤ 1000) && decide (i.natAbs < 2 ^ 60)) (.int (i ^ j.toNat)) | _, _ => none)
  | _ => none
def shp (d : PyData) : Bool := SeqAt.shaped d
def lessF (a b : PyData) : Option Bool := gd (PySem.W.alike a b && shp a && shp b && (match a with | .none => false | .bool _ => false | _ => true)) (PySem.W.dataLt a b)
def inF (a : PyData) : PyData → Option Bool
  | .list xs => gd (shp a && shp (.list xs)) (xs.any fun y => PyData.eqv y a)
  | .tuple xs => gd (shp a && shp (.tuple xs)) (xs.any fun y => PyData.eqv y a)
  | .str y => (match a with | .str x => (match x.cps.toList with | [c] => some (decide (c ∈ y.cps.toList)) | _ => none) | _ => none)
  | _ => none
def isNone : PyData → Bool
  | .none => true
  | _ => false
def cmpF (op : CmpOp) (a b : PyData) : Option Bool :=
  match op with
  | .Eq => gd (shp a && shp b) (PyData.eqv a b)
  | .NotEq => gd (shp a && shp b) (!PyData.eqv a b)
  | .Lt => lessF a b
  | .Gt => (match a, b with | .int i, .int j => some (decide (j < i)) | .str x, .str y => some (decide (y.cps.toList < x.cps.toList)) | _, _ => none)
  | .LtE => (match a, b with | .int i, .int j => some (decide (i ≤ j)) | _, _ => none)
  | .GtE => (match a, b with | .int i, .int j => some (decide (j ≤ i)) | _, _ => none)
  | .Is => gd (isNone b) (isNone a)
  | .IsNot => gd (isNone b) (!isNone a)
  | .In => inF a b
  | .NotIn => (inF a b).map (!·)
def idxF (a b : PyData) : Option PyData :=
  match b with
  | .int i => (match a with
    | .list xs => L2.atI xs i
    | .tuple xs => L2.atI xs i
    | .dict [(.bool false, .list xs)] => L2.atI xs i
    | .str x => if x.length ≤ big then (L2.atI x.cps.toList i).map fun c => .str ⟨#[c]⟩ else none
    | _ => none)
  | _ => none
def cutL {α : Type} (xs : List α) (lo hi : Option Int) : List α := (xs.drop (HT.sIx xs.length 0 lo)).take (HT.sIx xs.length xs.length hi - HT.sIx xs.length 0 lo)
def slF (a : PyData) (lo hi : Option Int) : Option PyData :=
  match a with
  | .list xs => some (.list (cutL xs lo hi))
  | .tuple xs => some (.tuple (cutL xs lo hi))
  | .dict [(.bool false, .list xs)] => some (.list (cutL xs lo hi))
  | .str x => if x.length ≤ big then some (.str ⟨(cutL x.cps.toList lo hi).toArray⟩) else none
  | _ => none
def rvF : PyData → Option PyData
  | .list xs => some (.list xs.reverse)
  | _ => none
def isiF : Ty → PyData → Option Bool
  | .int, .int _ => some true
  | .int, .bool _ => some true
  | .bool, .bool _ => some true
  | .str, .str _ => some true
  | .tuple, .tuple _ => some true
  | .list, .list _ => some true
  | _, .dict _ => none
  | _, _ => some false
def intsOf : List PyData → Option (List Int)
  | [] => some []
  | .int i :: r => (intsOf r).map (i :: ·)
  | _ => none
def boolsOf : List PyData → Option (List Bool)
  | [] => some []
  | .bool i :: r => (boolsOf r).map (i :: ·)
  | _ => none
def strsOf : List PyData → Option (List Str)
  | [] => some []
  | .str i :: r => (strsOf r).map (i :: ·)
  | _ => none
def itemsOf : PyData → Option (List PyData)
  | .list xs => some xs
  | .tuple xs => some xs
  | _ => none
def noneOr (d : PyData) : Bool := match d with
  | .none => false
  | .dict _ => false
  | _ => true
def tup1 (d : PyData) : Bool := match d with
  | .tuple _ => true
  | _ => false
def noTup (d : PyData) : Bool := match d with
  | .tuple _ => false
  | _ => true
/-- all are of one form, in order and in size -/
def ordAll (xs : List PyData) : Bool := xs.all fun x => shp x && noneOr x && xs.all fun y => PySem.W.alike x y
def sortable (xs : List PyData) : Bool := ordAll xs && (xs.all tup1 || xs.all noTup)
def sortD (xs : List PyData) : List PyData := xs.mergeSort (PySem.W.dataLe false id)
def biF : Bi → List PyData → Option PyData
  | .len, [.list xs] => some (.int xs.length)
  | .len, [.tuple xs] => some (.int xs.length)
  | .len, [.dict [(.bool false, .list xs)]] => some (.int xs.length)
  | .len, [.str x] => if x.length ≤ big then some (.int x.length) else none
  | .sum, [.list xs] => (intsOf xs).map fun ns => .int ns.sum
  | .max1, [d] => (itemsOf d).bind fun xs => match xs with | [] => none | x :: r => gd (ordAll (x :: r)) (W.maxD x r)
  | .min1, [d] => (itemsOf d).bind fun xs => match xs with | [] => none | x :: r => gd (ordAll (x :: r)) (W.minD x r)
  | .max2, [.int i, .int j] => some (.int (if j > i then j else i))
  | .min2, [.int i, .int j] => some (.int (if j < i then j else i))
  | .sorted, [d] => (itemsOf d).bind fun xs => gd (sortable xs && decide (xs.length ≤ big)) (.list (sortD xs))
  | .tuple, [d] => (itemsOf d).map .tuple
  | .list, [d] => (itemsOf d).map .list
  | .all, [.list xs] => (boolsOf xs).map fun bs => .bool (bs.all id)
  | .any, [.list xs] => (boolsOf xs).map fun bs => .bool (bs.any id)
  | .int, [.int i] => some (.int i)
  | .str, [.int i] => gd (decide (i.natAbs.log2 < 1920)) (.str (toString i))
  | .abs, [.int i] => some (.int (if i < 0 then -i else i))
  | .repr, [d] => gd (d.showable && shp d && decide (d.shown.length ≤ big)) (.str d.shown)
  | .divmod, [.int i, .int j] => gd (decide (0 < j) && decide (j < 2 ^ 29)) (.tuple [.int (i / j), .int (i % j)])
  | _, _ => none
def indexT (xs : List PyData) (x : PyData) : Option PyData :=
  match strsOf xs, x with
  | some ys, .str k => if k ∈ ys then some (.int (ys.idxOf k : Nat)) else none
  | _, _ => none
def indexF (o x : PyData) : Option PyData :=
  match o with
  | .tuple xs => indexT xs x
  | .list xs => if shp x = true ∧ shp (.list xs) = true then (xs.findIdx? fun y => PyData.eqv y x).map fun k => .int k else none
  | _ => none
def splitF : PyData → PyData → Option PyData
  | .str x, .str y => gd (decide (x.length ≤ 100000) && !(y.length == 0)) (.list ((Txt.split x y).map .str))
  | _, _ => none
/-- into a rising list -/
def insI (k : Int) : List Int → List Int
  | [] => [k]
  | x :: r => if k < x then k :: x :: r else if k = x then x :: r else x :: insI k r
def setI : List Int → List Int
  | [] => []
  | x :: r => insI x (setI r)
/-- sorted(set(..)) of ints -/
def ssetF (d : PyData) : Option PyData :=
  match itemsOf d with
  | some xs => (intsOf xs).bind fun ns => gd (decide (ns.length < 60)) (.list ((setI ns).map .int))
  | none => none
def lsetF (d : PyData) : Option PyData :=
  match itemsOf d with
  | some xs => (intsOf xs).bind fun ns => gd (decide (ns.length < 60)) (.int (setI ns).length)
  | none => none
/-! nothing in it that changes -/
mutual
def flat : PyData → Bool
  | .none => true
  | .bool _ => true
  | .int _ => true
  | .str _ => true
  | .tuple xs => flats xs
  | .list _ => false
  | .dict [(.none, .int _)] => true
  | .dict [(.bool true, .int _)] => true
  | .dict _ => false
def flats : List PyData → Bool
  | [] => true
  | x :: r => flat x && flats r
end
/-! ### the evaluator -/
abbrev VEnv := List (Option PyData)
abbrev Oracle := Nat → List PyData → List Cell → Res PyData
inductive Slot where
  | no
  | val (d : PyData)
  | own (xs : List PyData)
abbrev SEnv := List Slot
def hidden : Slot → Option PyData
  | .val d => some d
  | _ => none
def seen : Slot → Option PyData
  | .no => none
  | .val d => some d
  | .own xs => some (.list xs)
/-- what an expression sees: with the own lists as they stand (their answer must be flat then), or without them -/
def view (f : Bool) (ρ : SEnv) : VEnv := if f = true then ρ.map seen else ρ.map hidden
def bindTs : Tgs → List PyData → VEnv → Option VEnv
  | .nil, [], δ => some δ
  | .nm i r, d :: ds, δ => bindTs r ds (δ.set i (some d))
  | .tp t r, .tuple xs :: ds, δ => (bindTs t xs δ).bind fun δ' => bindTs r ds δ'
  | _, _, _ => none
def bindT : Tg → PyData → VEnv → Option VEnv
  | .nm i, d, δ => some (δ.set i (some d))
  | .tp t, .tuple xs, δ => bindTs t xs δ
  | _, _, _ => none
def putTs : Tgs → List PyData → SEnv → Option SEnv
  | .nil, [], δ => some δ
  | .nm i r, d :: ds, δ => putTs r ds (δ.set i (.val d))
  | .tp t r, .tuple xs :: ds, δ => (putTs t xs δ).bind fun δ' => putTs r ds δ'
  | _, _, _ => none
def putT : Tg → PyData → SEnv → Option SEnv
  | .nm i, d, δ => some (δ.set i (.val d))
  | .tp t, .tuple xs, δ => putTs t xs δ
  | _, _, _ => none
/-- the slots of a comprehension's own names are forgotten -/
def wipeD (δ : VEnv) : List Nat → VEnv
  | [] => δ
  | v :: vs => (wipeD δ vs).set v none
def mapR {α β : Type} (f : α → List Cell → Res (List β)) : List α → List Cell → Res (List β)
  | [], C => .ok [] C
  | x :: xs, C => (f x C).bind fun ys C => (mapR f xs C).bind fun zs C => .ok (ys ++ zs) C
def cellOf (C : List Cell) : PyData → Option (Nat × Cell)
  | .dict [(.none, .int k)] => if 0 ≤ k then (C[k.toNat]?).map fun c => (k.toNat, c) else none
  | _ => none
def idxC (C : List Cell) (a b : PyData) : Option PyData :=
  match cellOf C a with
  | some (_, .lst xs) => idxF (.list xs) b
  | some (_, .dct kvs) => none
  | some _ => none
  | none => idxF a b
def lenC (C : List Cell) (b : Bi) (ds : List PyData) : Option PyData :=
  match b with
  | .len => (match ds with
    | [a] => (match cellOf C a with
      | some (_, .lst xs) => some (.int xs.length)
      | some _ => none
      | none => biF .len [a])
    | _ => none)
  | b => biF b ds
/-- arguments by their places among all that are written -/
def placed {α : Type} (all : List α) : List Nat → Option (List α)
  | [] => some []
  | j :: r => match all[j]?, placed all r with
    | some a, some as => some (a :: as)
    | _, _ => none
def rangeD (i j : Int) : List PyData := (List.range (j - i).toNat).map fun (k : Nat) => PyData.int (i + k)
def smallI (i : Int) : Bool := decide (-1000000 ≤ i) && decide (i ≤ 1000000)
/-- the first item with the least key: x the best so far, k its key -/
def minK (f : List PyData → List Cell → Res PyData) : List PyData → PyData → PyData → List Cell → Res PyData
  | [], x, _, C => .ok x C
  | y :: ys, x, k, C => (f [y] C).bind fun k' C => (opt (lessF k' k) C).bind fun b C => if b = true then minK f ys y k' C else minK f ys x k C
def minkeyR (Φ : Oracle) (x h : PyData) (C : List Cell) : Res PyData :=
  match x, h with
  | .list (y :: ys), .dict [(.str _, .int k)] => if 0 ≤ k then (Φ k.toNat [y] C).bind fun kx C => if shp kx = true then minK (Φ k.toNat) ys y kx C else .stuck else .stuck
  | _, _ => .stuck
/-- the keys of all items -/
def keysA (f : List PyData → List Cell → Res PyData) : List PyData → List PyData → List Cell → Res (List PyData)
  | [], acc, C => .ok acc C
  | y :: ys, acc, C => (f [y] C).bind fun k C => keysA f ys (acc ++ [k]) C
def tupN (d : PyData) : Bool := match d with
  | .tuple (_ :: _) => true
  | _ => false
def plainK (d : PyData) : Bool := match d with
  | .tuple _ => false
  | .none => false
  | _ => true
def skOk (ds ks : List PyData) : Bool := decide (ds.length = ks.length) && decide (ds.length ≤ big) && ks.all shp && (ks.all fun x => ks.all fun y => PySem.W.alike x y) && (ks.all tupN || ks.all plainK)
def skOut (ds ks : List PyData) : List PyData := ((ds.zip ks).mergeSort (PySem.W.dataLe false (·.2))).map (·.1)
def skEnd (ds ks : List PyData) (C : List Cell) : Res PyData := if skOk ds ks = true then .ok (.list (skOut ds ks)) C else .stuck
def sortkeyR (Φ : Oracle) (x h : PyData) (C : List Cell) : Res PyData :=
  match x, h with
  | .list xs, .dict [(.str _, .int k)] => if 0 ≤ k then (keysA (Φ k.toNat) xs [] C).bind fun ks C => skEnd xs ks C else .stuck
  | _, _ => .stuck
/-- a truth value itself -/
def tstB (r : Res PyData) : Res Bool := r.bind fun d C => match d with | .bool b => .ok b C | _ => .stuck
/-- as a test -/
def tstR (r : Res PyData) : Res Bool := r.bind fun d C => opt (truth d) C
section
variable (Φ : Oracle) (G : Str → Option PyData)
mutual
def ev : E → VEnv → List Cell → Res PyData
  | .var i, δ, C => opt (δ[i]?.join) C
  | .glo x, _, C => opt (G x) C
  | .fnv _ k, _, C => .ok (hfn k) C
  | .int i, _, C => .ok (.int i) C
  | .str x, _, C => .ok (.str x) C
  | .bl b, _, C => .ok (.bool b) C
  | .non, _, C => .ok .none C
  | .tup es, δ, C => (evs es δ C).bind fun ds C => opt (gd (decide (ds.length ≤ big)) (.tuple ds)) C
  | .lst es, δ, C => (evs es δ C).bind fun ds C => opt (gd (decide (ds.length ≤ big)) (.list ds)) C
  | .newl es, δ, C => (evs es δ C).bind fun ds C => if ds.length ≤ big ∧ flats ds = true then .ok (hcell C.length) (C ++ [.lst ds]) else .stuck
  | .newc e, δ, C => (ev e δ C).bind fun d C => match itemsOf d with
    | some ds => if flats ds = true then .ok (hcell C.length) (C ++ [.lst ds]) else .stuck
    | none => .stuck
  | .bin op a b, δ, C => (ev a δ C).bind fun x C => (ev b δ C).bind fun y C => opt (binF op x y) C
  | .neg a, δ, C => (ev a δ C).bind fun x C => match x with | .int i => .ok (.int (-i)) C | _ => .stuck
  | .nt a, δ, C => (tstB (ev a δ C)).bind fun b C => .ok (.bool (!b)) C
  | .cmp op a b, δ, C => (ev a δ C).bind fun x C => (ev b δ C).bind fun y C => opt ((cmpF op x y).map .bool) C
  | .cmp2 op op' a b c, δ, C => (ev a δ C).bind fun x C => (ev b δ C).bind fun y C => (opt (cmpF op x y) C).bind fun k C =>
      if k = true then (ev c δ C).bind fun z C => opt ((cmpF op' y z).map .bool) C else .ok (.bool false) C
  | .and a es, δ, C => (tstB (ev a δ C)).bind fun b C => if b = true then evAnd es δ C else .ok (.bool false) C
  | .or a es, δ, C => (tstB (ev a δ C)).bind fun b C => if b = true then .ok (.bool true) C else evOr es δ C
  | .ite c a b, δ, C => (tstR (ev c δ C)).bind fun k C => if k = true then ev a δ C else ev b δ C
  | .idx a b, δ, C => (ev a δ C).bind fun x C => (ev b δ C).bind fun y C => opt (idxC C x y) C
  | .sl a lo hi, δ, C => (ev a δ C).bind fun x C => (evo lo δ C).bind fun l C => (evo hi δ C).bind fun h C => opt (slF x l h) C
  | .rvs a, δ, C => (ev a δ C).bind fun x C => opt (rvF x) C
  | .call _ k es, δ, C => (evs es δ C).bind fun ds C => Φ k ds C
  | .callk _ k es _ ix kes, δ, C => (evs es δ C).bind fun ds C => (evs kes δ C).bind fun ks C => (opt (placed (ds ++ ks) ix) C).bind fun vs C => Φ k vs C
  | .callv i es, δ, C => (opt (δ[i]?.join) C).bind fun f C => match f with
    | .dict [(.bool true, .int k)] => if 0 ≤ k then (evs es δ C).bind fun ds C => Φ k.toNat ds C else .stuck
    | .dict [(.str _, .int k)] => if 0 ≤ k then (evs es δ C).bind fun ds C => Φ k.toNat ds C else .stuck
    | _ => .stuck
  | .bi b es, δ, C => (evs es δ C).bind fun ds C => opt (lenC C b ds) C
  | .isi t a, δ, C => (ev a δ C).bind fun x C => opt ((isiF t x).map .bool) C
  | .index o a, δ, C => (ev o δ C).bind fun x C => (ev a δ C).bind fun y C => opt (indexF x y) C
  | .split o a, δ, C => (ev o δ C).bind fun x C => (ev a δ C).bind fun y C => opt (splitF x y) C
  | .sset a, δ, C => (ev a δ C).bind fun x C => opt (ssetF x) C
  | .lset a, δ, C => (ev a δ C).bind fun x C => opt (lsetF x) C
  | .cpop o ix, δ, C => (ev o δ C).bind fun x C => (ev ix δ C).bind fun y C => match cellOf C x, y with
    | some (k, .lst xs), .int i => if 0 ≤ i ∧ i ≤ 1000000 then (match xs[i.toNat]? with
      | some z => .ok z (C.set k (.lst (xs.eraseIdx i.toNat)))
      | none => .stuck) else .stuck
    | _, _ => .stuck
  | .trg a, δ, C => (ev a δ C).bind fun x C => match x with | .int i => if smallI i = true then .ok (.tuple (rangeD 0 i)) C else .stuck | _ => .stuck
  | .lrg a, δ, C => (ev a δ C).bind fun x C => match x with | .int i => if smallI i = true then .ok (.list (rangeD 0 i)) C else .stuck | _ => .stuck
  | .lam k, _, C => .ok (hnf k) C
  | .minkey a g, δ, C => (ev a δ C).bind fun x C => (ev g δ C).bind fun h C => minkeyR Φ x h C
  | .sortkey a g, δ, C => (ev a δ C).bind fun x C => (ev g δ C).bind fun h C => sortkeyR Φ x h C
  | .lc own t i c e, δ, C => (evI i δ C).bind fun xs C => (mapR (fun x C => (opt (bindT t x (wipeD δ (own.map (·.2)))) C).bind fun δ' C => (evc c δ' C).bind fun b C =>
      if b = true then (ev e δ' C).bind fun d C => .ok [d] C else .ok [] C) xs C).bind fun ds C => if ds.length ≤ big then .ok (.list ds) C else .stuck
  | .lc2 own t i c vs t1 i1 c1 e, δ, C => (evI i δ C).bind fun xs C => (mapR (fun x C => (opt (bindT t x (wipeD δ (own.map (·.2)))) C).bind fun δ' C => (evc c δ' C).bind fun b C =>
      if b = true then (evI i1 δ' C).bind fun ys C => mapR (fun y C => (opt (bindT t1 y (wipeD δ' vs)) C).bind fun δ2 C => (evc c1 δ2 C).bind fun b C =>
        if b = true then (ev e δ2 C).bind fun d C => .ok [d] C else .ok [] C) ys C else .ok [] C) xs C).bind fun ds C => if ds.length ≤ big then .ok (.list ds) C else .stuck
def evAnd : Es → VEnv → List Cell → Res PyData
  | .nil, _, C => .ok (.bool true) C
  | .cons e r, δ, C => (tstB (ev e δ C)).bind fun b C => if b = true then evAnd r δ C else .ok (.bool false) C
def evOr : Es → VEnv → List Cell → Res PyData
  | .nil, _, C => .ok (.bool false) C
  | .cons e r, δ, C => (tstB (ev e δ C)).bind fun b C => if b = true then .ok (.bool true) C else evOr r δ C
def evs : Es → VEnv → List Cell → Res (List PyData)
  | .nil, _, C => .ok [] C
  | .cons e r, δ, C => (ev e δ C).bind fun d C => (evs r δ C).bind fun ds C => .ok (d :: ds) C
def evo : Eo → VEnv → List Cell → Res (Option Int)
  | .none, _, C => .ok none C
  | .some e, δ, C => (ev e δ C).bind fun d C => match d with | .int i => .ok (some i) C | _ => .stuck
def evI : It → VEnv → List Cell → Res (List PyData)
  | .seq e, δ, C => (ev e δ C).bind fun d C => opt (itemsOf d) C
  | .chars e, δ, C => (ev e δ C).bind fun d C => match d with | .str x => .ok (x.cps.toList.map fun c => .str ⟨#[c]⟩) C | _ => .stuck
  | .rg1 a, δ, C => (ev a δ C).bind fun x C => match x with | .int i => if smallI i = true then .ok (rangeD 0 i) C else .stuck | _ => .stuck
  | .rg2 a b, δ, C => (ev a δ C).bind fun x C => (ev b δ C).bind fun y C => match x, y with
    | .int i, .int j => if smallI i = true ∧ smallI j = true then .ok (rangeD i j) C else .stuck
    | _, _ => .stuck
  | .zip a b, δ, C => (ev a δ C).bind fun x C => (ev b δ C).bind fun y C => match itemsOf x, itemsOf y with
    | some xs, some ys => .ok ((xs.zip ys).map fun p => .tuple [p.1, p.2]) C
    | _, _ => .stuck
  | .enum a, δ, C => (ev a δ C).bind fun x C => match itemsOf x with
    | some xs => .ok (((List.range xs.length).zip xs).map fun p => .tuple [.int p.1, p.2]) C
    | _ => .stuck
  | .rev a, δ, C => (ev a δ C).bind fun x C => match itemsOf x with
    | some xs => .ok xs.reverse C
    | _ => .stuck
def evc : Eo → VEnv → List Cell → Res Bool
  | .none, _, C => .ok true C
  | .some e, δ, C => tstR (ev e δ C)
end
inductive Out where
  | nx (ρ : SEnv)
  | ret (d : PyData)
  | bk (ρ : SEnv)
def okFlat (f : Bool) (d : PyData) : Bool := !f || flat d
def mkSlot (o f : Bool) (d : PyData) : Option Slot :=
  if o = true then (match d with | .list xs => if flats xs = true then some (.own xs) else none | _ => none) else if okFlat f d = true then some (.val d) else none
def ownAt (ρ : SEnv) (i : Nat) : Option (List PyData) :=
  match ρ[i]? with
  | some (.own xs) => some xs
  | _ => none
def noSrc : It → Bool
  | .rg1 _ => true
  | .rg2 _ _ => true
  | .chars _ => true
  | _ => false
def seenF : Slot → Option PyData
  | .val d => if flat d = true then some d else none
  | _ => none
/-- what is seen when a new own list is made: flat things alone -/
def viewM (o f : Bool) (ρ : SEnv) : VEnv := if o = true then ρ.map seenF else view f ρ
def evPar : Es → List (Bool × Bool × Nat) → SEnv → List Cell → Res (List Slot)
  | .nil, [], _, C => .ok [] C
  | .cons e r, (o, f, _) :: ms, ρ, C => (ev Φ G e (viewM o f ρ) C).bind fun d C => (opt (mkSlot o f d) C).bind fun s C => (evPar r ms ρ C).bind fun ss C => .ok (s :: ss) C
  | _, _, _, _ => .stuck
def setAll : List (Bool × Bool × Nat) → List Slot → SEnv → SEnv
  | (_, _, i) :: ms, s :: ss, ρ => setAll ms ss (ρ.set i s)
  | _, _, ρ => ρ
def loopS (f : PyData → SEnv → List Cell → Res Out) : List PyData → SEnv → List Cell → Res Out
  | [], ρ, C => .ok (.nx ρ) C
  | x :: xs, ρ, C => (f x ρ C).bind fun o C => match o with
    | .nx ρ' => loopS f xs ρ' C
    | .bk ρ' => .ok (.nx ρ') C
    | .ret d => .ok (.ret d) C
def whileS (c : SEnv → List Cell → Res Bool) (f : SEnv → List Cell → Res Out) : Nat → SEnv → List Cell → Res Out
  | 0, _, _ => .stuck
  | n + 1, ρ, C => (c ρ C).bind fun b C => if b = true then (f ρ C).bind fun o C => (match o with
      | .nx ρ' => whileS c f n ρ' C
      | .bk ρ' => .ok (.nx ρ') C
      | .ret d => .ok (.ret d) C)
    else .ok (.nx ρ) C
/-- a list of flat things -/
def newD : PyData → Option (List PyData)
  | .list xs => if flats xs = true then some xs else none
  | _ => none
/-- a cell's place is set -/
def csetR (ρ : SEnv) (d x y : PyData) (C : List Cell) : Res Out :=
  match cellOf C x, y with
  | some (k, .lst xs), .int j => if flat d = true ∧ 0 ≤ j ∧ j < xs.length then .ok (.nx ρ) (C.set k (.lst (xs.set j.toNat d))) else .stuck
  | _, _ => .stuck
def cset2R (ρ : SEnv) (i : Nat) (d x y : PyData) (C : List Cell) : Res Out :=
  match d with
  | .tuple [d1, d2] => if flat d2 = true then csetR (ρ.set i (.val d2)) d1 x y C else .stuck
  | _ => .stuck
variable (W : Nat)
mutual
def evS : S → SEnv → List Cell → Res Out
  | .asg f t e, ρ, C => (ev Φ G e (view f ρ) C).bind fun d C => if okFlat f d = true then (opt (putT t d ρ) C).bind fun ρ' C => .ok (.nx ρ') C else .stuck
  | .own i e, ρ, C => (ev Φ G e (viewM true true ρ) C).bind fun d C => (opt (mkSlot true true d) C).bind fun s C => .ok (.nx (ρ.set i s)) C
  | .asgN i e, ρ, C => (ev Φ G e (view true ρ) C).bind fun d C => (opt (newD d) C).bind fun xs C => .ok (.nx (ρ.set i (.val (.list xs)))) C
  | .ownN i e, ρ, C => (ev Φ G e (view true ρ) C).bind fun d C => (opt (newD d) C).bind fun xs C => .ok (.nx (ρ.set i (.own xs))) C
  | .parn ms es, ρ, C => (evPar Φ G es ms ρ C).bind fun ss C => .ok (.nx (setAll ms ss ρ)) C
  | .mv i j, ρ, C => (opt (ownAt ρ j) C).bind fun xs C => .ok (.nx ((ρ.set j .no).set i (.own xs))) C
  | .frz i, ρ, C => (opt (ownAt ρ i) C).bind fun xs C => .ok (.nx (ρ.set i (.val (.list xs)))) C
  | .app f i e, ρ, C => (ev Φ G e (view f ρ) C).bind fun d C => (opt (ownAt ρ i) C).bind fun xs C =>
      if okFlat f d = true ∧ xs.length < big then .ok (.nx (ρ.set i (.own (xs ++ [d])))) C else .stuck
  | .ext f i e, ρ, C => (ev Φ G e (view f ρ) C).bind fun d C => (opt (ownAt ρ i) C).bind fun xs C => (opt (newD d) C).bind fun ys C =>
      if xs.length + ys.length ≤ big then .ok (.nx (ρ.set i (.own (xs ++ ys)))) C else .stuck
  | .seti f i ix e, ρ, C => (ev Φ G e (view f ρ) C).bind fun d C => (ev Φ G ix (view true ρ) C).bind fun k C => (opt (ownAt ρ i) C).bind fun xs C => match k with
      | .int k => if okFlat f d = true ∧ 0 ≤ k ∧ k < xs.length then .ok (.nx (ρ.set i (.own (xs.set k.toNat d)))) C else .stuck
      | _ => .stuck
  | .cset o ix e, ρ, C => (ev Φ G e (view true ρ) C).bind fun d C => (ev Φ G o (view true ρ) C).bind fun x C => (ev Φ G ix (view true ρ) C).bind fun y C => csetR ρ d x y C
  | .cset2 o ix i e, ρ, C => (ev Φ G e (view true ρ) C).bind fun d C => (ev Φ G o (view true ρ) C).bind fun x C => (ev Φ G ix (view true ρ) C).bind fun y C => cset2R ρ i d x y C
  | .iff c a b, ρ, C => (tstR (ev Φ G c (view true ρ) C)).bind fun k C => if k = true then evSs a ρ C else evSs b ρ C
  | .loop f t i b, ρ, C => (evI Φ G i (view f ρ) C).bind fun xs C => if (!f || noSrc i) = true then loopS (fun x ρ C => (opt (putT t x ρ) C).bind fun ρ' C => evSs b ρ' C) xs ρ C else .stuck
  | .whil c b, ρ, C => whileS (fun ρ C => tstR (ev Φ G c (view true ρ) C)) (fun ρ C => evSs b ρ C) W ρ C
  | .ret e, ρ, C => (ev Φ G e (view true ρ) C).bind fun d C => .ok (.ret d) C
  | .retN, _, C => .ok (.ret .none) C
  | .expr e, ρ, C => (ev Φ G e (view true ρ) C).bind fun _ C => .ok (.nx ρ) C
  | .brk, ρ, C => .ok (.bk ρ) C
  | .pass, ρ, C => .ok (.nx ρ) C
  | .never, _, _ => .stuck
  | .ndef i k, ρ, C => .ok (.nx (ρ.set i (.val (hnf k)))) C
def evSs : Ss → SEnv → List Cell → Res Out
  | .nil, ρ, C => .ok (.nx ρ) C
  | .cons s r, ρ, C => (evS s ρ C).bind fun o C => match o with
    | .nx ρ' => evSs r ρ' C
    | .bk ρ' => .ok (.bk ρ') C
    | .ret d => .ok (.ret d) C
end
end
/-- a def: how many parameters, how many names, its body -/
structure Def where
  np : Nat
  ns : Nat
  body : Ss
def ended : Res Out → Res PyData
  | .ok (.ret d) C => .ok d C
  | .ok (.nx _) C => .ok .none C
  | .ok (.bk _) _ => .stuck
  | .exc x fs C => .exc x fs C
  | .stuck => .stuck
def runD (T : List Def) (G : Str → Option PyData) (W : Nat) : Nat → Oracle
  | 0, _, _, _ => .stuck
  | n + 1, k, ds, C => match T[k]? with
    | none => .stuck
    | some D => if ds.length = D.np then ended (evSs (runD T G W n) G W D.body (ds.map Slot.val ++ List.replicate (D.ns - D.np) Slot.no) C) else .stuck
end BR
set_option Elab.async false
set_option linter.all false
set_option maxRecDepth 100000
set_option maxHeartbeats 4000000
/-! what a value of the model stands for (Rp), how heaps go on (Post), what a context knows (Ctx) -/
namespace BR
open PySem PySem.Spec PyProof.Rows L2
/-- a def or a lambda within a def: its words -/
inductive NK where
  | dfn (name qual : Str) (params : Arguments) (body : List Stmt) (scope : Scope)
  | lam (qual : Str) (params : Arguments) (body : Expr) (scope : Scope)
def NK.qual : NK → Str
  | .dfn _ q _ _ _ => q
  | .lam q _ _ _ => q
/-- the function made of it, c its code object -/
def NK.fd (c : Addr) : NK → Value → Value → Value → FuncData
  | .dfn n q p b sc, doc, pm, ctv => PySem.W.fnOf n q p b sc .none .none doc pm none (.ref c) ctv
  | .lam q p b sc, _, pm, ctv => PySem.W.kla_fn "<lambda>" q p b sc [] pm (.ref c) ctv
/-- the object at f is such a function -/
def FunO (f : Addr) (c : Addr) (nk : NK) : HO := .ext fun h => ∃ (od : Option Addr) (sl : Array (Option Value)) (doc pm ctv : Value), h.get? f = some (⟨.type "function", od, .func (nk.fd c doc pm ctv), sl⟩ : Obj)
theorem funO_at {P : Program} {w : World} {H : Hp} {h : Heap} {f c : Addr} {nk : NK} (hok : HOk P w H h) (e : H f = some (FunO f c nk)) : ∃ (od : Option Addr) (sl : Array (Option Value)) (doc pm ctv : Value), h.get? f = some (⟨.type "function", od, .func (nk.fd c doc pm ctv), sl⟩ : Obj) := by
  obtain ⟨z, _, _⟩ := hok f _ e
  exact z
/-- what is fixed through a law: the written part, the module's names, the defs by number; the tables of code objects; which made functions are the evaluator's -/
structure Fix where
  K : PySem.W.Frag
  mg : Str → Option Value
  fns : List Str
  tabs : List NdefX.NTab
  okF : Nat → NK → Prop
def KL (K : PySem.W.Frag) (a : Addr) (xs : List V) : Prop := ∃ (o : Obj) (its : Array Value) (n : Nat), K.lookup a = some o ∧ o.cls = .type "list" ∧ o.dict = none ∧ o.data = .seq its n ∧ its.size ≤ sizeLine ∧ Vals xs its.toList
/-- a tuple whose object is known: it bears no dict -/
def XT (H : Hp) (a : Addr) (xs : List V) : Prop := ∃ ob, H a = some (.frz ob (.tup xs)) ∧ ob.dict = none
theorem XT.rd {H : Hp} {a : Addr} {xs : List V} (h : XT H a xs) : Rd H a (.tup xs) := by
  obtain ⟨ob, e, _⟩ := h
  exact .inr ⟨ob, e⟩
def KT (K : PySem.W.Frag) (a : Addr) (xs : List V) : Prop := ∃ (o : Obj) (its : Array Value) (n : Nat), K.lookup a = some o ∧ o.cls = .type "tuple" ∧ o.dict = none ∧ o.data = .seq its n ∧ its.size ≤ sizeLine ∧ Vals xs its.toList
section
variable (F : Fix)
mutual
inductive Rp (κ : List Addr) (U : Addr → Prop) (H : Hp) : V → PyData → Prop
  | non : Rp κ U H .non .none
  | bl (b : Bool) : Rp κ U H (.bl b) (.bool b)
  | int (i : Int) : Rp κ U H (.int i) (.int i)
  | str (x : Str) : Rp κ U H (.str x) (.str x)
  | lst {a : Addr} {xs : List V} {ds : List PyData} : H a = some (.lst xs) → ¬ U a → a ∉ κ → RpAll κ U H xs ds → Rp κ U H (.ref a) (.list ds)
  | tup {a : Addr} {xs : List V} {ds : List PyData} : (XT H a xs ∧ a ∉ κ) ∨ KT F.K a xs → RpAll κ U H xs ds → Rp κ U H (.ref a) (.tuple ds)
  | cell {a : Addr} {k : Nat} : κ[k]? = some a → Rp κ U H (.ref a) (hcell k)
  | scr {a : Addr} {xs : List V} {ds : List PyData} : (Rd H a (.lst xs) ∧ a ∉ κ ∧ ¬ U a) ∨ KL F.K a xs → RpAll κ U H xs ds → Rp κ U H (.ref a) (hscr ds)
  | fn {f : Addr} {k : Nat} {x : Str} : F.fns[k]? = some x → F.mg x = some (.ref f) → Rp κ U H (.ref f) (hfn k)
  | nfn {f c : Addr} {k : Nat} {nk : NK} : F.okF k nk → H f = some (FunO f c nk) → H c = some (LamX.CodeO c nk.qual) → f ∉ κ → c ∉ κ → Rp κ U H (.ref f) (hnf k)
inductive RpAll (κ : List Addr) (U : Addr → Prop) (H : Hp) : List V → List PyData → Prop
  | nil : RpAll κ U H [] []
  | cons {v : V} {vs : List V} {d : PyData} {ds : List PyData} : Rp κ U H v d → RpAll κ U H vs ds → RpAll κ U H (v :: vs) (d :: ds)
end
end
/-- how a heap goes on: all but the cells stays, tables may grow -/
structure Fx (κ : List Addr) (H H' : Hp) : Prop where
  keep : ∀ a o, H a = some o → a ∉ κ → (∀ ps, o ≠ .tbl ps) → H' a = some o
  tbl : ∀ a ps, H a = some (.tbl ps) → a ∉ κ → ∃ ps', H' a = some (.tbl ps')
theorem Fx.refl (κ : List Addr) (H : Hp) : Fx κ H H := ⟨fun _ _ h _ _ => h, fun _ ps h _ => ⟨ps, h⟩⟩
theorem Fx.new {κ : List Addr} {H : Hp} {p : Addr} {o : HO} (h : H p = none) : Fx κ H (upd H p o) := ⟨fun a u e _ _ => by
  rw [upd_ne (ne_of_none e h)]
  exact e, fun a ps e _ => ⟨ps, by
  rw [upd_ne (ne_of_none e h)]
  exact e⟩⟩
/-- a change at p, which H does not know or which is a cell -/
theorem Fx.upd {κ : List Addr} {H H' : Hp} {p : Addr} {o : HO} (f : Fx κ H H') (h : H p = none ∨ p ∈ κ) : Fx κ H (upd H' p o) := by
  have hne : ∀ a u, H a = some u → a ∉ κ → a ≠ p := fun a u e hk z => by
    subst z
    rcases h with h | h
    · rw [h] at e
      cases e
    · exact hk h
  exact ⟨fun a u e hk ht => by rw [upd_ne (hne a u e hk)]; exact f.keep a u e hk ht, fun a ps e hk => by
    rw [upd_ne (hne a _ e hk)]
    exact f.tbl a ps e hk⟩
theorem Fx.there {κ : List Addr} {H H' : Hp} (f : Fx κ H H') {a : Addr} {o : HO} (e : H a = some o) (hk : a ∉ κ) : ∃ o', H' a = some o' := by
  by_cases ht : ∃ ps, o = .tbl ps
  · obtain ⟨ps, rfl⟩ := ht
    obtain ⟨ps', q⟩ := f.tbl a ps e hk
    exact ⟨_, q⟩
  · exact ⟨o, f.keep a o e hk fun ps z => ht ⟨ps, z⟩⟩
section
variable {F : Fix} {κ κ' : List Addr} {U U' : Addr → Prop} {H H' : Hp} {v : V} {d : PyData} {vs : List V} {ds : List PyData}
/-- the cells' addresses grow by new ones -/
def Grow (κ : List Addr) (H : Hp) (κ' : List Addr) : Prop := ∃ m, κ' = κ ++ m ∧ ∀ a ∈ m, H a = none
theorem Grow.refl (κ : List Addr) (H : Hp) : Grow κ H κ := ⟨[], by simp, fun a h => by simp at h⟩
theorem Grow.get {k : Nat} {a : Addr} (g : Grow κ H κ') (h : κ[k]? = some a) : κ'[k]? = some a := by
  obtain ⟨m, rfl, _⟩ := g
  have hk : k < κ.length := by
    rcases Nat.lt_or_ge k κ.length with q | q
    · exact q
    · rw [List.getElem?_eq_none q] at h
      cases h
  rw [List.getElem?_append_left hk]
  exact h
theorem Grow.mem {a : Addr} (g : Grow κ H κ') (h : a ∈ κ) : a ∈ κ' := by
  obtain ⟨m, rfl, _⟩ := g
  exact List.mem_append_left _ h
theorem Grow.notMem {a : Addr} {o : HO} (g : Grow κ H κ') (h : a ∉ κ) (e : H a = some o) : a ∉ κ' := by
  obtain ⟨m, rfl, n⟩ := g
  intro q
  rcases List.mem_append.mp q with q | q
  · exact h q
  · rw [n a q] at e
    cases e
theorem rd_mono {a : Addr} {u : HO} (hf : Fx κ H H') (hk : a ∉ κ) (hu : ∀ ps, u ≠ .tbl ps) (h : Rd H a u) : Rd H' a u := by
  rcases h with h | ⟨o, h⟩
  · exact .inl (hf.keep _ _ h hk hu)
  · exact .inr ⟨o, hf.keep _ _ h hk fun ps z => nomatch z⟩
theorem rd_some {a : Addr} {u : HO} (h : Rd H a u) : ∃ o, H a = some o := by
  rcases h with h | ⟨o, h⟩
  · exact ⟨_, h⟩
  · exact ⟨_, h⟩
mutual
theorem Rp.mono (hf : Fx κ H H') (hg : Grow κ H κ') : ∀ {d : PyData} {v : V}, Rp F κ U H v d → Rp F κ' U H' v d
  | _, _, .non => .non
  | _, _, .bl b => .bl b
  | _, _, .int i => .int i
  | _, _, .str x => .str x
  | _, _, .lst h1 h2 h3 h4 => by
    exact .lst (hf.keep _ _ h1 h3 fun _ z => nomatch z) h2 (hg.notMem h3 h1) (RpAll.mono hf hg h4)
  | _, _, .tup h1 h2 => by
    refine .tup ?_ (RpAll.mono hf hg h2)
    rcases h1 with ⟨h1, h3⟩ | h1
    · obtain ⟨ob, e, hd⟩ := h1
      exact .inl ⟨⟨ob, hf.keep _ _ e h3 (fun _ z => nomatch z), hd⟩, hg.notMem h3 e⟩
    · exact .inr h1
  | _, _, .cell h => .cell (hg.get h)
  | _, _, .scr h1 h2 => by
    refine .scr ?_ (RpAll.mono hf hg h2)
    rcases h1 with ⟨h1, h3, h4⟩ | h1
    · obtain ⟨o, e⟩ := rd_some h1
      exact .inl ⟨rd_mono hf h3 (fun _ z => nomatch z) h1, hg.notMem h3 e, h4⟩
    · exact .inr h1
  | _, _, .fn h1 h2 => .fn h1 h2
  | _, _, .nfn h0 h1 h2 h3 h4 => .nfn h0 (hf.keep _ _ h1 h3 fun _ z => nomatch z) (hf.keep _ _ h2 h4 fun _ z => nomatch z) (hg.notMem h3 h1) (hg.notMem h4 h2)
theorem RpAll.mono (hf : Fx κ H H') (hg : Grow κ H κ') : ∀ {ds : List PyData} {vs : List V}, RpAll F κ U H vs ds → RpAll F κ' U H' vs ds
  | _, _, .nil => .nil
  | _, _, .cons h1 h2 => .cons (Rp.mono hf hg h1) (RpAll.mono hf hg h2)
end
mutual
theorem Rp.weak (hu : ∀ a, U' a → U a) : ∀ {d : PyData} {v : V}, Rp F κ U H v d → Rp F κ U' H v d
  | _, _, .non => .non
  | _, _, .bl b => .bl b
  | _, _, .int i => .int i
  | _, _, .str x => .str x
  | _, _, .lst h1 h2 h3 h4 => .lst h1 (fun z => h2 (hu _ z)) h3 (RpAll.weak hu h4)
  | _, _, .scr h1 h2 => .scr (h1.imp (fun q => ⟨q.1, q.2.1, fun z => q.2.2 (hu _ z)⟩) id) (RpAll.weak hu h2)
  | _, _, .tup h1 h2 => .tup h1 (RpAll.weak hu h2)
  | _, _, .cell h => .cell h
  | _, _, .fn h1 h2 => .fn h1 h2
  | _, _, .nfn h0 h1 h2 h3 h4 => .nfn h0 h1 h2 h3 h4
theorem RpAll.weak (hu : ∀ a, U' a → U a) : ∀ {ds : List PyData} {vs : List V}, RpAll F κ U H vs ds → RpAll F κ U' H vs ds
  | _, _, .nil => .nil
  | _, _, .cons h1 h2 => .cons (Rp.weak hu h1) (RpAll.weak hu h2)
end
/-! what is flat does not hang on what may change; it may even stand behind a change at p, where no tuple stands -/
mutual
theorem Rp.flat_step (k : ∀ a u, a ∉ κ → XT H a u → XT H' a u) : ∀ {d : PyData} {v : V}, Rp F κ U H v d → flat d = true → Rp F κ U' H' v d
  | _, _, .non, _ => .non
  | _, _, .bl b, _ => .bl b
  | _, _, .int i, _ => .int i
  | _, _, .str x, _ => .str x
  | _, _, .lst _ _ _ _, h => by rw [flat] at h; cases h
  | _, _, .scr _ _, h => by simp [flat] at h
  | _, _, .tup h1 h2, h => .tup (h1.imp (fun q => ⟨k _ _ q.2 q.1, q.2⟩) id) (RpAll.flat_step k h2 (by rw [flat] at h; exact h))
  | _, _, .cell h, _ => .cell h
  | _, _, .fn h1 h2, _ => .fn h1 h2
  | _, _, .nfn _ _ _ _ _, h => by simp [flat] at h
theorem RpAll.flat_step (k : ∀ a u, a ∉ κ → XT H a u → XT H' a u) : ∀ {ds : List PyData} {vs : List V}, RpAll F κ U H vs ds → flats ds = true → RpAll F κ U' H' vs ds
  | _, _, .nil, _ => .nil
  | _, _, .cons h1 h2, h => by
    rw [flats, Bool.and_eq_true] at h
    exact .cons (Rp.flat_step k h1 h.1) (RpAll.flat_step k h2 h.2)
end
theorem Rp.flat (hd : flat d = true) (h : Rp F κ U H v d) : Rp F κ U' H v d := Rp.flat_step (fun _ _ _ q => q) h hd
theorem RpAll.flat (hd : flats ds = true) (h : RpAll F κ U H vs ds) : RpAll F κ U' H vs ds := RpAll.flat_step (fun _ _ _ q => q) h hd
theorem RpAll.length : ∀ {ds : List PyData} {vs : List V}, RpAll F κ U H vs ds → vs.length = ds.length
  | _, _, .nil => rfl
  | _, _, .cons _ h => by rw [List.length_cons, List.length_cons, h.length]
theorem RpAll.get : ∀ {ds : List PyData} {vs : List V} {i : Nat} {d : PyData}, RpAll F κ U H vs ds → ds[i]? = some d → ∃ v, vs[i]? = some v ∧ Rp F κ U H v d
  | _, _, _, _, .nil, e => by simp at e
  | _, _, 0, d, .cons h _, e => ⟨_, rfl, by simp at e; subst e; exact h⟩
  | _, _, i + 1, d, .cons _ h, e => by
    obtain ⟨v, q, r⟩ := RpAll.get (i := i) h (by simpa using e)
    exact ⟨v, by simpa using q, r⟩
theorem RpAll.getV {i : Nat} {v : V} (h : RpAll F κ U H vs ds) (e : vs[i]? = some v) : ∃ d, ds[i]? = some d ∧ Rp F κ U H v d := by
  have hl := h.length
  have hi : i < vs.length := by
    rcases Nat.lt_or_ge i vs.length with q | q
    · exact q
    · rw [List.getElem?_eq_none q] at e
      cases e
  obtain ⟨v', q, r⟩ := h.get (i := i) (List.getElem?_eq_getElem (show i < ds.length by omega))
  rw [e] at q
  cases q
  exact ⟨_, List.getElem?_eq_getElem (by omega), r⟩
theorem RpAll.append {vs' : List V} {ds' : List PyData} : ∀ {ds : List PyData} {vs : List V}, RpAll F κ U H vs ds → RpAll F κ U H vs' ds' → RpAll F κ U H (vs ++ vs') (ds ++ ds')
  | _, _, .nil, h => h
  | _, _, .cons h1 h2, h => .cons h1 (h2.append h)
theorem RpAll.take : ∀ {ds : List PyData} {vs : List V} (n : Nat), RpAll F κ U H vs ds → RpAll F κ U H (vs.take n) (ds.take n)
  | _, _, 0, _ => by simpa using .nil
  | _, _, _ + 1, .nil => .nil
  | _, _, n + 1, .cons h t => .cons h (t.take n)
theorem RpAll.drop : ∀ {ds : List PyData} {vs : List V} (n : Nat), RpAll F κ U H vs ds → RpAll F κ U H (vs.drop n) (ds.drop n)
  | _, _, 0, h => h
  | _, _, _ + 1, .nil => .nil
  | _, _, n + 1, .cons _ t => t.drop n
theorem RpAll.set (h' : Rp F κ U H v d) : ∀ {ds : List PyData} {vs : List V} (n : Nat), RpAll F κ U H vs ds → RpAll F κ U H (vs.set n v) (ds.set n d)
  | _, _, _, .nil => .nil
  | _, _, 0, .cons _ t => .cons h' t
  | _, _, n + 1, .cons h t => .cons h (t.set h' n)
theorem RpAll.eraseIdx : ∀ {ds : List PyData} {vs : List V} (n : Nat), RpAll F κ U H vs ds → RpAll F κ U H (vs.eraseIdx n) (ds.eraseIdx n)
  | _, _, _, .nil => .nil
  | _, _, 0, .cons _ t => t
  | _, _, n + 1, .cons h t => .cons h (t.eraseIdx n)
theorem RpAll.ofGet : ∀ {ds : List PyData} {vs : List V}, vs.length = ds.length → (∀ (i : Nat) (v : V) (d : PyData), vs[i]? = some v → ds[i]? = some d → Rp F κ U H v d) → RpAll F κ U H vs ds
  | [], [], _, _ => .nil
  | [], _ :: _, h, _ => by simp at h
  | _ :: _, [], h, _ => by simp at h
  | d :: ds, v :: vs, h, k => .cons (k 0 v d rfl rfl) (RpAll.ofGet (by simpa using h) fun i v' d' h1 h2 => k (i + 1) v' d' (by simpa using h1) (by simpa using h2))
theorem RpAll.reverse (h : RpAll F κ U H vs ds) : RpAll F κ U H vs.reverse ds.reverse := by
  have hl := h.length
  refine RpAll.ofGet (by simp [hl]) fun i v d h1 h2 => ?_
  have hi : i < ds.length := by
    rcases Nat.lt_or_ge i ds.length with q | q
    · exact q
    · rw [List.getElem?_eq_none (by simpa using q)] at h2
      cases h2
  rw [List.getElem?_reverse (by omega)] at h1
  rw [List.getElem?_reverse hi] at h2
  obtain ⟨v', q, r⟩ := h.get h2
  rw [← hl] at q
  rw [h1] at q
  cases q
  exact r
end
/-! ### what reads as data of the library -/
section
variable {F : Fix} {κ : List Addr} {U : Addr → Prop} {H : Hp}
theorem sqL_of {a : Addr} {xs : List V} (h : (Rd H a (.lst xs) ∧ a ∉ κ ∧ ¬ U a) ∨ KL F.K a xs) : SqL F.K H a xs := h.imp (fun q => q.1) id
theorem sqT_of {a : Addr} {xs : List V} (h : (XT H a xs ∧ a ∉ κ) ∨ KT F.K a xs) : SqT F.K H a xs := h.imp (fun q => q.1.rd) fun ⟨o, its, n, h1, h2, _, h3⟩ => ⟨o, its, n, h1, h2, h3⟩
mutual
theorem Rp.dp : ∀ {d : PyData} {v : V}, Rp F κ U H v d → d.hasDict = false → Dp F.K H v d
  | _, _, .non, _ => .non
  | _, _, .bl b, _ => .bl b
  | _, _, .int i, _ => .int i
  | _, _, .str x, _ => .str x
  | _, _, .lst h1 _ _ h2, h => .lst (.of h1) (RpAll.dp h2 (by rw [PyData.hasDict] at h; exact h))
  | _, _, .scr _ _, h => by rw [PyData.hasDict] at h; cases h
  | _, _, .tup h1 h2, h => .tup (sqT_of h1) (RpAll.dp h2 (by rw [PyData.hasDict] at h; exact h))
  | _, _, .cell _, h => by rw [PyData.hasDict] at h; cases h
  | _, _, .fn _ _, h => by rw [PyData.hasDict] at h; cases h
  | _, _, .nfn _ _ _ _ _, h => by rw [PyData.hasDict] at h; cases h
theorem RpAll.dp : ∀ {ds : List PyData} {vs : List V}, RpAll F κ U H vs ds → PyData.hasDictAll ds = false → DpAll F.K H vs ds
  | _, _, .nil, _ => .nil
  | _, _, .cons h1 h2, h => by
    rw [PyData.hasDictAll, Bool.or_eq_false_iff] at h
    exact .cons (Rp.dp h1 h.1) (RpAll.dp h2 h.2)
end
theorem shp_noDict {d : PyData} (h : shp d = true) : d.hasDict = false := PyData.hasDict_of_canLay d (SeqAt.canLay_of_shaped h)
theorem Rp.dpS {d : PyData} {v : V} (h : Rp F κ U H v d) (hs : shp d = true) : Dp F.K H v d := h.dp (shp_noDict hs)
end
/-! ### cells, contexts -/
section
variable (F : Fix)
def CellOk (κ : List Addr) (H : Hp) (a : Addr) : Cell → Prop
  | .lst ds => flats ds = true ∧ ∃ xs, H a = some (.lst xs) ∧ RpAll F κ (fun _ => False) H xs ds
  | .dct _ => False
  | .ins _ _ => False
structure Sr (κ : List Addr) (H : Hp) (C : List Cell) : Prop where
  tab : NdefX.TabsN F.tabs H
  nd : κ.Nodup
  len : κ.length = C.length
  cell : ∀ (k : Nat) (a : Addr) (c : Cell), κ[k]? = some a → C[k]? = some c → CellOk F κ H a c
/-- behind: what was there stays, the cells are as told -/
structure Post (κ : List Addr) (H : Hp) (κ' : List Addr) (H' : Hp) (C' : List Cell) : Prop where
  fx : Fx κ H H'
  gr : Grow κ H κ'
  sr : Sr F κ' H' C'
structure Ctx (κ : List Addr) (U : Addr → Prop) (H : Hp) (σ : L2.St) (δ : VEnv) (C : List Cell) : Prop where
  sr : Sr F κ H C
  al : ∀ a, U a → ∃ xs, H a = some (.lst xs)
  sl : ∀ (i : Nat) (d : PyData), δ[i]?.join = some d → ∃ v, σ[i]? = some (some v) ∧ Rp F κ U H v d
end
section
variable {F : Fix} {κ κ1 κ2 κ' : List Addr} {U : Addr → Prop} {H H1 H2 H' : Hp} {σ : L2.St} {δ : VEnv} {C C1 C2 C' : List Cell} {v : V} {d : PyData}
theorem Sr.at (s : Sr F κ H C) {a : Addr} (h : a ∈ κ) : ∃ xs, H a = some (.lst xs) := by
  obtain ⟨k, hk, e⟩ := List.mem_iff_getElem.mp h
  have q := s.cell k a (C[k]'(by rw [← s.len]; exact hk)) (by rw [List.getElem?_eq_getElem hk, e]) (List.getElem?_eq_getElem _)
  cases hc : (C[k]'(by rw [← s.len]; exact hk)) with
  | lst ds =>
    rw [hc] at q
    obtain ⟨_, xs, e, _⟩ := q
    exact ⟨xs, e⟩
  | dct _ => rw [hc] at q; exact q.elim
  | ins _ _ => rw [hc] at q; exact q.elim
theorem Sr.fresh (s : Sr F κ H C) {a : Addr} (h : H a = none) : a ∉ κ := fun q => by
  obtain ⟨xs, e⟩ := s.at q
  rw [h] at e
  cases e
theorem Grow.trans (s1 : Sr F κ1 H1 C1) (fx : Fx κ H H1) (a : Grow κ H κ1) (b : Grow κ1 H1 κ2) : Grow κ H κ2 := by
  obtain ⟨m, rfl, hm⟩ := a
  obtain ⟨n, rfl, hn⟩ := b
  refine ⟨m ++ n, by rw [List.append_assoc], fun x hx => ?_⟩
  rcases List.mem_append.mp hx with hx | hx
  · exact hm x hx
  · cases e : H x with
    | none => rfl
    | some o =>
      have h0 := hn x hx
      by_cases hk : x ∈ κ
      · obtain ⟨xs, e'⟩ := s1.at (List.mem_append_left m hk)
        rw [h0] at e'
        cases e'
      · obtain ⟨o', q⟩ := fx.there e hk
        rw [h0] at q
        cases q
theorem Fx.trans (g : Grow κ H κ1) (a : Fx κ H H1) (b : Fx κ1 H1 H2) : Fx κ H H2 := by
  refine ⟨fun x o e hk ht => ?_, fun x ps e hk => ?_⟩
  · exact b.keep x o (a.keep x o e hk ht) (g.notMem hk e) ht
  · obtain ⟨ps', q⟩ := a.tbl x ps e hk
    exact b.tbl x ps' q (g.notMem hk e)
theorem Post.refl (s : Sr F κ H C) : Post F κ H κ H C := ⟨.refl _ _, .refl _ _, s⟩
theorem Post.trans (a : Post F κ H κ1 H1 C1) (b : Post F κ1 H1 κ2 H2 C2) : Post F κ H κ2 H2 C2 :=
  ⟨a.fx.trans a.gr b.fx, Grow.trans a.sr a.fx a.gr b.gr, b.sr⟩
theorem Rp.post (h : Rp F κ U H v d) (p : Post F κ H κ' H' C') : Rp F κ' U H' v d := h.mono p.fx p.gr
theorem RpAll.post {vs : List V} {ds : List PyData} (h : RpAll F κ U H vs ds) (p : Post F κ H κ' H' C') : RpAll F κ' U H' vs ds := h.mono p.fx p.gr
theorem Ctx.post (c : Ctx F κ U H σ δ C) (p : Post F κ H κ' H' C') : Ctx F κ' U H' σ δ C' := by
  refine ⟨p.sr, fun a h => ?_, fun i d e => ?_⟩
  · obtain ⟨xs, e⟩ := c.al a h
    by_cases hk : a ∈ κ
    · exact p.sr.at (p.gr.mem hk)
    · exact ⟨xs, p.fx.keep _ _ e hk fun _ z => nomatch z⟩
  · obtain ⟨v, q, r⟩ := c.sl i d e
    exact ⟨v, q, r.post p⟩
/-- the cells stand when a new thing is laid -/
theorem CellOk.mono {a : Addr} {c : Cell} (hf : Fx κ H H') (hg : Grow κ H κ') (hk : H' a = H a) (h : CellOk F κ H a c) : CellOk F κ' H' a c := by
  cases c with
  | lst ds =>
    obtain ⟨hd, xs, e, r⟩ := h
    exact ⟨hd, xs, by rw [hk]; exact e, r.mono hf hg⟩
  | dct _ => exact h
  | ins _ _ => exact h
theorem Sr.new {p : Addr} {o : HO} (s : Sr F κ H C) (h : H p = none) : Sr F κ (upd H p o) C := by
  refine ⟨s.tab.ext fun b o e => by rw [upd_ne (ne_of_none e h)]; exact e, s.nd, s.len, fun k a c h1 h2 => ?_⟩
  have hm : a ∈ κ := List.mem_of_getElem? h1
  refine CellOk.mono (.new h) (.refl _ _) ?_ (s.cell k a c h1 h2)
  rw [upd_ne fun z => s.fresh h (by rw [← z]; exact hm)]
theorem Post.new {p : Addr} {o : HO} (s : Sr F κ H C) (h : H p = none) : Post F κ H κ (upd H p o) C := ⟨.new h, .refl _ _, s.new h⟩
/-- a change at p, which is no cell and bears no tuple -/
theorem tab_chg {T : List NdefX.NTab} {p : Addr} {o : HO} {ys : List V} (t : NdefX.TabsN T H) (e : H p = some (.lst ys)) : NdefX.TabsN T (upd H p o) := by
  intro q hq
  obtain ⟨ps, h1, h2, h3⟩ := t q hq
  refine ⟨ps, by rw [upd_ne fun z => by rw [z, e] at h1; cases h1]; exact h1, h2, fun pos cv hc => ?_⟩
  obtain ⟨c, e1, e2⟩ := h3 pos cv hc
  exact ⟨c, e1, by rw [upd_ne fun z => by rw [z, e] at e2; unfold LamX.CodeO at e2; cases e2]; exact e2⟩
theorem Sr.chg {p : Addr} {o o' : HO} {ys : List V} (s : Sr F κ H C) (h : p ∉ κ) (e0 : H p = some (.lst ys)) (e : H p = some o') (ht : ∀ xs, o' ≠ .tup xs) (hz : ∀ ob u, o' ≠ .frz ob u) : Sr F κ (upd H p o) C := by
  refine ⟨tab_chg s.tab e0, s.nd, s.len, fun k a c h1 h2 => ?_⟩
  have hm : a ∈ κ := List.mem_of_getElem? h1
  have q := s.cell k a c h1 h2
  cases c with
  | lst ds =>
    obtain ⟨hd, xs, e1, r⟩ := q
    refine ⟨hd, xs, by rw [upd_ne fun z => h (by rw [← z]; exact hm)]; exact e1, r.flat_step (fun b u hb hr => ?_) hd⟩
    obtain ⟨ob, hr, hdn⟩ := hr
    exact ⟨ob, by rw [upd_ne fun z => by subst z; rw [e] at hr; cases hr; exact hz _ _ rfl]; exact hr, hdn⟩
  | dct _ => exact q
  | ins _ _ => exact q
end
/-- how a heap goes on where lists at U may change, too -/
structure Fv (κ : List Addr) (U : Addr → Prop) (H H' : Hp) : Prop where
  keep : ∀ a o, H a = some o → a ∉ κ → ¬ U a → (∀ ps, o ≠ .tbl ps) → H' a = some o
theorem Fx.fv {κ : List Addr} {U : Addr → Prop} {H H' : Hp} (f : Fx κ H H') : Fv κ U H H' := ⟨fun a o e hk _ ht => f.keep a o e hk ht⟩
theorem Fv.refl (κ : List Addr) (U : Addr → Prop) (H : Hp) : Fv κ U H H := ⟨fun _ _ e _ _ _ => e⟩
section
variable {F : Fix} {κ κ1 κ2 κ' : List Addr} {U : Addr → Prop} {H H1 H2 H' : Hp}
theorem Fv.trans (g : Grow κ H κ1) (a : Fv κ U H H1) (b : Fv κ1 U H1 H2) : Fv κ U H H2 :=
  ⟨fun x o e hk hu ht => b.keep x o (a.keep x o e hk hu ht) (g.notMem hk e) hu ht⟩
/-- a list that may change, or what was not there, is changed -/
theorem Fv.upd {p : Addr} {o : HO} (f : Fv κ U H H') (h : H p = none ∨ p ∈ κ ∨ U p) : Fv κ U H (L2.upd H' p o) := by
  refine ⟨fun a u e hk hu ht => ?_⟩
  have hne : a ≠ p := fun z => by
    subst z
    rcases h with h | h | h
    · rw [h] at e
      cases e
    · exact hk h
    · exact hu h
  rw [upd_ne hne]
  exact f.keep a u e hk hu ht
theorem rd_monoV {a : Addr} {u : HO} (hf : Fv κ U H H') (hk : a ∉ κ) (hU : ¬ U a) (hu : ∀ ps, u ≠ .tbl ps) (h : Rd H a u) : Rd H' a u := by
  rcases h with h | ⟨o, h⟩
  · exact .inl (hf.keep _ _ h hk hU hu)
  · exact .inr ⟨o, hf.keep _ _ h hk hU fun ps z => nomatch z⟩
theorem noU_tup {a : Addr} {xs : List V} (hal : ∀ a, U a → ∃ xs, H a = some (.lst xs)) (h : Rd H a (.tup xs)) : ¬ U a := fun q => by
  obtain ⟨ys, e⟩ := hal a q
  rcases h with h | ⟨o, h⟩
  · rw [e] at h
    cases h
  · rw [e] at h
    cases h
/-- the script is no list that may change -/
def ScrOk (U : Addr → Prop) (H : Hp) : Prop := ∀ a, U a → ∃ xs, H a = some (.lst xs)
mutual
theorem Rp.monoV (hal : ∀ a, U a → ∃ xs, H a = some (.lst xs)) (hf : Fv κ U H H') (hg : Grow κ H κ') : ∀ {d : PyData} {v : V}, Rp F κ U H v d → Rp F κ' U H' v d
  | _, _, .non => .non
  | _, _, .bl b => .bl b
  | _, _, .int i => .int i
  | _, _, .str x => .str x
  | _, _, .lst h1 h2 h3 h4 => .lst (hf.keep _ _ h1 h3 h2 fun _ z => nomatch z) h2 (hg.notMem h3 h1) (RpAll.monoV hal hf hg h4)
  | _, _, .tup h1 h2 => by
    refine .tup ?_ (RpAll.monoV hal hf hg h2)
    rcases h1 with ⟨h1, h3⟩ | h1
    · have hU := noU_tup hal h1.rd
      obtain ⟨ob, e, hd⟩ := h1
      exact .inl ⟨⟨ob, hf.keep _ _ e h3 hU (fun _ z => nomatch z), hd⟩, hg.notMem h3 e⟩
    · exact .inr h1
  | _, _, .cell h => .cell (hg.get h)
  | _, _, .scr h1 h2 => by
    refine .scr ?_ (RpAll.monoV hal hf hg h2)
    rcases h1 with ⟨h1, h3, h4⟩ | h1
    · obtain ⟨o, e⟩ := rd_some h1
      exact .inl ⟨rd_monoV hf h3 h4 (fun _ z => nomatch z) h1, hg.notMem h3 e, h4⟩
    · exact .inr h1
  | _, _, .fn h1 h2 => .fn h1 h2
  | _, _, .nfn h0 h1 h2 h3 h4 => .nfn h0 (hf.keep _ _ h1 h3 (fun q => by obtain ⟨xs, e⟩ := hal _ q; rw [e] at h1; unfold FunO at h1; cases h1) fun _ z => nomatch z) (hf.keep _ _ h2 h4 (fun q => by obtain ⟨xs, e⟩ := hal _ q; rw [e] at h2; unfold LamX.CodeO at h2; cases h2) fun _ z => nomatch z) (hg.notMem h3 h1) (hg.notMem h4 h2)
theorem RpAll.monoV (hal : ∀ a, U a → ∃ xs, H a = some (.lst xs)) (hf : Fv κ U H H') (hg : Grow κ H κ') : ∀ {ds : List PyData} {vs : List V}, RpAll F κ U H vs ds → RpAll F κ' U H' vs ds
  | _, _, .nil => .nil
  | _, _, .cons h1 h2 => .cons (Rp.monoV hal hf hg h1) (RpAll.monoV hal hf hg h2)
end
/-! what is known before p is laid does not hang on p -/
mutual
theorem Rp.addU {p : Addr} (hp : H p = none) : ∀ {d : PyData} {v : V}, Rp F κ U H v d → Rp F κ (fun a => U a ∨ a = p) H v d
  | _, _, .non => .non
  | _, _, .bl b => .bl b
  | _, _, .int i => .int i
  | _, _, .str x => .str x
  | _, _, .lst h1 h2 h3 h4 => .lst h1 (fun z => z.elim h2 fun e => by rw [e, hp] at h1; cases h1) h3 (RpAll.addU hp h4)
  | _, _, .tup h1 h2 => .tup h1 (RpAll.addU hp h2)
  | _, _, .cell h => .cell h
  | _, _, .scr h1 h2 => by
    refine .scr ?_ (RpAll.addU hp h2)
    rcases h1 with ⟨h1, h3, h4⟩ | h1
    · obtain ⟨o, e⟩ := rd_some h1
      exact .inl ⟨h1, h3, fun z => z.elim h4 fun q => by rw [q, hp] at e; cases e⟩
    · exact .inr h1
  | _, _, .fn h1 h2 => .fn h1 h2
  | _, _, .nfn h0 h1 h2 h3 h4 => .nfn h0 h1 h2 h3 h4
theorem RpAll.addU {p : Addr} (hp : H p = none) : ∀ {ds : List PyData} {vs : List V}, RpAll F κ U H vs ds → RpAll F κ (fun a => U a ∨ a = p) H vs ds
  | _, _, .nil => .nil
  | _, _, .cons h1 h2 => .cons (Rp.addU hp h1) (RpAll.addU hp h2)
end
end
/-! ### what is wanted behind a piece of code -/
section
variable (F : Fix)
/-- the end of an evaluation -/
def Fin {α : Type} (W : WX) (κ : List Addr) (H : Hp) (σ : L2.St) (r : Res α) (P : α → List Cell → List Addr → Hp → Prop) : Prop :=
  match r with
  | .ok a C' => ∀ κ' H', Post F κ H κ' H' C' → P a C' κ' H'
  | .exc _ _ _ => False
  | .stuck => False
end
section
variable {F : Fix} {α β : Type} {W : WX} {κ κ1 κ2 κ' : List Addr} {U : Addr → Prop} {H H1 H2 H' : Hp} {σ : L2.St} {δ : VEnv} {C C1 C2 C' : List Cell} {v : V} {d : PyData}
theorem Fin.bind {r : Res α} {f : α → List Cell → Res β} {P : β → List Cell → List Addr → Hp → Prop} (h : Fin F W κ H σ (r.bind f) P) :
    Fin F W κ H σ r fun a C1 κ1 H1 => Fin F W κ1 H1 σ (f a C1) P := by
  cases r with
  | ok a C1 =>
    intro κ1 H1 p
    have h' : Fin F W κ H σ (f a C1) P := h
    revert h'
    cases f a C1 with
    | ok b C2 => exact fun h' κ2 H2 p2 => h' κ2 H2 (p.trans p2)
    | exc x fs C2 => exact fun h' => h'
    | stuck => exact fun h' => h'
  | exc x fs C1 => exact h
  | stuck => exact h
theorem Fin.mono {r : Res α} {P P' : α → List Cell → List Addr → Hp → Prop} (h : Fin F W κ H σ r P) (k : ∀ a C' κ' H', Post F κ H κ' H' C' → P a C' κ' H' → P' a C' κ' H') : Fin F W κ H σ r P' := by
  cases r with
  | ok a C1 => exact fun κ1 H1 p => k _ _ _ _ p (h κ1 H1 p)
  | exc x fs C1 => exact h
  | stuck => exact h
theorem Fin.opt {o : Option α} {P : α → List Cell → List Addr → Hp → Prop} (h : Fin F W κ H σ (opt o C) P) : ∃ a, o = some a ∧ Fin F W κ H σ (.ok a C) P := by
  cases o with
  | some a => exact ⟨a, rfl, h⟩
  | none => exact h.elim
end
/-! ### the readings -/
section
variable (F : Fix) (W : WX)
/-- an expression -/
def rdE (f : VEnv → List Cell → Res PyData) : TE := fun σ H Q => ∃ κ U δ C, Ctx F κ U H σ δ C ∧ Fin F W κ H σ (f δ C) fun d _ κ' H' => ∀ v, Rp F κ' U H' v d → Q v H'
/-- a test -/
def rdT (f : VEnv → List Cell → Res Bool) : TT := fun σ H Q => ∃ κ U δ C, Ctx F κ U H σ δ C ∧ Fin F W κ H σ (f δ C) fun b _ _ H' => Q b H'
/-- arguments -/
def rdA (f : VEnv → List Cell → Res (List PyData)) : TA := fun σ H Q => ∃ κ U δ C, Ctx F κ U H σ δ C ∧ Fin F W κ H σ (f δ C) fun ds _ κ' H' => ∀ vs, RpAll F κ' U H' vs ds → Q vs H'
end
theorem wkE {X : Cx} {e : Expr} {t t' : TE} (h : PE X e t) (k : ∀ σ H Q, t' σ H Q → t σ H Q) : PE X e t' := ⟨fun pins s σ H Q I q => h.run pins s σ H Q I (k σ H Q q)⟩
theorem wkT {X : Cx} {e : Expr} {t t' : TT} (h : PT X e t) (k : ∀ σ H Q, t' σ H Q → t σ H Q) : PT X e t' := ⟨fun pins s σ H Q I q => h.run pins s σ H Q I (k σ H Q q)⟩
theorem wkW {X : Cx} {e : Expr} {t t' : TT} (h : PW X e t) (k : ∀ σ H Q, t' σ H Q → t σ H Q) : PW X e t' := ⟨fun w pins s σ H Q I q => h.run w pins s σ H Q I (k σ H Q q)⟩
theorem wkA {X : Cx} {es : List Expr} {t t' : TA} (h : PA X es t) (k : ∀ σ H Q, t' σ H Q → t σ H Q) : PA X es t' := ⟨fun pos pins s σ H Q I q => h.run pos pins s σ H Q I (k σ H Q q)⟩
theorem wkS {X : Cx} {e : Stmt} {t t' : TS} (h : PS X e t) (k : ∀ D σ H, t' D σ H → t D σ H) : PS X e t' := ⟨fun pins s σ H Q I q => h.run pins s σ H Q I (k Q σ H q)⟩
theorem wkSs {X : Cx} {e : List Stmt} {t t' : TS} (h : PSs X e t) (k : ∀ D σ H, t' D σ H → t D σ H) : PSs X e t' := ⟨fun pins s σ H Q I q => h.run pins s σ H Q I (k Q σ H q)⟩
end BR
set_option Elab.async false
set_option linter.all false
set_option maxRecDepth 100000
set_option maxHeartbeats 4000000
/-! new tuples whose object is known: it bears no dict -/
namespace BR
open PySem PySem.Spec PyProof.Rows L2
section
variable {X : Cx} {es : List Expr} {t : TA} {e : Expr} {pos : Pos}
def NewT (H : Hp) (xs : List V) (Q : VK) : Prop := ∀ p ob, H p = none → ob.dict = none → Q (.ref p) (upd H p (.frz ob (.tup xs)))
def tTupX (t : TA) : TE := fun σ H Q => t σ H fun xs H1 => xs.length ≤ sizeLine ∧ NewT H1 xs Q
theorem pe_tupX {x1} (h : PA X es t) : PE X (.Tuple es x1 pos) (tTupX t) := by
  refine ⟨fun pins s σ H Q I hq => ?_⟩
  refine wpAny_Tuple_spliced (thn (h.run pos pins s σ H _ I hq) fun us s1 ⟨xs, H1, I1, r, z, q⟩ => ⟨by rw [← r.length]; exact z, ?_⟩)
  have hf : H1 s1.heap.objs.size = none := I1.hok.fresh (Nat.le_refl _)
  refine ⟨.ref s1.heap.objs.size, upd H1 s1.heap.objs.size (.frz _ (.tup xs)), I1.laid (t' := s1.toks) (fun b u e => Heap.get?_push_of_some _ e) (Nat.le_refl _) ⟨Heap.get?_push_size _ rfl, ?_⟩, rfl, q _ _ hf rfl⟩
  exact ⟨z, us, r, ⟨_, Heap.get?_push_size _ rfl, rfl, _, rfl⟩⟩
def rCatX (K : PySem.W.Frag) : R2 := fun x y H Q => ∃ a b xs ys, x = .ref a ∧ y = .ref b ∧ SqT K H a xs ∧ SqT K H b ys ∧ xs.length + ys.length ≤ sizeLine ∧
  (xs = [] → Q (.ref b) H) ∧ (xs ≠ [] → ys = [] → Q (.ref a) H) ∧ (xs ≠ [] → ys ≠ [] → NewT H (xs ++ ys) Q)
theorem op_catX : OpR X (binaryOp .Add) (rCatX X.K) := by
  intro pins s σ H x y v u Q I rx ry h
  obtain ⟨a, b, xs, ys, rfl, rfl, ha, hb, hz, q0, q1, q2⟩ := h
  cases rx
  cases ry
  obtain ⟨its, r1, p1, _⟩ := I.tuple ha
  obtain ⟨its2, r2, p2, _⟩ := I.tuple hb
  by_cases hx : xs = []
  · subst hx
    cases r1
    exact cat_tup0 p1 p2 ⟨.ref b, H, I, rfl, q0 rfl⟩
  · refine HT.cat_tup p1 p2 (fun z => hx (r1.nil_iff.mp z)) (fun z => ⟨.ref a, H, I, rfl, q1 hx (r2.nil_iff.mp z)⟩) (fun z => ?_) (by rw [← r1.length, ← r2.length]; exact hz)
    refine ⟨.ref s.heap.objs.size, _, I.laid (t' := s.toks) (o := .frz _ (.tup (xs ++ ys))) (fun b ob q => Heap.get?_push_of_some _ q) (Nat.le_refl _) ⟨Heap.get?_push_size _ rfl, ?_⟩, rfl, q2 hx (fun w => z (r2.nil_iff.mpr w)) _ _ (I.hok.fresh (Nat.le_refl _)) rfl⟩
    exact ⟨by rw [List.length_append]; exact hz, _, r1.append r2, IsTup.new _ _⟩
def rSlX (K : PySem.W.Frag) : V → Option Int → Option Int → Hp → VK → Prop := fun x lo hi H Q => ∃ a xs, x = .ref a ∧ SqT K H a xs ∧
  (HT.sIx xs.length 0 lo = 0 ∧ HT.sIx xs.length xs.length hi = xs.length → Q (.ref a) H) ∧ (¬ (HT.sIx xs.length 0 lo = 0 ∧ HT.sIx xs.length xs.length hi = xs.length) → NewT H (cutV xs lo hi) Q)
theorem sl_tupX : SlR X (rSlX X.K) := by
  intro pins s σ H x v vl vu lo hi sl Q I rx hs pl pu h
  obtain ⟨a, xs, rfl, hx, q1, q2⟩ := h
  cases rx
  obtain ⟨its, r, ht, hz⟩ := I.tuple hx
  have hlen : its.toArray.size = xs.length := by rw [List.size_toArray]; exact r.length.symm
  refine ⟨"tuple", _, PyProof.Rows.slot_tuple_getitem.lookup, ht.typeIs, ?_⟩
  by_cases hw : HT.sIx xs.length 0 lo = 0 ∧ HT.sIx xs.length xs.length hi = xs.length
  · exact getItem_tuple_whole ht hs pl pu (by rw [hlen]; exact hw) ⟨.ref a, H, I, rfl, q1 hw⟩
  · refine HT.getItem_tuple_cut ht hs pl pu (by rw [hlen]; exact hw) ?_ (by rw [hlen]; exact hz)
    rw [hlen]
    refine ⟨.ref s.heap.objs.size, _, I.laid (t' := s.toks) (o := .frz _ (.tup (cutV xs lo hi))) (fun b ob q => Heap.get?_push_of_some _ q) (Nat.le_refl _) ⟨Heap.get?_push_size _ rfl, ?_⟩, rfl, q2 hw _ _ (I.hok.fresh (Nat.le_refl _)) rfl⟩
    exact ⟨Nat.le_trans (cutV_length xs lo hi) hz, _, (r.drop (HT.sIx xs.length 0 lo)).take (HT.sIx xs.length xs.length hi - HT.sIx xs.length 0 lo), IsTup.new _ _⟩
theorem call_tuple_ofX : CallR X (.type "tuple") (fun xs H Q => ∃ p ys, xs = [.ref p] ∧ ((SqL X.K H p ys ∧ NewT H ys Q) ∨ (SqT X.K H p ys ∧ Q (.ref p) H))) := by
  intro pins s σ H xs us Q I r h
  obtain ⟨p, ys, rfl, h⟩ := h
  obtain ⟨u, rfl, rx⟩ := vals1 r
  cases rx
  rcases h with ⟨hq, q⟩ | ⟨hq, q⟩
  · obtain ⟨its, r', pl, hz⟩ := I.list hq
    have hlen := r'.length
    refine call_tuple_list pl.isList (fun h' kp => ?_) (by simp only [List.size_toArray] <;> omega)
    have I1 : Inv X pins σ H { s with heap := h' } := I.kept (t' := s.toks) kp
    have I2 : Inv X pins σ (upd H h'.objs.size (.frz _ (.tup ys))) { s with heap := h'.push { cls := .type "tuple", data := .seq its.toArray } } :=
      I1.laid (t' := s.toks) (fun b o e => Heap.get?_push_of_some _ e) (Nat.le_refl _) (show ObjOk X.prog X.w _ _ _ (.frz _ (.tup ys)) from ⟨Heap.get?_push_size _ rfl, hz, its, r', IsTup.new _ _⟩)
    exact ⟨.ref h'.objs.size, _, I2, rfl, q _ _ (I1.hok.fresh (Nat.le_refl _)) rfl⟩
  · obtain ⟨its, r', pl, hz⟩ := I.tuple hq
    exact call_tuple_same pl ⟨.ref p, H, I, rfl, q⟩
theorem call_divmodX : CallR X (.builtin "divmod") (fun xs H Q => ∃ i j, xs = [.int i, .int j] ∧ CDiv i j ∧ NewT H [.int (i / j), .int (i % j)] Q) := by
  intro pins s σ H xs us Q I r h
  obtain ⟨i, j, rfl, ⟨h1, h2⟩, q⟩ := h
  obtain ⟨u, w', rfl, ⟨t, rfl⟩, ⟨t', rfl⟩⟩ := vals2 r
  refine divmod_int (by omega) ?_ (.inl (PyProof.noPylong_small (by omega)))
  rw [Int.fdiv_eq_ediv_of_nonneg i (by omega), Int.fmod_eq_emod_of_nonneg i (by omega)]
  have hn : H s.heap.objs.size = none := I.hok.fresh (Nat.le_refl _)
  refine ⟨.ref s.heap.objs.size, upd H s.heap.objs.size (.frz { cls := .type "tuple", data := .seq #[.int (i / j) s.toks, .int (i % j) (s.toks + 1)] } (.tup [.int (i / j), .int (i % j)])), ?_, rfl, q _ _ hn rfl⟩
  refine I.laid (fun b o e => Heap.get?_push_of_some _ e) (Nat.le_refl _) ⟨Heap.get?_push_size s.heap rfl, by simp only [List.length_cons, List.length_nil]; rw [sizeLine_eq]; decide, [.int (i / j) s.toks, .int (i % j) (s.toks + 1)], .cons ⟨_, rfl⟩ (.cons ⟨_, rfl⟩ .nil), ?_⟩
  exact ⟨_, Heap.get?_push_size s.heap rfl, rfl, 0, rfl⟩
def tTupRgX (te : L2.St → Hp → (Int → Int → Hp → Prop) → Prop) : TE := fun σ H Q => te σ H fun a b H1 => RgOk a b ∧ NewT H1 (rgV a b) Q
theorem pe_tupRgX {te : L2.St → Hp → (Int → Int → Hp → Prop) → Prop} {p pos : Pos} (hc : X.calm = true) (hg : Gl X "tuple") (hm : X.mg "tuple" = none) (he : PRg X e te) (na : starEach [e] X.env = (false, eval e X.env) :: starEach [] X.env := by rfl) : PE X (.Call (.Name "tuple" p) [e] [] pos) (tTupRgX te) := by
  refine ⟨fun pins s σ H Q I h => ?_⟩
  refine Call_ (ld_blt I hg hm boot_tuple (PyProof.Rows.callWith_type1 (args_cons (thn (he pins s σ H _ I h) fun x s1 ⟨r, a, b, t, u, v, H1, ex, hr, I1, ok, q⟩ => args_nil ?_) na) na))
  subst ex
  obtain ⟨b1, b2, b3, b4, b5⟩ := ok
  refine call_tuple_range (n := (b - a).toNat) (I1.ok.hd hc) hr (small_one b1 b2 b3 b4) (rangeSize_nat a b) b5 fun h' tk acc hk hi => ?_
  have I2 : Inv X pins σ H1 { s1 with heap := h', toks := tk } := I1.kept hk
  refine ⟨.ref h'.objs.size, upd H1 h'.objs.size (.frz { cls := .type "tuple", data := .seq acc } (.tup (rgV a b))), ?_, rfl, q _ _ (I2.hok.fresh (Nat.le_refl _)) rfl⟩
  refine I2.laid (t' := tk) (fun c o e => Heap.get?_push_of_some _ e) (Nat.le_refl _) (show ObjOk X.prog X.w _ _ _ (.frz _ (.tup (rgV a b))) from ⟨Heap.get?_push_size _ rfl, ?_, acc.toList, vals_rg hi, ?_⟩)
  · rw [rgV_length, sizeLine_eq]; omega
  · rw [Array.toArray_toList]; exact IsTup.new _ _
end
end BR
set_option Elab.async false
set_option linter.all false
set_option maxRecDepth 100000
set_option maxHeartbeats 4000000
/-! the operators over data -/
namespace BR
open PySem PySem.Spec PyProof.Rows L2
section
variable (F : Fix)
structure Hv (κ : List Addr) (U : Addr → Prop) (H : Hp) (C : List Cell) : Prop where
  sr : Sr F κ H C
  al : ∀ a, U a → ∃ xs, H a = some (.lst xs)
/-- two values, an answer -/
def rOp (f : PyData → PyData → Option PyData) : R2 := fun x y H Q => ∃ κ U C a b z, Hv F κ U H C ∧ Rp F κ U H x a ∧ Rp F κ U H y b ∧ f a b = some z ∧ ∀ v H', Post F κ H κ H' C → Rp F κ U H' v z → Q v H'
end
section
variable {F : Fix} {κ : List Addr} {U : Addr → Prop} {H : Hp} {C : List Cell} {σ : L2.St} {δ : VEnv}
theorem Ctx.hv (c : Ctx F κ U H σ δ C) : Hv F κ U H C := ⟨c.sr, c.al⟩
theorem Hv.noU (h : Hv F κ U H C) {p : Addr} (hp : H p = none) : ¬ U p := fun q => by
  obtain ⟨o, e⟩ := h.al p q
  rw [hp] at e
  cases e
theorem Hv.newL (h : Hv F κ U H C) {p : Addr} (hp : H p = none) {xs : List V} {ds : List PyData} (r : RpAll F κ U H xs ds) : Post F κ H κ (upd H p (.lst xs)) C ∧ Rp F κ U (upd H p (.lst xs)) (.ref p) (.list ds) :=
  ⟨.new h.sr hp, .lst upd_same (h.noU hp) (h.sr.fresh hp) (r.post (.new h.sr hp))⟩
theorem Hv.newT (h : Hv F κ U H C) {p : Addr} {ob : Obj} (hp : H p = none) (hd : ob.dict = none) {xs : List V} {ds : List PyData} (r : RpAll F κ U H xs ds) : Post F κ H κ (upd H p (.frz ob (.tup xs))) C ∧ Rp F κ U (upd H p (.frz ob (.tup xs))) (.ref p) (.tuple ds) :=
  ⟨.new h.sr hp, .tup (.inl ⟨⟨ob, upd_same, hd⟩, h.sr.fresh hp⟩) (r.post (.new h.sr hp))⟩
end
theorem gd_some {α : Type} {b : Bool} {a z : α} (h : gd b a = some z) : b = true ∧ a = z := by
  unfold gd at h
  split at h
  · exact ⟨by assumption, Option.some.inj h⟩
  · cases h
theorem big_le {n : Nat} (h : n ≤ big) : n ≤ sizeLine := Nat.le_trans h (by decide)
section
variable {X : Cx}
theorem op_addD {F : Fix} (hK : F.K = X.K) : OpR X (binaryOp .Add) (rOp F addF) := by
  intro pins s σ H x y v u Q I rx ry ⟨κ, U, C, a, b, z, hv, ra, rb, e, k⟩
  cases ra with
  | int i =>
    cases rb with
    | int j => exact op_add pins s σ H _ _ v u Q I rx ry ⟨i, j, rfl, rfl, k _ _ (.refl hv.sr) (by cases e; exact .int _)⟩
    | _ => cases e
  | str p =>
    cases rb with
    | str q =>
      obtain ⟨g, rfl⟩ := gd_some e
      exact op_add_str pins s σ H _ _ v u Q I rx ry ⟨p, q, rfl, rfl, big_le (of_decide_eq_true g), k _ _ (.refl hv.sr) (.str _)⟩
    | _ => cases e
  | tup h1 r1 =>
    cases rb with
    | tup h2 r2 =>
      obtain ⟨g, rfl⟩ := gd_some e
      have g := of_decide_eq_true g
      have l1 := r1.length
      have l2 := r2.length
      refine op_catX pins s σ H _ _ v u Q I rx ry ⟨_, _, _, _, rfl, rfl, by rw [← hK]; exact sqT_of h1, by rw [← hK]; exact sqT_of h2, big_le (by omega), fun e1 => ?_, fun _ e2 => ?_, fun _ _ p ob hp hd => ?_⟩
      · subst e1
        cases r1
        exact k _ _ (.refl hv.sr) (.tup h2 r2)
      · subst e2
        cases r2
        rw [List.append_nil] at k
        exact k _ _ (.refl hv.sr) (.tup h1 r1)
      · have q := hv.newT hp hd (r1.append r2)
        exact k _ _ q.1 q.2
    | _ => cases e
  | lst h1 u1 k1 r1 =>
    cases rb with
    | lst h2 u2 k2 r2 =>
      obtain ⟨g, rfl⟩ := gd_some e
      have g := of_decide_eq_true g
      have l1 := r1.length
      have l2 := r2.length
      refine op_cat pins s σ H _ _ v u Q I rx ry ⟨_, _, _, _, rfl, rfl, h1, h2, big_le (by omega), fun p hp => ?_⟩
      have q := hv.newL hp (r1.append r2)
      exact k _ _ q.1 q.2
    | _ => cases e
  | _ => cases rb <;> cases e
theorem foldl_app (c : Array Nat) : ∀ (n : Nat) (a : Array Nat), (List.replicate n c).foldl (· ++ ·) a = a ++ ((List.replicate n c.toList).flatten).toArray
  | 0, a => by simp
  | n + 1, a => by
    rw [List.replicate_succ, List.foldl_cons, foldl_app c n (a ++ c), List.replicate_succ, List.flatten_cons]
    apply Array.toList_inj.mp
    simp
theorem mul_is {x : Str} {k : Int} (h0 : 0 ≤ k) : Txt.mul x k = ⟨((List.replicate k.toNat x.cps.toList).flatten).toArray⟩ := by
  unfold Txt.mul
  by_cases h1 : k < 1
  · have e : k = 0 := by omega
    subst e
    simp [Str.empty]
  · rw [if_neg h1]
    by_cases h2 : (k == 1 || x.length == 0) = true
    · rw [if_pos h2]
      rcases Bool.or_eq_true_iff.mp h2 with h3 | h3
      · have e : k = 1 := by simpa using h3
        subst e
        simp
      · have e : x.cps = #[] := by simpa [Str.length] using h3
        obtain ⟨c⟩ := x
        simp only at e
        subst e
        simp
    · rw [if_neg h2, foldl_app]
      simp
theorem op_mulD {F : Fix} : OpR X (binaryOp .Mult) (rOp F mulF) := by
  intro pins s σ H x y v u Q I rx ry ⟨κ, U, C, a, b, z, hv, ra, rb, e, k⟩
  cases ra with
  | int i =>
    cases rb with
    | int j =>
      obtain ⟨g, rfl⟩ := gd_some e
      refine op_mul pins s σ H _ _ v u Q I rx ry ⟨i, j, rfl, rfl, ?_, k _ _ (.refl hv.sr) (.int _)⟩
      rcases Bool.or_eq_true_iff.mp g with g | g
      · have g := of_decide_eq_true g
        exact .inl (by omega)
      · have g := of_decide_eq_true g
        exact .inr (by omega)
    | _ => cases e
  | str p =>
    cases rb with
    | int j =>
      obtain ⟨g, rfl⟩ := gd_some e
      simp only [Bool.and_eq_true, decide_eq_true_eq] at g
      obtain ⟨⟨g0, g1⟩, g2⟩ := g
      obtain ⟨t, rfl⟩ := rx
      obtain ⟨t', rfl⟩ := ry
      refine SB.mul ⟨by simp only [Bool.or_eq_false_iff, decide_eq_false_iff_not]; omega, fun h1 _ => ?_, fun h1 _ => ?_⟩ fun tk n => ?_
      · have h2 : (1000 : Int) ≤ (2 ^ 63 - 1) / j := by
          refine Int.le_ediv_of_mul_le (by omega) ?_
          omega
        omega
      · have h3 : p.length * j.toNat ≤ 1000 * 1000 := Nat.mul_le_mul g2 (by omega)
        exact decide_eq_false (by rw [sizeLine_eq]; omega)
      · rw [mul_is g0]
        exact ⟨.str _, H, I.tok _, ⟨_, rfl⟩, k _ _ (.refl hv.sr) (.str _)⟩
    | _ => cases e
  | lst h1 u1 k1 r1 =>
    cases rb with
    | int j =>
      obtain ⟨g, rfl⟩ := gd_some e
      simp only [Bool.and_eq_true, decide_eq_true_eq] at g
      obtain ⟨⟨g0, g1⟩, g2⟩ := g
      have l1 := r1.length
      have h3 : ∀ n, n ≤ 1000 → n * j.toNat ≤ 1000 * 1000 := fun n hn => Nat.mul_le_mul hn (by omega)
      refine op_rep pins s σ H _ _ v u Q I rx ry ⟨_, j, _, rfl, rfl, h1, by omega, by omega, big_le (Nat.le_trans (h3 _ (by omega)) (by decide)), fun p hp => ?_⟩
      have rep : ∀ n : Nat, RpAll F κ U H (List.replicate n _).flatten (List.replicate n _).flatten := fun n => by
        induction n with
        | zero => exact .nil
        | succ n ih =>
          rw [List.replicate_succ, List.replicate_succ, List.flatten_cons, List.flatten_cons]
          exact r1.append ih
      have q := hv.newL hp (rep j.toNat)
      exact k _ _ q.1 q.2
    | _ => cases e
  | _ => cases rb <;> cases e
theorem op_binD {F : Fix} (hK : F.K = X.K) (op : Operator) : OpR X (binaryOp op) (rOp F (binF op)) := by
  cases op with
  | Add => exact op_addD hK
  | Mult => exact op_mulD
  | Sub =>
    intro pins s σ H x y v u Q I rx ry ⟨κ, U, C, a, b, z, hv, ra, rb, e, k⟩
    cases ra <;> cases rb <;> cases e
    exact op_sub pins s σ H _ _ v u Q I rx ry ⟨_, _, rfl, rfl, k _ _ (.refl hv.sr) (.int _)⟩
  | FloorDiv =>
    intro pins s σ H x y v u Q I rx ry ⟨κ, U, C, a, b, z, hv, ra, rb, e, k⟩
    cases ra <;> cases rb <;> first | (cases e; done) | skip
    obtain ⟨g, rfl⟩ := gd_some e
    simp only [Bool.and_eq_true, decide_eq_true_eq] at g
    exact op_fdiv pins s σ H _ _ v u Q I rx ry ⟨_, _, rfl, rfl, ⟨g.1, by omega⟩, k _ _ (.refl hv.sr) (.int _)⟩
  | Mod =>
    intro pins s σ H x y v u Q I rx ry ⟨κ, U, C, a, b, z, hv, ra, rb, e, k⟩
    cases ra <;> cases rb <;> first | (cases e; done) | skip
    obtain ⟨g, rfl⟩ := gd_some e
    exact op_mod pins s σ H _ _ v u Q I rx ry ⟨_, _, rfl, rfl, of_decide_eq_true g, k _ _ (.refl hv.sr) (.int _)⟩
  | Pow =>
    intro pins s σ H x y v u Q I rx ry ⟨κ, U, C, a, b, z, hv, ra, rb, e, k⟩
    cases ra <;> cases rb <;> first | (cases e; done) | skip
    obtain ⟨g, rfl⟩ := gd_some e
    simp only [Bool.and_eq_true, decide_eq_true_eq] at g
    exact op_pow pins s σ H _ _ v u Q I rx ry ⟨_, _, rfl, rfl, ⟨g.1.1, by omega, by omega⟩, k _ _ (.refl hv.sr) (.int _)⟩
  | _ =>
    intro pins s σ H x y v u Q I rx ry ⟨κ, U, C, a, b, z, hv, ra, rb, e, k⟩
    cases e
/-! ### comparisons -/
def rCmp (F : Fix) (op : CmpOp) : R2 := fun x y H Q => ∃ κ U C a b z, Hv F κ U H C ∧ Rp F κ U H x a ∧ Rp F κ U H y b ∧ cmpF op a b = some z ∧ Q (.bl z) H
theorem Rp.reads {F : Fix} {κ : List Addr} {U : Addr → Prop} {pins : List (Addr × Obj)} {s : Shared} {σ : L2.St} {H : Hp} {x : V} {u : Value} {d : PyData} (hK : F.K = X.K) (I : Inv X pins σ H s) (h : Rp F κ U H x d) (hs : shp d = true) (r : RelV x u) :
    ∃ as, Reads s.heap u d as := Dp.reads I d x u (hK ▸ h.dpS hs) r
theorem op_inF {F : Fix} (hK : F.K = X.K) (hu : X.A.units + 66 < cLine) (neg : Bool) : OpR X (compareOp (if neg then .NotIn else .In)) (fun x y H Q => ∃ κ U C a b z, Hv F κ U H C ∧ Rp F κ U H x a ∧ Rp F κ U H y b ∧ inF a b = some z ∧ Q (.bl (if neg then !z else z)) H) := by
  intro pins s σ H x y v u Q I rx ry ⟨κ, U, C, a, b, z, hv, ra, rb, e, k⟩
  cases b with
  | list xs =>
    obtain ⟨g, rfl⟩ := gd_some e
    rw [Bool.and_eq_true] at g
    obtain ⟨as, r1⟩ := ra.reads hK I g.1 rx
    obtain ⟨bs, r2⟩ := rb.reads hK I g.2 ry
    have d1 := SeqAt.depth_of_shaped g.1
    have hm := Nat.min_le_right (PyData.depthAll xs) a.depth
    cases neg with
    | false => exact SeqAt.in_list_reads r2 r1 (SeqAt.canLay_of_shaped g.2) (SeqAt.canLay_of_shaped g.1) (by omega) ⟨.bl _, H, I, rfl, k⟩
    | true => exact SeqAt.notIn_list_reads r2 r1 (SeqAt.canLay_of_shaped g.2) (SeqAt.canLay_of_shaped g.1) (by omega) ⟨.bl _, H, I, rfl, k⟩
  | tuple xs =>
    obtain ⟨g, rfl⟩ := gd_some e
    rw [Bool.and_eq_true] at g
    obtain ⟨as, r1⟩ := ra.reads hK I g.1 rx
    obtain ⟨bs, r2⟩ := rb.reads hK I g.2 ry
    have d1 := SeqAt.depth_of_shaped g.1
    have hm := Nat.min_le_right (PyData.depthAll xs) a.depth
    cases neg with
    | false => exact SeqAt.in_tuple_reads r2 r1 (SeqAt.canLay_of_shaped g.2) (SeqAt.canLay_of_shaped g.1) (by omega) ⟨.bl _, H, I, rfl, k⟩
    | true => exact SeqAt.notIn_tuple_reads r2 r1 (SeqAt.canLay_of_shaped g.2) (SeqAt.canLay_of_shaped g.1) (by omega) ⟨.bl _, H, I, rfl, k⟩
  | str q =>
    cases ra with
    | str p =>
      cases rb
      have e' : (match p.cps.toList with | [c] => some (decide (c ∈ q.cps.toList)) | _ => none) = some z := e
      split at e'
      · rename_i c hc
        obtain ⟨cs⟩ := p
        have e2 : cs = #[c] := Array.toList_inj.mp (by simpa using hc)
        subst e2
        cases e'
        cases neg with
        | false => exact op_in_sign pins s σ H _ _ v u Q I rx ry ⟨c, q, rfl, rfl, k⟩
        | true => exact op_notIn_sign pins s σ H _ _ v u Q I rx ry ⟨c, q, rfl, rfl, k⟩
      · cases e'
    | _ => cases e
  | _ => cases e
theorem op_cmpD {F : Fix} (hK : F.K = X.K) (hu : X.A.units + 66 < cLine) (op : CmpOp) : OpR X (compareOp op) (rCmp F op) := by
  cases op with
  | Eq =>
    intro pins s σ H x y v u Q I rx ry ⟨κ, U, C, a, b, z, hv, ra, rb, e, k⟩
    obtain ⟨g, rfl⟩ := gd_some e
    rw [Bool.and_eq_true] at g
    exact op_eqD (by omega) pins s σ H _ _ v u Q I rx ry ⟨a, b, hK ▸ ra.dpS g.1, hK ▸ rb.dpS g.2, g.1, g.2, k⟩
  | NotEq =>
    intro pins s σ H x y v u Q I rx ry ⟨κ, U, C, a, b, z, hv, ra, rb, e, k⟩
    obtain ⟨g, rfl⟩ := gd_some e
    rw [Bool.and_eq_true] at g
    exact op_neD (by omega) pins s σ H _ _ v u Q I rx ry ⟨a, b, hK ▸ ra.dpS g.1, hK ▸ rb.dpS g.2, g.1, g.2, k⟩
  | Lt =>
    intro pins s σ H x y v u Q I rx ry ⟨κ, U, C, a, b, z, hv, ra, rb, e, k⟩
    obtain ⟨g, rfl⟩ := gd_some e
    simp only [Bool.and_eq_true] at g
    obtain ⟨⟨⟨g0, g1⟩, g2⟩, g3⟩ := g
    obtain ⟨as, r1⟩ := ra.reads hK I g1 rx
    obtain ⟨bs, r2⟩ := rb.reads hK I g2 ry
    have d1 := SeqAt.depth_of_shaped g1
    have hm := Nat.min_le_left a.depth b.depth
    exact PySem.W.rcLt_alike a b X.A s v u as bs r1 r2 g0 (fun z => by subst z; cases g3) (by omega) _ _ _ _ ⟨.bl _, H, I, rfl, k⟩
  | Gt =>
    intro pins s σ H x y v u Q I rx ry ⟨κ, U, C, a, b, z, hv, ra, rb, e, k⟩
    cases ra <;> cases rb <;> cases e
    · exact op_gt pins s σ H _ _ v u Q I rx ry ⟨_, _, rfl, rfl, k⟩
    · exact op_gt_str pins s σ H _ _ v u Q I rx ry ⟨_, _, rfl, rfl, k⟩
  | LtE =>
    intro pins s σ H x y v u Q I rx ry ⟨κ, U, C, a, b, z, hv, ra, rb, e, k⟩
    cases ra <;> cases rb <;> cases e
    exact op_le pins s σ H _ _ v u Q I rx ry ⟨_, _, rfl, rfl, k⟩
  | GtE =>
    intro pins s σ H x y v u Q I rx ry ⟨κ, U, C, a, b, z, hv, ra, rb, e, k⟩
    cases ra <;> cases rb <;> cases e
    exact op_ge pins s σ H _ _ v u Q I rx ry ⟨_, _, rfl, rfl, k⟩
  | Is =>
    intro pins s σ H x y v u Q I rx ry ⟨κ, U, C, a, b, z, hv, ra, rb, e, k⟩
    obtain ⟨g, rfl⟩ := gd_some e
    cases rb <;> first | (cases g; done) | skip
    refine op_isN pins s σ H _ _ v u Q I rx ry ⟨rfl, ?_⟩
    cases ra <;> exact k
  | IsNot =>
    intro pins s σ H x y v u Q I rx ry ⟨κ, U, C, a, b, z, hv, ra, rb, e, k⟩
    obtain ⟨g, rfl⟩ := gd_some e
    cases rb <;> first | (cases g; done) | skip
    refine op_notN pins s σ H _ _ v u Q I rx ry ⟨rfl, ?_⟩
    cases ra <;> exact k
  | In =>
    intro pins s σ H x y v u Q I rx ry ⟨κ, U, C, a, b, z, hv, ra, rb, e, k⟩
    exact op_inF hK hu false pins s σ H x y v u Q I rx ry ⟨κ, U, C, a, b, z, hv, ra, rb, e, k⟩
  | NotIn =>
    intro pins s σ H x y v u Q I rx ry ⟨κ, U, C, a, b, z, hv, ra, rb, e, k⟩
    have e' : (inF a b).map (!·) = some z := e
    cases hi : inF a b with
    | none => rw [hi] at e'; cases e'
    | some w =>
      rw [hi] at e'
      cases e'
      exact op_inF hK hu true pins s σ H x y v u Q I rx ry ⟨κ, U, C, a, b, w, hv, ra, rb, hi, k⟩
/-! ### subscripts, slices -/
theorem atI_map {α β : Type} (f : α → β) (xs : List α) (i : Int) : atI (xs.map f) i = (atI xs i).map f := by
  unfold atI
  rw [List.length_map]
  cases ixN xs.length i with
  | none => rfl
  | some j => simp
theorem RpAll.atI {F : Fix} {κ : List Addr} {U : Addr → Prop} {H : Hp} {vs : List V} {ds : List PyData} {i : Int} {d : PyData} (h : RpAll F κ U H vs ds) (e : L2.atI ds i = some d) : ∃ v, L2.atI vs i = some v ∧ Rp F κ U H v d := by
  unfold L2.atI at e ⊢
  rw [h.length]
  cases hj : ixN ds.length i with
  | none => rw [hj] at e; cases e
  | some j =>
    rw [hj] at e
    exact h.get (i := j) e
theorem cellOf_some {C : List Cell} {d : PyData} {k : Nat} {c : Cell} (h : cellOf C d = some (k, c)) : d = hcell k ∧ C[k]? = some c := by
  unfold cellOf at h
  split at h
  · rename_i j
    split at h
    · rename_i hj
      cases e : C[j.toNat]? with
      | none => rw [e] at h; cases h
      | some c' =>
        rw [e] at h
        cases h
        refine ⟨?_, e⟩
        show PyData.dict [(.none, .int j)] = .dict [(.none, .int (j.toNat : Int))]
        rw [Int.toNat_of_nonneg hj]
    · cases h
  · cases h
/-- a subscript, of cells too -/
def rIx (F : Fix) : R2 := fun x y H Q => ∃ κ U C a b z, Hv F κ U H C ∧ Rp F κ U H x a ∧ Rp F κ U H y b ∧ idxC C a b = some z ∧ ∀ v H', Post F κ H κ H' C → Rp F κ U H' v z → Q v H'
theorem Hv.cell {F : Fix} {κ : List Addr} {U : Addr → Prop} {H : Hp} {C : List Cell} {x : V} {k : Nat} {c : Cell} (h : Hv F κ U H C) (hx : Rp F κ U H x (hcell k)) (hc : C[k]? = some c) :
    ∃ a, x = .ref a ∧ κ[k]? = some a ∧ CellOk F κ H a c := by
  cases hx with
  | cell e =>
    exact ⟨_, rfl, e, h.sr.cell k _ c e hc⟩
theorem ix_D {F : Fix} (hK : F.K = X.K) : IxR X (rIx F) := by
  intro ve se pins s σ H x y v u Q I rx ry ⟨κ, U, C, a, b, z, hv, ra, rb, e, k⟩ hs
  unfold idxC at e
  split at e
  · rename_i kk xs hc
    obtain ⟨rfl, hC⟩ := cellOf_some hc
    obtain ⟨p, rfl, hk, hfl, vs, hp, hvs⟩ := hv.cell ra hC
    cases rb with
    | int i =>
      obtain ⟨w, q, r⟩ := hvs.atI e
      have hz : flat z = true := by
        have hm : z ∈ xs := by
          have e' : L2.atI xs i = some z := e
          unfold L2.atI at e'
          cases hj : ixN xs.length i with
          | none => rw [hj] at e'; cases e'
          | some j => rw [hj] at e'; exact List.mem_of_getElem? (i := j) e'
        have : ∀ l : List PyData, flats l = true → z ∈ l → flat z = true := by
          intro l
          induction l with
          | nil => intro _ h; cases h
          | cons y r ih =>
            intro h hm
            rw [flats, Bool.and_eq_true] at h
            rcases List.mem_cons.mp hm with rfl | hm
            · exact h.1
            · exact ih h.2 hm
        exact this xs hfl hm
      exact ix_list ve se pins s σ H _ _ v u Q I rx ry ⟨_, _, _, _, rfl, rfl, .of hp, q, k _ _ (.refl hv.sr) (r.flat hz)⟩ hs
    | _ => cases e
  · cases e
  · cases e
  · cases rb with
    | int i =>
      cases ra with
      | lst h1 h2 h3 h4 =>
        obtain ⟨w, q, r⟩ := h4.atI e
        exact ix_list ve se pins s σ H _ _ v u Q I rx ry ⟨_, _, _, _, rfl, rfl, .of h1, q, k _ _ (.refl hv.sr) r⟩ hs
      | tup h1 h4 =>
        obtain ⟨w, q, r⟩ := h4.atI e
        exact ix_tup ve se pins s σ H _ _ v u Q I rx ry ⟨_, _, _, _, rfl, rfl, hK ▸ sqT_of h1, q, k _ _ (.refl hv.sr) r⟩ hs
      | scr h1 h4 =>
        obtain ⟨w, q, r⟩ := h4.atI e
        exact ix_list ve se pins s σ H _ _ v u Q I rx ry ⟨_, _, _, _, rfl, rfl, hK ▸ sqL_of h1, q, k _ _ (.refl hv.sr) r⟩ hs
      | str p =>
        have e' : (if p.length ≤ big then (L2.atI p.cps.toList i).map fun c => PyData.str ⟨#[c]⟩ else none) = some z := e
        split at e'
        · rename_i hp
          cases hc : L2.atI p.cps.toList i with
          | none => rw [hc] at e'; cases e'
          | some c =>
            rw [hc] at e'
            cases e'
            exact ix_str ve se pins s σ H _ _ v u Q I rx ry ⟨_, _, _, rfl, rfl, big_le hp, hc, k _ _ (.refl hv.sr) (.str _)⟩ hs
        · cases e'
      | _ => cases e
    | _ => cases e
def rSl (F : Fix) : V → Option Int → Option Int → Hp → VK → Prop := fun x lo hi H Q => ∃ κ U C a z, Hv F κ U H C ∧ Rp F κ U H x a ∧ slF a lo hi = some z ∧ ∀ v H', Post F κ H κ H' C → Rp F κ U H' v z → Q v H'
theorem RpAll.cut {F : Fix} {κ : List Addr} {U : Addr → Prop} {H : Hp} {vs : List V} {ds : List PyData} {lo hi : Option Int} (h : RpAll F κ U H vs ds) : RpAll F κ U H (cutV vs lo hi) (cutL ds lo hi) := by
  unfold cutV cutL
  rw [h.length]
  exact (h.drop _).take _
theorem sl_D {F : Fix} (hK : F.K = X.K) : SlR X (rSl F) := by
  intro pins s σ H x v vl vu lo hi sl Q I rx hs pl pu ⟨κ, U, C, a, z, hv, ra, e, k⟩
  cases ra with
  | lst h1 h2 h3 h4 =>
    cases e
    refine sl_list pins s σ H _ v vl vu lo hi sl Q I rx hs pl pu ⟨_, _, rfl, .of h1, fun p hp => ?_⟩
    have q := hv.newL hp (h4.cut (lo := lo) (hi := hi))
    exact k _ _ q.1 q.2
  | scr h1 h4 =>
    cases e
    refine sl_list pins s σ H _ v vl vu lo hi sl Q I rx hs pl pu ⟨_, _, rfl, hK ▸ sqL_of h1, fun p hp => ?_⟩
    have q := hv.newL hp (h4.cut (lo := lo) (hi := hi))
    exact k _ _ q.1 q.2
  | tup h1 h4 =>
    cases e
    refine sl_tupX pins s σ H _ v vl vu lo hi sl Q I rx hs pl pu ⟨_, _, rfl, hK ▸ sqT_of h1, fun hw => ?_, fun _ p ob hp hd => ?_⟩
    · refine k _ _ (.refl hv.sr) (.tup h1 ?_)
      have hl := h4.length
      have : ∀ ds : List PyData, _ = ds.length → cutL ds lo hi = ds := fun ds hd => by
        unfold cutL
        rw [← hd, hw.1, hw.2, List.drop_zero, Nat.sub_zero]
        exact List.take_of_length_le (Nat.le_of_eq hd.symm)
      rw [this _ hl]
      exact h4
    · have q := hv.newT hp hd (h4.cut (lo := lo) (hi := hi))
      exact k _ _ q.1 q.2
  | str p =>
    have e' : (if p.length ≤ big then some (PyData.str ⟨(cutL p.cps.toList lo hi).toArray⟩) else none) = some z := e
    split at e'
    · rename_i hp
      cases e'
      refine sl_str pins s σ H _ v vl vu lo hi sl Q I rx hs pl pu ⟨p, rfl, big_le hp, k _ _ (.refl hv.sr) ?_⟩
      have : cutS p lo hi = ⟨(cutL p.cps.toList lo hi).toArray⟩ := by
        unfold cutS cutL
        rw [show p.length = p.cps.toList.length by simp [Str.length]]
      rw [this]
      exact .str _
    · cases e'
  | _ => cases e
end
end BR
set_option Elab.async false
set_option linter.all false
set_option maxRecDepth 100000
set_option maxHeartbeats 4000000
/-! the built-ins over data -/
namespace BR
open PySem PySem.Spec PyProof.Rows L2
def rBi (F : Fix) (f : List Cell → List PyData → Option PyData) : List V → Hp → VK → Prop := fun vs H Q =>
  ∃ κ U C ds z, Hv F κ U H C ∧ RpAll F κ U H vs ds ∧ f C ds = some z ∧ ∀ v H', Post F κ H κ H' C → Rp F κ U H' v z → Q v H'
section
variable {F : Fix} {κ : List Addr} {U : Addr → Prop} {H : Hp} {C : List Cell}
theorem RpAll.ints : ∀ {ds : List PyData} {vs : List V} {ns : List Int}, RpAll F κ U H vs ds → intsOf ds = some ns → vs = ns.map V.int ∧ ds = ns.map PyData.int
  | _, _, _, .nil, e => by cases e; exact ⟨rfl, rfl⟩
  | d :: r, _, ns, .cons h t, e => by
    cases h with
    | int i =>
      have e' : (intsOf r).map (i :: ·) = some ns := e
      cases hr : intsOf r with
      | none => rw [hr] at e'; cases e'
      | some ms =>
        rw [hr] at e'
        cases e'
        obtain ⟨h1, h2⟩ := t.ints hr
        subst h1 h2
        exact ⟨rfl, rfl⟩
    | _ => cases e
theorem RpAll.bools : ∀ {ds : List PyData} {vs : List V} {ns : List Bool}, RpAll F κ U H vs ds → boolsOf ds = some ns → vs = ns.map V.bl
  | _, _, _, .nil, e => by cases e; rfl
  | d :: r, _, ns, .cons h t, e => by
    cases h with
    | bl i =>
      have e' : (boolsOf r).map (i :: ·) = some ns := e
      cases hr : boolsOf r with
      | none => rw [hr] at e'; cases e'
      | some ms =>
        rw [hr] at e'
        cases e'
        have h1 := t.bools hr
        subst h1
        rfl
    | _ => cases e
theorem RpAll.strs : ∀ {ds : List PyData} {vs : List V} {ns : List Str}, RpAll F κ U H vs ds → strsOf ds = some ns → vs = ns.map V.str ∧ ds = ns.map PyData.str
  | _, _, _, .nil, e => by cases e; exact ⟨rfl, rfl⟩
  | d :: r, _, ns, .cons h t, e => by
    cases h with
    | str i =>
      have e' : (strsOf r).map (i :: ·) = some ns := e
      cases hr : strsOf r with
      | none => rw [hr] at e'; cases e'
      | some ms =>
        rw [hr] at e'
        cases e'
        obtain ⟨h1, h2⟩ := t.strs hr
        subst h1 h2
        exact ⟨rfl, rfl⟩
    | _ => cases e
theorem noDicts {xs : List PyData} (h : xs.all shp = true) : PyData.hasDictAll xs = false := by
  induction xs with
  | nil => rw [PyData.hasDictAll]
  | cons x r ih =>
    rw [List.all_cons, Bool.and_eq_true] at h
    rw [PyData.hasDictAll, shp_noDict h.1, ih h.2]
    rfl
theorem depths {xs : List PyData} (h : xs.all shp = true) : PyData.depthAll xs ≤ 64 := by
  induction xs with
  | nil => rw [PyData.depthAll]; exact Nat.zero_le _
  | cons x r ih =>
    rw [List.all_cons, Bool.and_eq_true] at h
    rw [PyData.depthAll]
    exact Nat.max_le.mpr ⟨SeqAt.depth_of_shaped h.1, ih h.2⟩
theorem ord_shp {xs : List PyData} (h : ordAll xs = true) : xs.all shp = true := by
  rw [List.all_eq_true]
  intro x hx
  have q := List.all_eq_true.mp h x hx
  simp only [Bool.and_eq_true] at q
  exact q.1.1
theorem ord_alike {xs : List PyData} (h : ordAll xs = true) : W.AlikeAll xs := by
  refine ⟨fun x hx y hy => ?_, fun x hx z => ?_⟩
  · have q := List.all_eq_true.mp h x hx
    simp only [Bool.and_eq_true] at q
    exact List.all_eq_true.mp q.2 y hy
  · subst z
    have q := List.all_eq_true.mp h _ hx
    simp only [Bool.and_eq_true] at q
    exact absurd q.1.2 (by simp [noneOr])
end
theorem of_itemsOf {d : PyData} {xs : List PyData} (h : itemsOf d = some xs) : d = .list xs ∨ d = .tuple xs := by
  unfold itemsOf at h
  split at h
  · cases h; exact .inl rfl
  · cases h; exact .inr rfl
  · cases h
theorem maxD_mem : ∀ (x : PyData) (xs : List PyData), W.maxD x xs ∈ x :: xs
  | x, [] => List.mem_cons_self
  | x, y :: r => by
    have h := maxD_mem (if W.dataLt x y then y else x) r
    show W.maxD (if W.dataLt x y then y else x) r ∈ x :: y :: r
    rcases List.mem_cons.mp h with h | h
    · rw [h]
      split
      · exact List.mem_cons_of_mem _ List.mem_cons_self
      · exact List.mem_cons_self
    · exact List.mem_cons_of_mem _ (List.mem_cons_of_mem _ h)
theorem minD_mem : ∀ (x : PyData) (xs : List PyData), W.minD x xs ∈ x :: xs
  | x, [] => List.mem_cons_self
  | x, y :: r => by
    have h := minD_mem (if W.dataLt y x then y else x) r
    show W.minD (if W.dataLt y x then y else x) r ∈ x :: y :: r
    rcases List.mem_cons.mp h with h | h
    · rw [h]
      split
      · exact List.mem_cons_of_mem _ List.mem_cons_self
      · exact List.mem_cons_self
    · exact List.mem_cons_of_mem _ (List.mem_cons_of_mem _ h)
section
variable {X : Cx} {F : Fix}
/-- one argument -/
theorem one_arg {κ : List Addr} {U : Addr → Prop} {H : Hp} {vs : List V} {d : PyData} (h : RpAll F κ U H vs [d]) : ∃ v, vs = [v] ∧ Rp F κ U H v d := by
  cases h with
  | cons h t => cases t; exact ⟨_, rfl, h⟩
theorem two_arg {κ : List Addr} {U : Addr → Prop} {H : Hp} {vs : List V} {d e : PyData} (h : RpAll F κ U H vs [d, e]) : ∃ v w, vs = [v, w] ∧ Rp F κ U H v d ∧ Rp F κ U H w e := by
  cases h with
  | cons h t =>
    cases t with
    | cons h' t => cases t; exact ⟨_, _, rfl, h, h'⟩
theorem bi_len (hK : F.K = X.K) : CallR X (.builtin "len") (rBi F fun C ds => lenC C .len ds) := by
  intro pins s σ H vs us Q I r ⟨κ, U, C, ds, z, hv, rs, e, k⟩
  match ds, e with
  | [d], e =>
      obtain ⟨v, rfl, ra⟩ := one_arg rs
      have e' : (match cellOf C d with
        | some (_, .lst xs) => some (PyData.int xs.length)
        | some _ => none
        | none => biF .len [d]) = some z := e
      split at e'
      · rename_i kk xs hc
        obtain ⟨rfl, hC⟩ := cellOf_some hc
        obtain ⟨p, rfl, hk, hfl, ws, hp, hws⟩ := hv.cell ra hC
        cases e'
        rw [← hws.length] at k
        exact call_len_seq pins s σ H _ us Q I r ⟨p, ws, rfl, .inl (.of hp), k _ _ (.refl hv.sr) (.int _)⟩
      · cases e'
      · cases ra with
        | lst h1 h2 h3 h4 =>
          cases e'
          rw [← h4.length] at k
          exact call_len_seq pins s σ H _ us Q I r ⟨_, _, rfl, .inl (.of h1), k _ _ (.refl hv.sr) (.int _)⟩
        | tup h1 h4 =>
          cases e'
          rw [← h4.length] at k
          exact call_len_seq pins s σ H _ us Q I r ⟨_, _, rfl, .inr (hK ▸ sqT_of h1), k _ _ (.refl hv.sr) (.int _)⟩
        | scr h1 h4 =>
          cases e'
          rw [← h4.length] at k
          exact call_len_seq pins s σ H _ us Q I r ⟨_, _, rfl, .inl (hK ▸ sqL_of h1), k _ _ (.refl hv.sr) (.int _)⟩
        | str p =>
          have e2 : (if p.length ≤ big then some (PyData.int p.length) else none) = some z := e'
          split at e2
          · rename_i hp
            cases e2
            exact call_len_str pins s σ H _ us Q I r ⟨p, rfl, big_le hp, k _ _ (.refl hv.sr) (.int _)⟩
          · cases e2
        | _ => cases e'
theorem bi_sum (hc : X.calm = true) : CallR X (.builtin "sum") (rBi F fun _ ds => biF .sum ds) := by
  intro pins s σ H vs us Q I r ⟨κ, U, C, ds, z, hv, rs, e, k⟩
  match ds, e with
  | [.list xs], e =>
    obtain ⟨v, rfl, ra⟩ := one_arg rs
    cases ra with
    | lst h1 h2 h3 h4 =>
      have e' : (intsOf xs).map (fun ns => PyData.int ns.sum) = some z := e
      cases hn : intsOf xs with
      | none => rw [hn] at e'; cases e'
      | some ns =>
        rw [hn] at e'
        cases e'
        obtain ⟨q, _⟩ := h4.ints hn
        subst q
        exact cr_sum hc pins s σ H _ us Q I r ⟨_, ns, rfl, .of h1, k _ _ (.refl hv.sr) (.int _)⟩
theorem bi_all (hc : X.calm = true) : CallR X (.builtin "all") (rBi F fun _ ds => biF .all ds) := by
  intro pins s σ H vs us Q I r ⟨κ, U, C, ds, z, hv, rs, e, k⟩
  match ds, e with
  | [.list xs], e =>
    obtain ⟨v, rfl, ra⟩ := one_arg rs
    cases ra with
    | lst h1 h2 h3 h4 =>
      have e' : (boolsOf xs).map (fun ns => PyData.bool (ns.all id)) = some z := e
      cases hn : boolsOf xs with
      | none => rw [hn] at e'; cases e'
      | some ns =>
        rw [hn] at e'
        cases e'
        have q := h4.bools hn
        subst q
        exact cr_all hc pins s σ H _ us Q I r ⟨_, ns, rfl, .of h1, k _ _ (.refl hv.sr) (.bl _)⟩
theorem bi_any (hc : X.calm = true) : CallR X (.builtin "any") (rBi F fun _ ds => biF .any ds) := by
  intro pins s σ H vs us Q I r ⟨κ, U, C, ds, z, hv, rs, e, k⟩
  match ds, e with
  | [.list xs], e =>
    obtain ⟨v, rfl, ra⟩ := one_arg rs
    cases ra with
    | lst h1 h2 h3 h4 =>
      have e' : (boolsOf xs).map (fun ns => PyData.bool (ns.any id)) = some z := e
      cases hn : boolsOf xs with
      | none => rw [hn] at e'; cases e'
      | some ns =>
        rw [hn] at e'
        cases e'
        have q := h4.bools hn
        subst q
        exact cr_any hc pins s σ H _ us Q I r ⟨_, ns, rfl, .of h1, k _ _ (.refl hv.sr) (.bl _)⟩
theorem bi_abs : CallR X (.builtin "abs") (rBi F fun _ ds => biF .abs ds) := by
  intro pins s σ H vs us Q I r ⟨κ, U, C, ds, z, hv, rs, e, k⟩
  match ds, e with
  | [.int i], e =>
    obtain ⟨v, rfl, ra⟩ := one_arg rs
    cases ra
    cases e
    exact call_abs pins s σ H _ us Q I r ⟨i, rfl, k _ _ (.refl hv.sr) (.int _)⟩
theorem bi_max2 (hc : X.calm = true) : CallR X (.builtin "max") (rBi F fun _ ds => biF .max2 ds) := by
  intro pins s σ H vs us Q I r ⟨κ, U, C, ds, z, hv, rs, e, k⟩
  match ds, e with
  | [.int i, .int j], e =>
    obtain ⟨v, w, rfl, ra, rb⟩ := two_arg rs
    cases ra
    cases rb
    cases e
    exact call_max2 hc pins s σ H _ us Q I r ⟨i, j, rfl, k _ _ (.refl hv.sr) (.int _)⟩
theorem bi_min2 (hc : X.calm = true) : CallR X (.builtin "min") (rBi F fun _ ds => biF .min2 ds) := by
  intro pins s σ H vs us Q I r ⟨κ, U, C, ds, z, hv, rs, e, k⟩
  match ds, e with
  | [.int i, .int j], e =>
    obtain ⟨v, w, rfl, ra, rb⟩ := two_arg rs
    cases ra
    cases rb
    cases e
    exact call_min2 hc pins s σ H _ us Q I r ⟨i, j, rfl, k _ _ (.refl hv.sr) (.int _)⟩
theorem bi_divmod : CallR X (.builtin "divmod") (rBi F fun _ ds => biF .divmod ds) := by
  intro pins s σ H vs us Q I r ⟨κ, U, C, ds, z, hv, rs, e, k⟩
  match ds, e with
  | [.int i, .int j], e =>
    obtain ⟨v, w, rfl, ra, rb⟩ := two_arg rs
    cases ra
    cases rb
    obtain ⟨g, rfl⟩ := gd_some e
    simp only [Bool.and_eq_true, decide_eq_true_eq] at g
    refine call_divmodX pins s σ H _ us Q I r ⟨i, j, rfl, ⟨g.1, by omega⟩, fun p ob hp hd => ?_⟩
    have q := hv.newT hp hd (.cons (.int (i / j)) (.cons (.int (i % j)) .nil))
    exact k _ _ q.1 q.2
theorem bi_int : CallR X (.type "int") (rBi F fun _ ds => biF .int ds) := by
  intro pins s σ H vs us Q I r ⟨κ, U, C, ds, z, hv, rs, e, k⟩
  match ds, e with
  | [.int i], e =>
    obtain ⟨v, rfl, ra⟩ := one_arg rs
    cases ra
    cases e
    exact call_int1 pins s σ H _ us Q I r (.inl ⟨i, rfl, k _ _ (.refl hv.sr) (.int _)⟩)
theorem bi_str : CallR X (.type "str") (rBi F fun _ ds => biF .str ds) := by
  intro pins s σ H vs us Q I r ⟨κ, U, C, ds, z, hv, rs, e, k⟩
  match ds, e with
  | [.int i], e =>
    obtain ⟨v, rfl, ra⟩ := one_arg rs
    cases ra
    obtain ⟨g, rfl⟩ := gd_some e
    exact call_str_int pins s σ H _ us Q I r ⟨i, rfl, of_decide_eq_true g, k _ _ (.refl hv.sr) (.str _)⟩
theorem bi_tuple (hK : F.K = X.K) : CallR X (.type "tuple") (rBi F fun _ ds => biF .tuple ds) := by
  intro pins s σ H vs us Q I r ⟨κ, U, C, ds, z, hv, rs, e, k⟩
  match ds, e with
  | [d], e =>
    obtain ⟨v, rfl, ra⟩ := one_arg rs
    have e' : (itemsOf d).map PyData.tuple = some z := e
    cases hi : itemsOf d with
    | none => rw [hi] at e'; cases e'
    | some xs =>
      rw [hi] at e'
      cases e'
      rcases of_itemsOf hi with rfl | rfl
      · cases ra with
        | lst h1 h2 h3 h4 =>
          refine call_tuple_ofX pins s σ H _ us Q I r ⟨_, _, rfl, .inl ⟨.of h1, fun l ob hl hd => ?_⟩⟩
          have q := hv.newT hl hd h4
          exact k _ _ q.1 q.2
      · cases ra with
        | tup h1 h4 => exact call_tuple_of pins s σ H _ us Q I r ⟨_, _, rfl, .inr ⟨hK ▸ sqT_of h1, k _ _ (.refl hv.sr) (.tup h1 h4)⟩⟩
theorem bi_list (hK : F.K = X.K) : CallR X (.type "list") (rBi F fun _ ds => biF .list ds) := by
  intro pins s σ H vs us Q I r ⟨κ, U, C, ds, z, hv, rs, e, k⟩
  match ds, e with
  | [d], e =>
    obtain ⟨v, rfl, ra⟩ := one_arg rs
    have e' : (itemsOf d).map PyData.list = some z := e
    cases hi : itemsOf d with
    | none => rw [hi] at e'; cases e'
    | some xs =>
      rw [hi] at e'
      cases e'
      rcases of_itemsOf hi with rfl | rfl
      · cases ra with
        | lst h1 h2 h3 h4 =>
          refine call_list_of pins s σ H _ us Q I r ⟨_, _, rfl, .inl (.of h1), fun l hl => ?_⟩
          have q := hv.newL hl h4
          exact k _ _ q.1 q.2
      · cases ra with
        | tup h1 h4 =>
          refine call_list_of pins s σ H _ us Q I r ⟨_, _, rfl, .inr (hK ▸ sqT_of h1), fun l hl => ?_⟩
          have q := hv.newL hl h4
          exact k _ _ q.1 q.2
/-- the items of a list or a tuple in the model's heap -/
theorem seq_raw {pins : List (Addr × Obj)} {s : Shared} {σ : L2.St} {H : Hp} {κ : List Addr} {U : Addr → Prop} {d : PyData} {v : V} {u : Value} {xs : List PyData} (hK : F.K = X.K) (I : Inv X pins σ H s) (ra : Rp F κ U H v d) (hi : itemsOf d = some xs) (r : RelV v u) :
    ∃ (a : Addr) (vs : List V) (its : List Value), v = .ref a ∧ u = .ref a ∧ Vals vs its ∧ RpAll F κ U H vs xs ∧ vs.length ≤ sizeLine ∧ ((d = .list xs ∧ s.heap.IsList a its.toArray) ∨ (d = .tuple xs ∧ s.heap.IsTuple a its.toArray)) := by
  rcases of_itemsOf hi with rfl | rfl
  · cases ra with
    | lst h1 h2 h3 h4 =>
      obtain ⟨its, rv, hl, hz⟩ := I.list (SqL.of h1)
      exact ⟨_, _, its, rfl, r, rv, h4, hz, .inl ⟨rfl, hl.isList⟩⟩
  · cases ra with
    | tup h1 h4 =>
      obtain ⟨its, rv, hl, hz⟩ := I.tuple (hK ▸ sqT_of h1 : SqT X.K H _ _)
      exact ⟨_, _, its, rfl, r, rv, h4, hz, .inr ⟨rfl, hl⟩⟩
theorem RpAll.readsS {pins : List (Addr × Obj)} {s : Shared} {σ : L2.St} {H : Hp} {κ : List Addr} {U : Addr → Prop} {ds : List PyData} {vs : List V} {us : List Value} (hK : F.K = X.K) (I : Inv X pins σ H s) (h : RpAll F κ U H vs ds) (hs : ds.all shp = true) (r : Vals vs us) :
    ∃ as, ReadsAll s.heap us ds as := Dp.readsAll I ds vs us (hK ▸ h.dp (noDicts hs)) r
/-- an item of the list is what it was -/
theorem item_back {H : Hp} {κ : List Addr} {U : Addr → Prop} {vs : List V} {its : List Value} {xs : List PyData} {i : Nat} {u : Value} (rv : Vals vs its) (h : RpAll F κ U H vs xs) (e : its.toArray[i]? = some u) :
    ∃ v d, vs[i]? = some v ∧ xs[i]? = some d ∧ RelV v u ∧ Rp F κ U H v d := by
  have e' : its[i]? = some u := by simpa using e
  have hl := rv.length
  have hi : i < vs.length := by
    rcases Nat.lt_or_ge i vs.length with q | q
    · exact q
    · rw [List.getElem?_eq_none (by omega)] at e'
      cases e'
  have e1 := List.getElem?_eq_getElem hi
  obtain ⟨u', q, r⟩ := rv.get e1
  rw [e'] at q
  cases q
  obtain ⟨d, q2, r2⟩ := h.getV e1
  exact ⟨_, d, e1, q2, r, r2⟩
theorem bi_max1 (hK : F.K = X.K) (hc : X.calm = true) (hu : X.A.units + 66 < cLine) : CallR X (.builtin "max") (rBi F fun _ ds => biF .max1 ds) := by
  intro pins s σ H vs us Q I r ⟨κ, U, C, ds, z, hv, rs, e, k⟩
  match ds, e with
  | [d], e =>
    obtain ⟨v, rfl, ra⟩ := one_arg rs
    have e' : ((itemsOf d).bind fun xs => match xs with | [] => none | x :: r => gd (ordAll (x :: r)) (W.maxD x r)) = some z := e
    cases hi : itemsOf d with
    | none => rw [hi] at e'; cases e'
    | some xs =>
      rw [hi] at e'
      match xs, e' with
      | x :: r', e' =>
        obtain ⟨g, rfl⟩ := gd_some e'
        cases r with
        | cons r0 rt =>
          cases rt
          obtain ⟨a, ws, its, rfl, rfl, rv, rw', hz, hor⟩ := seq_raw hK I ra hi r0
          obtain ⟨as, hr⟩ := rw'.readsS hK I (ord_shp g) rv
          have hd := depths (ord_shp g)
          have fin : ∀ (i : Nat) (u : Value) (h' : Heap) (tk : Nat) (bs : List Addr), its.toArray[i]? = some u → Reads h' u (W.maxD x r') bs → (∀ b o, s.heap.get? b = some o → h'.get? b = some o) →
              EP X pins σ Q u { heap := h', gens := s.gens, drawn := s.drawn, toks := tk, os := s.os } := by
            intro i u h' tk bs hiu hrd hk
            obtain ⟨w, dd, _, hdd, hrel, hrp⟩ := item_back rv rw' hiu
            have hm : dd ∈ x :: r' := List.mem_of_getElem? hdd
            have hsd : shp dd = true := List.all_eq_true.mp (ord_shp g) dd hm
            have I' : Inv X pins σ H { heap := h', gens := s.gens, drawn := s.drawn, toks := tk, os := s.os } := I.kept hk
            obtain ⟨bs', hrd'⟩ := hrp.reads hK I' hsd hrel
            have hmm : W.maxD x r' ∈ x :: r' := maxD_mem x r'
            have : dd = W.maxD x r' := W.alike_unique dd _ u bs' bs ((ord_alike g).1 dd hm _ hmm) hrd' hrd
            exact ⟨w, H, I', hrel, k w H (.refl hv.sr) (this ▸ hrp)⟩
          rcases hor with ⟨rfl, hl⟩ | ⟨rfl, hl⟩
          · exact W.max_list_data (I.ok.hd hc) hl (by simpa using hr) (ord_alike g) (by omega) fin
          · exact W.max_tuple_data (I.ok.hd hc) hl (by simpa using hr) (ord_alike g) (by omega) fin
theorem bi_min1 (hK : F.K = X.K) (hc : X.calm = true) (hu : X.A.units + 66 < cLine) : CallR X (.builtin "min") (rBi F fun _ ds => biF .min1 ds) := by
  intro pins s σ H vs us Q I r ⟨κ, U, C, ds, z, hv, rs, e, k⟩
  match ds, e with
  | [d], e =>
    obtain ⟨v, rfl, ra⟩ := one_arg rs
    have e' : ((itemsOf d).bind fun xs => match xs with | [] => none | x :: r => gd (ordAll (x :: r)) (W.minD x r)) = some z := e
    cases hi : itemsOf d with
    | none => rw [hi] at e'; cases e'
    | some xs =>
      rw [hi] at e'
      match xs, e' with
      | x :: r', e' =>
        obtain ⟨g, rfl⟩ := gd_some e'
        cases r with
        | cons r0 rt =>
          cases rt
          obtain ⟨a, ws, its, rfl, rfl, rv, rw', hz, hor⟩ := seq_raw hK I ra hi r0
          obtain ⟨as, hr⟩ := rw'.readsS hK I (ord_shp g) rv
          have hd := depths (ord_shp g)
          have fin : ∀ (i : Nat) (u : Value) (h' : Heap) (tk : Nat) (bs : List Addr), its.toArray[i]? = some u → Reads h' u (W.minD x r') bs → (∀ b o, s.heap.get? b = some o → h'.get? b = some o) →
              EP X pins σ Q u { heap := h', gens := s.gens, drawn := s.drawn, toks := tk, os := s.os } := by
            intro i u h' tk bs hiu hrd hk
            obtain ⟨w, dd, _, hdd, hrel, hrp⟩ := item_back rv rw' hiu
            have hm : dd ∈ x :: r' := List.mem_of_getElem? hdd
            have hsd : shp dd = true := List.all_eq_true.mp (ord_shp g) dd hm
            have I' : Inv X pins σ H { heap := h', gens := s.gens, drawn := s.drawn, toks := tk, os := s.os } := I.kept hk
            obtain ⟨bs', hrd'⟩ := hrp.reads hK I' hsd hrel
            have hmm : W.minD x r' ∈ x :: r' := minD_mem x r'
            have : dd = W.minD x r' := W.alike_unique dd _ u bs' bs ((ord_alike g).1 dd hm _ hmm) hrd' hrd
            exact ⟨w, H, I', hrel, k w H (.refl hv.sr) (this ▸ hrp)⟩
          rcases hor with ⟨rfl, hl⟩ | ⟨rfl, hl⟩
          · exact W.min_list_data (I.ok.hd hc) hl (by simpa using hr) (ord_alike g) (by omega) fin
          · exact W.min_tuple_data (I.ok.hd hc) hl (by simpa using hr) (ord_alike g) (by omega) fin
/-- repr: nothing else is being shown -/
theorem bi_repr (hK : F.K = X.K) (hg : X.A.guards = some []) (hu : X.A.units + 66 < cLine) : CallR X (.builtin "repr") (rBi F fun _ ds => biF .repr ds) := by
  intro pins s σ H vs us Q I r ⟨κ, U, C, ds, z, hv, rs, e, k⟩
  match ds, e with
  | [d], e =>
    obtain ⟨v, rfl, ra⟩ := one_arg rs
    obtain ⟨g, rfl⟩ := gd_some e
    simp only [Bool.and_eq_true, decide_eq_true_eq] at g
    obtain ⟨⟨g1, g2⟩, g3⟩ := g
    cases r with
    | cons r0 rt =>
      cases rt
      obtain ⟨as, hr⟩ := ra.reads hK I g2 r0
      have hd := SeqAt.depth_of_shaped g2
      have hnd := shp_noDict g2
      have fin : ∀ (h' : Heap) (u : Tok) (tk : Nat), (∀ b o, s.heap.get? b = some o → h'.get? b = some o) → EP X pins σ Q (.str d.shown u) { heap := h', gens := s.gens, drawn := s.drawn, toks := tk, os := s.os } :=
        fun h' u tk hk => ⟨.str _, H, I.kept hk, ⟨_, rfl⟩, k _ _ (.refl hv.sr) (.str _)⟩
      cases hr with
      | none => exact PySem.P.repr_of_none (fin _ _ _ fun _ _ q => q)
      | bool b => exact PySem.P.repr_of_bool (fin _ _ _ fun _ _ q => q)
      | int i t => exact PySem.P.repr_of_int (by simpa [PyData.showable] using g1) (fin _ _ _ fun _ _ q => q)
      | str x t => exact PySem.P.repr_of_str (fin _ _ _ fun _ _ q => q) (big_le (by simpa [PyData.shown] using g3))
      | list h1 h2 h3 h4 =>
        exact repr_of_reads' (.list h1 h2 h3 h4) g1 (fun q => by rw [hnd] at q; cases q) hg (by omega) (fun _ _ q => q) (fun h' u tk hk => fin h' u tk hk) (big_le g3)
      | tuple h1 h2 h3 h4 =>
        exact repr_of_reads' (.tuple h1 h2 h3 h4) g1 (fun q => by rw [hnd] at q; cases q) hg (by omega) (fun _ _ q => q) (fun h' u tk hk => fin h' u tk hk) (big_le g3)
      | dict _ _ _ _ _ => rw [PyData.hasDict] at hnd; cases hnd
end
end BR
set_option Elab.async false
set_option linter.all false
set_option maxRecDepth 100000
set_option maxHeartbeats 4000000
/-! sorting tuples among which some have no item -/
namespace BR
open PySem PySem.W PySem.SeqAt PySem.Calls PyProof.Rows
section
variable {A : Around} {s : Shared}
theorem call_tuple_lt {prog : Program} {w : World} {E : Value → Shared → Prop} {Q : Value → Shared → Prop} {l b : Addr} {items items2 : Array Value} {e r : Nat → Bool} (hl : s.heap.IsTuple l items) (hb : s.heap.IsTuple b items2)
    (he : ∀ j (h1 : j < items.size) (h2 : j < items2.size), EqAt A.in1 s items[j] items2[j] (e j)) (hr : ∀ j (h1 : j < items.size) (h2 : j < items2.size), e j = false → RcLt A.in1 s items[j] items2[j] (r j))
    (h : Q (.bool (firstLt e r (decide (items.size < items2.size)) (List.range (min items.size items2.size)))) s) : wpAny (model prog w) A (call (.builtin "tuple.__lt__") [.ref l, .ref b]) Q E s := by
  obtain ⟨⟨cls, dd, data, sl⟩, ho, hc, n, hd⟩ := id hl
  obtain ⟨⟨cls2, dd2, data2, sl2⟩, ho2, hc2, n2, hd2⟩ := id hb
  simp only at hc hd hc2 hd2
  subst hc hd hc2 hd2
  exact call_meets F.slot_tuple_lt ⟨_, ho, rfl⟩ F.entry_tuple_lt (F.args_tuple_lt_2 _ _) (tuple_ltAt l b items items2 n n2 dd dd2 sl sl2 e r) ⟨ho, ho2, he, hr, h⟩
end
section
variable {prog : Program} {w : World} {A : Around} {E : Value → Shared → Prop} {s : Shared}
theorem oneLt_tups {xs ys : List PyData} {a b : Value} {as bs : List Addr} {Q : Bool → Shared → Prop} (ra : Reads s.heap a (.tuple xs) as) (rb : Reads s.heap b (.tuple ys) bs) (h : alike (.tuple xs) (.tuple ys) = true)
    (hu : A.units + min (PyData.depth (.tuple xs)) (PyData.depth (.tuple ys)) < cLine) (hq : Q (dataLt (.tuple xs) (.tuple ys)) s) : wpAny (model prog w) A (oneLt' true a b) Q E s := by
  have hal : alikeAll xs ys = true := by simpa [alike] using h
  cases ra with
  | @tuple l o vs n _ as₁ h1 h2 h3 h4 =>
    cases rb with
    | @tuple l' o' vs' n' _ bs₁ k1 k2 k3 k4 =>
      have n1 : vs.size = xs.length := by simpa using ReadsAll.length _ _ _ h4
      have n2 : vs'.size = ys.length := by simpa using ReadsAll.length _ _ _ k4
      rw [dataLt_tuple, ← firstLt_toks xs ys hal, ← n1, ← n2] at hq
      rw [oneLt'_eq]
      simp only [if_true]
      refine wpAny_bind (wpAny_cRoomFor (room_here hu) ?_)
      refine wpAny_bind (wpAny_callSpecialIfBound?_slot (T := "tuple") ⟨_, h1, h2⟩ F.slot_tuple_lt (call_tuple_lt (e := pairEq xs ys) (r := fun j => dataLt (xs.getD j .none) (ys.getD j .none)) ⟨_, h1, h2, _, h3⟩ ⟨_, k1, k2, _, k3⟩ (fun j j1 j2 => ?_) (fun j j1 j2 hj => ?_) ?_))
      · have := eqAt_alikeAll xs ys A.in1 s vs.toList vs'.toList _ _ h4 k4 hal (room_in hu) j (by simpa using j1) (by simpa using j2)
        simpa using this
      · have := rcLt_alikeAll xs ys A.in1 s vs.toList vs'.toList _ _ h4 k4 hal (room_in hu) j (by simpa using j1) (by simpa using j2) hj
        simpa using this
      · exact wpAny_truthy_bool hq
theorem keyLt'_general (x y : Value) : keyLt' general' x y = oneLt' false x y := rfl
/-- what stands first in tuples, if anything does -/
def FirstsO (h : Heap) : List Value → List (Option Value) → Prop
  | [], [] => True
  | v :: vs, f :: fs => (∃ a o xs n, v = .ref a ∧ h.get? a = some o ∧ o.cls = .type "tuple" ∧ o.data = .seq xs n ∧ xs[0]? = f) ∧ FirstsO h vs fs
  | _, _ => False
theorem firstsO_walk {M : Model} : ∀ (vs : List Value) (fs : List (Option Value)) {Q : List (Option Value) → Shared → Prop}, FirstsO s.heap vs fs → Q fs s → wpAny M A (vs.mapM firstOfTuple') Q E s
  | [], [], _, _, h => by rw [List.mapM_nil]; exact wpAny_pure h
  | [], _ :: _, _, t, _ => t.elim
  | _ :: _, [], _, t, _ => t.elim
  | v :: vs, f :: fs, Q, t, h => by
    obtain ⟨⟨a, o, xs, n, rfl, ho, hc, hd, hf⟩, t⟩ := t
    rw [List.mapM_cons]
    refine wpAny_bind ?_
    rw [kas_first_eq]
    refine wpAny_bind (Looks.here (show Looks M s.heap (typeOf (.ref a)) o.cls from (Looks.ld ho).andThen .now) ?_)
    rw [hc, if_neg (by first | decide | simp)]
    refine wpAny_bind (listItems_at ho hd (wpAny_pure ?_))
    rw [hf]
    exact wpAny_bind (firstsO_walk vs fs (Q := fun bs s' => wpAny M A (pure (f :: bs)) Q E s') t (wpAny_pure h))
theorem firstsO_ex {h : Heap} : ∀ {vs : List Value} {ds : List PyData}, EachIs (fun v d => ∃ as, Reads h v d as) vs ds → (∀ d ∈ ds, ∃ xs, d = .tuple xs) → ∃ fs, FirstsO h vs fs ∧ fs.length = vs.length ∧ ∀ (i : Nat) (d : PyData), ds[i]? = some d → ∃ f, fs[i]? = some f ∧ (d = .tuple [] → f = none)
  | _, _, .nil, _ => ⟨[], trivial, rfl, fun i d hd => by simp at hd⟩
  | _, _, .cons (b := d) ⟨as, r⟩ t, ht => by
    obtain ⟨fs, h1, h2, h3⟩ := firstsO_ex t fun d hd => ht d (List.mem_cons_of_mem _ hd)
    obtain ⟨xs, rfl⟩ := ht d (List.mem_cons_self ..)
    cases r with
    | @tuple a o its n _ _ ho hc hd hr =>
      refine ⟨its[0]? :: fs, ⟨⟨a, o, its, n, rfl, ho, hc, hd, rfl⟩, h1⟩, by rw [List.length_cons, List.length_cons, h2], fun i d hd => ?_⟩
      cases i with
      | zero =>
        refine ⟨its[0]?, rfl, fun e => ?_⟩
        simp at hd
        subst hd
        cases e
        cases q : its.toList with
        | nil =>
          have : its = #[] := by rw [← Array.toArray_toList (xs := its), q]
          rw [this]; rfl
        | cons f fr => rw [q] at hr; cases hr
      | succ i => exact h3 i d (by simpa using hd)
theorem kind_mixed {M : Model} {vs : List Value} {fs : List (Option Value)} {Q : SortKind → Shared → Prop} (t : FirstsO s.heap vs fs) (h2 : 2 ≤ vs.length) (hn : ∃ i : Nat, fs[i]? = some none) (hT : ∀ v ∈ vs, Looks M s.heap (typeOf v) (.type "tuple"))
    (h : Q (if (fs[0]?.bind id).isSome = true then general' else oneType') s) : wpAny M A (keyKind' vs.toArray) Q E s := by
  obtain ⟨v₁, v₂, rest, rfl⟩ : ∃ v₁ v₂ rest, vs = v₁ :: v₂ :: rest := by
    match vs, h2 with
    | [], h2 => simp at h2
    | [_], h2 => simp at h2
    | v₁ :: v₂ :: rest, _ => exact ⟨v₁, v₂, rest, rfl⟩
  rw [keyKind'_eq, List.mapM_toArray, map_eq_pure_bind]
  refine wpAny_bind (wpAny_bind (firstsO_walk _ _ t (wpAny_pure ?_)))
  have hall : ¬ ((fs.toArray.all fun x => x.isSome) = true) := by
    obtain ⟨i, hi⟩ := hn
    intro z
    rw [List.all_toArray, List.all_eq_true] at z
    have := z none (List.mem_of_getElem? hi)
    simp at this
  rw [if_neg hall]
  have h0 : fs.toArray[0]? = fs[0]? := by simp
  rw [h0]
  by_cases hf : (fs[0]?.bind id).isSome = true
  · rw [if_pos hf]
    rw [if_pos hf] at h
    exact wpAny_pure h
  · rw [if_neg hf]
    rw [if_neg hf] at h
    rw [oneTypeOnly'_eq, List.mapM_toArray, map_eq_pure_bind]
    refine wpAny_bind (wpAny_bind (wpAny_bind (kas_mapM (r := .type "tuple") _ (fun v hv Q' hq => (hT v hv).here hq) (wpAny_pure ?_))))
    have hall2 : ((List.map (fun _ => Value.type "tuple") (v₁ :: v₂ :: rest)).toArray.all fun x => x == Value.type "tuple") = true := by
      simp only [List.all_toArray, List.all_map, List.all_eq_true]
      intro _ _
      exact beq_self_eq_true _
    have h1 : (List.map (fun _ => Value.type "tuple") (v₁ :: v₂ :: rest)).toArray[0]? = some (.type "tuple") := by simp
    rw [h1]
    simp only [hall2, if_true]
    exact wpAny_pure (wpAny_pure h)
/-- tuples that are alike can be sorted -/
theorem sorts_tups {vs : List Value} {ds : List PyData} (e : EachIs (fun v d => ∃ as, Reads s.heap v d as) vs ds) (hal : AllAlike ds) (ht : ∀ d ∈ ds, ∃ xs, d = .tuple xs) (hu : ∀ d, d ∈ ds → A.units + d.depth < cLine) : SortsAt prog w A s (dataKind s.heap ds) vs := by
  by_cases hall : ∀ d, d ∈ ds → ∃ x r, d = .tuple (x :: r)
  · exact SortsAt.data e hal (.inl hall) hu
  have room : ∀ {d d' : PyData}, d ∈ ds → A.units + min d.depth d'.depth < cLine := fun {d d'} hd => Nat.lt_of_le_of_lt (Nat.add_le_add_left (Nat.min_le_left _ _) _) (hu d hd)
  obtain ⟨fs, f1, f2, f3⟩ := firstsO_ex e ht
  refine ⟨fun v hv => ?_, if (fs[0]?.bind id).isSome = true then general' else oneType', ?_, fun h2 E Q hq => ?_⟩
  · obtain ⟨d, hd, as, r⟩ := e.left v hv
    exact ⟨_, dataKind_some hal hd r⟩
  · intro E x y a b Q ha hb hq
    obtain ⟨d, as, hd, ra, rfl⟩ := dataKind_inv ha
    obtain ⟨d', as', hd', rb, rfl⟩ := dataKind_inv hb
    obtain ⟨xs, rfl⟩ := ht d hd
    obtain ⟨ys, rfl⟩ := ht d' hd'
    by_cases hf : (fs[0]?.bind id).isSome = true
    · rw [if_pos hf, keyLt'_general]
      exact oneLt_alike (fun z => by cases z) ra rb (hal _ hd _ hd') (fun z => by cases z) (room hd) hq
    · rw [if_neg hf, keyLt'_oneType]
      exact oneLt_tups ra rb (hal _ hd _ hd') (room hd) hq
  · refine kind_mixed f1 h2 ?_ (fun v hv => ?_) hq
    · have : ∃ d ∈ ds, d = .tuple [] := by
        apply Classical.byContradiction
        intro hno
        refine hall fun d hd => ?_
        obtain ⟨xs, rfl⟩ := ht d hd
        cases xs with
        | nil => exact absurd ⟨_, hd, rfl⟩ hno
        | cons x r => exact ⟨x, r, rfl⟩
      obtain ⟨d, hd, rfl⟩ := this
      obtain ⟨i, hi, hie⟩ := List.mem_iff_getElem.mp hd
      obtain ⟨f, hf1, hf2⟩ := f3 i (.tuple []) (by rw [List.getElem?_eq_getElem hi, hie])
      exact ⟨i, by rw [hf1, hf2 rfl]⟩
    · obtain ⟨d, hd, as, r⟩ := e.left v hv
      obtain ⟨xs, rfl⟩ := ht d hd
      exact looks_reads r
end
/-- what the model sorts -/
def Sort2 (ds : List PyData) : Prop := Sortable ds ∨ ∀ d ∈ ds, ∃ xs, d = .tuple xs
section
variable {prog : Program} {w : World} {A : Around} {E : Value → Shared → Prop} {s : Shared} {β : Type} {R : Value → β → Prop} {enc : β → PyData} {vs : List Value} {bs : List β}
theorem list_sort2 {a : Addr} {n : Nat} {Q : Value → Shared → Prop} (ho : s.heap.get? a = some (seqObj "list" vs.toArray n)) (e : EachIs R vs bs) (er : EachIs (fun v b => ∃ as, Reads s.heap v (enc b) as ∧ a ∉ as) vs bs) (hal : AllAlike (bs.map enc)) (hk : Sort2 (bs.map enc)) (hL : bs.length ≤ sizeLine)
    (hu : ∀ b, b ∈ bs → A.units + 1 + (enc b).depth < cLine) (h : ∀ out, out.length = bs.length → EachIs R out (bs.mergeSort (dataLe false enc)) → Q .none { s with heap := sortedHeap s.heap a vs (List.toArray out) }) :
    wpAny (model prog w) A (call (.builtin "list.sort") [.ref a]) Q E s := by
  rcases hk with hk | ht
  · exact list_sort_data ho e er hal hk hL hu h
  have er' : EachIs (fun v b => ∃ as, Reads (sortingHeap s.heap a vs) v (enc b) as) vs bs := each_keepBut (h' := sortingHeap s.heap a vs) (fun _ _ hb q => sortingHeap_old hb q) (fun o q => by rw [ho] at q; rw [← Option.some.inj q]) hal er
  refine wpAny_call_entry slot_list_sort ⟨_, ho, rfl⟩ entry_list_sort (list_sort_vals (κ := dataKind (sortingHeap s.heap a vs) (bs.map enc)) ho (sorts_tups (s := { s with heap := sortingHeap s.heap a vs }) (each_map (R := fun v d => ∃ as, Reads (sortingHeap s.heap a vs) v d as) enc er') hal ht (bound_map hu)) (by rw [e.length]; exact hL) ⟨.none, rfl, ?_⟩) (args_list_sort _)
  exact h _ (by rw [sortVals_length false rfl]; exact e.length) (sortVals_data false e er' hal)
end
end BR
set_option Elab.async false
set_option linter.all false
set_option maxRecDepth 100000
set_option maxHeartbeats 4000000
/-! sorted, isinstance, index, split, pop -/
namespace BR
open PySem PySem.Spec PyProof.Rows L2
section
variable {prog : Program} {w : World} {A : Around} {E : Value → Shared → Prop} {s : Shared} {β : Type} {vs : List Value} {bs : List β} {enc : β → PyData} {R : Value → β → Prop}
theorem each_imp {α β : Type} {R R' : α → β → Prop} : ∀ {as : List α} {bs : List β}, W.EachIs R as bs → (∀ a b, R a b → R' a b) → W.EachIs R' as bs
  | _, _, .nil, _ => .nil
  | _, _, .cons h t, k => .cons (k _ _ h) (each_imp t k)
mutual
theorem reads_live {h : Heap} : ∀ {v : Value} {d : PyData} {as : List Addr}, Reads h v d as → ∀ a ∈ as, ∃ o, h.get? a = some o
  | _, _, _, .none, a, ha => by cases ha
  | _, _, _, .bool _, a, ha => by cases ha
  | _, _, _, .int _ _, a, ha => by cases ha
  | _, _, _, .str _ _, a, ha => by cases ha
  | _, _, _, .list h1 _ _ h4, a, ha => by
    rcases List.mem_cons.mp ha with e | ha
    · exact ⟨_, e ▸ h1⟩
    · exact readsAll_live h4 a ha
  | _, _, _, .tuple _ _ _ h4, a, ha => readsAll_live h4 a ha
  | _, _, _, .dict h1 _ _ h4 h5, a, ha => by
    rcases List.mem_append.mp ha with ha | ha
    · rcases List.mem_cons.mp ha with e | ha
      · exact ⟨_, e ▸ h1⟩
      · exact readsAll_live h4 a ha
    · exact readsAll_live h5 a ha
theorem readsAll_live {h : Heap} : ∀ {vs : List Value} {ds : List PyData} {as : List Addr}, ReadsAll h vs ds as → ∀ a ∈ as, ∃ o, h.get? a = some o
  | _, _, _, .nil, a, ha => by cases ha
  | _, _, _, .cons h1 h2, a, ha => by
    rcases List.mem_append.mp ha with ha | ha
    · exact reads_live h1 a ha
    · exact readsAll_live h2 a ha
end
theorem noA_reads {h : Heap} {x : Addr} (hx : h.get? x = none) {v : Value} {d : PyData} {as : List Addr} (r : Reads h v d as) : x ∉ as := fun hm => by
  obtain ⟨o, e⟩ := reads_live r x hm
  rw [hx] at e
  cases e
/-- sorted of a list or a tuple -/
theorem sorted_seq {T : String} {l : Addr} {o : Obj} {n : Nat} {Q : Value → Shared → Prop} (hT : T = "list" ∨ T = "tuple") (ho : s.heap.get? l = some o) (hc : o.cls = .type T) (hd : o.data = .seq vs.toArray n)
    (e : W.EachIs R vs bs) (er : W.EachIs (fun v b => ∃ as, Reads s.heap v (enc b) as) vs bs) (hal : W.AllAlike (bs.map enc)) (hk : Sort2 (bs.map enc)) (hL : bs.length ≤ sizeLine) (hu : ∀ b, b ∈ bs → A.units + 2 + (enc b).depth < cLine)
    (h : ∀ (out : List Value) (p : Addr) (h1 h' : Heap) (m tk : Nat), (∀ b o, s.heap.get? b = some o → h1.get? b = some o) → h1.objs.size = p → out.length = bs.length → W.EachIs R out (bs.mergeSort (W.dataLe false enc)) → (∀ b o, h1.get? b = some o → h'.get? b = some o) →
      h'.get? p = some { cls := .type "list", data := .seq out.toArray m } → Q (.ref p) { s with heap := h', toks := tk }) :
    wpAny (model prog w) A (call (.builtin "sorted") [.ref l]) Q E s := by
  have hlen : vs.length = bs.length := e.length
  refine Calls.call_function_entry kind_sorted plain_sorted entry_sorted (args_sorted1 _) ?_
  unfold Builtin.«sorted»
  refine wpAny_bind (m := checkCount "sorted" 1 1 _) (wpAny_pure ?_)
  refine wpAny_bind (wpAny_collect_seq l hT ho hc hd (fun h1 hk1 => ?_) (by rw [List.size_toArray, hlen]; exact hL))
  refine wpAny_bind (wpAny_newList ?_ (by
    show vs.toArray.toList.length ≤ sizeLine
    rw [show vs.toArray.toList.length = vs.length by simp, hlen]
    exact hL))
  generalize hp : h1.objs.size = p
  have np1 : h1.get? p = none := Heap.get?_none_of_le (Nat.le_of_eq hp)
  have np : s.heap.get? p = none := by
    cases q : s.heap.get? p with
    | none => rfl
    | some o' => rw [hk1 p o' q] at np1; cases np1
  have at2 : (h1.push { cls := .type "list", data := .seq vs.toArray }).get? p = some (seqObj "list" vs.toArray 0) := by
    rw [← hp]
    exact Heap.get?_push_size _ rfl
  refine wpAny_bind (wpAny_holding ?_)
  have er2 : W.EachIs (fun v b => ∃ as, Reads (h1.push { cls := .type "list", data := .seq vs.toArray }) v (enc b) as ∧ p ∉ as) vs bs :=
    each_imp er fun v b ⟨as, r⟩ => ⟨as, Reads.keeps (fun b o q => Heap.get?_push_of_some _ (hk1 b o q)) r, noA_reads np r⟩
  refine list_sort2 (A := A.in1) (s := { s with heap := h1.push { cls := .type "list", data := .seq vs.toArray } }) (n := 0) at2 e er2 hal hk hL (fun b hb => by have := hu b hb; show A.units + 1 + 1 + _ < _; omega) fun out ho1 ho2 => ?_
  obtain ⟨m, hm⟩ := sortedHeap_at (out := out.toArray) at2
  refine wpAny_pure ⟨_, rfl, h out p h1 _ m _ hk1 hp ho1 ho2 (fun b ob q => ?_) hm⟩
  have hb1 := Heap.get?_push_of_some { cls := .type "list", data := .seq vs.toArray } q
  rw [sortedHeap_old (fun z => by subst z; rw [np1] at q; cases q) (Heap.lt_size hb1)]
  exact hb1
end
section
variable {X : Cx} {F : Fix}
theorem sort_ok {xs : List PyData} (h : sortable xs = true) : W.AllAlike xs ∧ Sort2 xs ∧ xs.all shp = true := by
  unfold sortable at h
  rw [Bool.and_eq_true] at h
  refine ⟨(ord_alike h.1).1, ?_, ord_shp h.1⟩
  rcases Bool.or_eq_true_iff.mp h.2 with q | q
  · refine .inr fun d hd => ?_
    have := List.all_eq_true.mp q d hd
    unfold tup1 at this
    split at this
    · exact ⟨_, rfl⟩
    · cases this
  · refine .inl <| .inr fun d hd => ⟨(ord_alike h.1).2 d hd, fun xs z => ?_⟩
    subst z
    have := List.all_eq_true.mp q _ hd
    simp [noTup] at this
theorem each_of {pins : List (Addr × Obj)} {s : Shared} {σ : L2.St} {H : Hp} {κ : List Addr} {U : Addr → Prop} (hK : F.K = X.K) (I : Inv X pins σ H s) : ∀ {xs : List PyData} {vs : List V} {its : List Value}, Vals vs its → RpAll F κ U H vs xs → xs.all shp = true →
    W.EachIs (fun u d => ∃ v, RelV v u ∧ Rp F κ U H v d) its xs ∧ W.EachIs (fun u d => ∃ as, Reads s.heap u (id d) as) its xs
  | _, _, _, .nil, .nil, _ => ⟨.nil, .nil⟩
  | _, _, _, .cons r t, .cons h k, hs => by
    rw [List.all_cons, Bool.and_eq_true] at hs
    obtain ⟨q1, q2⟩ := each_of hK I t k hs.2
    exact ⟨.cons ⟨_, r, h⟩ q1, .cons (h.reads hK I hs.1 r) q2⟩
theorem each_back {H : Hp} {κ : List Addr} {U : Addr → Prop} : ∀ {xs : List PyData} {its : List Value}, W.EachIs (fun u d => ∃ v, RelV v u ∧ Rp F κ U H v d) its xs → ∃ vs, Vals vs its ∧ RpAll F κ U H vs xs
  | _, _, .nil => ⟨[], .nil, .nil⟩
  | _, _, .cons ⟨v, r, h⟩ t => by
    obtain ⟨vs, q1, q2⟩ := each_back t
    exact ⟨v :: vs, .cons r q1, .cons h q2⟩
theorem bi_sorted (hK : F.K = X.K) (hu : X.A.units + 67 < cLine) : CallR X (.builtin "sorted") (rBi F fun _ ds => biF .sorted ds) := by
  intro pins s σ H vs us Q I r ⟨κ, U, C, ds, z, hv, rs, e, k⟩
  match ds, e with
  | [d], e =>
    obtain ⟨v, rfl, ra⟩ := one_arg rs
    have e' : ((itemsOf d).bind fun xs => gd (sortable xs && decide (xs.length ≤ big)) (PyData.list (sortD xs))) = some z := e
    cases hi : itemsOf d with
    | none => rw [hi] at e'; cases e'
    | some xs =>
      rw [hi] at e'
      obtain ⟨g, rfl⟩ := gd_some e'
      rw [Bool.and_eq_true] at g
      obtain ⟨g1, g2⟩ := g
      have g2 := of_decide_eq_true g2
      obtain ⟨s1, s2, s3⟩ := sort_ok g1
      cases r with
      | cons r0 rt =>
        cases rt
        obtain ⟨a, ws, its, rfl, rfl, rv, rw', hz, hor⟩ := seq_raw hK I ra hi r0
        obtain ⟨q1, q2⟩ := each_of hK I rv rw' s3
        have hd : ∀ b, b ∈ xs → X.A.units + 2 + (id b).depth < cLine := fun b hb => by
          have := SeqAt.depth_of_shaped (List.all_eq_true.mp s3 b hb)
          show X.A.units + 2 + b.depth < cLine
          omega
        have fin : ∀ (out : List Value) (p : Addr) (h1 h' : Heap) (m tk : Nat), (∀ b o, s.heap.get? b = some o → h1.get? b = some o) → h1.objs.size = p → out.length = xs.length → W.EachIs (fun u d => ∃ v, RelV v u ∧ Rp F κ U H v d) out (xs.mergeSort (W.dataLe false id)) → (∀ b o, h1.get? b = some o → h'.get? b = some o) →
            h'.get? p = some { cls := .type "list", data := .seq out.toArray m } → EP X pins σ Q (.ref p) { heap := h', gens := s.gens, drawn := s.drawn, toks := tk, os := s.os } := by
          intro out p h1 h' m tk hk1 hp hlen hout hk hat
          obtain ⟨vs', rv', rp'⟩ := each_back hout
          have I1 : Inv X pins σ H { s with heap := h1 } := I.kept (t' := s.toks) hk1
          have np : H p = none := I1.hok.fresh (Nat.le_of_eq hp)
          have hvl : vs'.length ≤ sizeLine := by rw [rv'.length, hlen]; exact big_le g2
          have J : Inv X pins σ (upd H p (.lst vs')) { s with heap := h', toks := tk } := I1.laid (t' := tk) hk (Nat.le_of_eq hp) ⟨hvl, out, m, rv', hat⟩
          have q := hv.newL np rp'
          exact ⟨.ref p, _, J, rfl, k _ _ q.1 q.2⟩
        rcases hor with ⟨rfl, o, ho, hc, n, hdt⟩ | ⟨rfl, o, ho, hc, n, hdt⟩
        · exact sorted_seq (vs := its) (.inl rfl) ho hc hdt q1 q2 (by simpa using s1) (by simpa using s2) (big_le g2) hd fin
        · exact sorted_seq (vs := its) (.inr rfl) ho hc hdt q1 q2 (by simpa using s1) (by simpa using s2) (big_le g2) hd fin
end
end BR
set_option Elab.async false
set_option linter.all false
set_option maxRecDepth 100000
set_option maxHeartbeats 4000000
/-! enumerate and zip over lists and tuples in any mix -/
namespace BR
open PySem PySem.Spec PyProof.Rows L2
/-- a list (false) or a tuple (true) that stands at a -/
def Src (K : PySem.W.Frag) (k : Bool) (H : Hp) (a : Addr) (xs : List V) : Prop := if k = true then SqT K H a xs else SqL K H a xs
def SrcIs (k : Bool) (h : Heap) (a : Addr) (its : Array Value) : Prop := if k = true then h.IsTuple a its else h.IsList a its
def SrcIt (k : Bool) (h : Heap) (it a : Addr) (i : Nat) : Prop := if k = true then h.IsTupleIter it a i else h.IsListIter it a i
theorem SrcIt.at {k : Bool} {h h' : Heap} {it a : Addr} {i : Nat} (x : SrcIt k h it a i) (q : ∀ o, h.get? it = some o → h'.get? it = some o) : SrcIt k h' it a i := by
  cases k with
  | true => exact Heap.IsTupleIter.at (h := h) x q
  | false => exact Heap.IsListIter.at (h := h) x q
theorem SrcIt.get {k : Bool} {h : Heap} {it a : Addr} {i : Nat} (x : SrcIt k h it a i) : ∃ o, h.get? it = some o ∧ ∀ v, o.data ≠ .cell v := by
  cases k with
  | true =>
    obtain ⟨o, e, _, d⟩ := (show h.IsTupleIter it a i from x)
    exact ⟨o, e, fun v q => by rw [d] at q; cases q⟩
  | false =>
    obtain ⟨o, e, _, d⟩ := (show h.IsListIter it a i from x)
    exact ⟨o, e, fun v q => by rw [d] at q; cases q⟩
def srcObj (k : Bool) (a : Addr) : Obj := if k = true then { cls := .type "tuple_iterator", data := .fields #[.ref a, .int 0 0] } else { cls := .type "list_iterator", data := .fields #[.ref a, .int 0 0] }
theorem src_begins (k : Bool) (a : Addr) (its : Array Value) : Begins (.ref a) (srcObj k a) (fun h => SrcIs k h a its) := by
  cases k with
  | true => exact begins_tuple a its
  | false => exact begins_list a its
theorem src_it0 {k : Bool} {h : Heap} {it a : Addr} (e : h.get? it = some (srcObj k a)) : SrcIt k h it a 0 := by
  cases k with
  | true => exact ⟨_, e, rfl, rfl⟩
  | false => exact ⟨_, e, rfl, rfl⟩
theorem src_draws {prog : Program} {w : World} {A : Around} (hh : A.handled = none) (k : Bool) (it a : Addr) (hne : a ≠ it) (its : Array Value) :
    Draws prog w A it [it, a] its.size (fun i v => its[i]? = some v) (fun i h => SrcIt k h it a i ∧ SrcIs k h a its) := by
  cases k with
  | true => exact Draws.tuple hh it a hne its
  | false => exact Draws.list hh it a hne its
section
variable {X : Cx} {pins : List (Addr × Obj)} {σ : L2.St} {H : Hp} {s : Shared} {a : Addr} {xs ys : List V} {k : Bool}
theorem Inv.src (I : Inv X pins σ H s) (h : Src X.K k H a xs) : ∃ its : List Value, Vals xs its ∧ SrcIs k s.heap a its.toArray ∧ a < s.heap.objs.size := by
  cases k with
  | true =>
    obtain ⟨its, r, p, _⟩ := I.tuple (show SqT X.K H a xs from h)
    obtain ⟨o, e, _⟩ := id p
    exact ⟨its, r, p, Heap.lt_size e⟩
  | false =>
    obtain ⟨its, r, p, _⟩ := I.list (show SqL X.K H a xs from h)
    exact ⟨its, r, p.isList, p.lt⟩
theorem Inv.src_inj (I : Inv X pins σ H s) (h : Src X.K k H a xs) (h' : Src X.K k H a ys) : xs = ys := by
  cases k with
  | true => exact I.tuple_inj (show SqT X.K H a xs from h) h'
  | false => exact I.list_inj (show SqL X.K H a xs from h) h'
end
theorem Src.mono {K : PySem.W.Frag} {k : Bool} {H H' : Hp} {a : Addr} {xs : List V} (h : Src K k H a xs) (e : ∀ u o, H u = some o → (∃ z, o = .lst z) ∨ (∃ z, o = .tup z) ∨ (∃ ob z, o = .frz ob z) → H' u = some o) : Src K k H' a xs := by
  cases k with
  | true =>
    rcases (show SqT K H a xs from h) with (h | ⟨o, h⟩) | h
    · exact .inl (.inl (e _ _ h (.inr (.inl ⟨_, rfl⟩))))
    · exact .inl (.inr ⟨o, e _ _ h (.inr (.inr ⟨_, _, rfl⟩))⟩)
    · exact .inr h
  | false =>
    rcases (show SqL K H a xs from h) with (h | ⟨o, h⟩) | h
    · exact .inl (.inl (e _ _ h (.inl ⟨_, rfl⟩)))
    · exact .inl (.inr ⟨o, e _ _ h (.inr (.inr ⟨_, _, rfl⟩))⟩)
    · exact .inr h
theorem off_ne (n i j : Nat) (h : i ≠ j) : (n + i : Nat) ≠ n + j := by omega
theorem lt_of4 (n : Nat) {m : Nat} (h : n + 4 < m) (i : Nat) (hi : i ≤ 4) : n + i < m := by omega
theorem lt_off {a n : Nat} (h : a < n) (i : Nat) : a ≠ n + i := by omega
/-! ### enumerate -/
def YPairX (xs ys : Nat → Option V) : Nat → Hp → V → Hp → Prop := fun i H v H' => ∃ T x y ob, v = .ref T ∧ H T = none ∧ ob.dict = none ∧ H' = upd H T (.frz ob (.tup [x, y])) ∧ xs i = some x ∧ ys i = some y
def ItE (K : PySem.W.Frag) (k : Bool) (a : Addr) : L2.It where
  go := fun i H => ∃ (xs : List V) (x : V), Src K k H a xs ∧ xs[i]? = some x
  yld := fun i H v H' => ∃ T x ob, v = .ref T ∧ H T = none ∧ ob.dict = none ∧ H' = upd H T (.frz ob (.tup [.int (i : Nat), x])) ∧ ∀ xs, Src K k H a xs → xs[i]? = some x
  stop := fun i H => ∃ xs : List V, Src K k H a xs ∧ xs.length = i
theorem turn_E {P : Program} {w : World} {K : PySem.W.Frag} {elts : List Expr} {kk : Nat} {tpos : Pos} (k : Bool) (a e it : Addr) (hae : a ≠ e) (hai : a ≠ it) :
    Turn P w K (.Tuple elts kk tpos) (ItE K k a) [e, it] e (fun i h => (∃ old, IsEnum h e it ((i : Nat) : Int) old) ∧ SrcIt k h it a i ∧ e ≠ it) where
  mem := by simp
  obj := fun i h st b hb => by
    obtain ⟨⟨old, he⟩, hi, _⟩ := st
    rcases (show b = e ∨ b = it by simpa using hb) with rfl | rfl
    · exact ⟨_, he, fun v q => nomatch q⟩
    · exact hi.get
  keep := fun i h h' st q => by
    obtain ⟨⟨old, he⟩, hi, hne⟩ := st
    exact ⟨⟨old, q e (by simp) _ he⟩, hi.at fun o => q it (by simp) o, hne⟩
  item := by
    intro X hP hw hK hc i pins s σ H E I hf st hg
    subst hP hw hK
    obtain ⟨⟨old, he⟩, hit, hne⟩ := st
    obtain ⟨xs, x, hq, hx⟩ := hg
    obtain ⟨its, rv, p, hal⟩ := BR.Inv.src I hq
    have hlen := rv.length
    have hi : i < its.toArray.size := by
      have : i < xs.length := by
        rcases Nat.lt_or_ge i xs.length with z | z
        · exact z
        · rw [List.getElem?_eq_none z] at hx
          cases hx
      simp only [List.size_toArray]
      omega
    have hel := Heap.lt_size he
    obtain ⟨oi, eoi, _⟩ := hit.get
    have hil := Heap.lt_size eoi
    refine wpAny_pyNext_enum_itemD (src_draws (A := X.A.in1) (I.ok.hd hc) k it a hai its.toArray) he ⟨hit, p⟩ hi hne (by simp [hne, Ne.symm hae]) fun u h' tk hP ho hst hT hsz hk => ?_
    obtain ⟨u', hu', ru⟩ := rv.get hx
    have : u' = u := by
      have : its[i]? = some u := by simpa using hP
      rw [hu'] at this
      exact Option.some.inj this
    subst this
    refine ⟨_, rfl, wpAny_letOwnedTupleGo_enum (s := { s with heap := h', toks := tk + 1 }) ho fun h'' he' sb => ?_⟩
    have hT2 : h''.get? s.heap.objs.size = some { cls := .type "tuple", data := .seq #[.int i tk, u'] } := by
      rw [sb.2 _ (Nat.ne_of_gt hel)]
      exact hT
    have new : ObjOk X.prog X.w (upd H s.heap.objs.size (.frz { cls := .type "tuple", data := .seq #[.int i tk, u'] } (.tup [.int (i : Nat), x]))) h'' s.heap.objs.size (.frz { cls := .type "tuple", data := .seq #[.int i tk, u'] } (.tup [.int (i : Nat), x])) := by
      refine ⟨hT2, by show 2 ≤ sizeLine; decide, [.int i tk, u'], .cons ⟨_, rfl⟩ (.cons ru .nil), _, hT2, rfl, _, rfl⟩
    have kept : ∀ b o, b ∉ [e, it] → s.heap.get? b = some o → h''.get? b = some o := by
      intro b o hb q
      have hb : b ≠ e ∧ b ≠ it := by simpa using hb
      rw [sb.2 b hb.1]
      exact hk b o hb.1 hb.2 q
    have I1 : Inv X pins σ (upd H s.heap.objs.size (.frz { cls := .type "tuple", data := .seq #[.int i tk, u'] } (.tup [.int (i : Nat), x]))) { s with heap := h'', toks := tk + 1 } := I.turnedNew kept hf (Nat.le_refl _) new
    refine ⟨.ref s.heap.objs.size, _, I1, rfl, ⟨_, x, _, rfl, I.hok.fresh (Nat.le_refl _), rfl, rfl, fun zs hz => ?_⟩, ⟨⟨u', ?_⟩, hst.1.at fun o q => ?_, hne⟩, fun b hb => ?_⟩
    · rw [BR.Inv.src_inj I hz hq]
      exact hx
    · simpa using he'
    · rw [sb.2 it (Ne.symm hne)]
      exact q
    · rcases (show b = e ∨ b = it by simpa using hb) with rfl | rfl
      · rw [upd_ne (Nat.ne_of_lt hel)]
        exact (hf _ hb).1
      · rw [upd_ne (Nat.ne_of_lt hil)]
        exact (hf _ hb).1
  done := by
    intro X hP hw hK hc i pins s σ H E I hf st hg
    subst hP hw hK
    obtain ⟨⟨old, he⟩, hit, hne⟩ := st
    obtain ⟨xs, hq, hx⟩ := hg
    obtain ⟨its, rv, p, hal⟩ := BR.Inv.src I hq
    have hlen := rv.length
    have hi : i = its.toArray.size := by simp only [List.size_toArray]; omega
    subst hi
    refine wpAny_pyNext_enum_endD (src_draws (A := X.A.in1) (I.ok.hd hc) k it a hai its.toArray) he ⟨hit, p⟩ fun h' eb => ⟨rfl, ?_⟩
    exact I.turnedL (t' := s.toks) (ch := [e, it]) (fun b o hb q => eb b o (fun z => hb (by simp [z])) q) hf
  self := fun A i s Q E st h => by
    obtain ⟨⟨old, he⟩, _⟩ := st
    exact wpAny_pyIter_enum he h
set_option maxHeartbeats 8000000 in
theorem enum_new {v : Value} {o : Obj} {G : Heap → Prop} (B : Begins v o G) :
    Meets (Builtin.«enumerate.__new__» ⟨[.type "enumerate", v], []⟩) (fun _ R s => G s.heap ∧
      R (.ok (.ret (.ref (s.heap.push o).objs.size))) { s with heap := (s.heap.push o).push { cls := .type "enumerate", data := .fields #[.none, .bool false, .ref s.heap.objs.size, rawInt 0, .none, .none] } }) :=
  .of_wp fun prog w A R s h => by
    obtain ⟨hp, g, d, tk, os⟩ := s
    obtain ⟨h1, h⟩ := h
    have hsub := sub_enumerate
    have q1 : ∀ {A' : Around} {E : Value → Shared → Prop} {Q : Value → Shared → Prop}, Q (.ref hp.objs.size) ⟨hp.push o, g, d, tk, os⟩ →
        wpAny (model prog w) A' (pyIter v) Q E ⟨hp, g, d, tk, os⟩ := fun q => B.iter prog w _ _ ⟨hp, g, d, tk, os⟩ _ h1 q
    wp_walk using q1
    refine wpAny_stack_any fun st => wpAny_pure ?_
    split
    · rename_i c _ _ _ _ _
      cases (c == Value.type "enumerate") <;> (wp_walk using q1; exact ⟨_, rfl, h⟩)
    · wp_walk using q1
      exact ⟨_, rfl, h⟩
section
variable {prog : Program} {w : World} {A : Around} {E : Value → Shared → Prop} {s : Shared}
theorem enum_call {v : Value} {o : Obj} {G : Heap → Prop} {Q : Value → Shared → Prop} (B : Begins v o G) (h1 : G s.heap)
    (h : ∀ h', IsEnum h' (s.heap.objs.size + 1) s.heap.objs.size 0 .none → h'.get? s.heap.objs.size = some o → (∀ b o, s.heap.get? b = some o → h'.get? b = some o) → Q (.ref (s.heap.objs.size + 1)) { s with heap := h' }) :
    wpAny (model prog w) A (call (.type "enumerate") [v]) Q E s := by
  refine callType_new F.called_enumerate (by decide) (F.typeCall_enumerate_1 _) (F.newCall_enumerate_1 _) (fun obj => F.args_object_init_2 obj _) F.entry_enumerate_new (enum_new B) ⟨h1, ?_⟩
  have hz : (s.heap.push o).objs.size = s.heap.objs.size + 1 := Heap.size_push _ _
  show _ ∧ _
  rw [hz]
  have he : IsEnum ((s.heap.push o).push { cls := .type "enumerate", data := .fields #[.none, .bool false, .ref s.heap.objs.size, rawInt 0, .none, .none] }) (s.heap.objs.size + 1) s.heap.objs.size 0 .none := by
    have q := Heap.get?_push_size (s.heap.push o) (o := { cls := .type "enumerate", data := .fields #[.none, .bool false, .ref s.heap.objs.size, rawInt 0, .none, .none] }) rfl
    rw [hz] at q
    exact q
  exact ⟨⟨_, he, rfl⟩, h _ he (Heap.get?_push_of_some _ (Heap.get?_push_size _ B.free)) fun b o x => Heap.get?_push_of_some _ (Heap.get?_push_of_some _ x)⟩
end
def iE (K : PySem.W.Frag) (ta : TA) : TI := fun σ H R => ta σ H fun vs H1 => ∃ a k xs, vs = [.ref a] ∧ Src K k H1 a xs ∧ R (ItE K k a) H1
theorem pi_E {X : Cx} {e : Expr} {ta : TA} {p pos tpos : Pos} {elts : List Expr} {kk : Nat} (hg : Gl X "enumerate") (hm : X.mg "enumerate" = none) (ha : PA X [e] ta) (hs : starEach [e] X.env = [(false, eval e X.env)]) :
    PI X (.Tuple elts kk tpos) (.Call (.Name "enumerate" p) [e] [] pos) (iE X.K ta) := by
  refine ⟨fun pins s σ H R I h => ?_⟩
  refine Call_ (ld_blt I hg hm boot_enumerate (PyProof.Rows.callWith_type1 (thn (ha.run pos pins s σ H _ I h) fun us s1 ⟨vs, H1, I1, r1, a, k, xs, ex, hq, q⟩ => ?_) hs rfl))
  subst ex
  cases r1 with
  | cons r rr =>
    cases rr
    cases r
    obtain ⟨its, rv, p', hal⟩ := BR.Inv.src I1 hq
    refine enum_call (src_begins k a its.toArray) p' fun h' he hit hk => wpAny_pyIter_enum he ?_
    have I2 : Inv X pins σ H1 { s1 with heap := h' } := I1.kept (t' := s1.toks) hk
    generalize hn : s1.heap.objs.size = n at *
    refine ⟨n + 1, [n + 1, n], _, _, H1, rfl, I2, turn_E k a (n + 1) n (lt_off hal 1) (lt_off hal 0), ⟨⟨.none, he⟩, src_it0 hit, off_ne n 1 0 (by decide)⟩, fun b hb => ?_, q⟩
    have hle : s1.heap.objs.size ≤ b := by
      rcases (show b = n + 1 ∨ b = n by simpa using hb) with z | z <;> rw [hn, z]
      · exact Nat.le_add_right n 1
      · exact Nat.le_refl n
    refine I1.fpOk hle ?_
    exact I1.hok.fresh hle
theorem walk_E {K : PySem.W.Frag} {k : Bool} {a : Addr} {xs : List V} : Walk (ItE K k a) xs.length (fun H => Src K k H a xs) (YPairX (fun i => some (.int (i : Nat))) (fun i => xs[i]?)) := by
  refine ⟨fun i _ hi q => ⟨xs, xs[i], q, by simp [hi]⟩, fun _ q => ⟨xs, q, rfl⟩, fun i H v H' _ q y => ?_⟩
  obtain ⟨T, x, ob, h1, h2, hd, h3, h4⟩ := y
  exact ⟨T, .int (i : Nat), x, ob, h1, h2, hd, h3, rfl, h4 xs q⟩
/-! ### zip -/
def ItZ (K : PySem.W.Frag) (k1 k2 : Bool) (a b : Addr) : L2.It where
  go := fun i H => ∃ (xs ys : List V) (x y : V), Src K k1 H a xs ∧ Src K k2 H b ys ∧ xs[i]? = some x ∧ ys[i]? = some y
  yld := fun i H v H' => ∃ T x y ob, v = .ref T ∧ H T = none ∧ ob.dict = none ∧ H' = upd H T (.frz ob (.tup [x, y])) ∧ (∀ xs, Src K k1 H a xs → xs[i]? = some x) ∧ ∀ ys, Src K k2 H b ys → ys[i]? = some y
  stop := fun i H => ∃ xs ys : List V, Src K k1 H a xs ∧ Src K k2 H b ys ∧ i ≤ xs.length ∧ i ≤ ys.length ∧ (i = xs.length ∨ i = ys.length)
theorem at_lt {xs : List V} {i : Nat} {x : V} (h : xs[i]? = some x) : i < xs.length := by
  rcases Nat.lt_or_ge i xs.length with z | z
  · exact z
  · rw [List.getElem?_eq_none z] at h
    cases h
theorem sep_of {n a b : Addr} (ha : a < n) (hb : b < n) : ZipSep2 (n + 4) (n + 2) (n + 3) n (n + 1) [n, a] [n + 1, b] :=
  zip_sep2 (fp1 := [a]) (fp2 := [b]) (fun c hc => by rw [List.mem_singleton.mp hc]; exact ha) (fun c hc => by rw [List.mem_singleton.mp hc]; exact hb)
theorem turn_Z {P : Program} {w : World} {K : PySem.W.Frag} {elts : List Expr} {kk : Nat} {tpos : Pos} (k1 k2 : Bool) {a b n : Addr} (ha : a < n) (hb : b < n) :
    Turn P w K (.Tuple elts kk tpos) (ItZ K k1 k2 a b) [n + 4, n + 2, n + 3, n, n + 1] (n + 4)
      (fun i h => IsZip h (n + 4) (n + 2) (n + 3) .none ∧ IsTupOf2 h (n + 2) (.ref n) (.ref (n + 1)) ∧ (∃ x y, IsTupOf2 h (n + 3) x y) ∧ SrcIt k1 h n a i ∧ SrcIt k2 h (n + 1) b i) where
  mem := by simp
  obj := fun i h st c hc => by
    obtain ⟨hz, hTI, ⟨x, y, hTO⟩, h1, h2⟩ := st
    rcases (show c = n + 4 ∨ c = n + 2 ∨ c = n + 3 ∨ c = n ∨ c = n + 1 by simpa using hc) with rfl | rfl | rfl | rfl | rfl
    · exact ⟨_, hz, fun v q => nomatch q⟩
    · exact ⟨_, hTI, fun v q => nomatch q⟩
    · exact ⟨_, hTO, fun v q => nomatch q⟩
    · exact h1.get
    · exact h2.get
  keep := fun i h h' st q => by
    obtain ⟨hz, hTI, ⟨x, y, hTO⟩, h1, h2⟩ := st
    exact ⟨q _ (by simp) _ hz, q _ (by simp) _ hTI, ⟨x, y, q _ (by simp) _ hTO⟩, h1.at fun o => q n (by simp) o, h2.at fun o => q (n + 1) (by simp) o⟩
  item := by
    intro X hP hw hK hc i pins s σ H E I hf st hg
    subst hP hw hK
    obtain ⟨hz, hTI, ⟨x0, y0, hTO⟩, h1, h2⟩ := st
    obtain ⟨xs, ys, x, y, hqx, hqy, hx, hy⟩ := hg
    obtain ⟨its, rv, p, hal⟩ := BR.Inv.src I hqx
    obtain ⟨its2, rv2, p2, hbl⟩ := BR.Inv.src I hqy
    have l1 := rv.length
    have l2 := rv2.length
    have i1 := at_lt hx
    have i2 := at_lt hy
    have hzl := Heap.lt_size hz
    refine wpAny_pyNext_zipD2_item (sep_of ha hb) (src_draws (A := X.A.in1) (I.ok.hd hc) k1 n a (lt_off ha 0) its.toArray) (src_draws (A := X.A.in1) (I.ok.hd hc) k2 (n + 1) b (lt_off hb 1) its2.toArray) hz hTI hTO ⟨h1, p⟩ ⟨h2, p2⟩
      (by simp only [List.size_toArray]; omega) (by simp only [List.size_toArray]; omega) fun u u2 h' tk hu hu2 z' TO' st1 st2 hT hsz hk => ?_
    obtain ⟨v1, e1, r1⟩ := rv.get hx
    obtain ⟨v2, e2, r2⟩ := rv2.get hy
    have q1 : v1 = u := Option.some.inj (e1.symm.trans (by simpa using hu))
    have q2 : v2 = u2 := Option.some.inj (e2.symm.trans (by simpa using hu2))
    subst q1 q2
    refine ⟨_, rfl, wpAny_letOwnedTupleGo_zip (s := { s with heap := h', toks := tk }) z' fun h'' z'' sb => ?_⟩
    have hT2 : h''.get? s.heap.objs.size = some { cls := .type "tuple", data := .seq #[v1, v2] } := by
      rw [sb.2 _ (Nat.ne_of_gt hzl)]
      exact hT
    have new : ObjOk X.prog X.w (upd H s.heap.objs.size (.frz { cls := .type "tuple", data := .seq #[v1, v2] } (.tup [x, y]))) h'' s.heap.objs.size (.frz { cls := .type "tuple", data := .seq #[v1, v2] } (.tup [x, y])) := by
      refine ⟨hT2, by show 2 ≤ sizeLine; decide, [v1, v2], .cons r1 (.cons r2 .nil), _, hT2, rfl, _, rfl⟩
    have kept : ∀ c o, c ∉ [n + 4, n + 2, n + 3, n, n + 1] → s.heap.get? c = some o → h''.get? c = some o := by
      intro c o hc q
      have hc : c ≠ n + 4 ∧ c ≠ n + 2 ∧ c ≠ n + 3 ∧ c ≠ n ∧ c ≠ n + 1 := by simpa using hc
      rw [sb.2 c hc.1]
      exact hk c o hc.1 hc.2.2.1 hc.2.2.2.1 hc.2.2.2.2 q
    have I1 : Inv X pins σ (upd H s.heap.objs.size (.frz { cls := .type "tuple", data := .seq #[v1, v2] } (.tup [x, y]))) { s with heap := h'', toks := tk } := I.turnedNew kept hf (Nat.le_refl _) new
    refine ⟨.ref s.heap.objs.size, _, I1, rfl, ⟨_, x, y, _, rfl, I.hok.fresh (Nat.le_refl _), rfl, rfl, fun l hl => ?_, fun l hl => ?_⟩, ⟨z'', ?_, ⟨v1, v2, ?_⟩, ?_, ?_⟩, fun c hcm => ?_⟩
    · rw [BR.Inv.src_inj I hl hqx]
      exact hx
    · rw [BR.Inv.src_inj I hl hqy]
      exact hy
    · show h''.get? _ = _
      rw [sb.2 _ (off_ne n 2 4 (by decide))]
      exact hk _ _ (off_ne n 2 4 (by decide)) (off_ne n 2 3 (by decide)) (off_ne n 2 0 (by decide)) (off_ne n 2 1 (by decide)) hTI
    · show h''.get? _ = _
      rw [sb.2 _ (off_ne n 3 4 (by decide))]
      exact TO'
    · refine st1.1.at fun o q => ?_
      exact (sb.2 n (show n ≠ n + 4 from off_ne n 0 4 (by decide))).trans q
    · refine st2.1.at fun o q => ?_
      exact (sb.2 (n + 1) (off_ne n 1 4 (by decide))).trans q
    · have hlt : c < s.heap.objs.size := by
        rcases (show c = n + 4 ∨ c = n + 2 ∨ c = n + 3 ∨ c = n ∨ c = n + 1 by simpa using hcm) with z | z | z | z | z <;> rw [z]
        · exact hzl
        · exact lt_of4 n hzl 2 (by decide)
        · exact lt_of4 n hzl 3 (by decide)
        · exact lt_of4 n hzl 0 (by decide)
        · exact lt_of4 n hzl 1 (by decide)
      rw [upd_ne (Nat.ne_of_lt hlt)]
      exact (hf c hcm).1
  done := by
    intro X hP hw hK hc i pins s σ H E I hf st hg
    subst hP hw hK
    obtain ⟨hz, hTI, ⟨x0, y0, hTO⟩, h1, h2⟩ := st
    obtain ⟨xs, ys, hqx, hqy, le1, le2, hend⟩ := hg
    obtain ⟨its, rv, p, hal⟩ := BR.Inv.src I hqx
    obtain ⟨its2, rv2, p2, hbl⟩ := BR.Inv.src I hqy
    have l1 := rv.length
    have l2 := rv2.length
    refine wpAny_pyNext_zipD2_end (sep_of ha hb) (src_draws (A := X.A.in1) (I.ok.hd hc) k1 n a (lt_off ha 0) its.toArray) (src_draws (A := X.A.in1) (I.ok.hd hc) k2 (n + 1) b (lt_off hb 1) its2.toArray) hz hTI hTO ⟨h1, p⟩ ⟨h2, p2⟩
      (by simp only [List.size_toArray]; omega) (by simp only [List.size_toArray]; omega) (by simp only [List.size_toArray]; omega) fun h' tk hk => ⟨rfl, ?_⟩
    refine I.turnedL (t' := tk) (ch := [n + 4, n + 2, n + 3, n, n + 1]) (fun c o hc q => ?_) hf
    have hc : c ≠ n + 4 ∧ c ≠ n + 2 ∧ c ≠ n + 3 ∧ c ≠ n ∧ c ≠ n + 1 := by simpa using hc
    exact hk c o hc.1 hc.2.2.1 hc.2.2.2.1 hc.2.2.2.2 q
  self := fun A i s Q E st h => by
    exact wpAny_pyIter_zip st.1 h
def iZ (K : PySem.W.Frag) (ta : TA) : TI := fun σ H R => ta σ H fun vs H1 => ∃ a b k1 k2 xs ys, vs = [.ref a, .ref b] ∧ Src K k1 H1 a xs ∧ Src K k2 H1 b ys ∧ R (ItZ K k1 k2 a b) H1
theorem pi_Z {X : Cx} {e e2 : Expr} {ta : TA} {p pos tpos : Pos} {elts : List Expr} {kk : Nat} (hg : Gl X "zip") (hm : X.mg "zip" = none) (ha : PA X [e, e2] ta)
    (hs : starEach [e, e2] X.env = (false, eval e X.env) :: starEach [e2] X.env) (hpl : (backTo pos (starEach [e2] X.env)).any (·.1) = false) :
    PI X (.Tuple elts kk tpos) (.Call (.Name "zip" p) [e, e2] [] pos) (iZ X.K ta) := by
  refine ⟨fun pins s σ H R I h => ?_⟩
  refine Call_ (ld_blt I hg hm PyProof.Rows.boot_zip (PyProof.Rows.callWith_type1 (thn (ha.run pos pins s σ H _ I h) fun us s1 ⟨vs, H1, I1, r1, a, b, k1, k2, xs, ys, ex, hqx, hqy, q⟩ => ?_) hs hpl))
  subst ex
  cases r1 with
  | cons r rr =>
    cases rr with
    | cons r' rr =>
      cases rr
      cases r
      cases r'
      obtain ⟨its, rv, p1, hal⟩ := BR.Inv.src I1 hqx
      obtain ⟨its2, rv2, p2, hbl⟩ := BR.Inv.src I1 hqy
      refine zip_begins2 (src_begins k1 a its.toArray) (src_begins k2 b its2.toArray) p1 p2 fun h' hz hTI hTO h1 h2 hsz hk => wpAny_pyIter_zip hz ?_
      have I2 : Inv X pins σ H1 { s1 with heap := h' } := I1.kept (t' := s1.toks) hk
      generalize hn : s1.heap.objs.size = n at *
      refine ⟨n + 4, [n + 4, n + 2, n + 3, n, n + 1], _, _, H1, rfl, I2, turn_Z k1 k2 hal hbl, ⟨hz, hTI, ⟨_, _, hTO⟩, src_it0 h1, src_it0 h2⟩, fun c hcm => ?_, q⟩
      have hle : s1.heap.objs.size ≤ c := by
        rcases (show c = n + 4 ∨ c = n + 2 ∨ c = n + 3 ∨ c = n ∨ c = n + 1 by simpa using hcm) with z | z | z | z | z <;> rw [hn, z]
        · exact Nat.le_add_right n 4
        · exact Nat.le_add_right n 2
        · exact Nat.le_add_right n 3
        · exact Nat.le_refl n
        · exact Nat.le_add_right n 1
      refine I1.fpOk hle ?_
      exact I1.hok.fresh hle
theorem walk_Z {K : PySem.W.Frag} {k1 k2 : Bool} {a b : Addr} {xs ys : List V} : Walk (ItZ K k1 k2 a b) (min xs.length ys.length) (fun H => Src K k1 H a xs ∧ Src K k2 H b ys) (YPairX (fun i => xs[i]?) (fun i => ys[i]?)) := by
  refine ⟨fun i _ hi q => ?_, fun _ q => ⟨xs, ys, q.1, q.2, by omega, by omega, by omega⟩, fun i H v H' _ q y => ?_⟩
  · have h1 : i < xs.length := by omega
    have h2 : i < ys.length := by omega
    refine ⟨xs, ys, xs[i], ys[i], q.1, q.2, ?_, ?_⟩
    · simp [h1]
    · simp [h2]
  · obtain ⟨T, x, z, ob, h1, h2, hd, h3, h4, h5⟩ := y
    refine ⟨T, x, z, ob, h1, h2, hd, h3, ?_, ?_⟩
    · exact h4 xs q.1
    · exact h5 ys q.2
end BR
set_option Elab.async false
set_option linter.all false
set_option maxRecDepth 100000
set_option maxHeartbeats 4000000
/-! the text and the evaluator's syntax -/
namespace BR
open PySem PySem.Spec PyProof.Rows L2
/-- the names of a def by place, the defs by number, the ways of calling by keywords -/
structure Cfg where
  N : List Str
  fns : List Str
  kws : List (Nat × Nat × List Str × List Nat)
  gd : Bool
  okN : Nat → Stmt → Bool
  okE : Nat → Expr → Bool
  mkr : Option (Str × (Nat → Nat → Str))
/-- the name that the code object of what is made here has in the def's table -/
def mkOk (c : Cfg) (x : Str) (p : Pos) : Bool := match c.mkr with
  | some (q, nm) => nm p.line p.col == (q ++ (".<locals>." : Str)) ++ x
  | none => false
def noFree (sc : Scope) : Bool := sc.names.all fun y => match y.2 with
  | .free => false
  | _ => true
def noDf (ps : Arguments) : Bool := ps.defaults.isEmpty && ps.kw_defaults.isEmpty
def vis (sc : Scope) (x : Str) : Bool := (match sc.names.lookup x with | some .local => true | some .cell => true | some .free => true | _ => false) && !(x == ("__debug__" : Str)) && !(x == ("__classdict__" : Str))
def glb (sc : Scope) (x : Str) : Bool := (match sc.names.lookup x with | some .globalImplicit => true | _ => false) && !(x == ("__debug__" : Str))
/-- no slice, no set, no star -/
def pl : Expr → Bool
  | .Slice _ _ _ _ => false
  | .Set _ _ _ => false
  | .Starred _ _ => false
  | _ => true
def biName : Bi → String
  | .len => "len" | .sum => "sum" | .max1 => "max" | .min1 => "min" | .max2 => "max" | .min2 => "min" | .sorted => "sorted" | .tuple => "tuple" | .list => "list"
  | .all => "all" | .any => "any" | .int => "int" | .abs => "abs" | .str => "str" | .repr => "repr" | .divmod => "divmod"
def tyName : Ty → String
  | .int => "int" | .bool => "bool" | .str => "str" | .tuple => "tuple" | .list => "list"
/-- what is not a call without arguments -/
def plAt : Expr → Bool
  | .Call _ [] [] _ => false
  | _ => true
/-- the names of keywords, in order -/
def kwN : List Keyword → List Str → Bool
  | [], [] => true
  | ⟨some n, _, _⟩ :: r, k :: ks => n == k && kwN r ks
  | _, _ => false
/-- the built-in names that may be used -/
def blts : List String := ["len", "sum", "max", "min", "sorted", "tuple", "list", "all", "any", "int", "abs", "str", "repr", "divmod", "set", "range", "zip", "enumerate", "reversed", "isinstance", "bool"]
mutual
def tgSlots : Tg → List Nat
  | .nm i => [i]
  | .tp ts => tgsSlots ts
def tgsSlots : Tgs → List Nat
  | .nil => []
  | .nm i r => i :: tgsSlots r
  | .tp t r => tgsSlots t ++ tgsSlots r
end
section
variable (c : Cfg)
/-- a name that is stored -/
def locOk (sc : Scope) (fn : Str → Bool) (i : Nat) (x : Str) : Bool :=
  decide (c.N[i]? = some x) && (match sc.names.lookup x with | some .local => true | some .cell => fn x | _ => false)
mutual
def mTs (sc : Scope) (fn : Str → Bool) : Tgs → List Expr → Bool
  | .nil, [] => true
  | .nm i r, .Name x _ :: xs => locOk c sc fn i x && mTs sc fn r xs
  | .tp t r, .Tuple es _ _ :: xs => mTs sc fn t es && mTs sc fn r xs
  | _, _ => false
end
def mT (sc : Scope) (fn : Str → Bool) : Tg → Expr → Bool
  | .nm i, .Name x _ => locOk c sc fn i x
  | .tp t, .Tuple es _ _ => mTs c sc fn t es
  | _, _ => false
def isTup : Expr → Bool
  | .Tuple _ _ _ => true
  | _ => false
def noIf : Expr → Bool
  | .IfExp _ _ _ _ => false
  | _ => true
/-- what a comprehension's block sees -/
def fnOfBlk (scope : Scope) : Str → Bool := fun x => scope.names.lookup x == some .cell
mutual
def mE (sc : Scope) : E → Expr → Bool
  | .var i, x => (match x with | .Name y _ => decide (c.N[i]? = some y) && vis sc y | _ => false)
  | .glo z, x => (match x with | .Name y _ => y == z && glb sc y | _ => false)
  | .fnv z k, x => (match x with | .Name y _ => y == z && glb sc y && decide (c.fns[k]? = some z) | _ => false)
  | .int i, x => (match x with | .Constant (.int j) _ _ => decide (i = j) | _ => false)
  | .str s, x => (match x with | .Constant (.str t) _ _ => decide (s = t) | _ => false)
  | .bl b, x => (match x with | .Constant (.bool d) _ _ => b == d | _ => false)
  | .non, x => (match x with | .Constant .none _ _ => true | _ => false)
  | .tup es, x => (match x with | .Tuple xs _ _ => mEs sc es xs | _ => false)
  | .lst es, x => (match x with | .List xs _ => mEs sc es xs | _ => false)
  | .newl es, x => (match x with | .List xs _ => mEs sc es xs | _ => false)
  | .newc e, x => (match x with | .Call (.Name y _) [z] [] _ => y == ("list" : Str) && glb sc y && pl z && mE sc e z | _ => false)
  | .bin op a b, x => (match x with | .BinOp y op' z _ => decide (op = op') && mE sc a y && mE sc b z | _ => false)
  | .neg a, x => (match x with | .UnaryOp .USub y _ => mE sc a y | _ => false)
  | .nt a, x => (match x with | .UnaryOp .Not y _ => noIf y && mE sc a y | _ => false)
  | .cmp op a b, x => (match x with | .Compare y [op'] [z] _ => decide (op = op') && pl z && mE sc a y && mE sc b z | _ => false)
  | .cmp2 o1 o2 a b d, x => (match x with | .Compare y [p1, p2] [z, w] _ => decide (o1 = p1) && decide (o2 = p2) && pl z && pl w && mE sc a y && mE sc b z && mE sc d w | _ => false)
  | .and a es, x => (match x with | .BoolOp .And (y :: z :: zs) _ => noIf y && (z :: zs).all noIf && mE sc a y && mEs sc es (z :: zs) | _ => false)
  | .or a es, x => (match x with | .BoolOp .Or (y :: z :: zs) _ => noIf y && (z :: zs).all noIf && mE sc a y && mEs sc es (z :: zs) | _ => false)
  | .ite k a b, x => (match x with | .IfExp w y z _ => noIf w && mE sc k w && mE sc a y && mE sc b z | _ => false)
  | .idx a b, x => (match x with | .Subscript y z _ => pl z && mE sc a y && mE sc b z | _ => false)
  | .sl a lo hi, x => (match x with | .Subscript y (.Slice l h none _) _ => mE sc a y && mO sc lo l && mO sc hi h | _ => false)
  | .rvs a, x => (match x with | .Subscript y (.Slice none none (some (.UnaryOp .USub (.Constant (.int 1) _ _) _)) _) _ => mE sc a y | _ => false)
  | .call z k es, x => (match x with | .Call (.Name y _) (w :: ws) [] _ => y == z && glb sc y && decide (c.fns[k]? = some z) && (w :: ws).all pl && mEs sc es (w :: ws) | _ => false)
  | .callk z k es ks ix kes, x => (match x with | .Call (.Name y _) ws kws _ => y == z && glb sc y && decide (c.fns[k]? = some z) && ws.all pl && c.kws.contains (k, ws.length, ks, ix) && kwN kws ks && mEs sc es ws && mEs sc kes (kws.map (·.value)) | _ => false)
  | .callv i es, x => (match x with | .Call (.Name y _) (w :: ws) [] _ => decide (c.N[i]? = some y) && vis sc y && (w :: ws).all pl && mEs sc es (w :: ws) | _ => false)
  | .bi b es, x => (match x with | .Call (.Name y _) (w :: ws) [] _ => (!(decide (b = .repr)) || c.gd) && y == (biName b : Str) && glb sc y && (w :: ws).all pl && mEs sc es (w :: ws) | _ => false)
  | .sset e, x => (match x with | .Call (.Name y _) [.Call (.Name z _) [w] [] _] [] _ => y == ("sorted" : Str) && glb sc y && z == ("set" : Str) && glb sc z && pl w && mE sc e w | _ => false)
  | .lset e, x => (match x with | .Call (.Name y _) [.Call (.Name z _) [w] [] _] [] _ => y == ("len" : Str) && glb sc y && z == ("set" : Str) && glb sc z && pl w && mE sc e w | _ => false)
  | .isi t a, x => (match x with | .Call (.Name y _) [z, .Name w _] [] _ => y == ("isinstance" : Str) && glb sc y && w == (tyName t : Str) && glb sc w && pl z && mE sc a z | _ => false)
  | .index o a, x => (match x with | .Call (.Attribute y n ap) [w] [] p => n == ("index" : Str) && (ap.endLine == p.line) && plAt y && pl w && mE sc o y && mE sc a w | _ => false)
  | .split o a, x => (match x with | .Call (.Attribute y n ap) [w] [] p => n == ("split" : Str) && (ap.endLine == p.line) && plAt y && pl w && mE sc o y && mE sc a w | _ => false)
  | .cpop o ix, x => (match x with | .Call (.Attribute y n ap) [w] [] p => n == ("pop" : Str) && (ap.endLine == p.line) && plAt y && pl w && mE sc o y && mE sc ix w | _ => false)
  | .trg a, x => (match x with | .Call (.Name y _) [.Call (.Name z _) [w] [] _] [] _ => y == ("tuple" : Str) && glb sc y && z == ("range" : Str) && glb sc z && pl w && mE sc a w | _ => false)
  | .lrg a, x => (match x with | .Call (.Name y _) [.Call (.Name z _) [w] [] _] [] _ => y == ("list" : Str) && glb sc y && z == ("range" : Str) && glb sc z && pl w && mE sc a w | _ => false)
  | .minkey a g, x => (match x with | .Call (.Name y _) [w] [⟨some n, z, _⟩] _ => y == ("min" : Str) && glb sc y && n == ("key" : Str) && pl w && mE sc a w && mE sc g z | _ => false)
  | .sortkey a g, x => (match x with | .Call (.Name y _) [w] [⟨some n, z, _⟩] _ => y == ("sorted" : Str) && glb sc y && n == ("key" : Str) && pl w && mE sc a w && mE sc g z | _ => false)
  | .lam k, x => (match x with | .Lambda ps b sc2 p => noDf ps && noFree sc2 && c.okE k x && mkOk c "<lambda>" p | _ => false)
  | .lc own t i q e, x => (match x with | .ListComp elt [⟨tg, iter, ifs, 0⟩] scope _ => blkC c.N sc scope own && mT c (relS scope sc) (fnOfBlk scope) t tg && (tgSlots t).all (fun j => (own.map (·.2)).contains j) && mI sc i tg iter && mC (relS scope sc) q ifs && mE (relS scope sc) e elt | _ => false)
  | .lc2 own t i q vs t1 i1 q1 e, x => (match x with | .ListComp elt [⟨tg, iter, ifs, 0⟩, ⟨tg1, iter1, ifs1, 0⟩] scope _ => blkC c.N sc scope own && mT c (relS scope sc) (fnOfBlk scope) t tg && (tgSlots t).all (fun j => (own.map (·.2)).contains j) && mI sc i tg iter && mC (relS scope sc) q ifs && vs.all (fun j => (own.map (·.2)).contains j) && mT c (relS scope sc) (fnOfBlk scope) t1 tg1 && (tgSlots t1).all (fun j => vs.contains j) && mI (relS scope sc) i1 tg1 iter1 && mC (relS scope sc) q1 ifs1 && mE (relS scope sc) e elt | _ => false)
def mEs (sc : Scope) : Es → List Expr → Bool
  | .nil, xs => (match xs with | [] => true | _ => false)
  | .cons e r, xs => (match xs with | x :: xs => mE sc e x && mEs sc r xs | [] => false)
def mO (sc : Scope) : Eo → Option Expr → Bool
  | .none, x => (match x with | none => true | _ => false)
  | .some e, x => (match x with | some x => mE sc e x | _ => false)
def mI (sc : Scope) : It → Expr → Expr → Bool
  | .seq e, _, x => pl x && mE sc e x
  | .chars e, _, x => pl x && mE sc e x
  | .rg1 a, _, x => (match x with | .Call (.Name y _) [z] [] _ => y == ("range" : Str) && glb sc y && pl z && mE sc a z | _ => false)
  | .rg2 a b, _, x => (match x with | .Call (.Name y _) [z, w] [] _ => y == ("range" : Str) && glb sc y && pl z && pl w && mE sc a z && mE sc b w | _ => false)
  | .zip a b, t, x => (match x with | .Call (.Name y _) [z, w] [] _ => isTup t && y == ("zip" : Str) && glb sc y && pl z && pl w && mE sc a z && mE sc b w | _ => false)
  | .enum a, t, x => (match x with | .Call (.Name y _) [z] [] _ => isTup t && y == ("enumerate" : Str) && glb sc y && pl z && mE sc a z | _ => false)
  | .rev a, _, x => (match x with | .Call (.Name y _) [z] [] _ => y == ("reversed" : Str) && glb sc y && pl z && mE sc a z | _ => false)
def mC (sc : Scope) : Eo → List Expr → Bool
  | .none, xs => (match xs with | [] => true | _ => false)
  | .some e, xs => (match xs with | [x] => noIf x && mE sc e x | _ => false)
end
end
end BR
set_option Elab.async false
set_option linter.all false
set_option maxRecDepth 100000
set_option maxHeartbeats 4000000
/-! the rules of expressions, one by one -/
namespace BR
open PySem PySem.Spec PyProof.Rows L2
/-- nothing is let out -/
abbrev CXZ : CXT := fun _ _ _ _ _ _ => False
/-- a def keeps a promise where nothing is being shown -/
structure FnG (gd : Bool) (P : Program) (w : World) (K : PySem.W.Frag) (mg : Str → Option Value) (base : Heap) (k : Nat) (f : Addr) (fd : FuncData) (ps : List Str) (sp : Sp) : Prop where
  len : ∀ vs H Q E, sp vs H Q E → vs.length = ps.length
  run : ∀ (A : Around) (outer : List Env) (s : Shared) (H : Hp) (args : Args) (us : List Value) (vs : List V) (Q : VK) (E : XK), Room k A → (gd = true → A.guards = some []) → Env0 P w K mg base A outer s H →
    BindsTo s fd args (ps.zip us) → Vals vs us → sp vs H Q E → codeAny (model P w) A (.call (.ref f) args) (CR CXZ outer P w H s Q E) s
/-- a def made within a def keeps a promise, wherever it lies -/
structure FnL (gd : Bool) (P : Program) (w : World) (K : PySem.W.Frag) (mg : Str → Option Value) (base : Heap) (k : Nat) (nk : NK) (ps : List Str) (sp : Sp) : Prop where
  len : ∀ vs H Q E, sp vs H Q E → vs.length = ps.length
  run : ∀ (A : Around) (outer : List Env) (s : Shared) (H : Hp) (f c : Addr) (us : List Value) (vs : List V) (Q : VK) (E : XK), Room k A → (gd = true → A.guards = some []) → Env0 P w K mg base A outer s H →
    H f = some (FunO f c nk) → H c = some (LamX.CodeO c nk.qual) → Vals vs us → sp vs H Q E → codeAny (model P w) A (.call (.ref f) ⟨us, []⟩) (CR CXZ outer P w H s Q E) s
abbrev W0 : WX := fun _ _ _ _ => False
/-- a def's promise by what the evaluator says of it -/
def spO (F : Fix) (np : Nat) (f : List PyData → List Cell → Res PyData) : Sp := fun vs H Q _ => ∃ κ U C ds, ds.length = np ∧ Hv F κ U H C ∧ RpAll F κ U H vs ds ∧
  BR.Fin F W0 κ H [] (f ds C) fun d _ κ' H' => ∀ v, Rp F κ' U H' v d → Q v H'
/-- how keywords bind -/
def KBnd (K : PySem.W.Frag) (fd : FuncData) (ps : List Str) (n : Nat) (ks : List Str) (ix : List Nat) : Prop :=
  ∀ (s : Shared) (us ws r : List Value), K.In s.heap → us.length = n → ws.length = ks.length → placed (us ++ ws) ix = some r → r.length = ps.length → BindsTo s fd ⟨us, ks.zip ws⟩ (ps.zip r)
/-- the defs that may be called, at a level -/
structure Mx (P : Program) (w : World) (F : Fix) (c : Cfg) (base : Heap) (n : Nat) (Φ : Oracle) (G : Str → Option PyData) : Prop where
  cf : c.fns = F.fns
  fns : ∀ (k : Nat) (x : Str), c.fns[k]? = some x → ∃ (f : Addr) (fd : FuncData) (ps : List Str), F.mg x = some (.ref f) ∧ PySem.W.keepIn F.K (.ref f) = true ∧ FnG c.gd P w F.K F.mg base n f fd ps (spO F ps.length (Φ k)) ∧
    (∀ ds C, Φ k ds C ≠ .stuck → ds.length = ps.length) ∧ Binds F.K fd ps [] ∧ ∀ (np : Nat) (ks : List Str) (ix : List Nat), (k, np, ks, ix) ∈ c.kws → KBnd F.K fd ps np ks ix
  glo : ∀ (x : Str) (d : PyData), G x = some d → ∃ (v : V) (u : Value), F.mg x = some u ∧ RelV v u ∧ ∀ κ U H, Rp F κ U H v d
  blt : ∀ x ∈ blts, F.mg (x : Str) = none
  nst : ∀ (k : Nat) (nk : NK), F.okF k nk → ∃ ps : List Str, FnL c.gd P w F.K F.mg base n nk ps (spO F ps.length (Φ k)) ∧ ∀ ds C, Φ k ds C ≠ .stuck → ds.length = ps.length
  okN : ∀ (k : Nat) (name : Str) (params : Arguments) (body : List Stmt) (scope : Scope) (pos : Pos), c.okN k (.FunctionDef name params body [] none [] scope none name pos) = true → ∀ q, F.okF k (.dfn name q params body scope)
  okE : ∀ (k : Nat) (params : Arguments) (body : Expr) (scope : Scope) (pos : Pos), c.okE k (.Lambda params body scope pos) = true → ∀ q, F.okF k (.lam q params body scope)
theorem room_dI {k : Nat} {A : Around} (r : Room (k + 1) A) (env : Env) : Room k (A.deeper env).in1.in1 :=
  ⟨r.hd, by have := r.dp; show A.depth + 1 + 3 * k + 5 < _; omega, by have := r.un; show A.units + 3 + 1 + 1 + 16 * k + 200 < _; omega⟩
theorem room_out {k : Nat} {A : Around} (r : Room k A.in1) : Room k A :=
  ⟨r.hd, by have : A.depth + 3 * k + 5 < recursionLimit := r.dp; exact this, by have : A.units + 1 + 16 * k + 200 < cLine := r.un; omega⟩
/-- where one stands -/
structure Lx (P : Program) (w : World) (F : Fix) (c : Cfg) (base : Heap) (n : Nat) (X : Cx) (sc : Scope) : Prop where
  pr : X.prog = P
  wo : X.w = w
  ba : X.base = base
  K : F.K = X.K
  mg : F.mg = X.mg
  N : X.N = c.N
  nd : X.N.Nodup
  sc : X.env.scope = sc
  calm : X.calm = true
  room : Room n X.A
  rin : Room n X.A.in1.in1
  gs : c.gd = true → X.A.guards = some []
  mkk : ∀ (q : Str) (nm : Nat → Nat → Str), c.mkr = some (q, nm) → ∃ cc P : Addr, LamX.TabB X.base X.mg cc P ∧ X.env.code = .ref cc ∧ (P, nm) ∈ F.tabs ∧ (∀ p ∈ F.tabs, p.1 = P → p.2 = nm) ∧ X.env.qual = q ++ (".<locals>." : Str)
theorem Lx.hu {P : Program} {w : World} {F : Fix} {c : Cfg} {base : Heap} {n : Nat} {X : Cx} {sc : Scope} (L : Lx P w F c base n X sc) : X.A.units + 67 < cLine := by
  have := L.room.un
  omega
theorem Lx.blk {P : Program} {w : World} {F : Fix} {c : Cfg} {base : Heap} {n : Nat} {X : Cx} {sc : Scope} (L : Lx P w F c base n X sc) (s : Shared) (H : Hp) (scope : Scope) (C : Addr) (cl : List (Str × Addr)) (fp : List Addr) :
    Lx P w F c base n (X.blk s H scope (compEnvC scope cl C X.env) fp) (relS scope sc) := by
  refine ⟨L.pr, L.wo, L.ba, L.K, L.mg, L.N, L.nd, ?_, L.calm, L.room, L.rin, L.gs, L.mkk⟩
  rw [← L.sc]
  rfl
theorem vis_of {sc : Scope} {x : Str} (h : vis sc x = true) : Vis sc x ∧ (x == ("__debug__" : Str)) = false ∧ (x == ("__classdict__" : Str)) = false := by
  unfold vis at h
  simp only [Bool.and_eq_true, Bool.not_eq_true'] at h
  refine ⟨?_, h.1.2, h.2⟩
  have h1 := h.1.1
  split at h1
  · exact .inl (by assumption)
  · exact .inr (.inl (by assumption))
  · exact .inr (.inr (by assumption))
  · cases h1
theorem glb_of {X : Cx} {sc : Scope} {x : Str} (hs : X.env.scope = sc) (h : glb sc x = true) : Gl X x ∧ (x == ("__debug__" : Str)) = false := by
  unfold glb at h
  simp only [Bool.and_eq_true, Bool.not_eq_true'] at h
  refine ⟨?_, h.2⟩
  have h1 := h.1
  split at h1
  · show X.env.scope.names.lookup x = _
    rw [hs]
    assumption
  · cases h1
theorem pl_star {e : Expr} {es : List Expr} {env : Env} (h : pl e = true) : starEach (e :: es) env = (false, eval e env) :: starEach es env := by
  cases e <;> first | rfl | (cases h; done)
theorem pl_any {es : List Expr} {env : Env} {pos : Pos} (h : es.all pl = true) : (backTo pos (starEach es env)).any (·.1) = false := by
  induction es with
  | nil => rfl
  | cons e r ih =>
    rw [List.all_cons, Bool.and_eq_true] at h
    rw [pl_star h.1]
    have := ih h.2
    unfold backTo at *
    simpa using this
theorem pl_ix {e : Expr} (h : pl e = true) : PlainIx e := by
  intro o i
  cases e <;> first | rfl | (cases h; done)
theorem pl_set {e : Expr} (h : pl e = true) (env : Env) : ∀ x, foldedSetIterable e env x = pure x := by
  intro x
  cases e <;> first | rfl | (cases h; done)
theorem pl_mark {op : CmpOp} {e : Expr} (h : pl e = true) : behindInMarks op e = false := by
  cases e <;> first | rfl | (cases h; done)
section
variable {X : Cx} {F : Fix} {W : WX} {x y z : Expr} {p : Pos} {fa fb fc : VEnv → List Cell → Res PyData}
/-- one part, then the rest -/
theorem one {g : PyData → List Cell → Res PyData} {σ : L2.St} {H : Hp} {Q : VK} (h : rdE F W (fun δ C => (fa δ C).bind g) σ H Q) :
    rdE F W fa σ H fun v H1 => ∃ κ U C a, Hv F κ U H1 C ∧ Rp F κ U H1 v a ∧ BR.Fin F W κ H1 σ (g a C) fun d _ κ' H' => ∀ w, Rp F κ' U H' w d → Q w H' := by
  obtain ⟨κ, U, δ, C, cx, h⟩ := h
  exact ⟨κ, U, δ, C, cx, h.bind.mono fun a C1 κ1 H1 p1 h1 v rv => ⟨κ1, U, C1, a, (cx.post p1).hv, rv, h1⟩⟩
theorem two {g : PyData → PyData → List Cell → Res PyData} {σ : L2.St} {H : Hp} {Q : VK} (h : rdE F W (fun δ C => (fa δ C).bind fun a C => (fb δ C).bind fun b C => g a b C) σ H Q) :
    rdE F W fa σ H fun v H1 => rdE F W fb σ H1 fun w H2 => ∃ κ U C a b, Hv F κ U H2 C ∧ Rp F κ U H2 v a ∧ Rp F κ U H2 w b ∧ BR.Fin F W κ H2 σ (g a b C) fun d _ κ' H' => ∀ u, Rp F κ' U H' u d → Q u H' := by
  obtain ⟨κ, U, δ, C, cx, h⟩ := h
  refine ⟨κ, U, δ, C, cx, h.bind.mono fun a C1 κ1 H1 p1 h1 v rv => ?_⟩
  exact ⟨κ1, U, δ, C1, cx.post p1, h1.bind.mono fun b C2 κ2 H2 p2 h2 w rw => ⟨κ2, U, C2, a, b, ((cx.post p1).post p2).hv, rv.post p2, rw, h2⟩⟩
/-- a plain answer -/
theorem fin_give {κ : List Addr} {U : Addr → Prop} {H : Hp} {C : List Cell} {σ : L2.St} {o : Option PyData} {Q : VK} (h : BR.Fin F W κ H σ (opt o C) fun d _ κ' H' => ∀ u, Rp F κ' U H' u d → Q u H') :
    ∃ d, o = some d ∧ ∀ v H', Post F κ H κ H' C → Rp F κ U H' v d → Q v H' := by
  obtain ⟨d, e, h⟩ := h.opt
  exact ⟨d, e, fun v H' p r => h κ H' p v r⟩
theorem r_var {i : Nat} {n : Str} (hN : X.N[i]? = some n) (hv : Vis X.env.scope n) (hd : (n == ("__debug__" : Str)) = false) (hc : (n == ("__classdict__" : Str)) = false) : PE X (.Name n p) (rdE F W fun δ C => opt (δ[i]?.join) C) := by
  refine wkE (pe_var hN hv hd hc) fun σ H Q ⟨κ, U, δ, C, cx, h⟩ => ?_
  obtain ⟨d, e, k⟩ := fin_give h
  obtain ⟨v, q, r⟩ := cx.sl i d e
  exact ⟨v, q, k v H (.refl cx.sr) r⟩
theorem r_con {t : TE} {d : PyData} {v : V} (h : PE X x t) (ht : ∀ σ H Q, Q v H → t σ H Q) (hr : ∀ κ U H, Rp F κ U H v d) : PE X x (rdE F W fun _ C => .ok d C) :=
  wkE h fun σ H Q ⟨κ, U, δ, C, cx, h⟩ => ht σ H Q (h κ H (.refl cx.sr) v (hr κ U H))
theorem r_bin {op : Operator} (hK : F.K = X.K) (ha : PE X x (rdE F W fa)) (hb : PE X y (rdE F W fb)) : PE X (.BinOp x op y p) (rdE F W fun δ C => (fa δ C).bind fun a C => (fb δ C).bind fun b C => opt (binF op a b) C) := by
  refine wkE (pe_op (op_binD hK op) ha hb) fun σ H Q h => ?_
  obtain ⟨κ, U, δ, C, cx, h⟩ := two h
  refine ⟨κ, U, δ, C, cx, h.mono fun a C1 κ1 H1 p1 h1 v rv => ?_⟩
  obtain ⟨κ, U, δ, C, cx, h⟩ := h1 v rv
  refine ⟨κ, U, δ, C, cx, h.mono fun a C1 κ1 H1 p1 h1 v rv => ?_⟩
  obtain ⟨κ, U, C, a, b, hv, ra, rb, h⟩ := h1 v rv
  obtain ⟨d, e, k⟩ := fin_give h
  exact ⟨κ, U, C, a, b, d, hv, ra, rb, e, k⟩
theorem rdE_mono {f : VEnv → List Cell → Res PyData} {σ : L2.St} {H : Hp} {Q Q' : VK} (h : rdE F W f σ H Q) (k : ∀ v H', Q v H' → Q' v H') : rdE F W f σ H Q' := by
  obtain ⟨κ, U, δ, C, cx, h⟩ := h
  exact ⟨κ, U, δ, C, cx, h.mono fun a C1 κ1 H1 p1 h1 v rv => k v H1 (h1 v rv)⟩
theorem rdA_mono {f : VEnv → List Cell → Res (List PyData)} {σ : L2.St} {H : Hp} {Q Q' : List V → Hp → Prop} (h : rdA F W f σ H Q) (k : ∀ v H', Q v H' → Q' v H') : rdA F W f σ H Q' := by
  obtain ⟨κ, U, δ, C, cx, h⟩ := h
  exact ⟨κ, U, δ, C, cx, h.mono fun a C1 κ1 H1 p1 h1 v rv => k v H1 (h1 v rv)⟩
theorem rdT_mono {f : VEnv → List Cell → Res Bool} {σ : L2.St} {H : Hp} {Q Q' : Bool → Hp → Prop} (h : rdT F W f σ H Q) (k : ∀ v H', Q v H' → Q' v H') : rdT F W f σ H Q' := by
  obtain ⟨κ, U, δ, C, cx, h⟩ := h
  exact ⟨κ, U, δ, C, cx, h.mono fun a C1 κ1 H1 p1 h1 => k a H1 h1⟩
theorem oneA {fA : VEnv → List Cell → Res (List PyData)} {g : List PyData → List Cell → Res PyData} {σ : L2.St} {H : Hp} {Q : VK} (h : rdE F W (fun δ C => (fA δ C).bind g) σ H Q) :
    rdA F W fA σ H fun vs H1 => ∃ κ U C ds, Hv F κ U H1 C ∧ RpAll F κ U H1 vs ds ∧ BR.Fin F W κ H1 σ (g ds C) fun d _ κ' H' => ∀ w, Rp F κ' U H' w d → Q w H' := by
  obtain ⟨κ, U, δ, C, cx, h⟩ := h
  exact ⟨κ, U, δ, C, cx, h.bind.mono fun a C1 κ1 H1 p1 h1 v rv => ⟨κ1, U, C1, a, (cx.post p1).hv, rv, h1⟩⟩
theorem r_nil : PA X [] (rdA F W fun _ C => .ok [] C) := wkA pa_nil fun σ H Q ⟨κ, U, δ, C, cx, h⟩ => h κ H (.refl cx.sr) [] .nil
theorem r_cons {es : List Expr} {fr : VEnv → List Cell → Res (List PyData)} (hs : starEach (x :: es) X.env = (false, eval x X.env) :: starEach es X.env) (ha : PE X x (rdE F W fa)) (hr : PA X es (rdA F W fr)) :
    PA X (x :: es) (rdA F W fun δ C => (fa δ C).bind fun d C => (fr δ C).bind fun ds C => .ok (d :: ds) C) := by
  refine wkA (pa_cons ha hr hs) fun σ H Q ⟨κ, U, δ, C, cx, h⟩ => ?_
  refine ⟨κ, U, δ, C, cx, h.bind.mono fun a C1 κ1 H1 p1 h1 v rv => ?_⟩
  exact ⟨κ1, U, δ, C1, cx.post p1, h1.bind.mono fun ds C2 κ2 H2 p2 h2 vs rs => h2 κ2 H2 (.refl p2.sr) (v :: vs) (.cons (rv.post p2) rs)⟩
theorem r_tup {es : List Expr} {x1 : Nat} {fA : VEnv → List Cell → Res (List PyData)} (h : PA X es (rdA F W fA)) : PE X (.Tuple es x1 p) (rdE F W fun δ C => (fA δ C).bind fun ds C => opt (gd (decide (ds.length ≤ big)) (.tuple ds)) C) := by
  refine wkE (pe_tupX h) fun σ H Q h => rdA_mono (oneA h) fun vs H1 ⟨κ, U, C, ds, hv, r, h⟩ => ?_
  obtain ⟨d, e, k⟩ := fin_give h
  obtain ⟨g, rfl⟩ := gd_some e
  refine ⟨big_le (by rw [r.length]; exact of_decide_eq_true g), fun q ob hq hd => ?_⟩
  have n := hv.newT hq hd r
  exact k _ _ n.1 n.2
theorem r_lst {es : List Expr} {fA : VEnv → List Cell → Res (List PyData)} (h : PA X es (rdA F W fA)) : PE X (.List es p) (rdE F W fun δ C => (fA δ C).bind fun ds C => opt (gd (decide (ds.length ≤ big)) (.list ds)) C) := by
  refine wkE (pe_lst h) fun σ H Q h => rdA_mono (oneA h) fun vs H1 ⟨κ, U, C, ds, hv, r, h⟩ => ?_
  obtain ⟨d, e, k⟩ := fin_give h
  obtain ⟨g, rfl⟩ := gd_some e
  refine ⟨big_le (by rw [r.length]; exact of_decide_eq_true g), fun q hq => ?_⟩
  have n := hv.newL hq r
  exact k _ _ n.1 n.2
/-- a new cell -/
theorem Hv.newC {κ : List Addr} {U : Addr → Prop} {H : Hp} {C : List Cell} {q : Addr} {vs : List V} {ds : List PyData} (hv : Hv F κ U H C) (hq : H q = none) (hf : flats ds = true) (r : RpAll F κ U H vs ds) :
    Post F κ H (κ ++ [q]) (upd H q (.lst vs)) (C ++ [.lst ds]) ∧ Rp F (κ ++ [q]) U (upd H q (.lst vs)) (.ref q) (hcell C.length) := by
  have hl := hv.sr.len
  have nq : q ∉ κ := hv.sr.fresh hq
  have fx : Fx κ H (upd H q (.lst vs)) := .new hq
  have gr : Grow κ H (κ ++ [q]) := ⟨[q], rfl, fun a ha => by rw [List.mem_singleton.mp ha]; exact hq⟩
  refine ⟨⟨fx, gr, hv.sr.tab.ext fun b o e => by rw [upd_ne (ne_of_none e hq)]; exact e, ?_, ?_, fun k a c h1 h2 => ?_⟩, .cell ?_⟩
  · rw [List.nodup_append]
    refine ⟨hv.sr.nd, by simp, fun a ha b hb e => ?_⟩
    rw [List.mem_singleton.mp hb] at e
    exact nq (e ▸ ha)
  · simp [hl]
  · rcases Nat.lt_or_ge k κ.length with hk | hk
    · rw [List.getElem?_append_left hk] at h1
      rw [List.getElem?_append_left (by omega)] at h2
      refine CellOk.mono fx gr ?_ (hv.sr.cell k a c h1 h2)
      rw [upd_ne fun z => nq (by rw [← z]; exact List.mem_of_getElem? h1)]
    · rw [List.getElem?_append_right hk] at h1
      rw [List.getElem?_append_right (by omega)] at h2
      have e : k - κ.length = 0 := by
        rcases Nat.eq_zero_or_pos (k - κ.length) with z | z
        · exact z
        · rw [List.getElem?_eq_none (by simp; omega)] at h1
          cases h1
      rw [e] at h1
      rw [show k - C.length = 0 by omega] at h2
      cases h1
      cases h2
      exact ⟨hf, vs, upd_same, (r.flat hf).mono fx gr⟩
  · rw [← hl, List.getElem?_append_right (Nat.le_refl _)]
    simp
theorem r_newl {es : List Expr} {fA : VEnv → List Cell → Res (List PyData)} (h : PA X es (rdA F W fA)) :
    PE X (.List es p) (rdE F W fun δ C => (fA δ C).bind fun ds C => if ds.length ≤ big ∧ flats ds = true then .ok (hcell C.length) (C ++ [.lst ds]) else .stuck) := by
  refine wkE (pe_lst h) fun σ H Q h => rdA_mono (oneA h) fun vs H1 ⟨κ, U, C, ds, hv, r, h⟩ => ?_
  split at h
  · rename_i g
    refine ⟨big_le (by rw [r.length]; exact g.1), fun q hq => ?_⟩
    have n := hv.newC hq g.2 r
    exact h _ _ n.1 _ n.2
  · exact h.elim
theorem r_neg (ha : PE X x (rdE F W fa)) : PE X (.UnaryOp .USub x p) (rdE F W fun δ C => (fa δ C).bind fun x C => match x with | .int i => .ok (.int (-i)) C | _ => .stuck) := by
  refine wkE (pe_un un_neg ha) fun σ H Q h => rdE_mono (one h) fun v H1 ⟨κ, U, C, a, hv, ra, h⟩ => ?_
  cases ra with
  | int i => exact ⟨i, rfl, h κ H1 (.refl hv.sr) _ (.int _)⟩
  | _ => exact h.elim
theorem r_cmp {op : CmpOp} (hK : F.K = X.K) (hu : X.A.units + 66 < cLine) (ha : PE X x (rdE F W fa)) (hb : PE X y (rdE F W fb)) (hm : behindInMarks op y = false) :
    PE X (.Compare x [op] [y] p) (rdE F W fun δ C => (fa δ C).bind fun a C => (fb δ C).bind fun b C => opt ((cmpF op a b).map .bool) C) := by
  refine wkE (pe_cmpR (op_cmpD hK hu op) ha hb hm) fun σ H Q h => rdE_mono (two h) fun v H1 h => rdE_mono h fun w H2 ⟨κ, U, C, a, b, hv, ra, rb, h⟩ => ?_
  obtain ⟨d, e, k⟩ := fin_give h
  cases hz : cmpF op a b with
  | none => rw [hz] at e; cases e
  | some z =>
    rw [hz] at e
    cases e
    exact ⟨κ, U, C, a, b, z, hv, ra, rb, hz, k _ _ (.refl hv.sr) (.bl z)⟩
/-- the same, as a test -/
theorem t_cmp {op : CmpOp} (hK : F.K = X.K) (hu : X.A.units + 66 < cLine) (ha : PE X x (rdE F W fa)) (hb : PE X y (rdE F W fb)) (hm : behindInMarks op y = false) :
    PT X (.Compare x [op] [y] p) (rdT F W fun δ C => tstR ((fa δ C).bind fun a C => (fb δ C).bind fun b C => opt ((cmpF op a b).map .bool) C)) := by
  refine wkT (pt_cmpR (op_cmpD hK hu op) ha hb hm) fun σ H Q ⟨κ, U, δ, C, cx, h⟩ => ?_
  refine ⟨κ, U, δ, C, cx, h.bind.bind.mono fun a C1 κ1 H1 p1 h1 v rv => ?_⟩
  refine ⟨κ1, U, δ, C1, cx.post p1, h1.bind.mono fun b C2 κ2 H2 p2 h2 w rw => ?_⟩
  obtain ⟨d, e, k⟩ := h2.opt
  cases hz : cmpF op a b with
  | none => rw [hz] at e; cases e
  | some z =>
    rw [hz] at e
    cases e
    have k := k κ2 H2 (.refl p2.sr) κ2 H2 (.refl p2.sr)
    exact ⟨κ2, U, C2, a, b, z, ((cx.post p1).post p2).hv, rv.post p2, rw, hz, z, rfl, k⟩
theorem r_cmp2 {o1 o2 : CmpOp} (hK : F.K = X.K) (hu : X.A.units + 66 < cLine) (ha : PE X x (rdE F W fa)) (hb : PE X y (rdE F W fb)) (hc : PE X z (rdE F W fc)) (hm : lastMarks [o1, o2] [y, z] = false) :
    PE X (.Compare x [o1, o2] [y, z] p) (rdE F W fun δ C => (fa δ C).bind fun a C => (fb δ C).bind fun b C => (opt (cmpF o1 a b) C).bind fun k C => if k = true then (fc δ C).bind fun d C => opt ((cmpF o2 b d).map .bool) C else .ok (.bool false) C) := by
  refine wkE (pe_chain (op_cmpD hK hu o1) (op_cmpD hK hu o2) ha hb hc hm) fun σ H Q ⟨κ, U, δ, C, cx, h⟩ => ?_
  refine ⟨κ, U, δ, C, cx, h.bind.mono fun a C1 κ1 H1 p1 h1 v rv => ?_⟩
  refine ⟨κ1, U, δ, C1, cx.post p1, h1.bind.mono fun b C2 κ2 H2 p2 h2 w rw => ?_⟩
  have cx2 := (cx.post p1).post p2
  obtain ⟨k, e, h3⟩ := h2.bind.opt
  have h3 := h3 κ2 H2 (.refl p2.sr)
  refine ⟨κ2, U, C2, a, b, k, cx2.hv, rv.post p2, rw, e, k, rfl, ?_⟩
  cases k with
  | false => exact iteF (h3 κ2 H2 (.refl p2.sr) _ (.bl false))
  | true =>
    refine iteT ?_
    rw [if_pos rfl] at h3
    refine ⟨κ2, U, δ, C2, cx2, h3.bind.mono fun d C3 κ3 H3 p3 h4 u ru => ?_⟩
    obtain ⟨r, e2, k2⟩ := fin_give h4
    cases hz : cmpF o2 b d with
    | none => rw [hz] at e2; cases e2
    | some q =>
      rw [hz] at e2
      cases e2
      exact ⟨κ3, U, C3, b, d, q, (cx2.post p3).hv, rw.post p3, ru, hz, k2 _ _ (.refl p3.sr) (.bl q)⟩
theorem t_cmp2 {o1 o2 : CmpOp} (hK : F.K = X.K) (hu : X.A.units + 66 < cLine) (ha : PE X x (rdE F W fa)) (hb : PE X y (rdE F W fb)) (hc : PE X z (rdE F W fc)) (hm : lastMarks [o1, o2] [y, z] = false) :
    PT X (.Compare x [o1, o2] [y, z] p) (rdT F W fun δ C => tstR ((fa δ C).bind fun a C => (fb δ C).bind fun b C => (opt (cmpF o1 a b) C).bind fun k C => if k = true then (fc δ C).bind fun d C => opt ((cmpF o2 b d).map .bool) C else .ok (.bool false) C)) := by
  refine wkT (pt_chain (op_cmpD hK hu o1) (op_cmpD hK hu o2) ha hb hc hm) fun σ H Q ⟨κ, U, δ, C, cx, h⟩ => ?_
  refine ⟨κ, U, δ, C, cx, h.bind.bind.mono fun a C1 κ1 H1 p1 h1 v rv => ?_⟩
  refine ⟨κ1, U, δ, C1, cx.post p1, h1.bind.mono fun b C2 κ2 H2 p2 h2 w rw => ?_⟩
  have cx2 := (cx.post p1).post p2
  obtain ⟨k, e, h3⟩ := h2.bind.opt
  have h3 := h3 κ2 H2 (.refl p2.sr)
  refine ⟨κ2, U, C2, a, b, k, cx2.hv, rv.post p2, rw, e, k, rfl, ?_⟩
  cases k with
  | false => exact iteF ⟨false, rfl, h3 κ2 H2 (.refl p2.sr) κ2 H2 (.refl p2.sr)⟩
  | true =>
    refine iteT ?_
    rw [if_pos rfl] at h3
    refine ⟨κ2, U, δ, C2, cx2, h3.bind.mono fun d C3 κ3 H3 p3 h4 u ru => ?_⟩
    obtain ⟨r, e2, k2⟩ := h4.opt
    cases hz : cmpF o2 b d with
    | none => rw [hz] at e2; cases e2
    | some q =>
      rw [hz] at e2
      cases e2
      exact ⟨κ3, U, C3, b, d, q, (cx2.post p3).hv, rw.post p3, ru, hz, q, rfl, k2 κ3 H3 (.refl p3.sr) κ3 H3 (.refl p3.sr)⟩
theorem r_nt (ha : PE X x (rdE F W fa)) : PE X (.UnaryOp .Not x p) (rdE F W fun δ C => (tstB (fa δ C)).bind fun b C => .ok (.bool (!b)) C) := by
  refine wkE (pe_not ha) fun σ H Q ⟨κ, U, δ, C, cx, h⟩ => ?_
  refine ⟨κ, U, δ, C, cx, h.bind.bind.mono fun a C1 κ1 H1 p1 h1 v rv => ?_⟩
  cases rv with
  | bl b => exact ⟨b, rfl, h1 κ1 H1 (.refl p1.sr) κ1 H1 (.refl p1.sr) _ (.bl _)⟩
  | _ => exact h1.elim
theorem t_nt (ha : PT X x (rdT F W fun δ C => tstR (fa δ C))) : PT X (.UnaryOp .Not x p) (rdT F W fun δ C => tstR ((tstB (fa δ C)).bind fun b C => .ok (.bool (!b)) C)) := by
  refine wkT (pt_not ha) fun σ H Q ⟨κ, U, δ, C, cx, h⟩ => ?_
  refine ⟨κ, U, δ, C, cx, ?_⟩
  show BR.Fin F W κ H σ (tstR (fa δ C)) _
  revert h
  show BR.Fin F W κ H σ (tstR ((tstB (fa δ C)).bind fun b C => .ok (.bool (!b)) C)) _ → _
  cases fa δ C with
  | ok d C1 =>
    cases d with
    | bool b => exact fun h κ1 H1 p1 => h κ1 H1 p1
    | _ => exact fun h => h.elim
  | exc _ _ _ => exact fun h => h.elim
  | stuck => exact fun h => h.elim
end
end BR
set_option Elab.async false
set_option linter.all false
set_option maxRecDepth 100000
set_option maxHeartbeats 4000000
/-! the rules of expressions: and, or, if, subscripts, built-ins -/
namespace BR
open PySem PySem.Spec PyProof.Rows L2
section
variable {α : Type} {F : Fix} {W : WX} {κ κ1 : List Addr} {H H1 : Hp} {C1 : List Cell} {σ : L2.St}
theorem Fin.post {r : Res α} {P : α → List Cell → List Addr → Hp → Prop} (h : BR.Fin F W κ H σ r P) (p : Post F κ H κ1 H1 C1) : BR.Fin F W κ1 H1 σ r P := by
  cases r with
  | ok a C => exact fun κ2 H2 p2 => h κ2 H2 (p.trans p2)
  | exc _ _ _ => exact h
  | stuck => exact h
end
section
variable {X : Cx} {F : Fix} {W : WX} {x y z : Expr} {rest : List Expr} {p : Pos} {fa fb fc : VEnv → List Cell → Res PyData}
theorem rd_tstB {g : Bool → List Cell → Res PyData} {σ : L2.St} {H : Hp} {Q : VK} (h : rdE F W (fun δ C => (tstB (fa δ C)).bind g) σ H Q) :
    rdE F W fa σ H fun v H1 => ∃ b, v = .bl b ∧ ∃ κ U δ C, Ctx F κ U H1 σ δ C ∧ (∀ δ', δ' = δ → BR.Fin F W κ H1 σ (g b C) fun d _ κ' H' => ∀ w, Rp F κ' U H' w d → Q w H') := by
  obtain ⟨κ, U, δ, C, cx, h⟩ := h
  refine ⟨κ, U, δ, C, cx, h.bind.bind.mono fun a C1 κ1 H1 p1 h1 v rv => ?_⟩
  cases rv with
  | bl b => exact ⟨b, rfl, κ1, U, δ, C1, cx.post p1, fun _ _ => h1 κ1 H1 (.refl p1.sr)⟩
  | _ => exact h1.elim
theorem r_and1 (ha : PE X x (rdE F W fa)) : PE X (.BoolOp .And [x] p) (rdE F W fun δ C => (tstB (fa δ C)).bind fun b C => if b = true then .ok (.bool true) C else .ok (.bool false) C) := by
  refine wkE (pe_one ha) fun σ H Q h => rdE_mono (rd_tstB h) fun v H1 ⟨b, e, κ, U, δ, C, cx, k⟩ => ?_
  subst e
  have k := k δ rfl
  cases b with
  | true => exact k κ H1 (.refl cx.sr) _ (.bl true)
  | false => exact k κ H1 (.refl cx.sr) _ (.bl false)
theorem r_or1 (ha : PE X x (rdE F W fa)) : PE X (.BoolOp .Or [x] p) (rdE F W fun δ C => (tstB (fa δ C)).bind fun b C => if b = true then .ok (.bool true) C else .ok (.bool false) C) := by
  refine wkE (pe_one ha) fun σ H Q h => rdE_mono (rd_tstB h) fun v H1 ⟨b, e, κ, U, δ, C, cx, k⟩ => ?_
  subst e
  have k := k δ rfl
  cases b with
  | true => exact k κ H1 (.refl cx.sr) _ (.bl true)
  | false => exact k κ H1 (.refl cx.sr) _ (.bl false)
theorem r_and (ha : PE X x (rdE F W fa)) (hb : PE X (.BoolOp .And (y :: rest) p) (rdE F W fb)) :
    PE X (.BoolOp .And (x :: y :: rest) p) (rdE F W fun δ C => (tstB (fa δ C)).bind fun b C => if b = true then fb δ C else .ok (.bool false) C) := by
  refine wkE (pe_and ha hb) fun σ H Q ⟨κ, U, δ, C, cx, h⟩ => ?_
  refine ⟨κ, U, δ, C, cx, h.bind.bind.mono fun a C1 κ1 H1 p1 h1 v rv => ?_⟩
  cases rv with
  | bl b =>
    have h1 := h1 κ1 H1 (.refl p1.sr)
    cases b with
    | true => exact ⟨true, rfl, iteT ⟨κ1, U, δ, C1, cx.post p1, h1⟩⟩
    | false => exact ⟨false, rfl, iteF (h1 κ1 H1 (.refl p1.sr) _ (.bl false))⟩
  | _ => exact h1.elim
theorem r_or (ha : PE X x (rdE F W fa)) (hb : PE X (.BoolOp .Or (y :: rest) p) (rdE F W fb)) :
    PE X (.BoolOp .Or (x :: y :: rest) p) (rdE F W fun δ C => (tstB (fa δ C)).bind fun b C => if b = true then .ok (.bool true) C else fb δ C) := by
  refine wkE (pe_or ha hb) fun σ H Q ⟨κ, U, δ, C, cx, h⟩ => ?_
  refine ⟨κ, U, δ, C, cx, h.bind.bind.mono fun a C1 κ1 H1 p1 h1 v rv => ?_⟩
  cases rv with
  | bl b =>
    have h1 := h1 κ1 H1 (.refl p1.sr)
    cases b with
    | true => exact ⟨true, rfl, iteT (h1 κ1 H1 (.refl p1.sr) _ (.bl true))⟩
    | false => exact ⟨false, rfl, iteF ⟨κ1, U, δ, C1, cx.post p1, h1⟩⟩
  | _ => exact h1.elim
theorem tst_cases {κ : List Addr} {H : Hp} {σ : L2.St} {r : Res PyData} {g : Bool → List Cell → Res PyData} {P : Bool → List Cell → List Addr → Hp → Prop} (h : BR.Fin F W κ H σ (tstR ((tstB r).bind g)) P) :
    ∃ b C1, r = .ok (.bool b) C1 ∧ BR.Fin F W κ H σ (tstR (g b C1)) P := by
  cases r with
  | ok d C1 =>
    cases d with
    | bool b => exact ⟨b, C1, rfl, h⟩
    | _ => exact h.elim
  | exc _ _ _ => exact h.elim
  | stuck => exact h.elim
theorem t_and1 (ha : PT X x (rdT F W fun δ C => tstR (fa δ C))) : PW X (.BoolOp .And [x] p) (rdT F W fun δ C => tstR ((tstB (fa δ C)).bind fun b C => if b = true then .ok (.bool true) C else .ok (.bool false) C)) := by
  refine wkW (pw_and1 ha) fun σ H Q ⟨κ, U, δ, C, cx, h⟩ => ?_
  obtain ⟨b, C1, e, h⟩ := tst_cases h
  refine ⟨κ, U, δ, C, cx, ?_⟩
  show BR.Fin F W κ H σ (tstR (fa δ C)) _
  rw [e]
  cases b <;> exact h
theorem t_or1 (ha : PT X x (rdT F W fun δ C => tstR (fa δ C))) : PW X (.BoolOp .Or [x] p) (rdT F W fun δ C => tstR ((tstB (fa δ C)).bind fun b C => if b = true then .ok (.bool true) C else .ok (.bool false) C)) := by
  refine wkW (pw_or1 ha) fun σ H Q ⟨κ, U, δ, C, cx, h⟩ => ?_
  obtain ⟨b, C1, e, h⟩ := tst_cases h
  refine ⟨κ, U, δ, C, cx, ?_⟩
  show BR.Fin F W κ H σ (tstR (fa δ C)) _
  rw [e]
  cases b <;> exact h
theorem t_and (ha : PT X x (rdT F W fun δ C => tstR (fa δ C))) (hb : PW X (.BoolOp .And (y :: rest) p) (rdT F W fun δ C => tstR (fb δ C))) :
    PW X (.BoolOp .And (x :: y :: rest) p) (rdT F W fun δ C => tstR ((tstB (fa δ C)).bind fun b C => if b = true then fb δ C else .ok (.bool false) C)) := by
  refine wkW (pw_and ha hb) fun σ H Q ⟨κ, U, δ, C, cx, h⟩ => ?_
  obtain ⟨b, C1, e, h⟩ := tst_cases h
  refine ⟨κ, U, δ, C, cx, ?_⟩
  show BR.Fin F W κ H σ (tstR (fa δ C)) _
  rw [e]
  cases b with
  | true => exact fun κ1 H1 p1 => iteT ⟨κ1, U, δ, C1, cx.post p1, BR.Fin.post h p1⟩
  | false => exact fun κ1 H1 p1 => iteF (h κ1 H1 p1)
theorem t_or (ha : PT X x (rdT F W fun δ C => tstR (fa δ C))) (hb : PW X (.BoolOp .Or (y :: rest) p) (rdT F W fun δ C => tstR (fb δ C))) :
    PW X (.BoolOp .Or (x :: y :: rest) p) (rdT F W fun δ C => tstR ((tstB (fa δ C)).bind fun b C => if b = true then .ok (.bool true) C else fb δ C)) := by
  refine wkW (pw_or ha hb) fun σ H Q ⟨κ, U, δ, C, cx, h⟩ => ?_
  obtain ⟨b, C1, e, h⟩ := tst_cases h
  refine ⟨κ, U, δ, C, cx, ?_⟩
  show BR.Fin F W κ H σ (tstR (fa δ C)) _
  rw [e]
  cases b with
  | true => exact fun κ1 H1 p1 => iteT (h κ1 H1 p1)
  | false => exact fun κ1 H1 p1 => iteF ⟨κ1, U, δ, C1, cx.post p1, BR.Fin.post h p1⟩
theorem r_ite (hc : PT X z (rdT F W fun δ C => tstR (fc δ C))) (ha : PE X x (rdE F W fa)) (hb : PE X y (rdE F W fb)) :
    PE X (.IfExp z x y p) (rdE F W fun δ C => (tstR (fc δ C)).bind fun k C => if k = true then fa δ C else fb δ C) := by
  refine wkE (pe_ifExp hc ha hb) fun σ H Q ⟨κ, U, δ, C, cx, h⟩ => ?_
  refine ⟨κ, U, δ, C, cx, h.bind.mono fun b C1 κ1 H1 p1 h1 => ?_⟩
  cases b with
  | true => exact iteT ⟨κ1, U, δ, C1, cx.post p1, h1⟩
  | false => exact iteF ⟨κ1, U, δ, C1, cx.post p1, h1⟩
theorem RpAll.empty {κ : List Addr} {U : Addr → Prop} {H : Hp} {vs : List V} {ds : List PyData} (h : RpAll F κ U H vs ds) : (!vs.isEmpty) = !ds.isEmpty := by
  cases h <;> rfl
theorem Rp.tru {κ : List Addr} {U : Addr → Prop} {H : Hp} {v : V} {d : PyData} {k : Bool} (hK : F.K = X.K) (h : Rp F κ U H v d) (e : truth d = some k) : TruV X.K v H k := by
  cases h with
  | non => cases e; rfl
  | bl b => cases e; rfl
  | int i => cases e; rfl
  | str y =>
    obtain ⟨g, rfl⟩ := gd_some e
    exact ⟨big_le (of_decide_eq_true g), rfl⟩
  | lst h1 h2 h3 h4 => cases e; exact .inl ⟨_, .of h1, h4.empty.symm⟩
  | tup h1 h4 => cases e; exact .inr (.inl ⟨_, hK ▸ sqT_of h1, h4.empty.symm⟩)
  | _ => cases e
theorem t_val (hK : F.K = X.K) (ha : PE X x (rdE F W fa)) (he : ∀ whole, isTrue x X.env whole = (do let v ← whole; standAt x.pos; holding [v] (truthy v))) : PT X x (rdT F W fun δ C => tstR (fa δ C)) := by
  refine wkT (pt_truth ha he) fun σ H Q ⟨κ, U, δ, C, cx, h⟩ => ?_
  refine ⟨κ, U, δ, C, cx, h.bind.mono fun d C1 κ1 H1 p1 h1 v rv => ?_⟩
  obtain ⟨b, e, h1⟩ := h1.opt
  exact ⟨b, rv.tru hK e, h1 κ1 H1 (.refl p1.sr)⟩
theorem r_idx (hK : F.K = X.K) (ha : PE X x (rdE F W fa)) (hb : PE X y (rdE F W fb)) (hs : PlainIx y) :
    PE X (.Subscript x y p) (rdE F W fun δ C => (fa δ C).bind fun a C => (fb δ C).bind fun b C => opt (idxC C a b) C) := by
  refine wkE (pe_ix (ix_D hK) ha hb hs) fun σ H Q h => rdE_mono (two h) fun v H1 h => rdE_mono h fun w H2 ⟨κ, U, C, a, b, hv, ra, rb, h⟩ => ?_
  obtain ⟨d, e, k⟩ := fin_give h
  exact ⟨κ, U, C, a, b, d, hv, ra, rb, e, k⟩
/-- a part of a slice -/
def rdO (F : Fix) (W : WX) (f : VEnv → List Cell → Res (Option Int)) : TO := fun σ H Q => ∃ κ U δ C, Ctx F κ U H σ δ C ∧ BR.Fin F W κ H σ (f δ C) fun i _ _ H' => Q i H'
theorem wkO {e : Option Expr} {t t' : TO} (h : PO X e t) (k : ∀ σ H Q, t' σ H Q → t σ H Q) : PO X e t' := ⟨fun pins s σ H Q I q => h.run pins s σ H Q I (k σ H Q q)⟩
theorem r_onone : PO X none (rdO F W fun _ C => .ok none C) := wkO po_none fun σ H Q ⟨κ, U, δ, C, cx, h⟩ => h κ H (.refl cx.sr)
theorem r_osome (ha : PE X x (rdE F W fa)) : PO X (some x) (rdO F W fun δ C => (fa δ C).bind fun d C => match d with | .int i => .ok (some i) C | _ => .stuck) := by
  refine wkO (po_some ha) fun σ H Q ⟨κ, U, δ, C, cx, h⟩ => ?_
  refine ⟨κ, U, δ, C, cx, h.bind.mono fun a C1 κ1 H1 p1 h1 v rv => ?_⟩
  cases rv with
  | int i => exact ⟨i, rfl, h1 κ1 H1 (.refl p1.sr)⟩
  | _ => exact h1.elim
theorem r_sl {lo hi : Option Expr} {p2 : Pos} {fl fh : VEnv → List Cell → Res (Option Int)} (hK : F.K = X.K) (ha : PE X x (rdE F W fa)) (hl : PO X lo (rdO F W fl)) (hh : PO X hi (rdO F W fh)) :
    PE X (.Subscript x (.Slice lo hi none p2) p) (rdE F W fun δ C => (fa δ C).bind fun a C => (fl δ C).bind fun l C => (fh δ C).bind fun h C => opt (slF a l h) C) := by
  refine wkE (pe_slice (sl_D hK) ha hl hh) fun σ H Q ⟨κ, U, δ, C, cx, h⟩ => ?_
  refine ⟨κ, U, δ, C, cx, h.bind.mono fun a C1 κ1 H1 p1 h1 v rv => ?_⟩
  have c1 := cx.post p1
  refine ⟨κ1, U, δ, C1, c1, h1.bind.mono fun l C2 κ2 H2 p2 h2 => ?_⟩
  have c2 := c1.post p2
  refine ⟨κ2, U, δ, C2, c2, h2.bind.mono fun u C3 κ3 H3 p3 h3 => ?_⟩
  obtain ⟨d, e, k⟩ := fin_give h3
  exact ⟨κ3, U, C3, a, d, (c2.post p3).hv, (rv.post p2).post p3, e, k⟩
theorem r_rvs {k : Nat} {p1 p2 p3 : Pos} (ha : PE X x (rdE F W fa)) :
    PE X (.Subscript x (.Slice none none (some (.UnaryOp .USub (.Constant (.int 1) k p1) p2)) p3) p) (rdE F W fun δ C => (fa δ C).bind fun a C => opt (rvF a) C) := by
  refine wkE (pe_revL ha) fun σ H Q h => rdE_mono (one h) fun v H1 ⟨κ, U, C, a, hv, ra, h⟩ => ?_
  obtain ⟨d, e, k⟩ := fin_give h
  cases ra with
  | lst h1 h2 h3 h4 =>
    cases e
    refine ⟨_, _, rfl, .of h1, fun q hq => ?_⟩
    have n := hv.newL hq h4.reverse
    exact k _ _ n.1 n.2
  | _ => cases e
/-! ### built-ins -/
theorem all_pl {e : Expr} {es : List Expr} (h : (e :: es).all pl = true) : pl e = true ∧ es.all pl = true := by
  rw [List.all_cons, Bool.and_eq_true] at h
  exact h
theorem r_blt {id : String} {nm : Str} {es : List Expr} {g : List Cell → List PyData → Option PyData} {f : VEnv → List Cell → Res (List PyData)} (hc : CallR X (.builtin id) (rBi F g)) (hg : Gl X nm) (hm : X.mg nm = none) (hv : bootBuiltins nm = some (.builtin id)) (hn : nm ≠ "__name__") (hdb : (nm == ("__debug__" : Str)) = false)
    (hp : (x :: es).all pl = true) (ha : PA X (x :: es) (rdA F W f)) {p1 : Pos} : PE X (.Call (.Name nm p1) (x :: es) [] p) (rdE F W fun δ C => (f δ C).bind fun ds C => opt (g C ds) C) := by
  refine wkE (pe_callB hc hg hm hv ha hn hdb (pl_star (all_pl hp).1) (pl_any (all_pl hp).2)) fun σ H Q h => rdA_mono (oneA h) fun vs H1 ⟨κ, U, C, ds, hv, r, h⟩ => ?_
  obtain ⟨d, e, k⟩ := fin_give h
  exact ⟨κ, U, C, ds, d, hv, r, e, k⟩
theorem r_blty {T : String} {nm : Str} {es : List Expr} {g : List Cell → List PyData → Option PyData} {f : VEnv → List Cell → Res (List PyData)} (hc : CallR X (.type T) (rBi F g)) (hg : Gl X nm) (hm : X.mg nm = none) (hv : bootBuiltins nm = some (.type T)) (hn : nm ≠ "__name__") (hdb : (nm == ("__debug__" : Str)) = false)
    (hp : (x :: es).all pl = true) (ha : PA X (x :: es) (rdA F W f)) {p1 : Pos} : PE X (.Call (.Name nm p1) (x :: es) [] p) (rdE F W fun δ C => (f δ C).bind fun ds C => opt (g C ds) C) := by
  refine wkE (pe_callTy hc hg hm hv ha hn hdb (pl_star (all_pl hp).1) (pl_any (all_pl hp).2)) fun σ H Q h => rdA_mono (oneA h) fun vs H1 ⟨κ, U, C, ds, hv, r, h⟩ => ?_
  obtain ⟨d, e, k⟩ := fin_give h
  exact ⟨κ, U, C, ds, d, hv, r, e, k⟩
/-- list(x): a new cell -/
theorem call_newc (hK : F.K = X.K) : CallR X (.type "list") (fun vs H Q => ∃ κ U C d ds, Hv F κ U H C ∧ RpAll F κ U H vs [d] ∧ itemsOf d = some ds ∧ flats ds = true ∧ ∀ κ' v H', Post F κ H κ' H' (C ++ [.lst ds]) → Rp F κ' U H' v (hcell C.length) → Q v H') := by
  intro pins s σ H xs us Q I r ⟨κ, U, C, d, ds, hv, ra, hi, hf, k⟩
  obtain ⟨v, rfl, rv⟩ := BR.one_arg ra
  have go : ∀ a ys, v = .ref a → (SqL X.K H a ys ∨ SqT X.K H a ys) → RpAll F κ U H ys ds → wpAny (model X.prog X.w) X.A (call (.type "list") us) (EP X pins σ Q) X.xe s := fun a ys e hs h4 => by
    subst e
    refine call_list_of pins s σ H _ us Q I r ⟨a, ys, rfl, hs, fun l hl => ?_⟩
    have n := hv.newC hl hf h4
    exact k _ _ _ n.1 n.2
  cases rv with
  | lst h1 h2 h3 h4 => cases hi; exact go _ _ rfl (.inl (.of h1)) h4
  | tup h1 h4 => cases hi; exact go _ _ rfl (.inr (hK ▸ sqT_of h1)) h4
  | _ => cases hi
theorem bt_list : bootBuiltins ("list" : Str) = some (.type "list") := by decide +kernel
theorem r_newc (hK : F.K = X.K) (hg : Gl X ("list" : Str)) (hm : X.mg ("list" : Str) = none) (hp : pl x = true) (ha : PE X x (rdE F W fa)) {p1 : Pos} :
    PE X (.Call (.Name ("list" : Str) p1) [x] [] p) (rdE F W fun δ C => (fa δ C).bind fun d C => match itemsOf d with
      | some ds => if flats ds = true then .ok (hcell C.length) (C ++ [.lst ds]) else .stuck
      | none => .stuck) := by
  refine wkE (pe_callTy (call_newc hK) hg hm bt_list (pa_cons ha pa_nil (pl_star hp)) (by decide) (by decide) (pl_star hp) rfl) fun σ H Q h => rdE_mono (one h) fun v H1 ⟨κ, U, C, d, hv, ra, h⟩ => ?_
  cases hi : itemsOf d with
  | none => rw [hi] at h; exact h.elim
  | some ds =>
    rw [hi] at h
    by_cases hf : flats ds = true
    · simp only [if_pos hf] at h
      exact ⟨κ, U, C, d, ds, hv, .cons ra .nil, hi, hf, fun κ' v H' p' rv => h κ' H' p' v rv⟩
    · simp only [if_neg hf] at h
      exact h.elim
end
end BR
set_option Elab.async false
set_option linter.all false
set_option maxRecDepth 100000
set_option maxHeartbeats 4000000
/-! the rules of expressions: isinstance, methods, ranges, calls -/
namespace BR
open PySem PySem.Spec PyProof.Rows L2
def tyOfD : PyData → Option String
  | .none => some "NoneType"
  | .bool _ => some "bool"
  | .int _ => some "int"
  | .str _ => some "str"
  | .list _ => some "list"
  | .tuple _ => some "tuple"
  | .dict _ => none
theorem kb_non : kitB "NoneType" "int" = some false ∧ kitB "NoneType" "bool" = some false ∧ kitB "NoneType" "str" = some false ∧ kitB "NoneType" "tuple" = some false ∧ kitB "NoneType" "list" = some false := by decide +kernel
theorem kb_bool : kitB "bool" "int" = some true ∧ kitB "bool" "bool" = some true ∧ kitB "bool" "str" = some false ∧ kitB "bool" "tuple" = some false ∧ kitB "bool" "list" = some false := by decide +kernel
theorem kb_int : kitB "int" "int" = some true ∧ kitB "int" "bool" = some false ∧ kitB "int" "str" = some false ∧ kitB "int" "tuple" = some false ∧ kitB "int" "list" = some false := by decide +kernel
theorem kb_str : kitB "str" "int" = some false ∧ kitB "str" "bool" = some false ∧ kitB "str" "str" = some true ∧ kitB "str" "tuple" = some false ∧ kitB "str" "list" = some false := by decide +kernel
theorem kb_lst : kitB "list" "int" = some false ∧ kitB "list" "bool" = some false ∧ kitB "list" "str" = some false ∧ kitB "list" "tuple" = some false ∧ kitB "list" "list" = some true := by decide +kernel
theorem kb_tup : kitB "tuple" "int" = some false ∧ kitB "tuple" "bool" = some false ∧ kitB "tuple" "str" = some false ∧ kitB "tuple" "tuple" = some true ∧ kitB "tuple" "list" = some false := by decide +kernel
theorem kit_isi {t : Ty} {d : PyData} {b : Bool} {n : String} (h : isiF t d = some b) (hn : tyOfD d = some n) : kitB n (tyName t) = some b := by
  cases d with
  | none => cases hn; cases t <;> cases h <;> first | exact kb_non.1 | exact kb_non.2.1 | exact kb_non.2.2.1 | exact kb_non.2.2.2.1 | exact kb_non.2.2.2.2
  | bool _ => cases hn; cases t <;> cases h <;> first | exact kb_bool.1 | exact kb_bool.2.1 | exact kb_bool.2.2.1 | exact kb_bool.2.2.2.1 | exact kb_bool.2.2.2.2
  | int _ => cases hn; cases t <;> cases h <;> first | exact kb_int.1 | exact kb_int.2.1 | exact kb_int.2.2.1 | exact kb_int.2.2.2.1 | exact kb_int.2.2.2.2
  | str _ => cases hn; cases t <;> cases h <;> first | exact kb_str.1 | exact kb_str.2.1 | exact kb_str.2.2.1 | exact kb_str.2.2.2.1 | exact kb_str.2.2.2.2
  | list _ => cases hn; cases t <;> cases h <;> first | exact kb_lst.1 | exact kb_lst.2.1 | exact kb_lst.2.2.1 | exact kb_lst.2.2.2.1 | exact kb_lst.2.2.2.2
  | tuple _ => cases hn; cases t <;> cases h <;> first | exact kb_tup.1 | exact kb_tup.2.1 | exact kb_tup.2.2.1 | exact kb_tup.2.2.2.1 | exact kb_tup.2.2.2.2
  | dict _ => cases hn
theorem bt_ty (t : Ty) : bootBuiltins (tyName t : Str) = some (.type (tyName t)) := by cases t <;> decide +kernel
theorem bt_isi : bootBuiltins ("isinstance" : Str) = some (.builtin "isinstance") := by decide +kernel
theorem ty_ok (t : Ty) : (tyName t : Str) ≠ "__name__" ∧ ((tyName t : Str) == ("__debug__" : Str)) = false := by cases t <;> decide
theorem plAt_base {o : Expr} {n : Str} {env : Env} {w : Sem Value} (h : plAt o = true) : attributeBase o n env w = w := by
  cases o with
  | Call f as ks p =>
    cases f <;> try rfl
    cases as with
    | cons _ _ => rfl
    | nil =>
      cases ks with
      | cons _ _ => rfl
      | nil => cases h
  | _ => rfl
section
variable {X : Cx} {F : Fix} {W : WX} {x y z : Expr} {rest : List Expr} {p : Pos} {fa fb fc : VEnv → List Cell → Res PyData}
theorem Rp.tyx {κ : List Addr} {U : Addr → Prop} {H : Hp} {v : V} {d : PyData} {n : String} (hK : F.K = X.K) (h : Rp F κ U H v d) (e : tyOfD d = some n) : TyX X.K H v (.type n) := by
  cases h with
  | non => cases e; exact .base .non
  | bl b => cases e; exact .base (.bl b)
  | int i => cases e; exact .base (.int i)
  | str s => cases e; exact .base (.str s)
  | lst h1 _ _ _ => cases e; exact .base (.lst h1)
  | tup h1 _ =>
    cases e
    rcases h1 with ⟨h1, _⟩ | h1
    · obtain ⟨o, h1, _⟩ := h1
      exact .fTuple h1
    · obtain ⟨o, its, n, e1, e2, _⟩ := h1
      exact .kTuple (hK ▸ e1) e2
  | _ => cases e
theorem r_isi {t : Ty} {p1 p2 : Pos} (hK : F.K = X.K) (hg : Gl X ("isinstance" : Str)) (hm : X.mg ("isinstance" : Str) = none) (hg2 : Gl X (tyName t : Str)) (hm2 : X.mg (tyName t : Str) = none) (hp : pl x = true) (ha : PE X x (rdE F W fa)) :
    PE X (.Call (.Name ("isinstance" : Str) p1) [x, .Name (tyName t : Str) p2] [] p) (rdE F W fun δ C => (fa δ C).bind fun d C => opt ((isiF t d).map .bool) C) := by
  have h2 : PE X (.Name (tyName t : Str) p2) (tC (.ty (tyName t))) := pe_bltn (v := .ty (tyName t)) hg2 hm2 (bt_ty t) rfl (ty_ok t).1 (ty_ok t).2
  refine wkE (pe_callB call_isi hg hm bt_isi (pa_cons ha (pa_cons h2 pa_nil rfl) (pl_star hp)) (by decide) (by decide) (pl_star hp) rfl) fun σ H Q h => rdE_mono (one h) fun v H1 ⟨κ, U, C, d, hv, ra, h⟩ => ?_
  obtain ⟨e, he, k⟩ := fin_give h
  cases hi : isiF t d with
  | none => rw [hi] at he; cases he
  | some b =>
    rw [hi] at he
    cases he
    have hn : ∃ n, tyOfD d = some n := by
      cases d with
      | dict _ => cases t <;> cases hi
      | _ => exact ⟨_, rfl⟩
    obtain ⟨n, hn⟩ := hn
    exact ⟨v, .ty (tyName t), .type n, .type (tyName t), b, rfl, .ty _, ra.tyx hK hn, kit_ty (kit_isi hi hn), k _ _ (.refl hv.sr) (.bl b)⟩
/-- what stands where -/
theorem find_at {α : Type} {f : α → Bool} : ∀ {xs : List α} {j : Nat}, xs.findIdx? f = some j → ∃ z, xs[j]? = some z ∧ f z = true ∧ ∀ m z', m < j → xs[m]? = some z' → f z' = false
  | [], j, h => by simp at h
  | a :: r, j, h => by
    rw [List.findIdx?_cons] at h
    by_cases ha : f a = true
    · rw [if_pos ha] at h
      cases h
      exact ⟨a, rfl, ha, fun m z' hm => absurd hm (Nat.not_lt_zero m)⟩
    · rw [if_neg ha] at h
      cases hr : r.findIdx? f with
      | none => rw [hr] at h; cases h
      | some k =>
        rw [hr] at h
        cases h
        obtain ⟨z, h1, h2, h3⟩ := find_at hr
        refine ⟨z, by simpa using h1, h2, fun m z' hm hz => ?_⟩
        cases m with
        | zero =>
          have e : a = z' := by simpa using hz
          rw [← e]
          exact Bool.not_eq_true _ ▸ ha
        | succ m => exact h3 m z' (Nat.lt_of_succ_lt_succ hm) (by simpa using hz)
def TupX (K : PySem.W.Frag) (x : V) (H : Hp) : Prop := ∃ a xs, x = .ref a ∧ (XT H a xs ∨ KT K a xs)
def rIndexT (K : PySem.W.Frag) : V → List V → Hp → VK → Prop := fun x xs H Q => ∃ (a : Addr) (ys : List Str) (k : Str), x = .ref a ∧ xs = [.str k] ∧ SqT K H a (ys.map V.str) ∧ k ∈ ys ∧ Q (.int (ys.idxOf k : Nat)) H
theorem mt_indexT : MtR X "tuple.index" (rIndexT X.K) := by
  intro pins s σ H x xs v us Q I rx rxs h
  obtain ⟨a, ys, k, rfl, rfl, hs, hk, q⟩ := h
  cases rx
  cases rxs with
  | cons ry rt =>
    cases rt
    obtain ⟨tk, rfl⟩ := ry
    obtain ⟨its, rv, p, _⟩ := I.tuple hs
    exact SeqAt.tuple_index_strs p (Vals.strs rv) hk ⟨.int _, H, I.tok _, ⟨_, rfl⟩, q⟩
theorem tupX_is {pins : List (Addr × Obj)} {σ : L2.St} {H : Hp} {s : Shared} {x : V} {v : Value} (I : Inv X pins σ H s) (r : RelV x v) (h : TupX X.K x H) :
    s.TypeIs v "tuple" ∧ ∀ a, v = .ref a → ∃ ob, s.heap.get? a = some ob ∧ ob.dict = none := by
  obtain ⟨a, xs, rfl, h⟩ := h
  cases r
  rcases h with ⟨ob, e, hd⟩ | ⟨o, its, n, e, hc, hd, _⟩
  · obtain ⟨q1, _, its, _, o, q2, q3, _⟩ := I.hok a _ e
    rw [q1] at q2
    cases q2
    exact ⟨⟨_, q1, q3⟩, fun b eb => by cases eb; exact ⟨_, q1, hd⟩⟩
  · exact ⟨⟨o, I.kIn a o e, hc⟩, fun b eb => by cases eb; exact ⟨o, I.kIn a o e, hd⟩⟩
def tIx2 (K : PySem.W.Frag) (to : TE) (t : TA) : TE := fun σ H Q => to σ H fun x H1 => (tyV K "list" x H1 ∧ t σ H1 fun xs H2 => rIndexD K x xs H2 Q) ∨ (TupX K x H1 ∧ t σ H1 fun xs H2 => rIndexT K x xs H2 Q)
theorem pe_index2 {o e : Expr} {es : List Expr} {to : TE} {t : TA} {name : Str} {apos cpos : Pos} (hn : name = ("index" : Str)) (hu : X.A.units + 65 < cLine) (ho : PE X o to) (ha : PA X (e :: es) t)
    (hbase : attributeBase o name X.env (eval o X.env) = eval o X.env)
    (hfew : ((backTo cpos (starEach (e :: es) X.env)).all (fun x => !x.1) && (backToKw cpos (keywordEach [] X.env)).all (fun x => x.1.isSome)
      && decide ((e :: es).length + ([] : List Keyword).length + (if ([] : List Keyword).isEmpty then 0 else 1) < 30)) = true)
    (hline : (apos.endLine == cpos.line) = true) (hs : starEach (e :: es) X.env = (false, eval e X.env) :: starEach es X.env) (hplain : (backTo cpos (starEach es X.env)).any (·.1) = false) :
    PE X (.Call (.Attribute o name apos) (e :: es) [] cpos) (tIx2 X.K to t) := by
  subst hn
  refine ⟨fun pins s σ H Q I h => ?_⟩
  refine wpAny_Call_method_late hbase hfew hline rfl (thn (ho.run pins s σ H _ I h) fun v s1 ⟨x, H1, I1, r1, h1⟩ => ?_)
  rcases h1 with ⟨ty, q1⟩ | ⟨ty, q1⟩
  · obtain ⟨h1, h2⟩ := tyV_is I1 r1 ty
    refine ⟨"list", _, PySem.F.plainAttrs_list, PySem.F.slot_list_index, PySem.F.type_list_index, h1, h2, ?_⟩
    have hA := ha.run cpos pins s1 σ H1 _ I1 q1
    rw [hs] at hA ⊢
    refine Calls.callWith_builtin (by show (false || (backTo cpos (starEach es X.env)).any (·.1)) = false; rw [hplain] <;> rfl) (Calls.evalArgs_plain ?_)
    exact thn hA fun us s2 ⟨vs, H2, I2, r2, q2⟩ => mt_indexD hu pins s2 σ H2 x vs v us Q I2 r1 r2 q2
  · obtain ⟨h1, h2⟩ := tupX_is I1 r1 ty
    refine ⟨"tuple", _, PySem.F.plainAttrs_tuple, PySem.F.slot_tuple_index, PySem.F.type_tuple_index, h1, h2, ?_⟩
    have hA := ha.run cpos pins s1 σ H1 _ I1 q1
    rw [hs] at hA ⊢
    refine Calls.callWith_builtin (by show (false || (backTo cpos (starEach es X.env)).any (·.1)) = false; rw [hplain] <;> rfl) (Calls.evalArgs_plain ?_)
    exact thn hA fun us s2 ⟨vs, H2, I2, r2, q2⟩ => mt_indexT pins s2 σ H2 x vs v us Q I2 r1 r2 q2
theorem r_index {ap : Pos} (hK : F.K = X.K) (hu : X.A.units + 66 < cLine) (hl : (ap.endLine == p.line) = true) (ho : plAt x = true) (hp : pl y = true) (ha : PE X x (rdE F W fa)) (hb : PE X y (rdE F W fb)) :
    PE X (.Call (.Attribute x ("index" : Str) ap) [y] [] p) (rdE F W fun δ C => (fa δ C).bind fun a C => (fb δ C).bind fun b C => opt (indexF a b) C) := by
  have hs : starEach [y] X.env = (false, eval y X.env) :: starEach [] X.env := pl_star hp
  refine wkE (pe_index2 rfl (by omega) ha (pa_cons hb pa_nil hs) (plAt_base ho) (by rw [hs]; rfl) hl hs rfl) fun σ H Q ⟨κ, U, δ, C, cx, h⟩ => ?_
  refine ⟨κ, U, δ, C, cx, ?_⟩
  revert h
  show BR.Fin F W κ H σ ((fa δ C).bind fun a C => (fb δ C).bind fun b C => opt (indexF a b) C) _ → _
  cases e1 : fa δ C with
  | ok a C1 =>
    intro h κ1 H1 p1 v rv
    have h : BR.Fin F W κ H σ ((fb δ C1).bind fun b C => opt (indexF a b) C) fun d _ κ' H' => ∀ v, Rp F κ' U H' v d → Q v H' := h
    have hlst : (∃ ds, a = .list ds) ∨ ∃ ds, a = .tuple ds := by
      cases e2 : fb δ C1 with
      | ok b C2 =>
        rw [e2] at h
        have h : BR.Fin F W κ H σ (opt (indexF a b) C2) _ := h
        obtain ⟨d, e, _⟩ := h.opt
        cases a with
        | list ds => exact .inl ⟨ds, rfl⟩
        | tuple ds => exact .inr ⟨ds, rfl⟩
        | _ => cases e
      | exc _ _ _ => rw [e2] at h; exact h.elim
      | stuck => rw [e2] at h; exact h.elim
    rcases hlst with ⟨ds, rfl⟩ | ⟨ds, rfl⟩
    · cases rv with
      | lst h1 h2 h3 h4 =>
        refine .inl ⟨.inl ⟨rfl, _, .of h1⟩, ?_⟩
        have c1 := cx.post p1
        refine ⟨κ1, U, δ, C1, c1, (BR.Fin.post h p1).bind.mono fun b C2 κ2 H2 p2 h5 w rw' => ?_⟩
        obtain ⟨d, e, k⟩ := fin_give h5
        have e' : indexF (.list ds) b = some d := e
        unfold indexF at e'
        simp only at e'
        split at e'
        · rename_i g
          cases hf : ds.findIdx? (fun z => PyData.eqv z b) with
          | none => rw [hf] at e'; cases e'
          | some j =>
            rw [hf] at e'
            cases e'
            obtain ⟨z, z1, z2, z3⟩ := find_at hf
            have r2 : Rp F κ2 U H2 (.ref _) (.list ds) := (Rp.lst h1 h2 h3 h4).post p2
            exact ⟨_, _, b, ds, j, z, rfl, rfl, hK ▸ r2.dpS g.2, hK ▸ rw'.dpS g.1, g.2, g.1, z1, z2, z3, k _ _ (.refl (c1.post p2).sr) (.int _)⟩
        · cases e'
    · have hrv := rv
      cases rv with
      | tup h1 h4 =>
        refine .inr ⟨⟨_, _, rfl, h1.imp (fun q => q.1) fun q => hK ▸ q⟩, ?_⟩
        have c1 := cx.post p1
        refine ⟨κ1, U, δ, C1, c1, (BR.Fin.post h p1).bind.mono fun b C2 κ2 H2 p2 h5 w rw' => ?_⟩
        obtain ⟨d, e, k⟩ := fin_give h5
        have e' : indexT ds b = some d := e
        unfold indexT at e'
        cases hso : strsOf ds with
        | none => rw [hso] at e'; cases e'
        | some ys =>
          rw [hso] at e'
          cases b with
          | str kk =>
            simp only at e'
            split at e'
            · rename_i g
              cases e'
              cases rw'
              have hvs := (RpAll.strs h4 hso).1
              have r2 := hrv.post p2
              cases r2 with
              | tup h1' h4' =>
                have hvs' := (RpAll.strs h4' hso).1
                subst hvs'
                exact ⟨_, ys, kk, rfl, rfl, hK ▸ sqT_of h1', g, k _ _ (.refl (c1.post p2).sr) (.int _)⟩
            · cases e'
          | _ => simp at e'
  | exc _ _ _ => exact fun h => h.elim
  | stuck => exact fun h => h.elim
theorem r_split {ap : Pos} (hl : (ap.endLine == p.line) = true) (ho : plAt x = true) (hp : pl y = true) (ha : PE X x (rdE F W fa)) (hb : PE X y (rdE F W fb)) :
    PE X (.Call (.Attribute x ("split" : Str) ap) [y] [] p) (rdE F W fun δ C => (fa δ C).bind fun a C => (fb δ C).bind fun b C => opt (splitF a b) C) := by
  refine wkE (pe_split ha hb (pl_star hp) (plAt_base ho) hl) fun σ H Q ⟨κ, U, δ, C, cx, h⟩ => ?_
  refine ⟨κ, U, δ, C, cx, ?_⟩
  revert h
  show BR.Fin F W κ H σ ((fa δ C).bind fun a C => (fb δ C).bind fun b C => opt (splitF a b) C) _ → _
  cases e1 : fa δ C with
  | ok a C1 =>
    intro h κ1 H1 p1 v rv
    have h : BR.Fin F W κ H σ ((fb δ C1).bind fun b C => opt (splitF a b) C) fun d _ κ' H' => ∀ v, Rp F κ' U H' v d → Q v H' := h
    have hlst : ∃ s, a = .str s := by
      cases e2 : fb δ C1 with
      | ok b C2 =>
        rw [e2] at h
        have h : BR.Fin F W κ H σ (opt (splitF a b) C2) _ := h
        obtain ⟨d, e, _⟩ := h.opt
        cases a with
        | str s => exact ⟨s, rfl⟩
        | _ => cases e
      | exc _ _ _ => rw [e2] at h; exact h.elim
      | stuck => rw [e2] at h; exact h.elim
    obtain ⟨s, rfl⟩ := hlst
    cases rv with
    | str _ =>
      refine ⟨⟨s, rfl⟩, ?_⟩
      have c1 := cx.post p1
      refine ⟨κ1, U, δ, C1, c1, (BR.Fin.post h p1).bind.mono fun b C2 κ2 H2 p2 h5 w rw' => ?_⟩
      obtain ⟨d, e, k⟩ := fin_give h5
      cases rw' with
      | str t =>
        obtain ⟨g, rfl⟩ := gd_some (show gd _ _ = some d from e)
        rw [Bool.and_eq_true] at g
        have c2 := (c1.post p2).hv
        refine ⟨s, t, rfl, rfl, by simpa using g.2, ?_, fun q hq => ?_⟩
        · have := of_decide_eq_true g.1
          rw [sizeLine_eq]
          omega
        · have hr : ∀ (H : Hp) (l : List Str), RpAll F κ2 U H (l.map V.str) (l.map PyData.str) := fun H l => by
            induction l with
            | nil => exact .nil
            | cons a r ih => exact .cons (.str a) ih
          have n := c2.newL (p := q) hq (hr H2 (Txt.split s t))
          exact k _ _ n.1 n.2
      | _ => cases e
  | exc _ _ _ => exact fun h => h.elim
  | stuck => exact fun h => h.elim
theorem rg_rp {κ : List Addr} {U : Addr → Prop} {H : Hp} (i j : Int) : RpAll F κ U H (rgV i j) (rangeD i j) := by
  unfold rgV rangeD
  generalize List.range (j - i).toNat = l
  induction l with
  | nil => exact .nil
  | cons a r ih => exact .cons (.int _) ih
theorem small_rg {i : Int} (h : smallI i = true) : RgOk 0 i := by
  unfold smallI at h
  rw [Bool.and_eq_true] at h
  have h1 := of_decide_eq_true h.1
  have h2 := of_decide_eq_true h.2
  exact ⟨by omega, by omega, by omega, by omega, by omega⟩
theorem r_trg {p1 p2 p3 : Pos} (hc : X.calm = true) (hg : Gl X ("tuple" : Str)) (hm : X.mg ("tuple" : Str) = none) (hg2 : Gl X ("range" : Str)) (hm2 : X.mg ("range" : Str) = none) (hp : pl x = true) (ha : PE X x (rdE F W fa)) :
    PE X (.Call (.Name ("tuple" : Str) p1) [.Call (.Name ("range" : Str) p2) [x] [] p3] [] p) (rdE F W fun δ C => (fa δ C).bind fun x C => match x with | .int i => if smallI i = true then .ok (.tuple (rangeD 0 i)) C else .stuck | _ => .stuck) := by
  refine wkE (pe_tupRgX hc hg hm (prg_1 hg2 hm2 ha (pl_star hp)) rfl) fun σ H Q h => rdE_mono (one h) fun v H1 ⟨κ, U, C, d, hv, ra, h⟩ => ?_
  cases ra with
  | int i =>
    simp only at h
    split at h
    · rename_i g
      refine ⟨i, rfl, small_rg g, fun q ob hq hd => ?_⟩
      have n := hv.newT hq hd (rg_rp (F := F) (κ := κ) (U := U) 0 i)
      exact h _ _ n.1 _ n.2
    · exact h.elim
  | _ => exact h.elim
theorem r_lrg {p1 p2 p3 : Pos} (hc : X.calm = true) (hg : Gl X ("list" : Str)) (hm : X.mg ("list" : Str) = none) (hg2 : Gl X ("range" : Str)) (hm2 : X.mg ("range" : Str) = none) (hp : pl x = true) (ha : PE X x (rdE F W fa)) :
    PE X (.Call (.Name ("list" : Str) p1) [.Call (.Name ("range" : Str) p2) [x] [] p3] [] p) (rdE F W fun δ C => (fa δ C).bind fun x C => match x with | .int i => if smallI i = true then .ok (.list (rangeD 0 i)) C else .stuck | _ => .stuck) := by
  refine wkE (pe_listRg hc hg hm (prg_1 hg2 hm2 ha (pl_star hp)) rfl) fun σ H Q h => rdE_mono (one h) fun v H1 ⟨κ, U, C, d, hv, ra, h⟩ => ?_
  cases ra with
  | int i =>
    simp only at h
    split at h
    · rename_i g
      refine ⟨i, rfl, small_rg g, fun q hq => ?_⟩
      have n := hv.newL hq (rg_rp (F := F) (κ := κ) (U := U) 0 i)
      exact h _ _ n.1 _ n.2
    · exact h.elim
  | _ => exact h.elim
end
end BR
set_option Elab.async false
set_option linter.all false
set_option maxRecDepth 100000
set_option maxHeartbeats 4000000
/-! the rules of expressions: calls -/
namespace BR
open PySem PySem.Spec PyProof.Rows L2
abbrev EZ : XK := fun _ _ _ => False
section
variable {X : Cx} {F : Fix} {W : WX} {x y z : Expr} {es : List Expr} {p p1 : Pos} {fA fB : VEnv → List Cell → Res (List PyData)}
variable {P : Program} {w : World} {c : Cfg} {base : Heap} {n k : Nat} {Φ : Oracle} {G : Str → Option PyData} {sc : Scope} {nm : Str}
theorem kw_facts {env : Env} {pos : Pos} : ∀ {kws : List Keyword} {ks : List Str}, kwN kws ks = true → (backToKw pos (keywordEach kws env)).all (·.1.isSome) = true ∧ (backToKw pos (keywordEach kws env)).filterMap (·.1) = ks ∧ (backToKw pos (keywordEach kws env)).any (·.1.isNone) = false
  | [], [], _ => ⟨rfl, rfl, rfl⟩
  | [], _ :: _, h => by cases h
  | ⟨none, _, _⟩ :: _, _, h => by cases h
  | ⟨some m, e, q⟩ :: r, [], h => by cases h
  | ⟨some m, e, q⟩ :: r, a :: ks, h => by
    have h' : (m == a && kwN r ks) = true := h
    rw [Bool.and_eq_true] at h'
    obtain ⟨i1, i2, i3⟩ := kw_facts (env := env) (pos := pos) h'.2
    have em : m = a := eq_of_beq h'.1
    subst em
    refine ⟨?_, ?_, ?_⟩
    · show (true && (backToKw pos (keywordEach r env)).all (·.1.isSome)) = true
      rw [i1]
      rfl
    · show m :: (backToKw pos (keywordEach r env)).filterMap (·.1) = m :: ks
      rw [i2]
    · show (false || (backToKw pos (keywordEach r env)).any (·.1.isNone)) = false
      rw [i3]
      rfl
theorem run_g {pins : List (Addr × Obj)} {σ : L2.St} {H : Hp} {s : Shared} {Q : VK} {f : Addr} {fd : FuncData} {ps : List Str} {sp : Sp} {as us : List Value} {kw : List (Str × Value)} {vs : List V} {gd : Bool} (D : FnG gd X.prog X.w X.K X.mg X.base n f fd ps sp) (hr : Room n X.A) (hg : gd = true → X.A.guards = some [])
    (hb : BindsTo s fd ⟨as, kw⟩ (ps.zip us)) (I : Inv X pins σ H s) (r : Vals vs us) (h : sp vs H Q EZ) : wpAny (model X.prog X.w) X.A (call (.ref f) as kw) (EP X pins σ Q) X.xe s := by
  refine wpAny_call (codeAny_mono (D.run X.A X.stack s H ⟨as, kw⟩ us vs Q EZ hr hg I.env0 hb r h) fun r s' hq => ?_)
  cases r with
  | error e =>
    exact False.elim hq
  | ok fl =>
    cases fl with
    | ret u => exact I.after hq
    | next => exact False.elim hq
    | brk => exact False.elim hq
    | cont => exact False.elim hq
theorem placed_len {α β : Type} {as : List α} {bs : List β} (h : as.length = bs.length) : ∀ {ix : List Nat} {r : List α}, placed as ix = some r → ∃ r', placed bs ix = some r' ∧ r'.length = r.length
  | [], r, e => by cases e; exact ⟨[], rfl, rfl⟩
  | j :: ix, r, e => by
    unfold placed at e
    split at e
    · rename_i a r1 h1 h2
      cases e
      obtain ⟨r', e', l⟩ := placed_len h h2
      have hj : j < bs.length := by
        rw [← h]
        rcases Nat.lt_or_ge j as.length with q | q
        · exact q
        · rw [List.getElem?_eq_none q] at h1
          cases h1
      refine ⟨bs[j] :: r', ?_, by simp [l]⟩
      unfold placed
      rw [List.getElem?_eq_getElem hj, e']
    · cases e
theorem placed_vals {as : List V} {bs : List Value} (h : Vals as bs) : ∀ {ix : List Nat} {r : List V} {r' : List Value}, placed as ix = some r → placed bs ix = some r' → Vals r r'
  | [], r, r', e, e' => by cases e; cases e'; exact .nil
  | j :: ix, r, r', e, e' => by
    unfold placed at e e'
    split at e
    · rename_i a r1 h1 h2
      cases e
      split at e'
      · rename_i b r2 h3 h4
        cases e'
        obtain ⟨u, hu, ru⟩ := h.get h1
        rw [h3] at hu
        cases hu
        exact .cons ru (placed_vals h h2 h4)
      · cases e'
    · cases e
theorem placed_rp {κ : List Addr} {U : Addr → Prop} {H : Hp} {as : List V} {ds : List PyData} (h : RpAll F κ U H as ds) : ∀ {ix : List Nat} {r : List PyData} {r' : List V}, placed ds ix = some r → placed as ix = some r' → RpAll F κ U H r' r
  | [], r, r', e, e' => by cases e; cases e'; exact .nil
  | j :: ix, r, r', e, e' => by
    unfold placed at e e'
    split at e
    · rename_i a r1 h1 h2
      cases e
      split at e'
      · rename_i b r2 h3 h4
        cases e'
        obtain ⟨u, hu, ru⟩ := h.get h1
        rw [h3] at hu
        cases hu
        exact .cons ru (placed_rp h h2 h4)
      · cases e'
    · cases e
/-- what the evaluator says reaches the callee -/
theorem sp_of {κ : List Addr} {U : Addr → Prop} {H : Hp} {C : List Cell} {σ : L2.St} {Q : VK} {vs : List V} {ds : List PyData} {np : Nat} {f : List PyData → List Cell → Res PyData} (hv : Hv F κ U H C) (r : RpAll F κ U H vs ds) (hl : ∀ ds C, f ds C ≠ .stuck → ds.length = np)
    (h : BR.Fin F W0 κ H σ (f ds C) fun d _ κ' H' => ∀ v, Rp F κ' U H' v d → Q v H') : spO F np f vs H Q EZ := by
  refine ⟨κ, U, C, ds, hl ds C fun e => ?_, hv, r, h⟩
  rw [e] at h
  exact h
theorem r_call (L : Lx P w F c base n X sc) (M : Mx P w F c base n Φ G) (hk : c.fns[k]? = some nm) (hg : glb sc nm = true) (hp : (x :: es).all pl = true) (ha : PA X (x :: es) (rdA F W0 fA)) :
    PE X (.Call (.Name nm p1) (x :: es) [] p) (rdE F W0 fun δ C => (fA δ C).bind fun ds C => Φ k ds C) := by
  obtain ⟨f, fd, ps, hm, hkp, D, hlen, hb, _⟩ := M.fns k nm hk
  obtain ⟨hgl, hdb⟩ := glb_of L.sc hg
  obtain ⟨rfl, rfl, rfl, eK, eM, eN, nd, _, cm, rm, _, gs⟩ := L
  rw [eK] at hkp D hb
  rw [eM] at hm D
  refine ⟨fun pins s σ H Q I h => ?_⟩
  refine wpAny_Call_Name_kw (ld_glob I hgl hm ?_ hdb)
  refine PySem.W.callWith_K (h₀ := X.base) I.ok.mod.kin hkp (thn (ha.run p pins s σ H _ I (oneA h)) fun us s1 ⟨vs, H1, I1, r, κ, U, C, ds, hv, ra, h⟩ => ⟨I1.kIn, ?_⟩) (pl_star (all_pl hp).1) (pl_any (all_pl hp).2)
  have hsp := sp_of hv ra hlen h
  have hl := D.len _ _ _ _ hsp
  have hb' := hb s1 us I1.kIn (by rw [List.append_nil, ← r.length]; exact hl)
  rw [List.append_nil] at hb'
  exact run_g D rm gs hb' I1 r hsp
theorem run_l {pins : List (Addr × Obj)} {σ : L2.St} {H : Hp} {s : Shared} {Q : VK} {f c1 : Addr} {nk : NK} {ps : List Str} {sp : Sp} {us : List Value} {vs : List V} {gd : Bool} (D : FnL gd X.prog X.w X.K X.mg X.base n nk ps sp) (hr : Room n X.A) (hg : gd = true → X.A.guards = some [])
    (hf : H f = some (FunO f c1 nk)) (hc : H c1 = some (LamX.CodeO c1 nk.qual)) (I : Inv X pins σ H s) (r : Vals vs us) (h : sp vs H Q EZ) : wpAny (model X.prog X.w) X.A (call (.ref f) us) (EP X pins σ Q) X.xe s := by
  refine wpAny_call (codeAny_mono (D.run X.A X.stack s H f c1 us vs Q EZ hr hg I.env0 hf hc r h) fun r s' hq => ?_)
  cases r with
  | error e => exact (show False from hq).elim
  | ok fl =>
    cases fl with
    | ret u => exact I.after hq
    | next => exact (show False from hq).elim
    | brk => exact (show False from hq).elim
    | cont => exact (show False from hq).elim
theorem funAt {pins : List (Addr × Obj)} {σ : L2.St} {H : Hp} {s : Shared} {f c1 : Addr} {nk : NK} (I : Inv X pins σ H s) (e : H f = some (FunO f c1 nk)) : PySem.W.FnAt f s.heap := by
  obtain ⟨od, sl, doc, pm, ctv, ho⟩ := funO_at I.hok e
  exact ⟨_, od, _, sl, ho⟩
theorem r_callv {i : Nat} (L : Lx P w F c base n X sc) (M : Mx P w F c base n Φ G) (hi : c.N[i]? = some nm) (hvs : vis sc nm = true) (hp : (x :: es).all pl = true) (ha : PA X (x :: es) (rdA F W0 fA)) :
    PE X (.Call (.Name nm p1) (x :: es) [] p) (rdE F W0 fun δ C => (opt (δ[i]?.join) C).bind fun f C => match f with
      | .dict [(.bool true, .int k)] => if 0 ≤ k then (fA δ C).bind fun ds C => Φ k.toNat ds C else .stuck
      | .dict [(.str _, .int k)] => if 0 ≤ k then (fA δ C).bind fun ds C => Φ k.toNat ds C else .stuck
      | _ => .stuck) := by
  obtain ⟨hv1, hd1, hc1⟩ := vis_of hvs
  refine ⟨fun pins s σ H Q I ⟨κ, U, δ, C, cx, h⟩ => ?_⟩
  refine wpAny_Call_Name_kw (thn ((pe_var (L.N ▸ hi) (L.sc ▸ hv1) hd1 hc1).run pins s σ H (fun v H' => H' = H ∧ σ[i]? = some (some v)) I ?_) fun u s1 ⟨v, H1, I1, rv, e1, e2⟩ => ?_)
  · obtain ⟨d, e, _⟩ := h.bind.opt
    obtain ⟨v, q, r⟩ := cx.sl i d e
    exact ⟨v, q, rfl, q⟩
  subst e1
  obtain ⟨d, e, h⟩ := h.bind.opt
  obtain ⟨v', q, rp⟩ := cx.sl i d e
  rw [e2] at q
  cases q
  have h := h κ H1 (.refl cx.sr)
  cases rp with
  | @fn a k' nm' hk1 hk2 =>
    have h : BR.Fin F W0 κ H1 σ (if (0 : Int) ≤ (k' : Int) then (fA δ C).bind fun ds C => Φ (k' : Int).toNat ds C else .stuck) fun d _ κ' H' => ∀ v, Rp F κ' U H' v d → Q v H' := h
    rw [if_pos (Int.natCast_nonneg k'), Int.toNat_natCast] at h
    obtain ⟨f, fd, ps, hm, hkp, D, hlen, hb, _⟩ := M.fns k' nm' (by rw [M.cf]; exact hk1)
    rw [hk2] at hm
    cases hm
    cases rv
    obtain ⟨rfl, rfl, rfl, eK, eM, eN, nd, _, cm, rm, _, gs, _⟩ := L
    rw [eK] at hkp D hb
    rw [eM] at D
    refine PySem.W.callWith_K (h₀ := X.base) I1.ok.mod.kin hkp (thn (ha.run p pins s1 σ H1 _ I1 (oneA ⟨κ, U, δ, C, cx, h⟩)) fun us s2 ⟨vs, H2, I2, r, κ, U, C, ds, hv, ra, h⟩ => ⟨I2.kIn, ?_⟩) (pl_star (all_pl hp).1) (pl_any (all_pl hp).2)
    have hsp := sp_of hv ra hlen h
    have hl := D.len _ _ _ _ hsp
    have hb' := hb s2 us I2.kIn (by rw [List.append_nil, ← r.length]; exact hl)
    rw [List.append_nil] at hb'
    exact run_g D rm gs hb' I2 r hsp
  | @nfn f c1 k' nk h0 h1 h2 h3 h4 =>
    have h : BR.Fin F W0 κ H1 σ (if (0 : Int) ≤ (k' : Int) then (fA δ C).bind fun ds C => Φ (k' : Int).toNat ds C else .stuck) fun d _ κ' H' => ∀ v, Rp F κ' U H' v d → Q v H' := h
    rw [if_pos (Int.natCast_nonneg k'), Int.toNat_natCast] at h
    obtain ⟨ps, D, hlen⟩ := M.nst k' nk h0
    cases rv
    obtain ⟨rfl, rfl, rfl, eK, eM, eN, nd, _, cm, rm, _, gs, _⟩ := L
    rw [eK, eM] at D
    have rd : rdA F W0 fA σ H1 fun vs H2 => H2 f = some (FunO f c1 nk) ∧ H2 c1 = some (LamX.CodeO c1 nk.qual) ∧ ∃ κ U C ds, Hv F κ U H2 C ∧ RpAll F κ U H2 vs ds ∧ BR.Fin F W0 κ H2 σ (Φ k' ds C) fun d _ κ' H' => ∀ w, Rp F κ' U H' w d → Q w H' :=
      ⟨κ, U, δ, C, cx, h.bind.mono fun a C1 κ1 H2 p1 q1 v rv => ⟨p1.fx.keep _ _ h1 h3 (fun _ z => nomatch z), p1.fx.keep _ _ h2 h4 (fun _ z => nomatch z), κ1, U, C1, a, (cx.post p1).hv, rv, q1⟩⟩
    refine PySem.W.callWith_F (first := []) (funAt I1 h1) (thn (ha.run p pins s1 σ H1 _ I1 rd) fun us s2 ⟨vs, H2, I2, r, z1, z2, κ, U, C, ds, hv, ra, h⟩ => ⟨funAt I2 z1, ?_⟩) (pl_star (all_pl hp).1) (pl_any (all_pl hp).2)
    exact run_l D rm gs z1 z2 I2 r (sp_of hv ra hlen h)
  | _ => exact h.elim
/-! by keywords -/
def wkK {X : Cx} {es : List Keyword} {t t' : TA} (h : PK X es t) (k : ∀ σ H Q, t' σ H Q → t σ H Q) : PK X es t' := ⟨fun pos pins s σ H Q I q => h.run pos pins s σ H Q I (k σ H Q q)⟩
theorem r_knil : PK X [] (rdA F W fun _ C => .ok [] C) := wkK pk_nil fun σ H Q ⟨κ, U, δ, C, cx, h⟩ => h κ H (.refl cx.sr) [] .nil
theorem r_kcons {kws : List Keyword} {nm : Option Str} {kp : Pos} {fa : VEnv → List Cell → Res PyData} (ha : PE X x (rdE F W fa)) (hr : PK X kws (rdA F W fA)) :
    PK X (⟨nm, x, kp⟩ :: kws) (rdA F W fun δ C => (fa δ C).bind fun d C => (fA δ C).bind fun ds C => .ok (d :: ds) C) := by
  refine wkK (pk_cons ha hr) fun σ H Q ⟨κ, U, δ, C, cx, h⟩ => ?_
  refine ⟨κ, U, δ, C, cx, h.bind.mono fun a C1 κ1 H1 p1 h1 v rv => ?_⟩
  exact ⟨κ1, U, δ, C1, cx.post p1, h1.bind.mono fun ds C2 κ2 H2 p2 h2 vs rs => h2 κ2 H2 (.refl p2.sr) (v :: vs) (.cons (rv.post p2) rs)⟩
theorem RpAll.app2 {κ : List Addr} {U : Addr → Prop} {H : Hp} {vs ws : List V} {ds es : List PyData} (h : RpAll F κ U H vs ds) (h' : RpAll F κ U H ws es) : RpAll F κ U H (vs ++ ws) (ds ++ es) := h.append h'
theorem kw_call {pins : List (Addr × Obj)} {s2 : Shared} {σ : L2.St} {H2 : Hp} {Q : VK} {ps : List Str} {fd : FuncData} {f : Addr} {np : Nat} {ks : List Str} {ix : List Nat} {us ws : List Value} {vs zs : List V} {ds es : List PyData} {κ : List Addr} {U : Addr → Prop} {C : List Cell}
    {gd : Bool} (D : FnG gd X.prog X.w X.K X.mg X.base n f fd ps (spO F ps.length (Φ k))) (rm : Room n X.A) (gs : gd = true → X.A.guards = some []) (hlen : ∀ ds C, Φ k ds C ≠ .stuck → ds.length = ps.length) (hb : KBnd X.K fd ps np ks ix) (hn : us.length = np) (hn2 : ws.length = ks.length)
    (I2 : Inv X pins σ H2 s2) (r : Vals vs us) (rz : Vals zs ws) (hv : Hv F κ U H2 C) (ra : RpAll F κ U H2 (vs ++ zs) (ds ++ es))
    (h : BR.Fin F W0 κ H2 σ ((opt (placed (ds ++ es) ix) C).bind fun vs C => Φ k vs C) fun d _ κ' H' => ∀ v, Rp F κ' U H' v d → Q v H') :
    wpAny (model X.prog X.w) X.A (call (.ref f) us (ks.zip ws)) (EP X pins σ Q) X.xe s2 := by
  obtain ⟨ds', e1, h⟩ := h.bind.opt
  have h := h κ H2 (.refl hv.sr)
  obtain ⟨vs', e2, l2⟩ := placed_len (as := ds ++ es) (bs := vs ++ zs) ra.length.symm e1
  obtain ⟨us', e3, l3⟩ := placed_len (as := vs ++ zs) (bs := us ++ ws) (r.append rz).length e2
  have hsp := sp_of hv (placed_rp ra e1 e2) hlen h
  have hl := D.len _ _ _ _ hsp
  exact run_g D rm gs (hb s2 us ws us' I2.kIn hn hn2 e3 (by omega)) I2 (placed_vals (r.append rz) e2 e3) hsp
theorem Fin.eq {α : Type} {κ : List Addr} {H : Hp} {σ : L2.St} {r : Res α} {P : α → List Cell → List Addr → Hp → Prop} (h : BR.Fin F W κ H σ r P) : BR.Fin F W κ H σ r fun a C' κ' H' => r = .ok a C' ∧ P a C' κ' H' := by
  cases r with
  | ok a C => exact fun κ1 H1 p1 => ⟨rfl, h κ1 H1 p1⟩
  | exc _ _ _ => exact h
  | stuck => exact h
theorem kw_len : ∀ {l : List Keyword} {k2 : List Str}, kwN l k2 = true → l.length = k2.length
  | [], [], _ => rfl
  | [], _ :: _, h => by cases h
  | ⟨none, _, _⟩ :: _, _, h => by cases h
  | ⟨some m, e, q⟩ :: r, [], h => by cases h
  | ⟨some m, e, q⟩ :: r, a :: ks, h => by
    have h' : (m == a && kwN r ks) = true := h
    rw [Bool.and_eq_true] at h'
    rw [List.length_cons, List.length_cons, kw_len h'.2]
theorem r_callk0 {ks : List Str} {ix : List Nat} {kws : List Keyword} (L : Lx P w F c base n X sc) (M : Mx P w F c base n Φ G) (hk : c.fns[k]? = some nm) (hg : glb sc nm = true) (hkw : (k, 0, ks, ix) ∈ c.kws) (hks : kwN kws ks = true)
    (hka : PK X kws (rdA F W0 fB)) (hB : ∀ δ C ds C', fB δ C = .ok ds C' → ds.length = ks.length) :
    PE X (.Call (.Name nm p1) [] kws p) (rdE F W0 fun δ C => (fB δ C).bind fun es C => (opt (placed es ix) C).bind fun vs C => Φ k vs C) := by
  obtain ⟨f, fd, ps, hm, hkp, D, hlen, _, hbk⟩ := M.fns k nm hk
  have hb := hbk _ _ _ hkw
  obtain ⟨hgl, hdb⟩ := glb_of L.sc hg
  obtain ⟨rfl, rfl, rfl, eK, eM, eN, nd, _, cm, rm, _, gs⟩ := L
  rw [eK] at hkp D hb
  rw [eM] at hm D
  obtain ⟨f1, f2, f3⟩ := kw_facts (env := X.env) (pos := p) hks
  refine ⟨fun pins s σ H Q I ⟨κ, U, δ, C, cx, h⟩ => ?_⟩
  refine wpAny_Call_Name_kw (ld_glob I hgl hm ?_ hdb)
  refine PySem.W.callWith_KW0 (h₀ := X.base) I.ok.mod.kin hkp f1 ?_ (by show (false || (backToKw p (keywordEach kws X.env)).any (·.1.isNone)) = false; rw [f3]; rfl)
  have hA : rdA F W0 fB σ H fun zs H2 => ∃ κ U C es, es.length = ks.length ∧ Hv F κ U H2 C ∧ RpAll F κ U H2 zs es ∧
        BR.Fin F W0 κ H2 σ ((opt (placed es ix) C).bind fun vs C => Φ k vs C) fun d _ κ' H' => ∀ v, Rp F κ' U H' v d → Q v H' :=
      ⟨κ, U, δ, C, cx, h.bind.eq.mono fun es C2 κ2 H2 p2 ⟨e, h2⟩ zs rz => ⟨κ2, U, C2, es, hB _ _ _ _ e, (cx.post p2).hv, rz, h2⟩⟩
  refine thn (hka.run p pins s σ H _ I hA) fun ws s2 ⟨zs, H2, I2, rz, κ, U, C, es, hl, hv, ra, h⟩ => ⟨I2.kIn, ?_⟩
  rw [f2]
  exact kw_call (us := []) (vs := []) (ds := []) D rm gs hlen hb rfl (by rw [← rz.length, ra.length, hl]) I2 .nil rz hv ra h
theorem r_callk {ks : List Str} {ix : List Nat} {kws : List Keyword} (L : Lx P w F c base n X sc) (M : Mx P w F c base n Φ G) (hk : c.fns[k]? = some nm) (hg : glb sc nm = true) (hp : (x :: es).all pl = true) (hkw : (k, (x :: es).length, ks, ix) ∈ c.kws) (hks : kwN kws ks = true)
    (ha : PA X (x :: es) (rdA F W0 fA)) (hA : ∀ δ C ds C', fA δ C = .ok ds C' → ds.length = (x :: es).length) (hka : PK X kws (rdA F W0 fB)) (hB : ∀ δ C ds C', fB δ C = .ok ds C' → ds.length = ks.length) :
    PE X (.Call (.Name nm p1) (x :: es) kws p) (rdE F W0 fun δ C => (fA δ C).bind fun ds C => (fB δ C).bind fun es C => (opt (placed (ds ++ es) ix) C).bind fun vs C => Φ k vs C) := by
  obtain ⟨f, fd, ps, hm, hkp, D, hlen, _, hbk⟩ := M.fns k nm hk
  have hb := hbk _ _ _ hkw
  obtain ⟨hgl, hdb⟩ := glb_of L.sc hg
  obtain ⟨rfl, rfl, rfl, eK, eM, eN, nd, _, cm, rm, _, gs⟩ := L
  rw [eK] at hkp D hb
  rw [eM] at hm D
  obtain ⟨f1, f2, f3⟩ := kw_facts (env := X.env) (pos := p) hks
  refine ⟨fun pins s σ H Q I ⟨κ, U, δ, C, cx, h⟩ => ?_⟩
  refine wpAny_Call_Name_kw (ld_glob I hgl hm ?_ hdb)
  have hAA : rdA F W0 fA σ H fun vs H1 => rdA F W0 fB σ H1 fun zs H2 => ∃ κ U C ds es', ds.length = (x :: es).length ∧ es'.length = ks.length ∧ Hv F κ U H2 C ∧ RpAll F κ U H2 vs ds ∧ RpAll F κ U H2 zs es' ∧
        BR.Fin F W0 κ H2 σ ((opt (placed (ds ++ es') ix) C).bind fun vs C => Φ k vs C) fun d _ κ' H' => ∀ v, Rp F κ' U H' v d → Q v H' :=
      ⟨κ, U, δ, C, cx, h.bind.eq.mono fun ds C1 κ1 H1 p1 ⟨e1, h1⟩ vs rs => ⟨κ1, U, δ, C1, cx.post p1, h1.bind.eq.mono fun es C2 κ2 H2 p2 ⟨e2, h2⟩ zs rz => ⟨κ2, U, C2, ds, es, hA _ _ _ _ e1, hB _ _ _ _ e2, ((cx.post p1).post p2).hv, rs.post p2, rz, h2⟩⟩⟩
  refine PySem.W.callWith_KW (h₀ := X.base) I.ok.mod.kin hkp f1 (thn (ha.run p pins s σ H _ I hAA) fun us s1 ⟨vs, H1, I1, r, q⟩ => ?_) (by
    rw [pl_star (all_pl hp).1]
    show ((false || (backTo p (starEach es X.env)).any (·.1)) || (backToKw p (keywordEach kws X.env)).any (·.1.isNone)) = false
    rw [pl_any (all_pl hp).2, f3]
    rfl) (pl_star (all_pl hp).1)
  refine thn (hka.run p pins s1 σ H1 _ I1 q) fun ws s2 ⟨zs, H2, I2, rz, κ, U, C, ds, es', l1, l2, hv, rv, ra, h⟩ => ⟨I2.kIn, ?_⟩
  rw [f2]
  exact kw_call (us := us) (vs := vs) (ds := ds) D rm gs hlen hb (by rw [← r.length, rv.length, l1]) (by rw [← rz.length, ra.length, l2]) I2 r rz hv (rv.append ra) h
end
end BR
set_option Elab.async false
set_option linter.all false
set_option maxRecDepth 100000
set_option maxHeartbeats 4000000
/-! min by a key: the key is a function made within the def -/
namespace BR
open PySem PySem.Spec PyProof.Rows L2
section
variable {X : Cx} {F : Fix} {P : Program} {w : World} {c : Cfg} {base : Heap} {n k : Nat} {Φ : Oracle} {G : Str → Option PyData}
/-- where the walk stands: u the best item so far, ku its key; the walk goes on behind place j; ch: the walk's own objects -/
def MkAt (X : Cx) (F : Fix) (pins : List (Addr × Obj)) (σ : L2.St) (ch : List Addr) (l f c1 : Addr) (nk : NK) (f0 : List PyData → List Cell → Res PyData) (ds : List PyData) (Q : VK) (U : Addr → Prop) (j : Nat) (u ku : Value) (s : Shared) : Prop :=
  ∃ (κ : List Addr) (H : Hp) (C : List Cell) (ws : List V) (x kx : PyData) (vx vk : V), Inv X pins σ H s ∧ (∀ b ∈ ch, FpOk X pins H b) ∧ H l = some (.lst ws) ∧ l ∉ κ ∧ H f = some (FunO f c1 nk) ∧ f ∉ κ ∧ H c1 = some (LamX.CodeO c1 nk.qual) ∧ c1 ∉ κ ∧
    Hv F κ U H C ∧ RpAll F κ U H ws ds ∧ RelV vx u ∧ Rp F κ U H vx x ∧ RelV vk ku ∧ Rp F κ U H vk kx ∧ shp kx = true ∧
    BR.Fin F W0 κ H σ (minK f0 (ds.drop (j + 1)) x kx C) fun d _ κ' H' => ∀ v, Rp F κ' U H' v d → Q v H'
variable {pins : List (Addr × Obj)} {σ : L2.St} {ch : List Addr} {l f c1 I0 S : Addr} {nk : NK} {f0 : List PyData → List Cell → Res PyData} {ds : List PyData} {Q : VK} {U : Addr → Prop} {j : Nat} {u ku : Value} {s : Shared}
theorem MkAt.turn {h' : Heap} {tk : Nat} (m : MkAt X F pins σ ch l f c1 nk f0 ds Q U j u ku s) (k : ∀ b o, b ∉ ch → s.heap.get? b = some o → h'.get? b = some o) : MkAt X F pins σ ch l f c1 nk f0 ds Q U j u ku { s with heap := h', toks := tk } := by
  obtain ⟨κ, H, C, ws, x, kx, vx, vk, I, fp, r⟩ := m
  exact ⟨κ, H, C, ws, x, kx, vx, vk, I.turnedL k fp, fp, r⟩
theorem MkAt.list (m : MkAt X F pins σ ch l f c1 nk f0 ds Q U j u ku s) : ∃ its : List Value, its.length = ds.length ∧ s.heap.IsList l its.toArray := by
  obtain ⟨κ, H, C, ws, x, kx, vx, vk, I, fp, hl, _, _, _, _, _, _, ra, _⟩ := m
  obtain ⟨its, rv, pl, _⟩ := I.list (SqL.of hl)
  exact ⟨its, by rw [← rv.length, ra.length], pl.isList⟩
theorem MkAt.stop (hj : ds.length ≤ j + 1) (m : MkAt X F pins σ ch l f c1 nk f0 ds Q U j u ku s) : EP X pins σ Q u s := by
  obtain ⟨κ, H, C, ws, x, kx, vx, vk, I, fp, hl, _, _, _, _, _, hv, ra, r1, r2, r3, r4, _, h⟩ := m
  rw [List.drop_of_length_le hj] at h
  exact ⟨vx, H, I, r1, h κ H (.refl hv.sr) vx r2⟩
theorem lessF_some {a b : PyData} {z : Bool} (h : lessF a b = some z) : W.alike a b = true ∧ shp a = true ∧ shp b = true ∧ a ≠ .none ∧ z = W.dataLt a b := by
  obtain ⟨g, rfl⟩ := gd_some h
  simp only [Bool.and_eq_true] at g
  obtain ⟨⟨⟨g1, g2⟩, g3⟩, g4⟩ := g
  exact ⟨g1, g2, g3, fun e => (by subst e; cases g4), rfl⟩
theorem shp_depth {d : PyData} (h : shp d = true) : d.depth ≤ 64 := by
  have := depths (xs := [d]) (by simpa using h)
  simp only [PyData.depthAll] at this
  omega
theorem Hv.post {κ κ' : List Addr} {U : Addr → Prop} {H H' : Hp} {C C' : List Cell} (hv : Hv F κ U H C) (p : Post F κ H κ' H' C') : Hv F κ' U H' C' := by
  refine ⟨p.sr, fun a h => ?_⟩
  obtain ⟨xs, e⟩ := hv.al a h
  by_cases hk : a ∈ κ
  · exact p.sr.at (p.gr.mem hk)
  · exact ⟨xs, p.fx.keep _ _ e hk fun _ z => nomatch z⟩
/-- one turn: the key is asked for, then compared -/
theorem MkAt.step {gd : Bool} {ps : List Str} (D : FnL gd X.prog X.w X.K X.mg X.base n nk ps (spO F ps.length f0)) (hK : F.K = X.K) (rm : Room n X.A.in1) (gs : gd = true → X.A.guards = some []) (hlen : ∀ ds C, f0 ds C ≠ .stuck → ds.length = ps.length)
    (hS : ∀ b ∈ ch, ∃ o, s.heap.get? b = some o) (hj : j + 1 < ds.length) {its : List Value} (hil : s.heap.IsList l its.toArray) {v : Value} (hvi : its[j + 1]? = some v)
    (m : MkAt X F pins σ ch l f c1 nk f0 ds Q U j u ku s) {E : Value → Shared → Prop} :
    wpAny (model X.prog X.w) X.A.in1 (call (.ref f) [v]) (fun k' s' => (∀ b ∈ ch, ∀ o, s.heap.get? b = some o → s'.heap.get? b = some o) ∧ ∃ b : Bool, (∀ (Q' : Value → Shared → Prop) (E' : Value → Shared → Prop), Q' (.bool b) s' → wpAny (model X.prog X.w) X.A.in1 (richCompare .Lt k' ku) Q' E' s') ∧
      MkAt X F pins σ ch l f c1 nk f0 ds Q U (j + 1) (if b = true then v else u) (if b = true then k' else ku) s') E s := by
  obtain ⟨κ, H, C, ws, x, kx, vx, vk, I, fp, hl, hlk, hf, hfk, hc, hck, hv, ra, r1, r2, r3, r4, hsk, h⟩ := m
  have hdj : ds[j + 1]? = some ds[j + 1] := List.getElem?_eq_getElem hj
  have hdr : ds.drop (j + 1) = ds[j + 1] :: ds.drop (j + 1 + 1) := by rw [List.drop_eq_getElem_cons hj]
  obtain ⟨vy, hwy, ry⟩ := ra.get hdj
  have rvy : RelV vy v := by
    obtain ⟨its', rv, pl, _⟩ := I.list (SqL.of hl)
    have e : its'.toArray = its.toArray := by
      obtain ⟨o1, e1, _, n1, d1⟩ := pl.isList
      obtain ⟨o2, e2, _, n2, d2⟩ := hil
      rw [e1] at e2
      cases e2
      rw [d1] at d2
      cases d2
      rfl
    have e' : its' = its := by simpa using congrArg Array.toList e
    subst e'
    obtain ⟨v', hv', rr⟩ := rv.get hwy
    rw [hvi] at hv'
    cases hv'
    exact rr
  rw [hdr] at h
  have h : BR.Fin F W0 κ H σ ((f0 [ds[j + 1]] C).bind fun k' C => (opt (lessF k' kx) C).bind fun b C => if b = true then minK f0 (ds.drop (j + 1 + 1)) ds[j + 1] k' C else minK f0 (ds.drop (j + 1 + 1)) x kx C) fun d _ κ' H' => ∀ v, Rp F κ' U H' v d → Q v H' := h
  have hb := h.bind.eq
  have sp : spO F ps.length f0 [vy] H (fun vk' H' => ∃ κ' C' k', f0 [ds[j + 1]] C = .ok k' C' ∧ Post F κ H κ' H' C' ∧ Rp F κ' U H' vk' k' ∧
      BR.Fin F W0 κ' H' σ ((opt (lessF k' kx) C').bind fun b C => if b = true then minK f0 (ds.drop (j + 1 + 1)) ds[j + 1] k' C else minK f0 (ds.drop (j + 1 + 1)) x kx C) fun d _ κ' H' => ∀ v, Rp F κ' U H' v d → Q v H') EZ := by
    refine sp_of (σ := σ) hv (.cons ry .nil) hlen ?_
    cases hr : f0 [ds[j + 1]] C with
    | ok k' C' =>
      rw [hr] at hb
      exact fun κ' H' p vk' rk' => ⟨κ', C', k', rfl, p, rk', (hb κ' H' p).2⟩
    | exc _ _ _ => rw [hr] at hb; exact hb
    | stuck => rw [hr] at hb; exact hb
  have e0 : Env0 X.prog X.w X.K X.mg X.base X.A.in1 X.stack s H := ⟨I.env0.frames, I.env0.mod, I.env0.bs, I.env0.bsz, I.env0.funs, I.env0.frf, I.env0.hok, I.env0.bare⟩
  refine wpAny_call (codeAny_mono (D.run X.A.in1 X.stack s H f c1 [v] [vy] _ EZ rm gs e0 hf hc (.cons rvy .nil) sp) fun r s' hq => ?_)
  cases r with
  | error e => exact (show False from hq).elim
  | ok fl =>
    cases fl with
    | next => exact (show False from hq).elim
    | brk => exact (show False from hq).elim
    | cont => exact (show False from hq).elim
    | ret k' =>
      have hq : CE X.stack X.prog X.w H s _ k' s' := hq
      obtain ⟨vk', H', os, ba, un, hok, rk, κ', C', kd, e1, p, rk', h'⟩ := hq
      have nfr : ∀ b ∈ ch, b ∉ frs X.stack := fun b hb z => by
        obtain ⟨_, f1, f2, _⟩ := fp b hb
        rcases List.mem_cons.mp (I.stkSub b z) with z | z
        · exact f1 z
        · exact f2 z
      have I' : Inv X pins σ H' s' := I.call' (ch := []) os un hok ba (fun b z => absurd z (by simp))
      obtain ⟨z, hz, h2⟩ := h'.bind.opt
      have h2 := h2 κ' H' (.refl p.sr)
      obtain ⟨g1, g2, g3, g4, rfl⟩ := lessF_some hz
      obtain ⟨as, ra1⟩ := rk'.reads hK I' g2 rk
      obtain ⟨bs, rb1⟩ := (r4.post p).reads hK I' hsk r3
      have fp' : ∀ b ∈ ch, FpOk X pins H' b := fun b hb => by
        obtain ⟨f0, f1, f2, f3⟩ := fp b hb
        obtain ⟨o, ho⟩ := hS b hb
        exact ⟨un.free b o ho f0 (by simp), f1, f2, f3⟩
      refine ⟨fun b hb o e => un.keep b o e (fp b hb).1 (nfr b hb) (by simp), W.dataLt kd kx, fun Q' E' hq' => ?_, ?_⟩
      · refine W.rcLt_alike kd kx X.A.in1 s' k' ku as bs ra1 rb1 g1 g4 ?_ X.prog X.w E' Q' hq'
        have d1 := shp_depth g2
        have d2 := Nat.min_le_left kd.depth kx.depth
        have := rm.un
        omega
      · have hv' : Hv F κ' U H' C' := hv.post p
        refine ⟨κ', H', C', ws, ?_⟩
        cases hlt : W.dataLt kd kx with
        | true =>
          rw [hlt] at h2
          exact ⟨ds[j + 1], kd, vy, vk', I', fp', p.fx.keep _ _ hl hlk (fun _ z => nomatch z), p.gr.notMem hlk hl, p.fx.keep _ _ hf hfk (fun _ z => nomatch z), p.gr.notMem hfk hf, p.fx.keep _ _ hc hck (fun _ z => nomatch z), p.gr.notMem hck hc, hv', ra.post p, rvy, ry.post p, rk, rk', g2, h2⟩
        | false =>
          rw [hlt] at h2
          exact ⟨x, kx, vx, vk, I', fp', p.fx.keep _ _ hl hlk (fun _ z => nomatch z), p.gr.notMem hlk hl, p.fx.keep _ _ hf hfk (fun _ z => nomatch z), p.gr.notMem hfk hf, p.fx.keep _ _ hc hck (fun _ z => nomatch z), p.gr.notMem hck hc, hv', ra.post p, r1, r2.post p, r3, r4.post p, hsk, h2⟩
/-- the walk -/
theorem mk_go {gd : Bool} {ps : List Str} {kw : List (Str × Value)} {R : Result → Shared → Prop} (D : FnL gd X.prog X.w X.K X.mg X.base n nk ps (spO F ps.length f0)) (hK : F.K = X.K) (rm : Room n X.A.in1) (gs : gd = true → X.A.guards = some []) (hlen : ∀ ds C, f0 ds C ≠ .stuck → ds.length = ps.length)
    (hIS : I0 ≠ S) (hlI : l ≠ I0) (hlS : l ≠ S) (hR : ∀ u s', EP X pins σ Q u s' → R (.ok (.ret u)) s') :
    ∀ (m j : Nat) (s : Shared) (u ku : Value) (cc : Nat), ds.length - (j + 1) = m → MkAt X F pins σ [S, I0] l f c1 nk f0 ds Q U j u ku s → s.heap.IsListIter I0 l (j + 1) →
      s.heap.get? S = some { cls := .type "list", dict := none, data := .seq #[u, ku] cc, slots := #[] } → codeAny (model X.prog X.w) X.A (.builtin "min.loop" ⟨[.ref I0, .ref f, .ref S], kw⟩) R s := by
  have nm : (toString "min" ++ toString ".loop" : String) = "min.loop" := by decide
  intro m
  induction m with
  | zero =>
    intro j s u ku cc hm hA hit hS
    obtain ⟨its, hil, hl⟩ := hA.list
    refine codeAny_builtin PySem.F.entry_min_loop ?_
    rw [Around.under_plainId PySem.F.plain_min_loop _]
    change wpAny _ X.A.in1 (seqItems? (.ref S) >>= _) _ _ s
    refine wpAny_bind (wpAny_seqItems hS rfl ?_)
    change wpAny _ X.A.in1 (tryCatch (pyNext (.ref I0)) _ >>= _) _ _ s
    refine wpAny_bind (wpAny_tryCatch (wpAny_pyNext_list_end (A := X.A.in1) rm.hd hit hl (by simp; omega) fun h1 ex => ?_))
    have hS1 := ex S _ (Ne.symm hIS) hS
    change wpAny _ X.A.in1 (updateSeq S (fun _ => #[]) >>= _) _ _ _
    refine wpAny_bind (wpAny_updateSeq hS1 rfl (wpAny_bind (wpAny_letGo (wpAny_pure ?_))))
    refine hR u _ (MkAt.stop (j := j) (ku := ku) (by omega) (hA.turn (tk := s.toks) fun b o hb e => ?_))
    have b1 : b ≠ S := fun z => hb (by simp [z])
    have b2 : b ≠ I0 := fun z => hb (by simp [z])
    exact (Heap.get?_update_other _ _ (Ne.symm b1)).trans (ex b o b2 e)
  | succ m ih =>
    intro j s u ku cc hm hA hit hS
    have hjl : j + 1 < ds.length := by omega
    obtain ⟨its, hil, hl⟩ := hA.list
    have hvi : its[j + 1]? = some its[j + 1] := List.getElem?_eq_getElem (by omega)
    refine codeAny_builtin PySem.F.entry_min_loop ?_
    rw [Around.under_plainId PySem.F.plain_min_loop _]
    change wpAny _ X.A.in1 (seqItems? (.ref S) >>= _) _ _ s
    refine wpAny_bind (wpAny_seqItems hS rfl ?_)
    change wpAny _ X.A.in1 (tryCatch (pyNext (.ref I0)) _ >>= _) _ _ s
    refine wpAny_bind (wpAny_tryCatch (wpAny_pyNext_list_item (x := its[j + 1]) hit hl (by simp) fun h1 hit1 sb => ?_))
    have ex := sb.extBut
    have hS1 := ex S _ (Ne.symm hIS) hS
    have hl1 : h1.IsList l its.toArray := hl.extBut ex hlI
    have hA1 : MkAt X F pins σ [S, I0] l f c1 nk f0 ds Q U j u ku { s with heap := h1 } := hA.turn (tk := s.toks) fun b o hb e => ex b o (fun z => hb (by simp [z])) e
    change wpAny _ X.A.in1 (tryCatch (holding [its[j + 1]] (call (.ref f) [its[j + 1]])) _ >>= _) _ _ _
    refine wpAny_bind (wpAny_tryCatch (wpAny_holding (wpAny_mono (hA1.step D hK rm gs hlen (fun b hb => ?_) hjl hl1 hvi) (fun k' s2 ⟨kp, b, hcmp, hA2⟩ => ?_) fun _ _ e => e)))
    · simp only [List.mem_cons, List.mem_singleton, List.not_mem_nil, or_false] at hb
      rcases hb with rfl | rfl
      · exact ⟨_, hS1⟩
      · obtain ⟨o, ho, _⟩ := hit1
        exact ⟨o, ho⟩
    · have hS2 := kp S (by simp) _ hS1
      have hit2 : s2.heap.IsListIter I0 l (j + 1 + 1) := hit1.at fun o e => kp I0 (by simp) o e
      change wpAny _ X.A.in1 (tryCatch (holding [its[j + 1], k'] (richCompare .Lt k' ku >>= _)) _ >>= _) _ _ _
      refine wpAny_bind (wpAny_tryCatch (wpAny_holding (wpAny_bind (hcmp _ _ ?_))))
      refine wpAny_bind (wpAny_holding (wpAny_truthy_bool ?_))
      refine wpAny_bind (wpAny_letGo (wpAny_pure ?_))
      cases b with
      | true =>
        simp only [if_true] at hA2 ⊢
        refine wpAny_bind (wpAny_updateSeq hS2 rfl (wpAny_bind (wpAny_letGo ?_)))
        rw [nm]
        refine wpAny_pure ⟨plainId_quiet PySem.F.plain_min_loop _, ih (j + 1) _ _ _ _ (by omega) (hA2.turn (tk := s2.toks) fun b o hb e => ?_) ?_ (Heap.get?_update_self _ hS2 rfl)⟩
        · exact (Heap.get?_update_other _ _ (fun z : S = b => hb (by simp [z]))).trans e
        · exact hit2.at fun o e => (Heap.get?_update_other _ _ (Ne.symm hIS)).trans e
      | false =>
        simp only [Bool.false_eq_true, if_false] at hA2 ⊢
        refine wpAny_bind (wpAny_letGo ?_)
        rw [nm]
        exact wpAny_pure ⟨plainId_quiet PySem.F.plain_min_loop _, ih (j + 1) _ _ _ _ (by omega) hA2 hit2 hS2⟩
/-- the first item's key -/
theorem mk_first {gd : Bool} {ps : List Str} (D : FnL gd X.prog X.w X.K X.mg X.base n nk ps (spO F ps.length f0)) (rm : Room n X.A.in1) (gs : gd = true → X.A.guards = some []) (hlen : ∀ ds C, f0 ds C ≠ .stuck → ds.length = ps.length)
    {κ : List Addr} {H : Hp} {C : List Cell} {vs : List V} {y : PyData} {ys : List PyData} {its : List Value} {v : Value} (I : Inv X pins σ H s) (fp : ∀ b ∈ ch, FpOk X pins H b) (hS : ∀ b ∈ ch, ∃ o, s.heap.get? b = some o)
    (hl : H l = some (.lst vs)) (hlk : l ∉ κ) (hf : H f = some (FunO f c1 nk)) (hfk : f ∉ κ) (hc : H c1 = some (LamX.CodeO c1 nk.qual)) (hck : c1 ∉ κ) (hv : Hv F κ U H C) (ra : RpAll F κ U H vs (y :: ys)) (rv : Vals vs its) (hvi : its[0]? = some v)
    (h : BR.Fin F W0 κ H σ ((f0 [y] C).bind fun kx C => if shp kx = true then minK f0 ys y kx C else .stuck) fun d _ κ' H' => ∀ v, Rp F κ' U H' v d → Q v H') {E : Value → Shared → Prop} :
    wpAny (model X.prog X.w) X.A.in1 (call (.ref f) [v]) (fun k' s' => (∀ b ∈ ch, ∀ o, s.heap.get? b = some o → s'.heap.get? b = some o) ∧ MkAt X F pins σ ch l f c1 nk f0 (y :: ys) Q U 0 v k' s') E s := by
  obtain ⟨vy, hwy, ry⟩ := ra.get (i := 0) rfl
  have rvy : RelV vy v := by
    obtain ⟨v', hv', rr⟩ := rv.get hwy
    rw [hvi] at hv'
    cases hv'
    exact rr
  have hb := h.bind.eq
  have sp : spO F ps.length f0 [vy] H (fun vk' H' => ∃ κ' C' k', Post F κ H κ' H' C' ∧ Rp F κ' U H' vk' k' ∧
      BR.Fin F W0 κ' H' σ (if shp k' = true then minK f0 ys y k' C' else .stuck) fun d _ κ' H' => ∀ v, Rp F κ' U H' v d → Q v H') EZ := by
    refine sp_of (σ := σ) hv (.cons ry .nil) hlen ?_
    cases hr : f0 [y] C with
    | ok k' C' =>
      rw [hr] at hb
      exact fun κ' H' p vk' rk' => ⟨κ', C', k', p, rk', (hb κ' H' p).2⟩
    | exc _ _ _ => rw [hr] at hb; exact hb
    | stuck => rw [hr] at hb; exact hb
  have e0 : Env0 X.prog X.w X.K X.mg X.base X.A.in1 X.stack s H := ⟨I.env0.frames, I.env0.mod, I.env0.bs, I.env0.bsz, I.env0.funs, I.env0.frf, I.env0.hok, I.env0.bare⟩
  refine wpAny_call (codeAny_mono (D.run X.A.in1 X.stack s H f c1 [v] [vy] _ EZ rm gs e0 hf hc (.cons rvy .nil) sp) fun r s' hq => ?_)
  cases r with
  | error e => exact (show False from hq).elim
  | ok fl =>
    cases fl with
    | next => exact (show False from hq).elim
    | brk => exact (show False from hq).elim
    | cont => exact (show False from hq).elim
    | ret k' =>
      have hq : CE X.stack X.prog X.w H s _ k' s' := hq
      obtain ⟨vk', H', os, ba, un, hok, rk, κ', C', kd, p, rk', h'⟩ := hq
      have nfr : ∀ b ∈ ch, b ∉ frs X.stack := fun b hb z => by
        obtain ⟨_, f1, f2, _⟩ := fp b hb
        rcases List.mem_cons.mp (I.stkSub b z) with z | z
        · exact f1 z
        · exact f2 z
      have I' : Inv X pins σ H' s' := I.call' (ch := []) os un hok ba (fun b z => absurd z (by simp))
      by_cases g2 : shp kd = true
      · rw [if_pos g2] at h'
        have fp' : ∀ b ∈ ch, FpOk X pins H' b := fun b hb => by
          obtain ⟨f0, f1, f2, f3⟩ := fp b hb
          obtain ⟨o, ho⟩ := hS b hb
          exact ⟨un.free b o ho f0 (by simp), f1, f2, f3⟩
        exact ⟨fun b hb o e => un.keep b o e (fp b hb).1 (nfr b hb) (by simp), κ', H', C', vs, y, kd, vy, vk', I', fp', p.fx.keep _ _ hl hlk (fun _ z => nomatch z), p.gr.notMem hlk hl, p.fx.keep _ _ hf hfk (fun _ z => nomatch z), p.gr.notMem hfk hf, p.fx.keep _ _ hc hck (fun _ z => nomatch z), p.gr.notMem hck hc, hv.post p, ra.post p, rvy, ry.post p, rk, rk', g2, h'⟩
      · rw [if_neg g2] at h'
        exact h'.elim
theorem cr_minkey {gd : Bool} {ps : List Str} (D : FnL gd X.prog X.w X.K X.mg X.base n nk ps (spO F ps.length f0)) (hK : F.K = X.K) (rm : Room n X.A.in1) (gs : gd = true → X.A.guards = some []) (hlen : ∀ ds C, f0 ds C ≠ .stuck → ds.length = ps.length)
    {κ : List Addr} {H : Hp} {C : List Cell} {vs : List V} {y : PyData} {ys : List PyData} (I : Inv X pins σ H s) (hl : H l = some (.lst vs)) (hlk : l ∉ κ) (hf : H f = some (FunO f c1 nk)) (hfk : f ∉ κ) (hc : H c1 = some (LamX.CodeO c1 nk.qual)) (hck : c1 ∉ κ) (hv : Hv F κ U H C) (ra : RpAll F κ U H vs (y :: ys))
    (h : BR.Fin F W0 κ H σ ((f0 [y] C).bind fun kx C => if shp kx = true then minK f0 ys y kx C else .stuck) fun d _ κ' H' => ∀ v, Rp F κ' U H' v d → Q v H') :
    wpAny (model X.prog X.w) X.A (call (.builtin "min") [.ref l] [(Str.ofString "key", .ref f)]) (EP X pins σ Q) X.xe s := by
  obtain ⟨its, rv, pl, _⟩ := I.list (SqL.of hl)
  have hil := pl.isList
  have hlen2 : its.length = (y :: ys).length := by rw [← rv.length, ra.length]
  obtain ⟨v0, hvi⟩ : ∃ v, its[0]? = some v := ⟨its[0]'(by rw [hlen2]; simp), List.getElem?_eq_getElem _⟩
  have hlt : l < s.heap.objs.size := by obtain ⟨_, e, _⟩ := hil; exact Heap.lt_size e
  refine PyProof.Rows.kmk_tree PySem.F.kind_min PySem.F.plain_min PySem.F.entry_min (PyProof.Rows.kmk_min_key _ _) ?_
  change wpAny _ X.A.in1 (Builtin.Builtins.bindParams "min" ["key", "default"] 0 ⟨[], [(Str.ofString "key", .ref f)]⟩ >>= _) _ _ s
  refine wpAny_bind (wpAny_of_eq (show Builtin.Builtins.bindParams "min" ["key", "default"] 0 ⟨[], [(Str.ofString "key", .ref f)]⟩ = pure [some (.ref f), none] from rfl) (wpAny_bind (wpAny_pure ?_)))
  refine wpAny_bind (wpAny_pyIter_list hil ?_)
  refine wpAny_bind (wpAny_newObj_type ?_)
  have nm : (toString "min" ++ toString ".loop" : String) = "min.loop" := by decide
  rw [nm]
  refine wpAny_pure ⟨plainId_quiet PySem.F.plain_min_loop _, ?_⟩
  generalize hI0 : s.heap.objs.size = I0
  have hli : l < I0 := hI0 ▸ hlt
  have hsz : (s.heap.push ({ cls := .type "list_iterator", data := .fields #[.ref l, .int 0 0] } : Obj)).objs.size = I0 + 1 := by rw [Heap.size_push, hI0]
  rw [hsz]
  have k1 : ∀ b o, s.heap.get? b = some o → ((s.heap.push ({ cls := .type "list_iterator", data := .fields #[.ref l, .int 0 0] } : Obj)).push ({ cls := .type "list", data := .seq #[] 0 } : Obj)).get? b = some o := fun b o e => Heap.get?_push_of_some _ (Heap.get?_push_of_some _ e)
  have I1 := I.kept (t' := s.toks) k1
  have fp : ∀ b ∈ [I0 + 1, I0], FpOk X pins H b := fun b hb => by
    have hb2 : s.heap.objs.size ≤ b := by simp only [List.mem_cons, List.mem_singleton, List.not_mem_nil, or_false] at hb; omega
    exact I.fpOk hb2 (I.hok.fresh hb2)
  have hit : ((s.heap.push ({ cls := .type "list_iterator", data := .fields #[.ref l, .int 0 0] } : Obj)).push ({ cls := .type "list", data := .seq #[] 0 } : Obj)).IsListIter I0 l 0 := ⟨_, Heap.get?_push_of_some _ (by rw [← hI0]; exact Heap.get?_push_size _ rfl), rfl, rfl⟩
  have hS : ((s.heap.push ({ cls := .type "list_iterator", data := .fields #[.ref l, .int 0 0] } : Obj)).push ({ cls := .type "list", data := .seq #[] 0 } : Obj)).get? (I0 + 1) = some ({ cls := .type "list", data := .seq #[] 0 } : Obj) := by rw [← hsz]; exact Heap.get?_push_size _ rfl
  have hl1 : ((s.heap.push ({ cls := .type "list_iterator", data := .fields #[.ref l, .int 0 0] } : Obj)).push ({ cls := .type "list", data := .seq #[] 0 } : Obj)).IsList l its.toArray := (hil.push _).push _
  refine codeAny_builtin PySem.F.entry_min_loop ?_
  rw [Around.under_plainId PySem.F.plain_min_loop _]
  change wpAny _ X.A.in1 (seqItems? (.ref (I0 + 1)) >>= _) _ _ _
  refine wpAny_bind (wpAny_seqItems hS rfl ?_)
  change wpAny _ X.A.in1 (tryCatch (pyNext (.ref I0)) _ >>= _) _ _ _
  refine wpAny_bind (wpAny_tryCatch (wpAny_pyNext_list_item (x := v0) hit hl1 (by simpa using hvi) fun h1 hit1 sb => ?_))
  have ex := sb.extBut
  have hS1 := ex (I0 + 1) _ (Nat.succ_ne_self I0) hS
  have I2 : Inv X pins σ H { s with heap := h1 } := I1.turnedL (t' := s.toks) (fun b o hb e => ex b o (fun z => hb (by simp [z])) e) fp
  change wpAny _ X.A.in1 (tryCatch (holding [v0] (call (.ref f) [v0])) _ >>= _) _ _ _
  refine wpAny_bind (wpAny_tryCatch (wpAny_holding (wpAny_mono (mk_first (ch := [I0 + 1, I0]) D rm gs hlen I2 fp (fun b hb => ?_) hl hlk hf hfk hc hck hv ra rv hvi h) (fun k' s2 ⟨kp, hA⟩ => ?_) fun _ _ e => e)))
  · simp only [List.mem_cons, List.mem_singleton, List.not_mem_nil, or_false] at hb
    rcases hb with rfl | rfl
    · exact ⟨_, hS1⟩
    · obtain ⟨o, ho, _⟩ := hit1
      exact ⟨o, ho⟩
  · have hS2 := kp (I0 + 1) (by simp) _ hS1
    have hit2 : s2.heap.IsListIter I0 l (0 + 1) := hit1.at fun o e => kp I0 (by simp) o e
    change wpAny _ X.A.in1 (updateSeq (I0 + 1) (fun _ => #[v0, k']) >>= _) _ _ _
    refine wpAny_bind (wpAny_updateSeq hS2 rfl ?_)
    rw [nm]
    refine wpAny_pure ⟨plainId_quiet PySem.F.plain_min_loop _, mk_go (Q := Q) D hK rm gs hlen (Nat.succ_ne_self I0).symm (Nat.ne_of_lt hli) (Nat.ne_of_lt (Nat.lt_succ_of_lt hli)) (fun u s' e => e) _ 0 _ _ _ _ rfl (hA.turn (tk := s2.toks) fun b o hb e => ?_) ?_ (Heap.get?_update_self _ hS2 rfl)⟩
    · exact (Heap.get?_update_other _ _ (fun z : I0 + 1 = b => hb (by simp [z]))).trans e
    · exact hit2.at fun o e => (Heap.get?_update_other _ _ (Nat.succ_ne_self I0)).trans e
theorem Fin.anyS {α : Type} {W W' : WX} {κ : List Addr} {H : Hp} {σ σ' : L2.St} {r : Res α} {P : α → List Cell → List Addr → Hp → Prop} (h : BR.Fin F W κ H σ r P) : BR.Fin F W' κ H σ' r P := by
  cases r with
  | ok a C => exact h
  | exc _ _ _ => exact (show False from h).elim
  | stuck => exact h
/-- min(xs, key=f) -/
theorem r_minkey {sc : Scope} {x z : Expr} {nm kn : Str} {p p1 kp : Pos} {fa fb : VEnv → List Cell → Res PyData} (L : Lx P w F c base n X sc) (M : Mx P w F c base n Φ G) (hn : (nm == ("min" : Str)) = true) (hk : (kn == ("key" : Str)) = true) (hg : glb sc nm = true) (hb : X.mg nm = none) (hp : pl x = true)
    (ha : PE X x (rdE F W0 fa)) (hz : PE X z (rdE F W0 fb)) :
    PE X (.Call (.Name nm p1) [x] [⟨some kn, z, kp⟩] p) (rdE F W0 fun δ C => (fa δ C).bind fun d C => (fb δ C).bind fun h C => minkeyR Φ d h C) := by
  have e1 := eq_of_beq hn
  have e2 := eq_of_beq hk
  subst e1
  subst e2
  obtain ⟨hgl, hdb⟩ := glb_of L.sc hg
  have cr : CallRK X (.builtin "min") [Str.ofString "key"] (fun vs zs H Q => ∃ κ U C d h, Hv F κ U H C ∧ RpAll F κ U H vs [d] ∧ RpAll F κ U H zs [h] ∧ BR.Fin F W0 κ H [] (minkeyR Φ d h C) fun d _ κ' H' => ∀ v, Rp F κ' U H' v d → Q v H') := by
    intro pins s σ H vs zs us ws Q I r rz ⟨κ, U, C, d, h, hv, rv, rh, hF⟩
    obtain ⟨v, rfl, rx⟩ := one_arg rv
    obtain ⟨u, rfl, rw0⟩ := one_arg rh
    unfold minkeyR at hF
    split at hF
    · rename_i y ys s0 k0
      cases rx with
      | @lst l ws0 _ h1 h2 h3 h4 =>
        cases rw0 with
        | @nfn f c1 k' nk g0 g1 g2 g3 g4 =>
          rw [if_pos (Int.natCast_nonneg k'), Int.toNat_natCast] at hF
          obtain ⟨ps, D, hlen⟩ := M.nst k' nk g0
          obtain ⟨rfl, rfl, rfl, eK, eM, eN, nd, _, cm, rm, ri, gs, _⟩ := L
          rw [eK, eM] at D
          cases r with
          | cons r0 r1 =>
            cases r1
            cases r0
            cases rz with
            | cons z0 z1 =>
              cases z1
              cases z0
              exact cr_minkey D eK (room_out ri) gs hlen I h1 h3 g1 g3 g2 g4 hv h4 hF.anyS
    · exact hF.elim
  have hbt : bootBuiltins (Str.ofString "min") = some (.builtin "min") := by decide +kernel
  have hs : starEach [x] X.env = (false, eval x X.env) :: starEach [] X.env := pl_star hp
  have hw : kwN [(⟨some (Str.ofString "key"), z, kp⟩ : Keyword)] [Str.ofString "key"] = true := by
    show ((Str.ofString "key" == Str.ofString "key") && true) = true
    rw [hk]
    rfl
  obtain ⟨f1, f2, f3⟩ := kw_facts (env := X.env) (pos := p) hw
  refine wkE (pe_callBK (ks := [Str.ofString "key"]) cr hgl hb hbt (pa_cons ha pa_nil hs) (pk_cons hz pk_nil) (by decide) hdb (by rw [hs]; rfl) (by rw [hs]; rfl) f1 f3 f2) fun σ H Q ⟨κ, U, δ, C, cx, h⟩ => ?_
  exact ⟨κ, U, δ, C, cx, h.bind.mono fun d C1 κ1 H1 p1 h1 v rv => ⟨κ1, U, δ, C1, cx.post p1, h1.bind.mono fun g C2 κ2 H2 p2 h2 v2 rv2 => ⟨κ2, U, C2, d, g, ((cx.post p1).post p2).hv, .cons (rv.post p2) .nil, .cons rv2 .nil, h2.anyS⟩⟩⟩
end
end BR
set_option Elab.async false
set_option linter.all false
set_option maxRecDepth 100000
set_option maxHeartbeats 4000000
/-! sorted by a key: the key is a function made within the def -/
namespace BR
open PySem PySem.Spec PyProof.Rows L2
section
variable {X : Cx} {F : Fix} {P : Program} {w : World} {c : Cfg} {base : Heap} {n k : Nat} {Φ : Oracle} {G : Str → Option PyData}
theorem fin_shift {α : Type} {W : WX} {κ κ' : List Addr} {H H' : Hp} {σ : L2.St} {C1 : List Cell} {r : Res α} {P : α → List Cell → List Addr → Hp → Prop} (p : Post F κ H κ' H' C1) (h : BR.Fin F W κ H σ r P) : BR.Fin F W κ' H' σ r P := by
  cases r with
  | ok a C2 => exact fun κ2 H2 p2 => h κ2 H2 (p.trans p2)
  | exc _ _ _ => exact h
  | stuck => exact h
/-- where the asking for keys stands: i keys are known -/
def SkAt (X : Cx) (F : Fix) (pins : List (Addr × Obj)) (σ : L2.St) (ch : List Addr) (f c1 : Addr) (nk : NK) (f0 : List PyData → List Cell → Res PyData) (its : List Value) (ds : List PyData) (Q : VK) (U : Addr → Prop) (i : Nat) (kvs : List Value) (s : Shared) : Prop :=
  ∃ (κ : List Addr) (H : Hp) (C : List Cell) (ws vks : List V) (kds : List PyData), Inv X pins σ H s ∧ (∀ b ∈ ch, FpOk X pins H b) ∧ H f = some (FunO f c1 nk) ∧ f ∉ κ ∧ H c1 = some (LamX.CodeO c1 nk.qual) ∧ c1 ∉ κ ∧
    Hv F κ U H C ∧ RpAll F κ U H ws ds ∧ Vals ws its ∧ RpAll F κ U H vks kds ∧ Vals vks kvs ∧ kds.length = i ∧
    BR.Fin F W0 κ H σ ((keysA f0 (ds.drop i) kds C).bind fun ks C => skEnd ds ks C) fun d _ κ' H' => ∀ v, Rp F κ' U H' v d → Q v H'
variable {pins : List (Addr × Obj)} {σ : L2.St} {ch : List Addr} {f c1 a kS : Addr} {nk : NK} {f0 : List PyData → List Cell → Res PyData} {its : List Value} {ds : List PyData} {Q : VK} {U : Addr → Prop} {i : Nat} {kvs : List Value} {s : Shared}
theorem SkAt.turn {h' : Heap} {tk : Nat} (m : SkAt X F pins σ ch f c1 nk f0 its ds Q U i kvs s) (k : ∀ b o, b ∉ ch → s.heap.get? b = some o → h'.get? b = some o) : SkAt X F pins σ ch f c1 nk f0 its ds Q U i kvs { s with heap := h', toks := tk } := by
  obtain ⟨κ, H, C, ws, vks, kds, I, fp, r⟩ := m
  exact ⟨κ, H, C, ws, vks, kds, I.turnedL k fp, fp, r⟩
theorem SkAt.step {gd : Bool} {ps : List Str} (D : FnL gd X.prog X.w X.K X.mg X.base n nk ps (spO F ps.length f0)) (rm : Room n X.A.in1.in1) (gs : gd = true → X.A.guards = some []) (hlen : ∀ ds C, f0 ds C ≠ .stuck → ds.length = ps.length)
    (hS : ∀ b ∈ ch, ∃ o, s.heap.get? b = some o) {v : Value} (hvi : its[i]? = some v)
    (m : SkAt X F pins σ ch f c1 nk f0 its ds Q U i kvs s) {E : Value → Shared → Prop} :
    wpAny (model X.prog X.w) X.A.in1.in1 (call (.ref f) [v]) (fun k' s' => (∀ b ∈ ch, ∀ o, s.heap.get? b = some o → s'.heap.get? b = some o) ∧ SkAt X F pins σ ch f c1 nk f0 its ds Q U (i + 1) (kvs ++ [k']) s') E s := by
  obtain ⟨κ, H, C, ws, vks, kds, I, fp, hf, hfk, hc, hck, hv, ra, rv, rk0, rkv, hkl, h⟩ := m
  have hil : i < its.length := by
    rcases Nat.lt_or_ge i its.length with z | z
    · exact z
    · rw [List.getElem?_eq_none z] at hvi; cases hvi
  have hld : its.length = ds.length := by rw [← rv.length, ra.length]
  have hi : i < ds.length := by omega
  have hdi : ds[i]? = some ds[i] := List.getElem?_eq_getElem hi
  have hdr : ds.drop i = ds[i] :: ds.drop (i + 1) := by rw [List.drop_eq_getElem_cons hi]
  obtain ⟨vy, hwy, ry⟩ := ra.get hdi
  have rvy : RelV vy v := by
    obtain ⟨v', hv', rr⟩ := rv.get hwy
    rw [hvi] at hv'
    cases hv'
    exact rr
  rw [hdr] at h
  have h : BR.Fin F W0 κ H σ (((f0 [ds[i]] C).bind fun k C => keysA f0 (ds.drop (i + 1)) (kds ++ [k]) C).bind fun ks C => skEnd ds ks C) fun d _ κ' H' => ∀ v, Rp F κ' U H' v d → Q v H' := h
  have sp : spO F ps.length f0 [vy] H (fun vk' H' => ∃ κ' C' k', Post F κ H κ' H' C' ∧ Rp F κ' U H' vk' k' ∧
      BR.Fin F W0 κ' H' σ ((keysA f0 (ds.drop (i + 1)) (kds ++ [k']) C').bind fun ks C => skEnd ds ks C) fun d _ κ' H' => ∀ v, Rp F κ' U H' v d → Q v H') EZ := by
    refine sp_of (σ := σ) hv (.cons ry .nil) hlen ?_
    cases hr : f0 [ds[i]] C with
    | ok k' C' =>
      rw [hr] at h
      intro κ' H' p vk' rk'
      refine ⟨κ', C', k', p, rk', ?_⟩
      have h2 : BR.Fin F W0 κ H σ ((keysA f0 (ds.drop (i + 1)) (kds ++ [k']) C').bind fun ks C => skEnd ds ks C) fun d _ κ' H' => ∀ v, Rp F κ' U H' v d → Q v H' := h
      exact fin_shift p h2
    | exc _ _ _ => rw [hr] at h; exact h
    | stuck => rw [hr] at h; exact h
  have e0 : Env0 X.prog X.w X.K X.mg X.base X.A.in1.in1 X.stack s H := ⟨I.env0.frames, I.env0.mod, I.env0.bs, I.env0.bsz, I.env0.funs, I.env0.frf, I.env0.hok, I.env0.bare⟩
  refine wpAny_call (codeAny_mono (D.run X.A.in1.in1 X.stack s H f c1 [v] [vy] _ EZ rm gs e0 hf hc (.cons rvy .nil) sp) fun r s' hq => ?_)
  cases r with
  | error e => exact (show False from hq).elim
  | ok fl =>
    cases fl with
    | next => exact (show False from hq).elim
    | brk => exact (show False from hq).elim
    | cont => exact (show False from hq).elim
    | ret k' =>
      have hq : CE X.stack X.prog X.w H s _ k' s' := hq
      obtain ⟨vk', H', os, ba, un, hok, rk, κ', C', kd, p, rk', h'⟩ := hq
      have nfr : ∀ b ∈ ch, b ∉ frs X.stack := fun b hb z => by
        obtain ⟨_, f1, f2, _⟩ := fp b hb
        rcases List.mem_cons.mp (I.stkSub b z) with z | z
        · exact f1 z
        · exact f2 z
      have I' : Inv X pins σ H' s' := I.call' (ch := []) os un hok ba (fun b z => absurd z (by simp))
      have fp' : ∀ b ∈ ch, FpOk X pins H' b := fun b hb => by
        obtain ⟨f0, f1, f2, f3⟩ := fp b hb
        obtain ⟨o, ho⟩ := hS b hb
        exact ⟨un.free b o ho f0 (by simp), f1, f2, f3⟩
      exact ⟨fun b hb o e => un.keep b o e (fp b hb).1 (nfr b hb) (by simp), κ', H', C', ws, vks ++ [vk'], kds ++ [kd], I', fp', p.fx.keep _ _ hf hfk (fun _ z => nomatch z), p.gr.notMem hfk hf, p.fx.keep _ _ hc hck (fun _ z => nomatch z), p.gr.notMem hck hc,
        hv.post p, ra.post p, rv, (rk0.post p).append (.cons rk' .nil), rkv.append (.cons rk .nil), by rw [List.length_append, hkl]; rfl, h'⟩
theorem each_reads {h : Heap} : ∀ {us : List Value} {ds : List PyData} {as : List Addr}, ReadsAll h us ds as → PySem.W.EachIs (fun v d => ∃ bs, Reads h v d bs) us ds
  | _, _, _, .nil => .nil
  | _, _, _, .cons h1 h2 => .cons ⟨_, h1⟩ (each_reads h2)
theorem each_rp {κ : List Addr} {H : Hp} : ∀ {us : List Value} {ps : List (PyData × PyData)}, PySem.W.EachIs (fun v (p : PyData × PyData) => ∃ w, RelV w v ∧ Rp F κ U H w p.1) us ps → ∃ vs, Vals vs us ∧ RpAll F κ U H vs (ps.map (·.1))
  | _, _, .nil => ⟨[], .nil, .nil⟩
  | _, _, .cons ⟨w, r1, r2⟩ h2 => by
    obtain ⟨vs, q1, q2⟩ := each_rp h2
    exact ⟨w :: vs, .cons r1 q1, .cons r2 q2⟩
theorem rp_each {κ : List Addr} {H : Hp} : ∀ {ws : List V} {us : List Value} {ds ks : List PyData}, ds.length = ks.length → Vals ws us → RpAll F κ U H ws ds → PySem.W.EachIs (fun v (p : PyData × PyData) => ∃ w, RelV w v ∧ Rp F κ U H w p.1) us (ds.zip ks)
  | _, _, _, [], hl, .nil, .nil => .nil
  | _, _, _, _ :: _, hl, .nil, .nil => by simp at hl
  | _, _, _, [], hl, .cons _ _, .cons _ _ => by simp at hl
  | _, _, _, k :: ks, hl, .cons r1 r2, .cons h1 h2 => .cons ⟨_, r1, h1⟩ (rp_each (by simpa using hl) r2 h2)
theorem zip_snd : ∀ {ds ks : List PyData}, ds.length = ks.length → (ds.zip ks).map (·.2) = ks
  | [], [], _ => rfl
  | [], _ :: _, h => by simp at h
  | _ :: _, [], h => by simp at h
  | d :: ds, k :: ks, h => by
    rw [List.zip_cons_cons, List.map_cons, zip_snd (by simpa using h)]
theorem skOk_of {ds ks : List PyData} (h : skOk ds ks = true) : ds.length = ks.length ∧ ds.length ≤ big ∧ (∀ d ∈ ks, shp d = true) ∧ W.AllAlike ks ∧ W.Sortable ks := by
  unfold skOk at h
  simp only [Bool.and_eq_true, decide_eq_true_eq, List.all_eq_true, Bool.or_eq_true] at h
  obtain ⟨⟨⟨⟨h1, h2⟩, h3⟩, h4⟩, h5⟩ := h
  refine ⟨h1, h2, h3, fun d hd e he => h4 d hd e he, ?_⟩
  rcases h5 with h5 | h5
  · left
    intro d hd
    have := h5 d hd
    unfold tupN at this
    split at this
    · exact ⟨_, _, rfl⟩
    · cases this
  · right
    intro d hd
    have := h5 d hd
    unfold plainK at this
    split at this
    · cases this
    · cases this
    · rename_i h1 h2
      exact ⟨h2, h1⟩
/-- all keys are asked for, then the items are laid in order -/
theorem sk_rest {gd : Bool} {ps : List Str} {e1 : Nat} {E : Value → Shared → Prop} (D : FnL gd X.prog X.w X.K X.mg X.base n nk ps (spO F ps.length f0)) (hK : F.K = X.K) (rm : Room n X.A.in1.in1) (gs : gd = true → X.A.guards = some []) (hlen : ∀ ds C, f0 ds C ≠ .stuck → ds.length = ps.length)
    (hka : kS ≠ a) (hZ : its.length ≤ sizeLine) (hA0 : SkAt X F pins σ [a, kS] f c1 nk f0 its ds Q U 0 [] s) (hkS : s.heap.get? kS = some (seqObj "list" #[] 0)) (ha : s.heap.get? a = some (seqObj "list" #[] e1)) :
    wpAny (model X.prog X.w) X.A.in1.in1 (ksk_rest a (.ref f) false its.toArray e1 (.ref kS)) (fun r s' => r = .done (.ret .none) ∧ EP X pins σ Q (.ref a) s') E s := by
  unfold ksk_rest
  refine wpAny_bind (wpAny_rule ?_)
  rw [List.forIn_toArray]
  refine wpAny_bind (ksk_fold (fun i s' => ∃ (kA : Array Value) (e : Nat), SkAt X F pins σ [a, kS] f c1 nk f0 its ds Q U i kA.toList s' ∧ s'.heap.get? kS = some (seqObj "list" kA e) ∧ s'.heap.get? a = some (seqObj "list" #[] e1)) its 0 s ⟨#[], 0, hA0, hkS, ha⟩ ?step ?done)
  case step =>
    rintro j x s' hx ⟨kA, e, hA, nk1, na1⟩
    simp only [Nat.zero_add] at hA ⊢
    have hz : kA.size ≤ its.length := by
      obtain ⟨κ, H, C, ws, vks, kds, _, _, _, _, _, _, _, ra, rv, rk0, rkv, hkl, _⟩ := hA
      have h1 : kA.size = vks.length := by rw [rkv.length]; exact Array.length_toList.symm
      have h2 := rk0.length
      have h3 := rv.length
      have h4 := ra.length
      have : j < its.length := (List.getElem?_eq_some_iff.mp hx).1
      omega
    refine wpAny_bind (wpAny_attempt (wpAny_mono (hA.step D rm gs hlen (fun b hb => ?_) hx (E := fun _ _ => False)) (fun v s2 ⟨kp, hA2⟩ => ?_) fun _ _ hF => hF.elim))
    · simp only [List.mem_cons, List.mem_singleton, List.not_mem_nil, or_false] at hb
      rcases hb with rfl | rfl
      · exact ⟨_, na1⟩
      · exact ⟨_, nk1⟩
    try dsimp only
    have nk2 := kp kS (by simp) _ nk1
    have na2 := kp a (by simp) _ na1
    have s1 := Heap.SameBut.update s2.heap kS (Obj.mapSeq (·.push v))
    obtain ⟨c2, hc2⟩ : ∃ c2, (s2.heap.update kS (Obj.mapSeq (·.push v))).get? kS = some (seqObj "list" (kA.push v) c2) := ⟨_, get?_update_seq nk2 (·.push v)⟩
    have ea : (kA.push v).toList = kA.toList ++ [v] := by simp
    refine wpAny_bind (listUpdate_at nk2 rfl ?_ (Nat.le_trans hz hZ) (Nat.le_trans (Nat.le_of_eq (Array.size_push ..)) (Nat.succ_le_succ (Nat.le_trans hz hZ))))
    refine wpAny_pure ⟨rfl, kA.push v, c2, ?_, hc2, (s1.2 a hka.symm).trans na2⟩
    rw [ea]
    exact hA2.turn (tk := s2.toks) fun b o hb e => (s1.2 b (fun z => hb (by simp [z]))).trans e
  case done =>
    rintro s' ⟨kA, e, hA, nk1, na1⟩
    rw [Nat.zero_add] at hA
    obtain ⟨κ, H, C, ws, vks, kds, I, fp, hf, hfk, hc, hck, hv, ra, rv, rk0, rkv, hkl, h⟩ := hA
    have hld : its.length = ds.length := by rw [← rv.length, ra.length]
    rw [hld, List.drop_length] at h
    have h : BR.Fin F W0 κ H σ (if skOk ds kds = true then .ok (.list (skOut ds kds)) C else .stuck) fun d _ κ' H' => ∀ v, Rp F κ' U H' v d → Q v H' := h
    by_cases hok : skOk ds kds = true
    · rw [if_pos hok] at h
      obtain ⟨g1, g2, g3, g4, g5⟩ := skOk_of hok
      obtain ⟨G, k1, k2⟩ := restrict s'.heap fun b => decide (b ≠ kS)
      have gk : ∀ b, b ≠ kS → G.get? b = s'.heap.get? b := fun b hb => k1 b (decide_eq_true hb)
      have ge : G.get? kS = none := k2 kS (by simp)
      have kp : W.KeepsBut a G s'.heap := fun b o _ e => by
        by_cases hb : b = kS
        · rw [hb, ge] at e; cases e
        · rw [← gk b hb]; exact e
      obtain ⟨as, rds⟩ := rk0.readsS hK I (List.all_eq_true.mpr g3) rkv
      have hk' := each_reads rds
      have hsz : kA.size = its.length := by
        have h1 : kA.size = vks.length := by rw [rkv.length]; exact Array.length_toList.symm
        have h2 := rk0.length
        omega
      have hu : ∀ d, d ∈ kds → X.A.in1.in1.units + d.depth < cLine := fun d hd => by
        have d1 := shp_depth (g3 d hd)
        have := rm.un
        omega
      try dsimp only
      refine wpAny_bind (listItems_at nk1 rfl ?_)
      refine W.keyH_end (κ := W.dataKind s'.heap kds) (h₁ := G) kp ge nk1 na1 hka (W.SortsAt.data hk' g4 g5 hu) hsz hZ fun h3 tk3 c3 k3 n3 => ⟨rfl, ?_⟩
      have ko : W.KeyedOut false ((ds.zip kds).map (·.2)) its (W.sortVals (W.dataKind s'.heap kds) false kA.toList its) := by
        rw [zip_snd g1]
        exact ⟨s'.heap, kA.toList, g4, rfl, hk'⟩
      have eo := W.keyedOut_each (·.2) ko (rp_each g1 rv ra)
      obtain ⟨outV, q1, q2⟩ := each_rp eo
      have I3 : Inv X pins σ H { s' with heap := h3, toks := tk3 } := I.turnedL (fun b o hb e => by
        have b1 : b ≠ a := fun z => hb (by simp [z])
        have b2 : b ≠ kS := fun z => hb (by simp [z])
        exact k3 b o b1 (by rw [gk b b2]; exact e)) fp
      have hna : H a = none := (fp a (by simp)).1
      have hol : outV.length ≤ sizeLine := by
        rw [q2.length, List.length_map, List.length_mergeSort, List.length_zip, sizeLine_eq]
        unfold big at g2
        omega
      have I4 : Inv X pins σ (upd H a (.lst outV)) { s' with heap := h3, toks := tk3 } := I3.take (fun _ _ _ e => e) (fp a (by simp)) ⟨hol, _, c3, q1, n3⟩
      have pp := hv.newL hna q2
      exact ⟨.ref a, _, I4, rfl, h κ _ pp.1 (.ref a) pp.2⟩
    · rw [if_neg hok] at h
      exact h.elim
theorem cr_sortkey {gd : Bool} {ps : List Str} {l : Addr} (D : FnL gd X.prog X.w X.K X.mg X.base n nk ps (spO F ps.length f0)) (hK : F.K = X.K) (rm : Room n X.A.in1.in1) (gs : gd = true → X.A.guards = some []) (hlen : ∀ ds C, f0 ds C ≠ .stuck → ds.length = ps.length)
    {κ : List Addr} {H : Hp} {C : List Cell} {vs : List V} (I : Inv X pins σ H s) (hl : H l = some (.lst vs)) (hf : H f = some (FunO f c1 nk)) (hfk : f ∉ κ) (hc : H c1 = some (LamX.CodeO c1 nk.qual)) (hck : c1 ∉ κ) (hv : Hv F κ U H C) (ra : RpAll F κ U H vs ds)
    (h : BR.Fin F W0 κ H σ ((keysA f0 ds [] C).bind fun ks C => skEnd ds ks C) fun d _ κ' H' => ∀ v, Rp F κ' U H' v d → Q v H') :
    wpAny (model X.prog X.w) X.A (call (.builtin "sorted") [.ref l] [(Str.ofString "key", .ref f)]) (EP X pins σ Q) X.xe s := by
  obtain ⟨its, rv, pl, hz⟩ := I.list (SqL.of hl)
  have hil := pl.isList
  have hL : its.length ≤ sizeLine := by rw [← rv.length]; exact hz
  refine W.sorted_of_sort hil hL (ksk_s1 _ _) (fun _ => ksk_l1 _ _) fun E' => ?_
  rw [ksk_t1]
  have ho := W.copyHeap_at s.heap its
  have ha : s.heap.objs.size + 1 < (W.copyHeap s.heap its).objs.size := Heap.lt_size ho
  obtain ⟨e1, ho1⟩ : ∃ e1, ((W.copyHeap s.heap its).update (s.heap.objs.size + 1) (Obj.mapSeq fun _ => (#[] : Array Value))).get? (s.heap.objs.size + 1) = some (seqObj "list" #[] e1) := ⟨_, get?_update_seq ho fun _ => #[]⟩
  have hkS : (((W.copyHeap s.heap its).update (s.heap.objs.size + 1) (Obj.mapSeq fun _ => (#[] : Array Value))).push (seqObj "tuple" its.toArray 0)).objs.size = (W.copyHeap s.heap its).objs.size + 1 := by rw [size_push', Heap.size_update]
  unfold ksk_tree
  refine wpAny_bind (listItems_at ho rfl ?_)
  refine wpAny_bind (listUpdate_at ho rfl ?_ (by rw [List.size_toArray]; exact hL) (Nat.zero_le _))
  refine wpAny_bind (seqEpoch_at ho1 rfl ?_)
  refine wpAny_bind (wpAny_newTuple ?_ (by show its.length ≤ _; exact hL))
  refine wpAny_bind (wpAny_newList ?_ (Nat.zero_le _))
  refine wpAny_holding ?_
  have hka : (((W.copyHeap s.heap its).update (s.heap.objs.size + 1) (Obj.mapSeq fun _ => (#[] : Array Value))).push (seqObj "tuple" its.toArray 0)).objs.size ≠ s.heap.objs.size + 1 := by rw [hkS]; exact Nat.ne_of_gt (Nat.lt_succ_of_lt ha)
  have fp : ∀ b ∈ [s.heap.objs.size + 1, (((W.copyHeap s.heap its).update (s.heap.objs.size + 1) (Obj.mapSeq fun _ => (#[] : Array Value))).push (seqObj "tuple" its.toArray 0)).objs.size], FpOk X pins H b := fun b hb => by
    have hb2 : s.heap.objs.size ≤ b := by
      simp only [List.mem_cons, List.mem_singleton, List.not_mem_nil, or_false] at hb
      rcases hb with rfl | rfl
      · exact Nat.le_succ _
      · rw [hkS]; omega
    exact I.fpOk hb2 (I.hok.fresh hb2)
  exact sk_rest (U := U) D hK rm gs hlen hka hL ⟨κ, H, C, vs, [], [], I.kept fun b o e => W.sorting_copy_old e, fp, hf, hfk, hc, hck, hv, ra, rv, .nil, .nil, rfl, h⟩ (Heap.get?_push_size _ rfl) (Heap.get?_push_of_some _ (Heap.get?_push_of_some _ ho1))
/-- sorted(xs, key=f) -/
theorem r_sortkey {sc : Scope} {x z : Expr} {nm kn : Str} {p p1 kp : Pos} {fa fb : VEnv → List Cell → Res PyData} (L : Lx P w F c base n X sc) (M : Mx P w F c base n Φ G) (hn : (nm == ("sorted" : Str)) = true) (hk : (kn == ("key" : Str)) = true) (hg : glb sc nm = true) (hb : X.mg nm = none) (hp : pl x = true)
    (ha : PE X x (rdE F W0 fa)) (hz : PE X z (rdE F W0 fb)) :
    PE X (.Call (.Name nm p1) [x] [⟨some kn, z, kp⟩] p) (rdE F W0 fun δ C => (fa δ C).bind fun d C => (fb δ C).bind fun h C => sortkeyR Φ d h C) := by
  have e1 := eq_of_beq hn
  have e2 := eq_of_beq hk
  subst e1
  subst e2
  obtain ⟨hgl, hdb⟩ := glb_of L.sc hg
  have cr : CallRK X (.builtin "sorted") [Str.ofString "key"] (fun vs zs H Q => ∃ κ U C d h, Hv F κ U H C ∧ RpAll F κ U H vs [d] ∧ RpAll F κ U H zs [h] ∧ BR.Fin F W0 κ H [] (sortkeyR Φ d h C) fun d _ κ' H' => ∀ v, Rp F κ' U H' v d → Q v H') := by
    intro pins s σ H vs zs us ws Q I r rz ⟨κ, U, C, d, h, hv, rv, rh, hF⟩
    obtain ⟨v, rfl, rx⟩ := one_arg rv
    obtain ⟨u, rfl, rw0⟩ := one_arg rh
    unfold sortkeyR at hF
    split at hF
    · rename_i xs s0 k0
      cases rx with
      | @lst l ws0 _ h1 h2 h3 h4 =>
        cases rw0 with
        | @nfn f c1 k' nk g0 g1 g2 g3 g4 =>
          rw [if_pos (Int.natCast_nonneg k'), Int.toNat_natCast] at hF
          obtain ⟨ps, D, hlen⟩ := M.nst k' nk g0
          obtain ⟨rfl, rfl, rfl, eK, eM, eN, nd, _, cm, rm, ri, gs, _⟩ := L
          rw [eK, eM] at D
          cases r with
          | cons r0 r1 =>
            cases r1
            cases r0
            cases rz with
            | cons z0 z1 =>
              cases z1
              cases z0
              exact cr_sortkey D eK ri gs hlen I h1 g1 g3 g2 g4 hv h4 hF.anyS
    · exact hF.elim
  have hbt : bootBuiltins (Str.ofString "sorted") = some (.builtin "sorted") := by decide +kernel
  have hs : starEach [x] X.env = (false, eval x X.env) :: starEach [] X.env := pl_star hp
  have hw : kwN [(⟨some (Str.ofString "key"), z, kp⟩ : Keyword)] [Str.ofString "key"] = true := by
    show ((Str.ofString "key" == Str.ofString "key") && true) = true
    rw [hk]
    rfl
  obtain ⟨f1, f2, f3⟩ := kw_facts (env := X.env) (pos := p) hw
  refine wkE (pe_callBK (ks := [Str.ofString "key"]) cr hgl hb hbt (pa_cons ha pa_nil hs) (pk_cons hz pk_nil) (by decide) hdb (by rw [hs]; rfl) (by rw [hs]; rfl) f1 f3 f2) fun σ H Q ⟨κ, U, δ, C, cx, h⟩ => ?_
  exact ⟨κ, U, δ, C, cx, h.bind.mono fun d C1 κ1 H1 p1 h1 v rv => ⟨κ1, U, δ, C1, cx.post p1, h1.bind.mono fun g C2 κ2 H2 p2 h2 v2 rv2 => ⟨κ2, U, C2, d, g, ((cx.post p1).post p2).hv, .cons (rv.post p2) .nil, .cons rv2 .nil, h2.anyS⟩⟩⟩
end
end BR
set_option Elab.async false
set_option linter.all false
set_option maxRecDepth 100000
set_option maxHeartbeats 4000000
/-! targets, iteration, comprehensions -/
namespace BR
open PySem PySem.Spec PyProof.Rows L2
theorem bind_assoc {α β γ : Type} (r : Res α) (f : α → List Cell → Res β) (g : β → List Cell → Res γ) : (r.bind f).bind g = r.bind fun a C => (f a C).bind g := by
  cases r <;> rfl
section
variable {F : Fix} {κ κ1 κ' : List Addr} {U U2 : Addr → Prop} {H H1 H' : Hp}
mutual
/-- what is known goes on where lists at U may change; others that are not there yet may change too -/
theorem Rp.go (hal : ∀ a, U a → ∃ xs, H a = some (.lst xs)) (hf : Fv κ U H H') (hg : Grow κ H κ') (h2 : ∀ a, U2 a → U a ∨ H a = none) : ∀ {d : PyData} {v : V}, Rp F κ U H v d → Rp F κ' U2 H' v d
  | _, _, .non => .non
  | _, _, .bl b => .bl b
  | _, _, .int i => .int i
  | _, _, .str x => .str x
  | _, _, .lst h1 h3 h4 h5 => .lst (hf.keep _ _ h1 h4 h3 fun _ z => nomatch z) (fun z => (h2 _ z).elim h3 fun e => by rw [e] at h1; cases h1) (hg.notMem h4 h1) (RpAll.go hal hf hg h2 h5)
  | _, _, .tup h1 h5 => by
    refine .tup ?_ (RpAll.go hal hf hg h2 h5)
    rcases h1 with ⟨h1, h3⟩ | h1
    · have hU := noU_tup hal h1.rd
      obtain ⟨ob, e, hd⟩ := h1
      exact .inl ⟨⟨ob, hf.keep _ _ e h3 hU (fun _ z => nomatch z), hd⟩, hg.notMem h3 e⟩
    · exact .inr h1
  | _, _, .cell h => .cell (hg.get h)
  | _, _, .scr h1 h5 => by
    refine .scr ?_ (RpAll.go hal hf hg h2 h5)
    rcases h1 with ⟨h1, h3, h4⟩ | h1
    · obtain ⟨o, e⟩ := rd_some h1
      exact .inl ⟨rd_monoV hf h3 h4 (fun _ z => nomatch z) h1, hg.notMem h3 e, fun z => (h2 _ z).elim h4 fun e' => by rw [e'] at e; cases e⟩
    · exact .inr h1
  | _, _, .fn h1 h2 => .fn h1 h2
  | _, _, .nfn h0 h1 h3 h4 h5 => .nfn h0 (hf.keep _ _ h1 h4 (fun q => by obtain ⟨xs, e⟩ := hal _ q; rw [e] at h1; unfold FunO at h1; cases h1) fun _ z => nomatch z) (hf.keep _ _ h3 h5 (fun q => by obtain ⟨xs, e⟩ := hal _ q; rw [e] at h3; unfold LamX.CodeO at h3; cases h3) fun _ z => nomatch z) (hg.notMem h4 h1) (hg.notMem h5 h3)
theorem RpAll.go (hal : ∀ a, U a → ∃ xs, H a = some (.lst xs)) (hf : Fv κ U H H') (hg : Grow κ H κ') (h2 : ∀ a, U2 a → U a ∨ H a = none) : ∀ {ds : List PyData} {vs : List V}, RpAll F κ U H vs ds → RpAll F κ' U2 H' vs ds
  | _, _, .nil => .nil
  | _, _, .cons h1 h3 => .cons (Rp.go hal hf hg h2 h1) (RpAll.go hal hf hg h2 h3)
end
/-! ### what an iterator yields -/
structure ItsG (F : Fix) (κ : List Addr) (U : Addr → Prop) (H : Hp) (J : L2.It) (xs : List PyData) (G : Hp → Prop) (Y : Nat → Hp → V → Hp → Prop) : Prop where
  w : Walk J xs.length G Y
  g : ∀ κ' H', Fv κ U H H' → Grow κ H κ' → G H'
  y : ∀ κ' H' C' U2 i v H'', Fv κ U H H' → Grow κ H κ' → Sr F κ' H' C' → (∀ a, U2 a → U a ∨ H a = none) → (∀ a, U2 a → ∃ xs, H' a = some (.lst xs)) → i < xs.length → Y i H' v H'' → Post F κ' H' κ' H'' C' ∧ ∃ d, xs[i]? = some d ∧ Rp F κ' U2 H'' v d
def Its (F : Fix) (κ : List Addr) (U : Addr → Prop) (H : Hp) (J : L2.It) (xs : List PyData) : Prop := ∃ G Y, ItsG F κ U H J xs G Y
theorem its_of {F : Fix} {κ : List Addr} {U : Addr → Prop} {H : Hp} {J : L2.It} {xs : List PyData} {n : Nat} {G : Hp → Prop} {Y : Nat → Hp → V → Hp → Prop} (w : Walk J n G Y) (hn : n = xs.length) (g : ∀ κ' H', Fv κ U H H' → Grow κ H κ' → G H')
    (y : ∀ κ' H' C' U2 i v H'', Fv κ U H H' → Grow κ H κ' → Sr F κ' H' C' → (∀ a, U2 a → U a ∨ H a = none) → (∀ a, U2 a → ∃ xs, H' a = some (.lst xs)) → i < xs.length → Y i H' v H'' → Post F κ' H' κ' H'' C' ∧ ∃ d, xs[i]? = some d ∧ Rp F κ' U2 H'' v d) : Its F κ U H J xs :=
  ⟨G, Y, hn ▸ w, g, y⟩
def rdI (F : Fix) (W : WX) (f : VEnv → List Cell → Res (List PyData)) : TI := fun σ H R => ∃ κ U δ C, Ctx F κ U H σ δ C ∧ BR.Fin F W κ H σ (f δ C) fun xs _ κ1 H1 => ∀ J, Its F κ1 U H1 J xs → R J H1
end
section
variable {X : Cx} {F : Fix} {W : WX} {x y z tg : Expr} {es : List Expr} {p p1 : Pos} {fa fb : VEnv → List Cell → Res PyData}
variable {κ κ1 κ' : List Addr} {U U2 : Addr → Prop} {H H1 H' : Hp} {C : List Cell}
theorem its_list {K : PySem.W.Frag} {a : Addr} {xs : List V} {ds : List PyData} (al : ∀ a, U a → ∃ xs, H a = some (.lst xs)) (h1 : H a = some (.lst xs)) (hU : ¬ U a) (hk : a ∉ κ) (h4 : RpAll F κ U H xs ds) : Its F κ U H (Itl K a) ds := by
  refine its_of (walk_list (K := K) (a := a) (xs := xs)) h4.length (fun κ' H' f g => .of (f.keep _ _ h1 hk hU fun _ z => nomatch z)) fun κ' H' C' U2 i v H'' f g sr h2 al2 hi y => ?_
  obtain ⟨rfl, e⟩ := y
  obtain ⟨d, q, r⟩ := h4.getV e
  exact ⟨.refl sr, d, q, r.go al f g h2⟩
theorem its_tup {a : Addr} {xs : List V} {ds : List PyData} (al : ∀ a, U a → ∃ xs, H a = some (.lst xs)) (h1 : (XT H a xs ∧ a ∉ κ) ∨ KT F.K a xs) (h4 : RpAll F κ U H xs ds) : Its F κ U H (Itt F.K a) ds := by
  refine its_of (walk_tup (K := F.K) (a := a) (xs := xs)) h4.length (fun κ' H' f g => ?_) fun κ' H' C' U2 i v H'' f g sr h2 al2 hi y => ?_
  · exact h1.imp (fun q => rd_monoV f q.2 (noU_tup al q.1.rd) (fun _ z => nomatch z) q.1.rd) fun ⟨o, its, n, h1, h2, _, h3⟩ => ⟨o, its, n, h1, h2, h3⟩
  · obtain ⟨rfl, e⟩ := y
    obtain ⟨d, q, r⟩ := h4.getV e
    exact ⟨.refl sr, d, q, r.go al f g h2⟩
theorem i_seq (hK : F.K = X.K) (ha : PE X x (rdE F W fa)) : PI X tg x (rdI F W fun δ C => (fa δ C).bind fun d C => opt (itemsOf d) C) := by
  refine ⟨fun pins s σ H R I ⟨κ, U, δ, C, cx, h⟩ => ?_⟩
  have hit : ∃ d C1, fa δ C = .ok d C1 ∧ ∃ ds, itemsOf d = some ds := by
    revert h
    show BR.Fin F W κ H σ ((fa δ C).bind fun d C => opt (itemsOf d) C) _ → _
    cases fa δ C with
    | ok d C1 =>
      intro h
      obtain ⟨ds, e, _⟩ := BR.Fin.opt (show BR.Fin F W κ H σ (opt (itemsOf d) C1) _ from h)
      exact ⟨d, C1, rfl, ds, e⟩
    | exc _ _ _ => exact fun h => h.elim
    | stuck => exact fun h => h.elim
  obtain ⟨d, C1, e1, ds, e2⟩ := hit
  rcases of_itemsOf e2 with rfl | rfl
  · refine (pi_list (tg := tg) ha).run pins s σ H R I ⟨κ, U, δ, C, cx, h.bind.eq.mono fun d C2 κ1 H1 p1 ⟨e3, h1⟩ v rv => ?_⟩
    rw [e1] at e3
    cases e3
    cases rv with
    | lst q1 q2 q3 q4 => exact ⟨_, rfl, ⟨_, .of q1⟩, h1 κ1 H1 (.refl p1.sr) _ (its_list (cx.post p1).al q1 q2 q3 q4)⟩
  · refine (pi_tup (tg := tg) ha).run pins s σ H R I ⟨κ, U, δ, C, cx, h.bind.eq.mono fun d C2 κ1 H1 p1 ⟨e3, h1⟩ v rv => ?_⟩
    rw [e1] at e3
    cases e3
    cases rv with
    | tup q1 q4 => exact ⟨_, rfl, ⟨_, hK ▸ sqT_of q1⟩, hK ▸ h1 κ1 H1 (.refl p1.sr) _ (its_tup (cx.post p1).al q1 q4)⟩
theorem its_range (lo : Int) (n : Nat) : Its F κ U H (Itr lo n) ((List.range n).map fun (k : Nat) => PyData.int (lo + k)) := by
  refine its_of (walk_range (lo := lo) (n := n)) (by rw [List.length_map, List.length_range]) (fun _ _ _ _ => trivial) fun κ' H' C' U2 i v H'' f g sr h2 al2 hi y => ?_
  obtain ⟨rfl, rfl⟩ := y
  rw [List.length_map, List.length_range] at hi
  exact ⟨.refl sr, .int (lo + i), by simp [hi], .int _⟩
theorem small_of {i : Int} (h : smallI i = true) : -1000000 ≤ i ∧ i ≤ 1000000 := by
  unfold smallI at h
  rw [Bool.and_eq_true] at h
  exact ⟨of_decide_eq_true h.1, of_decide_eq_true h.2⟩
theorem i_rg1 (hg : Gl X ("range" : Str)) (hm : X.mg ("range" : Str) = none) (hp : pl x = true) (ha : PE X x (rdE F W fa)) :
    PI X tg (.Call (.Name ("range" : Str) p1) [x] [] p) (rdI F W fun δ C => (fa δ C).bind fun x C => match x with | .int i => if smallI i = true then .ok (rangeD 0 i) C else .stuck | _ => .stuck) := by
  refine ⟨fun pins s σ H R I ⟨κ, U, δ, C, cx, h⟩ => ?_⟩
  refine (pi_range1 (tg := tg) hg hm (pa_cons ha pa_nil (pl_star hp)) (pl_star hp)).run pins s σ H R I ⟨κ, U, δ, C, cx, h.bind.mono fun d C1 κ1 H1 p1 h1 v rv => ?_⟩
  cases rv with
  | int i =>
    simp only at h1
    split at h1
    · rename_i g
      obtain ⟨g1, g2⟩ := small_of g
      refine ⟨i, rfl, by omega, by omega, h1 κ1 H1 (.refl p1.sr) _ ?_⟩
      have := its_range (F := F) (κ := κ1) (U := U) (H := H1) 0 i.toNat
      unfold rangeD
      rw [Int.sub_zero]
      exact this
    · exact h1.elim
  | _ => exact h1.elim
theorem i_rg2 (hg : Gl X ("range" : Str)) (hm : X.mg ("range" : Str) = none) (hp : pl x = true) (hp2 : pl y = true) (ha : PE X x (rdE F W fa)) (hb : PE X y (rdE F W fb)) :
    PI X tg (.Call (.Name ("range" : Str) p1) [x, y] [] p) (rdI F W fun δ C => (fa δ C).bind fun x C => (fb δ C).bind fun y C => match x, y with
      | .int i, .int j => if smallI i = true ∧ smallI j = true then .ok (rangeD i j) C else .stuck
      | _, _ => .stuck) := by
  refine ⟨fun pins s σ H R I ⟨κ, U, δ, C, cx, h⟩ => ?_⟩
  have s2 : starEach [x, y] X.env = [(false, eval x X.env), (false, eval y X.env)] := (pl_star hp).trans (by rw [pl_star hp2]; rfl)
  refine (pi_range2 (tg := tg) hg hm (pa_cons ha (pa_cons hb pa_nil (pl_star hp2)) (pl_star hp)) s2 (pl_star hp2)).run pins s σ H R I ⟨κ, U, δ, C, cx, h.bind.mono fun d C1 κ1 H1 p1 h1 v rv => ?_⟩
  refine ⟨κ1, U, δ, C1, cx.post p1, h1.bind.mono fun e C2 κ2 H2 p2 h2 u ru => ?_⟩
  cases rv with
  | int i =>
    cases ru with
    | int j =>
      simp only at h2
      split at h2
      · rename_i g
        obtain ⟨g1, g2⟩ := small_of g.1
        obtain ⟨g3, g4⟩ := small_of g.2
        refine ⟨i, j, rfl, ⟨by omega, by omega, by omega, by omega⟩, h2 κ2 H2 (.refl p2.sr) _ ?_⟩
        exact its_range (F := F) (κ := κ2) (U := U) (H := H2) i (j - i).toNat
      · exact h2.elim
    | _ => exact h2.elim
  | _ => exact (h2 : False).elim
theorem i_chars (ha : PE X x (rdE F W fa)) : PI X tg x (rdI F W fun δ C => (fa δ C).bind fun d C => match d with | .str x => .ok (x.cps.toList.map fun c => .str ⟨#[c]⟩) C | _ => .stuck) := by
  refine ⟨fun pins s σ H R I ⟨κ, U, δ, C, cx, h⟩ => ?_⟩
  refine (pi_str (tg := tg) ha).run pins s σ H R I ⟨κ, U, δ, C, cx, h.bind.mono fun d C1 κ1 H1 p1 h1 v rv => ?_⟩
  cases rv with
  | str t =>
    refine ⟨t, rfl, h1 κ1 H1 (.refl p1.sr) _ (its_of (walk_str (z := t)) (by rw [List.length_map, Array.length_toList]) (fun _ _ _ _ => trivial) fun κ' H' C' U2 i v H'' f g sr h2 al2 hi y => ?_)⟩
    obtain ⟨rfl, c, e, rfl⟩ := y
    refine ⟨.refl sr, .str ⟨#[c]⟩, ?_, .str _⟩
    rw [List.getElem?_map, Array.getElem?_toList, e]
    rfl
  | _ => exact h1.elim
/-- a source: a list or a tuple -/
theorem src_rp (hK : F.K = X.K) {v : V} {d : PyData} {ds : List PyData} (h : Rp F κ U H v d) (e : itemsOf d = some ds) : ∃ a k xs, v = .ref a ∧ RpAll F κ U H xs ds ∧ Src X.K k H a xs ∧ ((∀ a, U a → ∃ xs, H a = some (.lst xs)) → ∀ κ' H', Fv κ U H H' → Grow κ H κ' → Src X.K k H' a xs) := by
  cases h with
  | lst h1 h2 h3 h4 => cases e; exact ⟨_, false, _, rfl, h4, .of h1, fun al κ' H' f g => .of (f.keep _ _ h1 h3 h2 fun _ z => nomatch z)⟩
  | tup h1 h4 =>
    cases e
    exact ⟨_, true, _, rfl, h4, hK ▸ sqT_of h1, fun al κ' H' f g => h1.imp (fun q => rd_monoV f q.2 (noU_tup al q.1.rd) (fun _ z => nomatch z) q.1.rd) fun q => by obtain ⟨o, its, n, h1, h2, _, h3⟩ := q; exact ⟨o, its, n, hK ▸ h1, h2, h3⟩⟩
  | _ => cases e
theorem new_pair {C' : List Cell} {T : Addr} {v w : V} {d e : PyData} (sr : Sr F κ H C') (al : ∀ a, U a → ∃ xs, H a = some (.lst xs)) (hT : H T = none) {ob : Obj} (hd : ob.dict = none) (rv : Rp F κ U H v d) (rw' : Rp F κ U H w e) :
    Post F κ H κ (upd H T (.frz ob (.tup [v, w]))) C' ∧ Rp F κ U (upd H T (.frz ob (.tup [v, w]))) (.ref T) (.tuple [d, e]) :=
  Hv.newT (F := F) ⟨sr, al⟩ hT hd (.cons rv (.cons rw' .nil))
theorem i_enum {elts : List Expr} {kk : Nat} {tpos : Pos} (hK : F.K = X.K) (hg : Gl X ("enumerate" : Str)) (hm : X.mg ("enumerate" : Str) = none) (hp : pl x = true) (ha : PE X x (rdE F W fa)) :
    PI X (.Tuple elts kk tpos) (.Call (.Name ("enumerate" : Str) p1) [x] [] p) (rdI F W fun δ C => (fa δ C).bind fun x C => match itemsOf x with
      | some xs => .ok (((List.range xs.length).zip xs).map fun p => .tuple [.int p.1, p.2]) C
      | _ => .stuck) := by
  refine ⟨fun pins s σ H R I ⟨κ, U, δ, C, cx, h⟩ => ?_⟩
  refine (pi_E hg hm (pa_cons ha pa_nil (pl_star hp)) (pl_star hp)).run pins s σ H R I ⟨κ, U, δ, C, cx, h.bind.mono fun d C1 κ1 H1 p1 h1 v rv => ?_⟩
  cases e : itemsOf d with
  | none => rw [e] at h1; exact h1.elim
  | some ds =>
    rw [e] at h1
    obtain ⟨a, k, xs, rfl, r4, sq, st⟩ := src_rp hK rv e
    have al := (cx.post p1).al
    refine ⟨a, k, xs, rfl, sq, h1 κ1 H1 (.refl p1.sr) _ (its_of walk_E ?_ (fun κ' H' f g => st al κ' H' f g) fun κ' H' C' U2 i v H'' f g sr h2 al2 hi y => ?_)⟩
    · rw [List.length_map, List.length_zip, List.length_range, Nat.min_self, ← r4.length]
    · obtain ⟨T, t, w, ob, rfl, hT, hd, rfl, et, ew⟩ := y
      cases et
      obtain ⟨d2, q, r⟩ := r4.getV ew
      have n := new_pair sr al2 hT hd (Rp.int (i : Int)) (r.go al f g h2)
      refine ⟨n.1, .tuple [.int i, d2], ?_, n.2⟩
      have hl : i < ds.length := by
        rcases Nat.lt_or_ge i ds.length with z | z
        · exact z
        · rw [List.getElem?_eq_none z] at q; cases q
      have e1 : ((List.range ds.length).zip ds)[i]? = some (i, d2) := by
        rw [List.getElem?_zip_eq_some]
        exact ⟨by simp [hl], q⟩
      rw [List.getElem?_map, e1]
      rfl
theorem i_zip {elts : List Expr} {kk : Nat} {tpos : Pos} (hK : F.K = X.K) (hg : Gl X ("zip" : Str)) (hm : X.mg ("zip" : Str) = none) (hp : pl x = true) (hp2 : pl y = true) (ha : PE X x (rdE F W fa)) (hb : PE X y (rdE F W fb)) :
    PI X (.Tuple elts kk tpos) (.Call (.Name ("zip" : Str) p1) [x, y] [] p) (rdI F W fun δ C => (fa δ C).bind fun x C => (fb δ C).bind fun y C => match itemsOf x, itemsOf y with
      | some xs, some ys => .ok ((xs.zip ys).map fun p => .tuple [p.1, p.2]) C
      | _, _ => .stuck) := by
  refine ⟨fun pins s σ H R I ⟨κ, U, δ, C, cx, h⟩ => ?_⟩
  refine (pi_Z hg hm (pa_cons ha (pa_cons hb pa_nil (pl_star hp2)) (pl_star hp)) (pl_star hp) (by rw [pl_star hp2]; rfl)).run pins s σ H R I ⟨κ, U, δ, C, cx, h.bind.mono fun d C1 κ1 H1 p1 h1 v rv => ?_⟩
  have c1 := cx.post p1
  refine ⟨κ1, U, δ, C1, c1, h1.bind.mono fun e C2 κ2 H2 p2 h2 u ru => ?_⟩
  have rv := rv.post p2
  cases e1 : itemsOf d with
  | none => rw [e1] at h2; exact (h2 : False).elim
  | some ds =>
    cases e2 : itemsOf e with
    | none => rw [e1, e2] at h2; exact (h2 : False).elim
    | some es =>
      rw [e1, e2] at h2
      obtain ⟨a, k, xs, rfl, r4, sq, st⟩ := src_rp hK rv e1
      obtain ⟨a2, k2, ys, rfl, r5, sq2, st2⟩ := src_rp hK ru e2
      have al := (c1.post p2).al
      refine ⟨a, a2, k, k2, xs, ys, rfl, sq, sq2, h2 κ2 H2 (.refl p2.sr) _ (its_of walk_Z ?_ (fun κ' H' f g => ⟨st al κ' H' f g, st2 al κ' H' f g⟩) fun κ' H' C' U2 i v H'' f g sr h2 al2 hi y => ?_)⟩
      · rw [List.length_map, List.length_zip, ← r4.length, ← r5.length]
      · obtain ⟨T, t, w, ob, rfl, hT, hd, rfl, et, ew⟩ := y
        obtain ⟨d2, q, r⟩ := r4.getV et
        obtain ⟨d3, q3, r3⟩ := r5.getV ew
        have n := new_pair sr al2 hT hd (r.go al f g h2) (r3.go al f g h2)
        refine ⟨n.1, .tuple [d2, d3], ?_, n.2⟩
        have e1 : (ds.zip es)[i]? = some (d2, d3) := by
          rw [List.getElem?_zip_eq_some]
          exact ⟨q, q3⟩
        rw [List.getElem?_map, e1]
        rfl
theorem walk_rv {K : PySem.W.Frag} {a : Addr} {xs : List V} : Walk (RT.ItvT K a xs.length) xs.length (fun H => SqT K H a xs) (fun i H x H' => H' = H ∧ xs[xs.length - 1 - i]? = some x) :=
  ⟨fun i _ hi q => ⟨hi, xs, xs[xs.length - 1 - i]'(by omega), q, by simp [show xs.length - 1 - i < xs.length by omega]⟩, fun _ _ => Nat.le_refl _, fun _ _ _ _ _ q y => ⟨y.1, y.2 xs q⟩⟩
theorem i_rev (hK : F.K = X.K) (hg : Gl X ("reversed" : Str)) (hm : X.mg ("reversed" : Str) = none) (hp : pl x = true) (ha : PE X x (rdE F W fa)) :
    PI X tg (.Call (.Name ("reversed" : Str) p1) [x] [] p) (rdI F W fun δ C => (fa δ C).bind fun x C => match itemsOf x with
      | some xs => .ok xs.reverse C
      | _ => .stuck) := by
  refine ⟨fun pins s σ H R I ⟨κ, U, δ, C, cx, h⟩ => ?_⟩
  refine (RT.pi_revA hg hm ha (pl_star hp)).run pins s σ H R I ⟨κ, U, δ, C, cx, h.bind.mono fun d C1 κ1 H1 p1 h1 v rv => ?_⟩
  have al := (cx.post p1).al
  have rev_at : ∀ {κ' : List Addr} {H' : Hp} {U2 : Addr → Prop} {ds : List PyData} {xs : List V} {i : Nat} {v : V}, RpAll F κ1 U H1 xs ds → Fv κ1 U H1 H' → Grow κ1 H1 κ' → (∀ a, U2 a → U a ∨ H1 a = none) → i < ds.reverse.length → xs[xs.length - 1 - i]? = some v →
      ∃ d, ds.reverse[i]? = some d ∧ Rp F κ' U2 H' v d := fun r4 f g h2 hi e => by
    obtain ⟨d2, q, r⟩ := r4.getV e
    rw [List.length_reverse] at hi
    refine ⟨d2, ?_, r.go al f g h2⟩
    rw [List.getElem?_reverse hi, ← r4.length]
    exact q
  cases rv with
  | lst q1 q2 q3 q4 =>
    refine ⟨_, _, rfl, .inl ⟨.of q1, h1 κ1 H1 (.refl p1.sr) _ (its_of walk_rev (by rw [List.length_reverse, ← q4.length]) (fun κ' H' f g => .of (f.keep _ _ q1 q3 q2 fun _ z => nomatch z)) fun κ' H' C' U2 i v H'' f g sr h2 al2 hi y => ?_)⟩⟩
    obtain ⟨rfl, e⟩ := y
    exact ⟨.refl sr, rev_at q4 f g h2 hi e⟩
  | tup q1 q4 =>
    refine ⟨_, _, rfl, .inr ⟨hK ▸ sqT_of q1, h1 κ1 H1 (.refl p1.sr) _ (its_of walk_rv (by rw [List.length_reverse, ← q4.length]) (fun κ' H' f g => q1.imp (fun q => rd_monoV f q.2 (noU_tup al q.1.rd) (fun _ z => nomatch z) q.1.rd) (fun ⟨o, its, n, h1, h2, _, h3⟩ => ⟨o, its, n, hK ▸ h1, h2, h3⟩)) fun κ' H' C' U2 i v H'' f g sr h2 al2 hi y => ?_)⟩⟩
    obtain ⟨rfl, e⟩ := y
    exact ⟨.refl sr, rev_at q4 f g h2 hi e⟩
  | _ => exact h1.elim
end
end BR
set_option Elab.async false
set_option linter.all false
set_option maxRecDepth 100000
set_option maxHeartbeats 4000000
/-! targets, comprehensions -/
namespace BR
open PySem PySem.Spec PyProof.Rows L2
section
variable {F : Fix} {κ κ1 κ' : List Addr} {U U2 : Addr → Prop} {H H1 H' : Hp} {C : List Cell} {σ σ' : L2.St} {δ δ' : VEnv}
theorem wipe_same {σ : L2.St} {i : Nat} {v : Option V} : ∀ {vs : List Nat}, i ∈ vs → wipe (σ.set i v) vs = wipe σ vs
  | a :: r, h => by
    by_cases hi : i ∈ r
    · unfold wipe
      rw [wipe_same hi]
    · have e : i = a := by
        rcases List.mem_cons.mp h with h | h
        · exact h
        · exact absurd h hi
      subst e
      unfold wipe
      have : ∀ (l : List Nat) (τ : L2.St), i ∉ l → wipe (τ.set i v) l = (wipe τ l).set i v := fun l => by
        induction l with
        | nil => intro τ _; rfl
        | cons b l ih =>
          intro τ hn
          unfold wipe
          rw [ih τ fun z => hn (List.mem_cons_of_mem _ z), List.set_comm _ _ fun z => hn (by rw [← z]; exact List.mem_cons_self)]
      rw [this r σ hi, List.set_set]
/-- the slots besides -/
def SameBut (l : List Nat) (σ σ' : L2.St) : Prop := σ'.length = σ.length ∧ ∀ vs : List Nat, (∀ j ∈ l, j ∈ vs) → wipe σ' vs = wipe σ vs
theorem Ctx.put (cx : Ctx F κ U H σ δ C) {i : Nat} {v : V} {d : PyData} (hi : i < σ.length) (r : Rp F κ U H v d) : Ctx F κ U H (σ.set i (some v)) (δ.set i (some d)) C := by
  refine ⟨cx.sr, cx.al, fun j e h => ?_⟩
  by_cases hj : i = j
  · subst hj
    rw [List.getElem?_set] at h
    simp only [if_true] at h
    split at h
    · cases h
      exact ⟨v, by rw [List.getElem?_set]; simp [hi], r⟩
    · cases h
  · rw [List.getElem?_set_ne hj] at h
    obtain ⟨w, q, r'⟩ := cx.sl j e h
    exact ⟨w, by rw [List.getElem?_set_ne hj]; exact q, r'⟩
def rdG (F : Fix) (t : Tg) : TG := fun v σ H Q => ∃ κ U δ C d δ', Ctx F κ U H σ δ C ∧ Rp F κ U H v d ∧ bindT t d δ = some δ' ∧ ∀ σ', Ctx F κ U H σ' δ' C → SameBut (tgSlots t) σ σ' → Q σ' H
def rdGs (F : Fix) (t : Tgs) : TGs := fun vs σ H Q => ∃ κ U δ C ds δ', Ctx F κ U H σ δ C ∧ RpAll F κ U H vs ds ∧ bindTs t ds δ = some δ' ∧ ∀ σ', Ctx F κ U H σ' δ' C → SameBut (tgsSlots t) σ σ' → Q σ' H
end
section
variable {X : Cx} {F : Fix} {c : Cfg} {sc : Scope} {fn : Str → Bool}
theorem each_of_tgs : ∀ {t : Tgs} {es : List Expr}, mTs c sc fn t es = true → ∀ env, (assignEach es env).length = es.length ∧ (assignEach es env).findIdx? (·.1) = none ∧ (∀ e r, es = e :: r → (assignEach es env).map (·.2) = assign e env :: (assignEach r env).map (·.2))
  | .nil, [], _, env => ⟨rfl, rfl, fun e r z => nomatch z⟩
  | .nil, _ :: _, h, _ => by rw [mTs] at h; cases h; all_goals (intros; contradiction)
  | .nm i r, [], h, _ => by rw [mTs] at h; cases h; all_goals (intros; contradiction)
  | .tp i r, [], h, _ => by rw [mTs] at h; cases h; all_goals (intros; contradiction)
  | .nm i r, x :: xs, h, env => by
    cases x with
    | Name n p =>
      rw [mTs, Bool.and_eq_true] at h
      obtain ⟨h1, h2, _⟩ := each_of_tgs h.2 env
      refine ⟨by show (assignEach xs env).length + 1 = _; rw [h1]; rfl, ?_, fun e r z => by cases z; rfl⟩
      show ((false, assign (.Name n p) env) :: assignEach xs env).findIdx? (·.1) = none
      rw [List.findIdx?_cons, h2]
      rfl
    | _ => rw [mTs] at h; cases h; all_goals (intros; contradiction)
  | .tp t r, x :: xs, h, env => by
    cases x with
    | Tuple es k p =>
      rw [mTs, Bool.and_eq_true] at h
      obtain ⟨h1, h2, _⟩ := each_of_tgs h.2 env
      refine ⟨by show (assignEach xs env).length + 1 = _; rw [h1]; rfl, ?_, fun e r z => by cases z; rfl⟩
      show ((false, assign (.Tuple es k p) env) :: assignEach xs env).findIdx? (·.1) = none
      rw [List.findIdx?_cons, h2]
      rfl
    | _ => rw [mTs] at h; cases h; all_goals (intros; contradiction)
theorem bindTs_len {t : Tgs} {es : List Expr} (h : mTs c sc fn t es = true) : ∀ {ds : List PyData} {δ δ' : VEnv}, bindTs t ds δ = some δ' → ds.length = es.length := by
  induction es generalizing t with
  | nil =>
    intro ds δ δ' e
    cases t with
    | nil => cases ds with
      | nil => rfl
      | cons _ _ => rw [bindTs] at e; cases e; all_goals (intros; contradiction)
    | nm i r => rw [mTs] at h; cases h; all_goals (intros; contradiction)
    | tp i r => rw [mTs] at h; cases h; all_goals (intros; contradiction)
  | cons x xs ih =>
    intro ds δ δ' e
    cases t with
    | nil => rw [mTs] at h; cases h; all_goals (intros; contradiction)
    | nm i r =>
      cases x with
      | Name n p =>
        rw [mTs, Bool.and_eq_true] at h
        cases ds with
        | nil => rw [bindTs] at e; cases e; all_goals (intros; contradiction)
        | cons d ds =>
          rw [bindTs] at e
          rw [List.length_cons, List.length_cons, ih h.2 e]
      | _ => rw [mTs] at h; cases h; all_goals (intros; contradiction)
    | tp t r =>
      cases x with
      | Tuple es k p =>
        rw [mTs, Bool.and_eq_true] at h
        cases ds with
        | nil => rw [bindTs] at e; cases e; all_goals (intros; contradiction)
        | cons d ds =>
          cases d with
          | tuple ys =>
            rw [bindTs] at e
            cases e1 : bindTs t ys δ with
            | none => rw [e1] at e; cases e
            | some δ1 =>
              rw [e1] at e
              rw [List.length_cons, List.length_cons, ih h.2 e]
          | _ => rw [bindTs] at e; cases e; all_goals (intros; contradiction)
      | _ => rw [mTs] at h; cases h; all_goals (intros; contradiction)
theorem locOk_of {i : Nat} {x : Str} (h : locOk c sc fn i x = true) : c.N[i]? = some x ∧ Loc sc x ∧ (fn x = true ∨ sc.names.lookup x = some .local) := by
  unfold locOk at h
  rw [Bool.and_eq_true] at h
  refine ⟨of_decide_eq_true h.1, ?_⟩
  have h2 := h.2
  split at h2
  · rename_i e
    exact ⟨.inl e, .inr e⟩
  · rename_i e
    exact ⟨.inr e, .inl h2⟩
  · cases h2
theorem pg_nm {i : Nat} {x : Str} {p : Pos} (hN : X.N = c.N) (nd : X.N.Nodup) (hs : X.env.scope = sc) (hfn : ∀ y, fn y = true → X.fn y = true) (h : locOk c sc fn i x = true) : PG X (.Name x p) (rdG F (.nm i)) := by
  obtain ⟨h1, h2, h3⟩ := locOk_of h
  refine ⟨fun pins s σ H v u Q I r ⟨κ, U, δ, C, d, δ', cx, rv, e, q⟩ => ?_⟩
  refine (pg_name nd (hN ▸ h1) (hs ▸ h2) (h3.imp (hfn _) fun z => hs ▸ z)).run pins s σ H v u Q I r ?_
  have hi : i < σ.length := by
    rw [I.len, hN]
    rcases Nat.lt_or_ge i c.N.length with z | z
    · exact z
    · rw [List.getElem?_eq_none z] at h1; cases h1
  rw [bindT] at e
  cases e
  refine q _ (cx.put hi rv) ⟨List.length_set, fun vs hv => wipe_same (hv i ?_)⟩
  rw [tgSlots]
  exact List.mem_singleton.mpr rfl
theorem SameBut.trans {l l' : List Nat} {σ σ' σ'' : L2.St} (a : SameBut l σ σ') (b : SameBut l' σ' σ'') : SameBut (l ++ l') σ σ'' :=
  ⟨b.1.trans a.1, fun vs h => (b.2 vs fun j hj => h j (List.mem_append_right _ hj)).trans (a.2 vs fun j hj => h j (List.mem_append_left _ hj))⟩
theorem wkGs {es : List Expr} {t t' : TGs} (h : PGs X es t) (k : ∀ vs σ H Q, t' vs σ H Q → t vs σ H Q) : PGs X es t' := ⟨fun pins s σ H v u Q I r q => h.run pins s σ H v u Q I r (k v σ H Q q)⟩
theorem wkG {e : Expr} {t t' : TG} (h : PG X e t) (k : ∀ vs σ H Q, t' vs σ H Q → t vs σ H Q) : PG X e t' := ⟨fun pins s σ H v u Q I r q => h.run pins s σ H v u Q I r (k v σ H Q q)⟩
theorem Ctx.same (cx : Ctx F κ U H σ δ C) : SameBut [] σ σ := ⟨rfl, fun _ _ => rfl⟩
theorem pgs_of (hc : X.calm = true) (hK : F.K = X.K) (hN : X.N = c.N) (nd : X.N.Nodup) (hs : X.env.scope = sc) (hfn : ∀ y, fn y = true → X.fn y = true) : ∀ {t : Tgs} {es : List Expr}, mTs c sc fn t es = true → PGs X es (rdGs F t)
  | .nil, [], _ => wkGs pgs_nil fun vs σ H Q ⟨κ, U, δ, C, ds, δ', cx, rv, e, q⟩ => by
    cases ds with
    | nil =>
      cases rv
      rw [bindTs] at e
      cases e
      exact ⟨rfl, q σ cx ⟨rfl, fun _ _ => rfl⟩⟩
    | cons _ _ => rw [bindTs] at e; cases e; all_goals (intros; contradiction)
  | .nil, _ :: _, h => by rw [mTs] at h; cases h; all_goals (intros; contradiction)
  | .nm i r, [], h => by rw [mTs] at h; cases h; all_goals (intros; contradiction)
  | .tp i r, [], h => by rw [mTs] at h; cases h; all_goals (intros; contradiction)
  | .nm i r, x :: xs, h => by
    cases x with
    | Name n p =>
      have h0 := h
      rw [mTs, Bool.and_eq_true] at h
      refine wkGs (pgs_cons (pg_nm (F := F) hN nd hs hfn h.1) (pgs_of hc hK hN nd hs hfn h.2) ((each_of_tgs h0 X.env).2.2 _ _ rfl)) fun vs σ H Q ⟨κ, U, δ, C, ds, δ', cx, rv, e, q⟩ => ?_
      cases ds with
      | nil => rw [bindTs] at e; cases e; all_goals (intros; contradiction)
      | cons d ds =>
        cases rv with
        | cons r1 r2 =>
          rw [bindTs] at e
          refine ⟨_, _, rfl, κ, U, δ, C, d, _, cx, r1, rfl, fun σ1 cx1 sb => ⟨κ, U, _, C, ds, δ', cx1, r2, e, fun σ2 cx2 sb2 => q σ2 cx2 ?_⟩⟩
          rw [tgsSlots]
          rw [tgSlots] at sb
          exact sb.trans sb2
    | _ => rw [mTs] at h; cases h; all_goals (intros; contradiction)
  | .tp t r, x :: xs, h => by
    cases x with
    | Tuple es k p =>
      have h0 := h
      rw [mTs, Bool.and_eq_true] at h
      have hg : PG X (.Tuple es k p) (rdG F (.tp t)) := by
        refine wkG (pg_tup hc (pgs_of hc hK hN nd hs hfn h.1) (each_of_tgs h.1 X.env).1 (each_of_tgs h.1 X.env).2.1) fun v σ H Q ⟨κ, U, δ, C, d, δ', cx, rv, e, q⟩ => ?_
        cases d with
        | tuple ys =>
          rw [bindT] at e
          cases rv with
          | tup q1 q4 => exact ⟨_, _, rfl, hK ▸ sqT_of q1, by rw [q4.length, bindTs_len h.1 e], κ, U, δ, C, ys, δ', cx, q4, e, fun σ' cx' sb => q σ' cx' (by rw [tgSlots]; exact sb)⟩
        | _ => rw [bindT] at e; cases e; all_goals (intros; contradiction)
      refine wkGs (pgs_cons hg (pgs_of hc hK hN nd hs hfn h.2) ((each_of_tgs h0 X.env).2.2 _ _ rfl)) fun vs σ H Q ⟨κ, U, δ, C, ds, δ', cx, rv, e, q⟩ => ?_
      cases ds with
      | nil => rw [bindTs] at e; cases e; all_goals (intros; contradiction)
      | cons d ds =>
        cases rv with
        | cons r1 r2 =>
          cases d with
          | tuple ys =>
            rw [bindTs] at e
            cases e1 : bindTs t ys δ with
            | none => rw [e1] at e; cases e
            | some δ1 =>
              rw [e1] at e
              refine ⟨_, _, rfl, κ, U, δ, C, .tuple ys, δ1, cx, r1, by rw [bindT]; exact e1, fun σ1 cx1 sb => ⟨κ, U, _, C, ds, δ', cx1, r2, e, fun σ2 cx2 sb2 => q σ2 cx2 ?_⟩⟩
              rw [tgsSlots]
              rw [tgSlots] at sb
              exact sb.trans sb2
          | _ => rw [bindTs] at e; cases e; all_goals (intros; contradiction)
    | _ => rw [mTs] at h; cases h; all_goals (intros; contradiction)
theorem pg_of (hc : X.calm = true) (hK : F.K = X.K) (hN : X.N = c.N) (nd : X.N.Nodup) (hs : X.env.scope = sc) (hfn : ∀ y, fn y = true → X.fn y = true) {t : Tg} {x : Expr} (h : mT c sc fn t x = true) : PG X x (rdG F t) := by
  cases t with
  | nm i =>
    cases x with
    | Name n p => rw [mT] at h; exact pg_nm hN nd hs hfn h
    | _ => rw [mT] at h; cases h; all_goals (intros; contradiction)
  | tp t =>
    cases x with
    | Tuple es k p =>
      rw [mT] at h
      refine wkG (pg_tup hc (pgs_of hc hK hN nd hs hfn h) (each_of_tgs h X.env).1 (each_of_tgs h X.env).2.1) fun v σ H Q ⟨κ, U, δ, C, d, δ', cx, rv, e, q⟩ => ?_
      cases d with
      | tuple ys =>
        rw [bindT] at e
        cases rv with
        | tup q1 q4 => exact ⟨_, _, rfl, hK ▸ sqT_of q1, by rw [q4.length, bindTs_len h e], κ, U, δ, C, ys, δ', cx, q4, e, fun σ' cx' sb => q σ' cx' (by rw [tgSlots]; exact sb)⟩
      | _ => rw [bindT] at e; cases e; all_goals (intros; contradiction)
    | _ => rw [mT] at h; cases h; all_goals (intros; contradiction)
end
end BR
set_option Elab.async false
set_option linter.all false
set_option maxRecDepth 100000
set_option maxHeartbeats 4000000
/-! comprehensions -/
namespace BR
open PySem PySem.Spec PyProof.Rows L2
section
variable {X : Cx} {F : Fix} {W : WX} {c : Cfg} {sc : Scope}
theorem wipeD_some {δ : VEnv} {i : Nat} {d : PyData} : ∀ {vs : List Nat}, (wipeD δ vs)[i]?.join = some d → δ[i]?.join = some d ∧ i ∉ vs
  | [], h => ⟨h, by simp⟩
  | v :: vs, h => by
    unfold wipeD at h
    by_cases hi : v = i
    · subst hi
      rw [List.getElem?_set] at h
      simp only [if_true] at h
      split at h <;> cases h
    · rw [List.getElem?_set_ne hi] at h
      obtain ⟨h1, h2⟩ := wipeD_some h
      exact ⟨h1, by simp only [List.mem_cons, not_or]; exact ⟨fun e => hi e.symm, h2⟩⟩
/-- where the block stands: the list D is being made -/
theorem Ctx.into {κ κ' : List Addr} {U : Addr → Prop} {H H' : Hp} {σ : L2.St} {δ : VEnv} {C C' : List Cell} {D : Addr} {vs : List V} (cx : Ctx F κ U H σ δ C) (hD : H D = none) (p : Post F κ H κ' H' C') (e : H' D = some (.lst vs)) :
    (∀ a, (U a ∨ a = D) → ∃ xs, H' a = some (.lst xs)) ∧ (∀ {d v}, Rp F κ U H v d → Rp F κ' (fun a => U a ∨ a = D) H' v d) := by
  refine ⟨fun a h => ?_, fun {d v} r => r.go cx.al p.fx.fv p.gr fun a h => h.imp id fun q => by rw [q]; exact hD⟩
  rcases h with h | rfl
  · exact (cx.post p).al a h
  · exact ⟨vs, e⟩
theorem Ctx.block {κ κ' : List Addr} {U : Addr → Prop} {H H' : Hp} {σ : L2.St} {δ : VEnv} {C C' : List Cell} {D : Addr} {vs : List V} {ws : List Nat} (cx : Ctx F κ U H σ δ C) (hD : H D = none) (p : Post F κ H κ' H' C') (e : H' D = some (.lst vs)) :
    Ctx F κ' (fun a => U a ∨ a = D) H' (wipe σ ws) (wipeD δ ws) C' := by
  obtain ⟨al, go⟩ := cx.into hD p e
  refine ⟨p.sr, al, fun i d h => ?_⟩
  obtain ⟨h1, h2⟩ := wipeD_some h
  obtain ⟨v, q, r⟩ := cx.sl i d h1
  exact ⟨v, by rw [wipe_out h2]; exact q, go r⟩
theorem wipe_wipe {σ : L2.St} {vs : List Nat} : wipe (wipe σ vs) vs = wipe σ vs := by
  have : ∀ (l : List Nat), (∀ j ∈ l, j ∈ vs) → wipe (wipe σ vs) l = wipe σ vs := fun l => by
    induction l with
    | nil => intro _; rfl
    | cons a r ih =>
      intro h
      show (wipe (wipe σ vs) r).set a none = wipe σ vs
      rw [ih fun j hj => h j (List.mem_cons_of_mem _ hj)]
      apply List.ext_getElem?
      intro j
      by_cases hj : a = j
      · subst hj
        rw [List.getElem?_set]
        simp only [if_true]
        split
        · rename_i hl
          have hm := h a List.mem_cons_self
          cases e : (wipe σ vs)[a]? with
          | none => rw [List.getElem?_eq_getElem hl] at e; cases e
          | some o =>
            cases o with
            | none => rfl
            | some x => exact absurd hm (wipe_some e).2
        · rename_i hl
          rw [List.getElem?_eq_none (by omega)]
      · rw [List.getElem?_set_ne hj]
  exact this vs fun _ h => h
theorem Fin.sig {α : Type} {κ : List Addr} {H : Hp} {σ σ' : L2.St} {r : Res α} {P : α → List Cell → List Addr → Hp → Prop} (h : BR.Fin F W κ H σ r P) : BR.Fin F W κ H σ' r P := h
abbrev lcF (t : Tg) (vs : List Nat) (δ : VEnv) (fc : VEnv → List Cell → Res Bool) (fe : VEnv → List Cell → Res PyData) : PyData → List Cell → Res (List PyData) := fun x C => (opt (bindT t x (wipeD δ vs)) C).bind fun δ' C => (fc δ' C).bind fun b C =>
      if b = true then (fe δ' C).bind fun d C => .ok [d] C else .ok [] C
abbrev lcEnd : List PyData → List Cell → Res PyData := fun ds C => if ds.length ≤ big then .ok (.list ds) C else .stuck
/-- the state of a comprehension's loop -/
structure LcP (F : Fix) (κ1 : List Addr) (U : Addr → Prop) (H1 : Hp) (D : Addr) (f : PyData → List Cell → Res (List PyData)) (r0 : Res PyData) (xs : List PyData) (i : Nat) (H' : Hp) : Prop where
  ex : ∃ κ' C' vs ds, Post F κ1 H1 κ' H' C' ∧ H' D = some (.lst vs) ∧ D ∉ κ' ∧ RpAll F κ' (fun a => U a ∨ a = D) H' vs ds ∧ r0 = (mapR f (xs.drop i) C').bind fun zs C => lcEnd (ds ++ zs) C
theorem drop_at {α : Type} {xs : List α} {i : Nat} {d : α} (h : xs[i]? = some d) : xs.drop i = d :: xs.drop (i + 1) := by
  have hl : i < xs.length := by
    rcases Nat.lt_or_ge i xs.length with z | z
    · exact z
    · rw [List.getElem?_eq_none z] at h; cases h
  rw [List.drop_eq_getElem_cons hl]
  rw [List.getElem?_eq_getElem hl] at h
  cases h
  rfl
theorem lc_room {κ : List Addr} {H : Hp} {σ : L2.St} {P : PyData → List Cell → List Addr → Hp → Prop} {r : Res (List PyData)} {ds : List PyData} (h : BR.Fin F W κ H σ (r.bind fun zs C => lcEnd (ds ++ zs) C) P) : ds.length ≤ big := by
  cases r with
  | ok zs C =>
    have h : BR.Fin F W κ H σ (if (ds ++ zs).length ≤ big then .ok (.list (ds ++ zs)) C else .stuck) P := h
    split at h
    · rename_i g
      rw [List.length_append] at g
      omega
    · exact h.elim
  | exc _ _ _ => exact h.elim
  | stuck => exact h.elim
/-- D is appended to -/
theorem lc_app {κ1 κ' : List Addr} {U : Addr → Prop} {H1 H' : Hp} {C' : List Cell} {D : Addr} {vs : List V} {ds : List PyData} {y : V} {d : PyData} (hD : H1 D = none) (p : Post F κ1 H1 κ' H' C') (e : H' D = some (.lst vs)) (nk : D ∉ κ') (al : ∀ a, (U a ∨ a = D) → ∃ xs, H' a = some (.lst xs))
    (r : RpAll F κ' (fun a => U a ∨ a = D) H' vs ds) (ry : Rp F κ' (fun a => U a ∨ a = D) H' y d) :
    Post F κ1 H1 κ' (upd H' D (.lst (vs ++ [y]))) C' ∧ RpAll F κ' (fun a => U a ∨ a = D) (upd H' D (.lst (vs ++ [y]))) (vs ++ [y]) (ds ++ [d]) := by
  refine ⟨⟨p.fx.upd (.inl hD), p.gr, p.sr.chg nk e e (fun _ z => nomatch z) (fun _ _ z => nomatch z)⟩, ?_⟩
  have fv : Fv κ' (fun a => U a ∨ a = D) H' (upd H' D (.lst (vs ++ [y]))) := (Fv.refl _ _ _).upd (.inr (.inr (.inr rfl)))
  exact (r.append (.cons ry .nil)).go al fv (.refl _ _) fun a h => .inl h
/-- an expression that makes a new list -/
def rdN (F : Fix) (W : WX) (f : VEnv → List Cell → Res PyData) : TE := fun σ H Q => ∃ κ U δ C, Ctx F κ U H σ δ C ∧ BR.Fin F W κ H σ (f δ C) fun d _ κ' H' => ∀ a vs xs, d = .list xs → H a = none → H' a = some (.lst vs) → ¬ U a → a ∉ κ' → RpAll F κ' U H' vs xs → Q (.ref a) H'
theorem Post.free {κ κ1 : List Addr} {H H1 : Hp} {C C1 : List Cell} (p : Post F κ H κ1 H1 C1) (s : Sr F κ H C) {a : Addr} (h : H1 a = none) : H a = none := by
  cases e : H a with
  | none => rfl
  | some o =>
    by_cases hk : a ∈ κ
    · obtain ⟨zs, q⟩ := p.sr.at (p.gr.mem hk)
      rw [h] at q
      cases q
    · obtain ⟨o', q⟩ := p.fx.there e hk
      rw [h] at q
      cases q
theorem rdE.toN {f : VEnv → List Cell → Res PyData} {σ : L2.St} {H : Hp} {Q : VK} (h : rdE F W f σ H Q) : rdN F W f σ H Q := by
  obtain ⟨κ, U, δ, C, cx, h⟩ := h
  exact ⟨κ, U, δ, C, cx, h.mono fun d C1 κ1 H1 p1 k a vs xs e _ h1 h2 h3 h4 => k _ (by rw [e]; exact .lst h1 h2 h3 h4)⟩
theorem lc_readN {t : Tg} {vs0 : List Nat} {fI : VEnv → List Cell → Res (List PyData)} {fc : VEnv → List Cell → Res Bool} {fe : VEnv → List Cell → Res PyData} (hts : ∀ j ∈ tgSlots t, j ∈ vs0) {σ : L2.St} {H : Hp} {Q : VK}
    (h : rdN F W (fun δ C => (fI δ C).bind fun xs C => (mapR (lcF t vs0 δ fc fe) xs C).bind lcEnd) σ H Q) : tLc (rdI F W fI) (rdG F t) (rdT F W fc) (rdE F W fe) vs0 σ H Q := by
  obtain ⟨κ, U, δ, C, cx, h⟩ := h
  refine ⟨κ, U, δ, C, cx, h.bind.mono fun xs C1 κ1 H1 p1 h1 J ⟨G, Y, w, gg, yy⟩ D hD => ?_⟩
  have c1 := cx.post p1
  have nU : ¬ U D := fun z => by obtain ⟨_, q⟩ := c1.al D z; rw [hD] at q; cases q
  have nk : D ∉ κ1 := c1.sr.fresh hD
  generalize hr0 : (mapR (lcF t vs0 δ fc fe) xs C1).bind lcEnd = r0 at h1
  have h0 := Hv.newL (F := F) c1.hv hD (xs := []) (ds := []) .nil
  refine lc_it w (fun i H' => LcP F κ1 U H1 D (lcF t vs0 δ fc fe) r0 xs i H') ⟨κ1, C1, [], [], h0.1, upd_same, nk, .nil, hr0.symm⟩ (fun i H' _ ⟨κ', C', vs, ds, p, e, nk', r, q⟩ => ?_) (fun i x H2 H3 hi ⟨κ', C', vs, ds, p, e, nk', r, q⟩ y => ?_) (fun H' ⟨κ', C', vs, ds, p, e, nk', r, q⟩ => ?_)
  · exact gg κ' H' p.fx.fv p.gr
  · have al2 := (c1.into hD p e).1
    obtain ⟨p2, d, hx, rx⟩ := yy κ' H2 C' (fun a => U a ∨ a = D) i x H3 p.fx.fv p.gr p.sr (fun a h => h.imp id fun q => by rw [q]; exact hD) al2 hi y
    have p3 := p.trans p2
    have e3 : H3 D = some (.lst vs) := p2.fx.keep _ _ e nk' fun _ z => nomatch z
    have cb : Ctx F κ' (fun a => U a ∨ a = D) H3 (wipe σ vs0) (wipeD δ vs0) C' := c1.block hD p3 e3
    rw [drop_at hx] at q
    have q : r0 = ((lcF t vs0 δ fc fe d C').bind fun ys C => (mapR (lcF t vs0 δ fc fe) (xs.drop (i + 1)) C).bind fun zs C => lcEnd (ds ++ (ys ++ zs)) C) := by
      rw [q, mapR, bind_assoc]
      congr 1
      funext ys C
      rw [bind_assoc]
      rfl
    have hF : BR.Fin F W κ' H3 σ r0 _ := BR.Fin.post h1 p3
    rw [q] at hF
    have hF2 := hF.bind.bind
    obtain ⟨δ', eδ, _⟩ := hF2.opt
    have q : r0 = ((fc δ' C').bind fun b C => if b = true then (fe δ' C).bind fun d C => .ok [d] C else .ok [] C).bind fun ys C => (mapR (lcF t vs0 δ fc fe) (xs.drop (i + 1)) C).bind fun zs C => lcEnd (ds ++ (ys ++ zs)) C := by
      rw [q]
      show ((opt (bindT t d (wipeD δ vs0)) C').bind _).bind _ = _
      rw [eδ]
      rfl
    refine ⟨κ', (fun a => U a ∨ a = D), (wipeD δ vs0), C', d, δ', cb, rx, eδ, fun σ2 cx2 sb => ⟨?_, ?_⟩⟩
    · rw [sb.2 _ hts, wipe_wipe]
    · have hF : BR.Fin F W κ' H3 σ r0 _ := BR.Fin.post h1 p3
      rw [q, bind_assoc] at hF
      refine ⟨κ', _, δ', C', cx2, (BR.Fin.sig hF.bind.eq).mono fun b C4 κ4 H4 p4 ⟨eb, hb⟩ => ?_⟩
      have p5 := p3.trans p4
      have e5 : H4 D = some (.lst vs) := p4.fx.keep _ _ e3 nk' fun _ z => nomatch z
      have nk4 : D ∉ κ4 := p4.gr.notMem nk' e3
      have r5 : RpAll F κ4 (fun a => U a ∨ a = D) H4 vs ds := (r.post p2).post p4
      cases b with
      | false =>
        refine iteF ⟨κ4, C4, vs, ds, p5, e5, nk4, r5, ?_⟩
        rw [q, eb]
        rfl
      | true =>
        refine iteT ⟨κ4, _, δ', C4, cx2.post p4, ?_⟩
        rw [if_pos rfl, bind_assoc] at hb
        refine (BR.Fin.sig hb.bind.eq).mono fun dd C6 κ6 H6 p6 ⟨ed, hd⟩ yv ry => ?_
        have e6 : H6 D = some (.lst vs) := p6.fx.keep _ _ e5 nk4 fun _ z => nomatch z
        have nk6 : D ∉ κ6 := p6.gr.notMem nk4 e5
        have p7 := p5.trans p6
        have q2 : r0 = (mapR (lcF t vs0 δ fc fe) (xs.drop (i + 1)) C6).bind fun zs C => lcEnd ((ds ++ [dd]) ++ zs) C := by
          rw [q, eb]
          show ((if true = true then (fe δ' C4).bind fun d C => Res.ok [d] C else Res.ok [] C4)).bind _ = _
          rw [if_pos rfl, ed]
          show (mapR (lcF t vs0 δ fc fe) (xs.drop (i + 1)) C6).bind (fun zs C => lcEnd (ds ++ ([dd] ++ zs)) C) = _
          congr 1
          funext zs C
          rw [List.append_assoc]
        have h9 := h1
        rw [q2] at h9
        have hz : (ds ++ [dd]).length ≤ big := lc_room h9
        have lv := r.length
        refine ⟨vs, e6, ?_, ?_⟩
        · rw [List.length_append, List.length_singleton] at hz
          rw [lv, sizeLine_eq]
          unfold big at hz
          omega
        · have z := lc_app (U := U) (d := dd) (y := yv) (ds := ds) hD p7 e6 nk6 (c1.into hD p7 e6).1 (r5.post p6) ry
          exact ⟨κ6, C6, vs ++ [yv], ds ++ [dd], z.1, upd_same, nk6, z.2, q2⟩
  · rw [List.drop_length] at q
    have q : r0 = lcEnd ds C' := by rw [q]; show lcEnd (ds ++ []) C' = _; rw [List.append_nil]
    rw [q] at h1
    by_cases g : ds.length ≤ big
    · rw [show lcEnd ds C' = Res.ok (PyData.list ds) C' from if_pos g] at h1
      exact h1 κ' H' p D vs ds rfl (p1.free cx.sr hD) e nU nk' (r.weak fun a h => .inl h)
    · rw [show lcEnd ds C' = Res.stuck from if_neg g] at h1
      exact h1.elim
theorem lc_read {t : Tg} {vs0 : List Nat} {fI : VEnv → List Cell → Res (List PyData)} {fc : VEnv → List Cell → Res Bool} {fe : VEnv → List Cell → Res PyData} (hts : ∀ j ∈ tgSlots t, j ∈ vs0) {σ : L2.St} {H : Hp} {Q : VK}
    (h : rdE F W (fun δ C => (fI δ C).bind fun xs C => (mapR (lcF t vs0 δ fc fe) xs C).bind lcEnd) σ H Q) : tLc (rdI F W fI) (rdG F t) (rdT F W fc) (rdE F W fe) vs0 σ H Q := lc_readN hts h.toN
theorem r_lc {elt tg iter : Expr} {ifs : List Expr} {scope : Scope} {own : List (Str × Nat)} {pos : Pos} {t : Tg} {fI : VEnv → List Cell → Res (List PyData)} {fc : VEnv → List Cell → Res Bool} {fe : VEnv → List Cell → Res PyData}
    (hc : X.calm = true) (hN : X.N.Nodup) (hi : PI X tg iter (rdI F W fI)) (ok : BlkOk X.N X.env.scope scope own) (hts : ∀ j ∈ tgSlots t, j ∈ own.map (·.2))
    (hg : ∀ (s : Shared) (H : Hp) (C : Addr) (cl : List (Str × Addr)) (fp : List Addr), PG (X.blk s H scope (compEnvC scope cl C X.env) fp) tg (rdG F t)) (ht : ∀ (s : Shared) (H : Hp) (C : Addr) (cl : List (Str × Addr)) (fp : List Addr), PTs (X.blk s H scope (compEnvC scope cl C X.env) fp) ifs (rdT F W fc))
    (he : ∀ (s : Shared) (H : Hp) (C : Addr) (cl : List (Str × Addr)) (fp : List Addr), PE (X.blk s H scope (compEnvC scope cl C X.env) fp) elt (rdE F W fe)) (hs : ∀ x, foldedSetIterable iter X.env x = pure x) :
    PE X (.ListComp elt [⟨tg, iter, ifs, 0⟩] scope pos) (rdE F W fun δ C => (fI δ C).bind fun xs C => (mapR (lcF t (own.map (·.2)) δ fc fe) xs C).bind lcEnd) := by
  exact wkE (pe_lc hc hN hi ok hg ht he hs) fun σ H Q h => lc_read hts h
end
end BR
set_option Elab.async false
set_option linter.all false
set_option maxRecDepth 100000
set_option maxHeartbeats 4000000
/-! comprehensions with two sources -/
namespace BR
open PySem PySem.Spec PyProof.Rows L2
section
variable {J : L2.It} {n : Nat} {G : Hp → Prop} {Y : Nat → Hp → V → Hp → Prop}
theorem lc_in (w : Walk J n G Y) {g : TG} {tt : TT} {te : TE} {vs : List Nat} {σ : L2.St} {H1 : Hp} {D : Addr} {Qd : Hp → Prop} (Pv : Nat → Hp → Prop) (h0 : Pv 0 H1) (hG : ∀ i H, i ≤ n → Pv i H → G H)
    (hs : ∀ i x H H', i < n → Pv i H → Y i H x H' → g x (wipe σ vs) H' fun σ2 H2 => wipe σ2 vs = wipe σ vs ∧ tt σ2 H2 fun b H3 =>
      if b = true then te σ2 H3 fun y H4 => ∃ acc, H4 D = some (.lst acc) ∧ acc.length < sizeLine ∧ Pv (i + 1) (upd H4 D (.lst (acc ++ [y]))) else Pv (i + 1) H3) (hd : ∀ H, Pv n H → Qd H) :
    ∃ W : Nat → Nat → Hp → Prop, (∃ m, W 0 m H1) ∧ ∀ i m H, W i m H →
      (J.stop i H ∧ Qd H) ∨ (J.go i H ∧ ∃ Nx : Hp → Prop, (∀ H', Nx H' → ∃ m', m' < m ∧ W (i + 1) m' H') ∧ ∀ x H', J.yld i H x H' → g x (wipe σ vs) H' fun σ2 H2 => wipe σ2 vs = wipe σ vs ∧ tt σ2 H2 fun b H3 =>
        if b = true then te σ2 H3 fun y H4 => ∃ acc, H4 D = some (.lst acc) ∧ acc.length < sizeLine ∧ Nx (upd H4 D (.lst (acc ++ [y]))) else Nx H3) := by
  refine ⟨fun i m H => m = n - i ∧ i ≤ n ∧ Pv i H, ⟨n, by simp, Nat.zero_le _, h0⟩, ?_⟩
  rintro i m H ⟨rfl, hi, p⟩
  have q := hG i H hi p
  by_cases hlt : i < n
  · refine .inr ⟨w.goes i H hlt q, Pv (i + 1), fun H' p' => ⟨n - (i + 1), by omega, rfl, hlt, p'⟩, fun x H' y => hs i x H H' hlt p (w.yields i H x H' hlt q y)⟩
  · have e : i = n := by omega
    subst e
    exact .inl ⟨w.stops H q, hd H p⟩
end
section
variable {X : Cx} {F : Fix} {W : WX}
theorem Ctx.move {κ κ' : List Addr} {U : Addr → Prop} {H H' : Hp} {σ : L2.St} {δ : VEnv} {C C' : List Cell} (cx : Ctx F κ U H σ δ C) (f : Fv κ U H H') (g : Grow κ H κ') (s : Sr F κ' H' C') (al : ∀ a, U a → ∃ xs, H' a = some (.lst xs)) : Ctx F κ' U H' σ δ C' :=
  ⟨s, al, fun i d h => by obtain ⟨v, q, r⟩ := cx.sl i d h; exact ⟨v, q, r.monoV cx.al f g⟩⟩
theorem Ctx.wiped {κ : List Addr} {U : Addr → Prop} {H : Hp} {σ : L2.St} {δ : VEnv} {C : List Cell} {ws : List Nat} (cx : Ctx F κ U H σ δ C) : Ctx F κ U H (wipe σ ws) (wipeD δ ws) C := by
  refine ⟨cx.sr, cx.al, fun i d h => ?_⟩
  obtain ⟨h1, h2⟩ := wipeD_some h
  obtain ⟨v, q, r⟩ := cx.sl i d h1
  exact ⟨v, by rw [wipe_out h2]; exact q, r⟩
abbrev lcF2 (t : Tg) (vs : List Nat) (δ : VEnv) (fc : VEnv → List Cell → Res Bool) (fI1 : VEnv → List Cell → Res (List PyData)) (t1 : Tg) (vs1 : List Nat) (fc1 : VEnv → List Cell → Res Bool) (fe : VEnv → List Cell → Res PyData) : PyData → List Cell → Res (List PyData) := fun x C => (opt (bindT t x (wipeD δ vs)) C).bind fun δ' C => (fc δ' C).bind fun b C =>
      if b = true then (fI1 δ' C).bind fun ys C => mapR (lcF t1 vs1 δ' fc1 fe) ys C else .ok [] C
/-- the state of the inner loop -/
structure LcQ (F : Fix) (κ1 : List Addr) (U : Addr → Prop) (H1 : Hp) (κ5 : List Addr) (H5 : Hp) (D : Addr) (g : PyData → List Cell → Res (List PyData)) (rest : List PyData → List Cell → Res PyData) (r0 : Res PyData) (ys : List PyData) (i : Nat) (H' : Hp) : Prop where
  ex : ∃ κ' C' vs ds, Post F κ1 H1 κ' H' C' ∧ Fv κ5 (fun a => U a ∨ a = D) H5 H' ∧ Grow κ5 H5 κ' ∧ (∀ a, H' a = none → H5 a = none) ∧ H' D = some (.lst vs) ∧ D ∉ κ' ∧ RpAll F κ' (fun a => U a ∨ a = D) H' vs ds ∧ r0 = (mapR g (ys.drop i) C').bind fun zs C => rest (ds ++ zs) C
theorem lc_room2 {κ : List Addr} {H : Hp} {σ : L2.St} {P : PyData → List Cell → List Addr → Hp → Prop} {r : Res (List PyData)} {m : List Cell → Res (List PyData)} {ds : List PyData} (h : BR.Fin F W κ H σ (r.bind fun zs C => (m C).bind fun zs' C => lcEnd ((ds ++ zs) ++ zs') C) P) : ds.length ≤ big := by
  cases r with
  | ok zs C =>
    have h : BR.Fin F W κ H σ ((m C).bind fun zs' C => lcEnd ((ds ++ zs) ++ zs') C) P := h
    have := lc_room h
    rw [List.length_append] at this
    omega
  | exc _ _ _ => exact h.elim
  | stuck => exact h.elim
theorem grow_trans {κ κ1 κ2 : List Addr} {H H1 : Hp} (g : Grow κ H κ1) (h : Grow κ1 H1 κ2) (k : ∀ a, H1 a = none → H a = none) : Grow κ H κ2 := by
  obtain ⟨m, rfl, h1⟩ := g
  obtain ⟨m2, rfl, h2⟩ := h
  exact ⟨m ++ m2, by rw [List.append_assoc], fun a ha => (List.mem_append.mp ha).elim (h1 a) fun q => k a (h2 a q)⟩
theorem lc2_readN {t t1 : Tg} {vs0 vs1 : List Nat} {fI fI1 : VEnv → List Cell → Res (List PyData)} {fc fc1 : VEnv → List Cell → Res Bool} {fe : VEnv → List Cell → Res PyData} (hts : ∀ j ∈ tgSlots t, j ∈ vs0) (hts1 : ∀ j ∈ tgSlots t1, j ∈ vs1) {σ : L2.St} {H : Hp} {Q : VK}
    (h : rdN F W (fun δ C => (fI δ C).bind fun xs C => (mapR (lcF2 t vs0 δ fc fI1 t1 vs1 fc1 fe) xs C).bind lcEnd) σ H Q) : tLc2 (rdI F W fI) (rdG F t) (rdT F W fc) (rdI F W fI1) (rdG F t1) (rdT F W fc1) (rdE F W fe) vs0 vs1 σ H Q := by
  obtain ⟨κ, U, δ, C, cx, h⟩ := h
  refine ⟨κ, U, δ, C, cx, h.bind.mono fun xs C1 κ1 H1 p1 h1 J ⟨G, Y, w, gg, yy⟩ D hD => ?_⟩
  have c1 := cx.post p1
  have nU : ¬ U D := fun z => by obtain ⟨_, q⟩ := c1.al D z; rw [hD] at q; cases q
  have nk : D ∉ κ1 := c1.sr.fresh hD
  generalize hr0 : (mapR (lcF2 t vs0 δ fc fI1 t1 vs1 fc1 fe) xs C1).bind lcEnd = r0 at h1
  have h0 := Hv.newL (F := F) c1.hv hD (xs := []) (ds := []) .nil
  refine ⟨fun i m H' => m = xs.length - i ∧ i ≤ xs.length ∧ LcP F κ1 U H1 D (lcF2 t vs0 δ fc fI1 t1 vs1 fc1 fe) r0 xs i H', ⟨xs.length, by simp, Nat.zero_le _, ⟨κ1, C1, [], [], h0.1, upd_same, nk, .nil, hr0.symm⟩⟩, ?_⟩
  rintro i m H2 ⟨rfl, hi, ⟨κ', C', vs, ds, p, e, nk', r, q⟩⟩
  have hG := gg κ' H2 p.fx.fv p.gr
  by_cases hlt : i < xs.length
  · refine .inr ⟨w.goes i H2 hlt hG, LcP F κ1 U H1 D (lcF2 t vs0 δ fc fI1 t1 vs1 fc1 fe) r0 xs (i + 1), fun H' p' => ⟨xs.length - (i + 1), by omega, rfl, hlt, p'⟩, fun x H3 yl => ?_⟩
    have y := w.yields i H2 x H3 hlt hG yl
    have al2 := (c1.into hD p e).1
    obtain ⟨p2, d, hx, rx⟩ := yy κ' H2 C' (fun a => U a ∨ a = D) i x H3 p.fx.fv p.gr p.sr (fun a h => h.imp id fun q => by rw [q]; exact hD) al2 hlt y
    have p3 := p.trans p2
    have e3 : H3 D = some (.lst vs) := p2.fx.keep _ _ e nk' fun _ z => nomatch z
    have cb : Ctx F κ' (fun a => U a ∨ a = D) H3 (wipe σ vs0) (wipeD δ vs0) C' := c1.block hD p3 e3
    rw [drop_at hx] at q
    have q : r0 = ((lcF2 t vs0 δ fc fI1 t1 vs1 fc1 fe d C').bind fun ys C => (mapR (lcF2 t vs0 δ fc fI1 t1 vs1 fc1 fe) (xs.drop (i + 1)) C).bind fun zs C => lcEnd (ds ++ (ys ++ zs)) C) := by
      rw [q, mapR, bind_assoc]
      congr 1
      funext ys C
      rw [bind_assoc]
      rfl
    have hF : BR.Fin F W κ' H3 σ r0 _ := BR.Fin.post h1 p3
    rw [q] at hF
    have hF2 := hF.bind.bind
    obtain ⟨δ', eδ, _⟩ := hF2.opt
    have q : r0 = ((fc δ' C').bind fun b C => if b = true then (fI1 δ' C).bind fun ys C => mapR (lcF t1 vs1 δ' fc1 fe) ys C else .ok [] C).bind fun ys C => (mapR (lcF2 t vs0 δ fc fI1 t1 vs1 fc1 fe) (xs.drop (i + 1)) C).bind fun zs C => lcEnd (ds ++ (ys ++ zs)) C := by
      rw [q]
      show ((opt (bindT t d (wipeD δ vs0)) C').bind _).bind _ = _
      rw [eδ]
      rfl
    refine ⟨κ', (fun a => U a ∨ a = D), (wipeD δ vs0), C', d, δ', cb, rx, eδ, fun σ2 cx2 sb => ⟨?_, ?_⟩⟩
    · rw [sb.2 _ hts, wipe_wipe]
    · have hF : BR.Fin F W κ' H3 σ r0 _ := BR.Fin.post h1 p3
      rw [q, bind_assoc] at hF
      refine ⟨κ', _, δ', C', cx2, (BR.Fin.sig hF.bind.eq).mono fun b C4 κ4 H4 p4 ⟨eb, hb⟩ => ?_⟩
      have p5 := p3.trans p4
      have e5 : H4 D = some (.lst vs) := p4.fx.keep _ _ e3 nk' fun _ z => nomatch z
      have nk4 : D ∉ κ4 := p4.gr.notMem nk' e3
      have r5 : RpAll F κ4 (fun a => U a ∨ a = D) H4 vs ds := (r.post p2).post p4
      cases b with
      | false =>
        refine iteF ⟨κ4, C4, vs, ds, p5, e5, nk4, r5, ?_⟩
        rw [q, eb]
        rfl
      | true =>
        refine iteT ⟨κ4, _, δ', C4, cx2.post p4, ?_⟩
        rw [if_pos rfl, bind_assoc] at hb
        have c4 := cx2.post p4
        refine (BR.Fin.sig hb.bind.eq).mono fun ys C6 κ6 H6 p6 ⟨ey, hy⟩ J1 ⟨G1, Y1, w1, gg1, yy1⟩ => ?_
        have e6 : H6 D = some (.lst vs) := p6.fx.keep _ _ e5 nk4 fun _ z => nomatch z
        have nk6 : D ∉ κ6 := p6.gr.notMem nk4 e5
        have p7 := p5.trans p6
        have r6 : RpAll F κ6 (fun a => U a ∨ a = D) H6 vs ds := r5.post p6
        have c6 := c4.post p6
        obtain ⟨rest, hrest⟩ : ∃ rest : List PyData → List Cell → Res PyData, rest = fun es C => (mapR (lcF2 t vs0 δ fc fI1 t1 vs1 fc1 fe) (xs.drop (i + 1)) C).bind fun zs C => lcEnd (es ++ zs) C := ⟨_, rfl⟩
        have q6 : r0 = (mapR (lcF t1 vs1 δ' fc1 fe) ys C6).bind fun zs C => rest (ds ++ zs) C := by
          rw [q, eb, hrest]
          show ((if true = true then (fI1 δ' C4).bind fun ys C => mapR (lcF t1 vs1 δ' fc1 fe) ys C else .ok [] C4)).bind _ = _
          rw [if_pos rfl, ey]
          show (mapR (lcF t1 vs1 δ' fc1 fe) ys C6).bind _ = _
          congr 1
          funext us C
          show _ = (mapR (lcF2 t vs0 δ fc fI1 t1 vs1 fc1 fe) (xs.drop (i + 1)) C).bind fun zs C => lcEnd ((ds ++ us) ++ zs) C
          congr 1
          funext zs C
          rw [List.append_assoc]
        refine lc_in w1 (fun k H' => LcQ F κ1 U H1 κ6 H6 D (lcF t1 vs1 δ' fc1 fe) rest r0 ys k H')
          ⟨κ6, C6, vs, ds, p7, .refl _ _ _, .refl _ _, fun _ h => h, e6, nk6, r6, q6⟩ (fun k H' _ ⟨κ8, C8, vs8, ds8, p8, f8, g8, fr8, e8, nk8, r8, q8⟩ => gg1 κ8 H' f8 g8) (fun k x1 H8 H9 hk ⟨κ8, C8, vs8, ds8, p8, f8, g8, fr8, e8, nk8, r8, q8⟩ y1 => ?_) (fun H' ⟨κ8, C8, vs8, ds8, p8, f8, g8, fr8, e8, nk8, r8, q8⟩ => ?_)
        · have al8 := (c1.into hD p8 e8).1
          obtain ⟨p9, d1, hx1, rx1⟩ := yy1 κ8 H8 C8 (fun a => U a ∨ a = D) k x1 H9 f8 g8 p8.sr (fun a h => .inl h) al8 hk y1
          have p10 := p8.trans p9
          have e10 : H9 D = some (.lst vs8) := p9.fx.keep _ _ e8 nk8 fun _ z => nomatch z
          have f10 : Fv κ6 (fun a => U a ∨ a = D) H6 H9 := Fv.trans g8 f8 p9.fx.fv
          have fr10 : ∀ a, H9 a = none → H6 a = none := fun a h => fr8 a (p9.free p8.sr h)
          have al10 := (c1.into hD p10 e10).1
          have c10 : Ctx F κ8 (fun a => U a ∨ a = D) H9 (wipe σ2 vs1) (wipeD δ' vs1) C8 := (c6.move f10 g8 p9.sr al10).wiped
          rw [drop_at hx1] at q8
          have q8 : r0 = ((lcF t1 vs1 δ' fc1 fe d1 C8).bind fun us C => (mapR (lcF t1 vs1 δ' fc1 fe) (ys.drop (k + 1)) C).bind fun zs C => rest (ds8 ++ (us ++ zs)) C) := by
            rw [q8, mapR, bind_assoc]
            congr 1
            funext us C
            rw [bind_assoc]
            rfl
          have hF : BR.Fin F W κ8 H9 σ r0 _ := BR.Fin.post h1 p10
          rw [q8] at hF
          have hF2 := hF.bind.bind
          obtain ⟨δ2, eδ2, _⟩ := hF2.opt
          have q8 : r0 = ((fc1 δ2 C8).bind fun b C => if b = true then (fe δ2 C).bind fun d C => .ok [d] C else .ok [] C).bind fun us C => (mapR (lcF t1 vs1 δ' fc1 fe) (ys.drop (k + 1)) C).bind fun zs C => rest (ds8 ++ (us ++ zs)) C := by
            rw [q8]
            show ((opt (bindT t1 d1 (wipeD δ' vs1)) C8).bind _).bind _ = _
            rw [eδ2]
            rfl
          refine ⟨κ8, (fun a => U a ∨ a = D), (wipeD δ' vs1), C8, d1, δ2, c10, rx1, eδ2, fun σ3 cx3 sb3 => ⟨?_, ?_⟩⟩
          · rw [sb3.2 _ hts1, wipe_wipe]
          · have hF : BR.Fin F W κ8 H9 σ r0 _ := BR.Fin.post h1 p10
            rw [q8, bind_assoc] at hF
            refine ⟨κ8, _, δ2, C8, cx3, (BR.Fin.sig hF.bind.eq).mono fun b1 C11 κ11 H11 p11 ⟨eb1, hb1⟩ => ?_⟩
            have p12 := p10.trans p11
            have e12 : H11 D = some (.lst vs8) := p11.fx.keep _ _ e10 nk8 fun _ z => nomatch z
            have nk12 : D ∉ κ11 := p11.gr.notMem nk8 e10
            have r12 : RpAll F κ11 (fun a => U a ∨ a = D) H11 vs8 ds8 := (r8.post p9).post p11
            have f12 : Fv κ6 (fun a => U a ∨ a = D) H6 H11 := Fv.trans (κ1 := κ8) g8 f10 p11.fx.fv
            have g12 : Grow κ6 H6 κ11 := grow_trans g8 p11.gr fr10
            have fr12 : ∀ a, H11 a = none → H6 a = none := fun a h => fr10 a (p11.free p10.sr h)
            cases b1 with
            | false =>
              refine iteF ⟨κ11, C11, vs8, ds8, p12, f12, g12, fr12, e12, nk12, r12, ?_⟩
              rw [q8, eb1]
              rfl
            | true =>
              refine iteT ⟨κ11, _, δ2, C11, cx3.post p11, ?_⟩
              rw [if_pos rfl, bind_assoc] at hb1
              refine (BR.Fin.sig hb1.bind.eq).mono fun dd C13 κ13 H13 p13 ⟨ed, hd⟩ yv ry => ?_
              have e13 : H13 D = some (.lst vs8) := p13.fx.keep _ _ e12 nk12 fun _ z => nomatch z
              have nk13 : D ∉ κ13 := p13.gr.notMem nk12 e12
              have p14 := p12.trans p13
              have f14 : Fv κ6 (fun a => U a ∨ a = D) H6 H13 := Fv.trans (κ1 := κ11) g12 f12 p13.fx.fv
              have g14 : Grow κ6 H6 κ13 := grow_trans g12 p13.gr fr12
              have fr14 : ∀ a, H13 a = none → H6 a = none := fun a h => fr12 a (p13.free p12.sr h)
              have q13 : r0 = (mapR (lcF t1 vs1 δ' fc1 fe) (ys.drop (k + 1)) C13).bind fun zs C => rest ((ds8 ++ [dd]) ++ zs) C := by
                rw [q8, eb1]
                show ((if true = true then (fe δ2 C11).bind fun d C => Res.ok [d] C else Res.ok [] C11)).bind _ = _
                rw [if_pos rfl, ed]
                show (mapR (lcF t1 vs1 δ' fc1 fe) (ys.drop (k + 1)) C13).bind (fun zs C => rest (ds8 ++ ([dd] ++ zs)) C) = _
                congr 1
                funext zs C
                rw [List.append_assoc]
              have h9 := h1
              rw [q13, hrest] at h9
              have hz : (ds8 ++ [dd]).length ≤ big := lc_room2 h9
              have lv := r8.length
              refine ⟨vs8, e13, ?_, ?_⟩
              · rw [List.length_append, List.length_singleton] at hz
                rw [lv, sizeLine_eq]
                unfold big at hz
                omega
              · have z := lc_app (U := U) (d := dd) (y := yv) (ds := ds8) hD p14 e13 nk13 (c1.into hD p14 e13).1 (r12.post p13) ry
                refine ⟨κ13, C13, vs8 ++ [yv], ds8 ++ [dd], z.1, f14.upd (.inr (.inr (.inr rfl))), g14, fun a h => fr14 a ?_, upd_same, nk13, z.2, q13⟩
                by_cases ha : a = D
                · subst ha
                  rw [upd_same] at h
                  cases h
                · rw [upd_ne ha] at h
                  exact h
        · rw [List.drop_length] at q8
          refine ⟨κ8, C8, vs8, ds8, p8, e8, nk8, r8, ?_⟩
          rw [q8, hrest]
          show (mapR (lcF2 t vs0 δ fc fI1 t1 vs1 fc1 fe) (xs.drop (i + 1)) C8).bind (fun zs C => lcEnd ((ds8 ++ []) ++ zs) C) = _
          rw [List.append_nil]
  · have ei : i = xs.length := by omega
    subst ei
    refine .inl ⟨w.stops H2 hG, ?_⟩
    rw [List.drop_length] at q
    have q : r0 = lcEnd ds C' := by rw [q]; show lcEnd (ds ++ []) C' = _; rw [List.append_nil]
    rw [q] at h1
    by_cases g : ds.length ≤ big
    · rw [show lcEnd ds C' = Res.ok (PyData.list ds) C' from if_pos g] at h1
      exact h1 κ' H2 p D vs ds rfl (p1.free cx.sr hD) e nU nk' (r.weak fun a h => .inl h)
    · rw [show lcEnd ds C' = Res.stuck from if_neg g] at h1
      exact h1.elim
theorem r_lc2 {elt tg iter tg1 iter1 : Expr} {ifs ifs1 : List Expr} {scope : Scope} {own : List (Str × Nat)} {vs1 : List Nat} {pos : Pos} {t t1 : Tg} {fI fI1 : VEnv → List Cell → Res (List PyData)} {fc fc1 : VEnv → List Cell → Res Bool} {fe : VEnv → List Cell → Res PyData}
    (hc : X.calm = true) (hN : X.N.Nodup) (hi : PI X tg iter (rdI F W fI)) (ok : BlkOk X.N X.env.scope scope own) (hts : ∀ j ∈ tgSlots t, j ∈ own.map (·.2)) (hv : ∀ i ∈ vs1, i ∈ own.map (·.2)) (hts1 : ∀ j ∈ tgSlots t1, j ∈ vs1)
    (hg : ∀ (s : Shared) (H : Hp) (C : Addr) (cl : List (Str × Addr)) (fp : List Addr), PG (X.blk s H scope (compEnvC scope cl C X.env) fp) tg (rdG F t)) (ht : ∀ (s : Shared) (H : Hp) (C : Addr) (cl : List (Str × Addr)) (fp : List Addr), PTs (X.blk s H scope (compEnvC scope cl C X.env) fp) ifs (rdT F W fc))
    (hi1 : ∀ (s : Shared) (H : Hp) (C : Addr) (cl : List (Str × Addr)) (fp : List Addr), PI (X.blk s H scope (compEnvC scope cl C X.env) fp) tg1 iter1 (rdI F W fI1))
    (hg1 : ∀ (s : Shared) (H : Hp) (C : Addr) (cl : List (Str × Addr)) (fp : List Addr), PG (X.blk s H scope (compEnvC scope cl C X.env) fp) tg1 (rdG F t1)) (ht1 : ∀ (s : Shared) (H : Hp) (C : Addr) (cl : List (Str × Addr)) (fp : List Addr), PTs (X.blk s H scope (compEnvC scope cl C X.env) fp) ifs1 (rdT F W fc1))
    (he : ∀ (s : Shared) (H : Hp) (C : Addr) (cl : List (Str × Addr)) (fp : List Addr), PE (X.blk s H scope (compEnvC scope cl C X.env) fp) elt (rdE F W fe)) (hs : ∀ x, foldedSetIterable iter X.env x = pure x) (hs1 : ∀ env x, foldedSetIterable iter1 env x = pure x) :
    PE X (.ListComp elt [⟨tg, iter, ifs, 0⟩, ⟨tg1, iter1, ifs1, 0⟩] scope pos) (rdE F W fun δ C => (fI δ C).bind fun xs C => (mapR (lcF2 t (own.map (·.2)) δ fc fI1 t1 vs1 fc1 fe) xs C).bind lcEnd) :=
  wkE (pe_lc2 hc hN hi ok hv hg ht hi1 hg1 ht1 he hs hs1) fun σ H Q h => lc2_readN hts hts1 h.toN
end
end BR
set_option Elab.async false
set_option linter.all false
set_option maxRecDepth 100000
set_option maxHeartbeats 4000000
/-! cells that change; sets -/
namespace BR
open PySem PySem.Spec PyProof.Rows L2
section
variable {X : Cx} {F : Fix} {W : WX} {x y : Expr} {p : Pos} {fa fb : VEnv → List Cell → Res PyData}
theorem tup_step {κ : List Addr} {H : Hp} {a : Addr} {o : HO} (hm : a ∈ κ) : ∀ b u, b ∉ κ → XT H b u → XT (upd H a o) b u := fun b u hb hr => by
  have hne : b ≠ a := fun z => hb (z ▸ hm)
  obtain ⟨ob, hr, hd⟩ := hr
  exact ⟨ob, by rw [upd_ne hne]; exact hr, hd⟩
/-- a cell's content changes -/
theorem Hv.setC {κ : List Addr} {U : Addr → Prop} {H : Hp} {C : List Cell} {k : Nat} {a : Addr} {ds ds' : List PyData} {vs vs' : List V} {U2 : Addr → Prop} (hv : Hv F κ U H C) (hk : κ[k]? = some a) (hC : C[k]? = some (.lst ds)) (ha : H a = some (.lst vs)) (hf : flats ds' = true) (r : RpAll F κ U2 H vs' ds') :
    Post F κ H κ (upd H a (.lst vs')) (C.set k (.lst ds')) := by
  have hm : a ∈ κ := List.mem_of_getElem? hk
  have hkl : k < C.length := by
    rcases Nat.lt_or_ge k C.length with z | z
    · exact z
    · rw [List.getElem?_eq_none z] at hC; cases hC
  have step : ∀ b u, b ∉ κ → XT H b u → XT (upd H a (.lst vs')) b u := tup_step hm
  refine ⟨(Fx.refl κ H).upd (.inr hm), .refl _ _, (by obtain ⟨ys, ey⟩ := hv.sr.at hm; exact tab_chg hv.sr.tab ey), hv.sr.nd, by rw [List.length_set]; exact hv.sr.len, fun j b c h1 h2 => ?_⟩
  by_cases hj : k = j
  · subst hj
    rw [hk] at h1
    cases h1
    rw [List.getElem?_set] at h2
    simp only [if_true, hkl] at h2
    cases h2
    exact ⟨hf, vs', upd_same, r.flat_step step hf⟩
  · rw [List.getElem?_set_ne hj] at h2
    have hb : b ≠ a := fun z => by
      subst z
      have h3 := List.getElem?_eq_some_iff.mp hk
      have h4 := List.getElem?_eq_some_iff.mp h1
      obtain ⟨q1, e1⟩ := h3
      exact hj ((List.getElem?_inj q1 hv.sr.nd).mp (hk.trans h1.symm))
    have q := hv.sr.cell j b c h1 h2
    cases c with
    | lst es =>
      obtain ⟨g1, xs, g2, g3⟩ := q
      exact ⟨g1, xs, by rw [upd_ne hb]; exact g2, g3.flat_step step g1⟩
    | dct _ => exact q
    | ins _ _ => exact q
theorem flats_mem : ∀ {l : List PyData} {i : Nat} {z : PyData}, flats l = true → l[i]? = some z → flat z = true
  | [], i, z, _, e => by simp at e
  | y :: r, 0, z, h, e => by
    rw [flats, Bool.and_eq_true] at h
    have : y = z := by simpa using e
    rw [← this]
    exact h.1
  | y :: r, i + 1, z, h, e => by
    rw [flats, Bool.and_eq_true] at h
    exact flats_mem h.2 (by simpa using e)
theorem flats_erase : ∀ {l : List PyData} {i : Nat}, flats l = true → flats (l.eraseIdx i) = true
  | [], i, _ => rfl
  | y :: r, 0, h => by
    rw [flats, Bool.and_eq_true] at h
    exact h.2
  | y :: r, i + 1, h => by
    rw [flats, Bool.and_eq_true] at h
    rw [List.eraseIdx_cons_succ, flats, Bool.and_eq_true]
    exact ⟨h.1, flats_erase h.2⟩
theorem flats_set {d : PyData} (hd : flat d = true) : ∀ {l : List PyData} {i : Nat}, flats l = true → flats (l.set i d) = true
  | [], i, _ => rfl
  | y :: r, 0, h => by
    rw [flats, Bool.and_eq_true] at h
    rw [List.set_cons_zero, flats, Bool.and_eq_true]
    exact ⟨hd, h.2⟩
  | y :: r, i + 1, h => by
    rw [flats, Bool.and_eq_true] at h
    rw [List.set_cons_succ, flats, Bool.and_eq_true]
    exact ⟨h.1, flats_set hd h.2⟩
theorem r_cpop {ap : Pos} (hl : (ap.endLine == p.line) = true) (ho : plAt x = true) (hp : pl y = true) (ha : PE X x (rdE F W fa)) (hb : PE X y (rdE F W fb)) :
    PE X (.Call (.Attribute x ("pop" : Str) ap) [y] [] p) (rdE F W fun δ C => (fa δ C).bind fun x C => (fb δ C).bind fun y C => match cellOf C x, y with
    | some (k, .lst xs), .int i => if 0 ≤ i ∧ i ≤ 1000000 then (match xs[i.toNat]? with
      | some z => .ok z (C.set k (.lst (xs.eraseIdx i.toNat)))
      | none => .stuck) else .stuck
    | _, _ => .stuck) := by
  have hs : starEach [y] X.env = (false, eval y X.env) :: starEach [] X.env := pl_star hp
  refine wkE (pe_bm PySem.F.plainAttrs_list PySem.F.slot_list_pop PySem.F.type_list_pop mt_popAt ha (pa_cons hb pa_nil hs) (plAt_base ho) (by rw [hs]; rfl) hl hs rfl) fun σ H Q ⟨κ, U, δ, C, cx, h⟩ => ?_
  -- the receiver is a cell at the time of the call; a cell is a list all along
  refine ⟨κ, U, δ, C, cx, h.bind.eq.mono fun a C1 κ1 H1 p1 ⟨ea, h1⟩ v rv => ?_⟩
  have c1 := cx.post p1
  have hcell : ∃ k, a = hcell k := by
    revert h1
    cases fb δ C1 with
    | ok b C2 =>
      intro h1
      have h1 : BR.Fin F W κ1 H1 σ (match cellOf C2 a, b with
        | some (k, .lst xs), .int i => if 0 ≤ i ∧ i ≤ 1000000 then (match xs[i.toNat]? with
          | some z => .ok z (C2.set k (.lst (xs.eraseIdx i.toNat)))
          | none => .stuck) else .stuck
        | _, _ => .stuck) fun d _ κ' H' => ∀ v, Rp F κ' U H' v d → Q v H' := h1
      cases e : cellOf C2 a with
      | none => rw [e] at h1; exact h1.elim
      | some q =>
        obtain ⟨k, cc⟩ := q
        exact ⟨k, (cellOf_some e).1⟩
    | exc _ _ _ => exact fun h => h.elim
    | stuck => exact fun h => h.elim
  obtain ⟨k0, rfl⟩ := hcell
  cases rv with
  | @cell ad _ hk =>
    obtain ⟨xs0, hx0⟩ := c1.sr.at (List.mem_of_getElem? hk)
    refine ⟨.inl ⟨rfl, xs0, .of hx0⟩, κ1, U, δ, C1, c1, h1.bind.mono fun b C2 κ2 H2 p2 h2 w rw' => ?_⟩
    have hk2 := p2.gr.get hk
    cases e : cellOf C2 (hcell k0) with
    | none => rw [e] at h2; exact h2.elim
    | some q =>
      obtain ⟨k, cc⟩ := q
      obtain ⟨e1, e2⟩ := cellOf_some e
      have ek : k0 = k := by
        injection e1 with e1
        injection e1 with e1 _
        injection e1 with _ e1
        injection e1 with e1
        exact Int.ofNat.inj e1
      subst ek
      rw [e] at h2
      cases cc with
      | lst xs =>
        cases rw' with
        | int i =>
          simp only at h2
          by_cases hi : 0 ≤ i ∧ i ≤ 1000000
          · rw [if_pos hi] at h2
            cases ez : xs[i.toNat]? with
            | none => rw [ez] at h2; exact h2.elim
            | some z =>
              rw [ez] at h2
              have hv := (c1.post p2).hv
              obtain ⟨hf, vs, hvs, rvs⟩ := hv.sr.cell _ _ _ hk2 e2
              obtain ⟨zv, q1, q2⟩ := rvs.get ez
              have hlen : i.toNat < vs.length := by
                rcases Nat.lt_or_ge i.toNat vs.length with zz | zz
                · exact zz
                · rw [List.getElem?_eq_none zz] at q1; cases q1
              have hp := hv.setC hk2 e2 hvs (flats_erase (i := i.toNat) hf) (rvs.eraseIdx i.toNat)
              refine ⟨_, vs, i, i.toNat, zv, rfl, rfl, hvs, ?_, ?_, ?_, q1, h2 _ _ hp _ ?_⟩
              · omega
              · omega
              · exact PySem.StrLaws.seqIndex_nonneg hi.1 (by omega)
              · exact q2.flat_step (tup_step (List.mem_of_getElem? hk2)) (flats_mem hf ez)
          · rw [if_neg hi] at h2; exact h2.elim
        | _ => exact h2.elim
      | dct _ => exact h2.elim
      | ins _ _ => exact h2.elim
end
end BR
set_option Elab.async false
set_option linter.all false
set_option maxRecDepth 100000
set_option maxHeartbeats 4000000
/-! set(list of ints) -/
namespace BR
open PySem PySem.Spec PyProof.Rows L2
/-- an empty set as it is made -/
abbrev set0 (w : World) : Obj := { cls := .type "set", dict := none, data := .set #[] 0 (.fresh 0 0 (!w.params.followText "set-order")) }
section
variable {P : Program} {w : World} {A : Around} {E : Value → Shared → Prop} {s : Shared}
theorem set_of_list {l : Addr} {xs : Array Value} (ns : List Int) {Q : Value → Shared → Prop} (quiet : A.handled = none) (il : s.heap.IsList l xs) (ii : IntsAre xs.toList ns) (few : ns.length + 1 < scanBound)
    (k : ∀ (g : Heap) (tk c : Nat), SetR w g s.heap.objs.size (fun j => decide (j ∈ ns)) c → c ≤ ns.length → (∀ b o, s.heap.get? b = some o → g.get? b = some o) → Q (.ref s.heap.objs.size) { s with heap := g, toks := tk }) :
    wpAny (model P w) A (call (.type "set") [.ref l]) Q E s := by
  have size : xs.size = ns.length := by
    have z := ii.length
    rwa [Array.length_toList] at z
  obtain ⟨_, _, mro⟩ := F.called_set.mro
  have q1 := F.called_set.made
  have q2 := F.called_set.sub
  refine wpAny_call (codeAny_of_tree ?_)
  show wpAny _ _ (callAny (.type "set") _) _ _ _
  refine wpAny_pure ⟨PySem.Code.quiet_builtin _ (by decide +kernel), (codeAny_builtin F.entry_type_call ?_)⟩
  rw [Around.under_plain (weight_type_call_type "set" _ []) rfl]
  have q3 := F.called_set.notType
  have q4 := F.called_set.canCreate
  have q5 := F.typeCall_set_1 (.ref l)
  repeat any_goals first | assumption | wp_step
  refine codeAny_mono (code_set_led1 (.ref l) (E := E) (Q₁ := fun o t => o = .ref s.heap.objs.size ∧ t = { s with heap := s.heap.push (set0 w) }) ⟨rfl, rfl⟩) fun r t hr => ?_
  cases r with
  | error _ => exact hr
  | ok fl =>
    cases fl with
    | ret _ =>
      obtain ⟨rfl, rfl⟩ := hr
      have at0 : (s.heap.push (set0 w)).get? s.heap.objs.size = some (set0 w) := Heap.get?_push_size _ rfl
      have isT : Shared.TypeIs { s with heap := s.heap.push (set0 w) } (.ref s.heap.objs.size) "set" := ⟨_, at0, rfl⟩
      have q6 := F.called_set.init.lookup
      have q7 := F.called_set.init.bind (.ref s.heap.objs.size)
      repeat any_goals first | assumption | wp_step
      refine codeAny_mono (codeAny_call_builtin (R := wants (fun r t => r = .none ∧ ∃ g tk c, t = { s with heap := g, toks := tk } ∧ SetR w g s.heap.objs.size (fun j => decide (j ∈ ns)) c ∧ c ≤ ns.length ∧ ∀ b o, s.heap.get? b = some o → g.get? b = some o) E)
        F.called_set.init.plain F.entry_set_init (check_set_init_1 isT ?_)) fun r t hr => ?_
      · obtain ⟨⟨oc, od, dt, sl⟩, e0, e1, m, e2⟩ := il
        simp only at e1 e2
        subst e1 e2
        have lp : (s.heap.push (set0 w)).get? l = some ⟨.type "list", od, .seq xs m, sl⟩ := Heap.get?_push_of_some _ e0
        have q8 := F.sub_list_set
        have q9 := F.sub_list_frozenset
        have qa : (Value.type "list" == Value.type "dict") = false := by decide
        have il2 : (s.heap.push (set0 w)).IsList l xs := ⟨_, lp, rfl, m, rfl⟩
        unfold Builtin.«set.__init__» noKeywords Builtin.Frozenset.updateFrom
        generalize gp : pyIter = pI
        wp_walk
        subst gp
        refine wpAny_pyIter_list il2 (wpAny_bind (wpAny_runValue ?_))
        have below : l < s.heap.objs.size := Heap.lt_size e0
        have apart : l ≠ (s.heap.push (set0 w)).objs.size := by
          rw [Heap.size_push]
          exact Nat.ne_of_lt (Nat.lt_succ_of_lt below)
        have out : s.heap.objs.size ∉ [(s.heap.push (set0 w)).objs.size, l] := by
          rw [Heap.size_push]
          intro z
          rcases List.mem_cons.mp z with z | z
          · exact Nat.ne_of_lt (Nat.lt_succ_self _) z
          · exact Nat.ne_of_gt below (List.mem_singleton.mp z)
        refine set_update_ints ((Walks.list (by simp [quiet]) _ l apart xs).toS) s.heap.objs.size out ns size few (fun i v hv => ?_) (xs.size - 0) 0 _ (by omega) (Nat.zero_le _) ⟨⟨_, Heap.get?_push_size _ rfl, rfl, rfl⟩, il2.push _⟩ ?_ ?_
        · have lt : i < ns.length := by
            rw [← size]
            exact (Array.getElem?_eq_some_iff.mp hv).1
          obtain ⟨t, e⟩ := PyProof.Rows.IntsAre.int_at ii i v (by rw [Array.getElem?_toList]; exact hv)
          refine ⟨ns[i], t, List.getElem?_eq_getElem lt, ?_⟩
          rw [e, List.getD_eq_getElem?_getD, List.getElem?_eq_getElem lt] <;> rfl
        · exact ⟨0, Nat.le_refl 0, setR_new_at (Heap.get?_push_of_some _ at0)⟩
        · intro t c mv hc hS
          obtain ⟨g, ge, dr, tk, os⟩ := t
          obtain rfl : ge = s.gens := mv.gens
          obtain rfl : dr = s.drawn := mv.drawn
          obtain rfl : os = s.os := mv.os
          show wpAny _ _ _ _ _ _
          refine wpAny_pure ?_
          show wpAny _ _ (ret Value.none) _ _ _
          rw [size] at hc
          refine wpAny_pure ⟨rfl, g, tk, c, rfl, hS, hc, fun b o e => mv.heap b o (fun z => ?_) (Heap.get?_push_of_some _ (Heap.get?_push_of_some _ e))⟩
          have lt := Heap.lt_size e
          rcases List.mem_cons.mp z with z | z
          · exact Nat.ne_of_lt lt z
          · rw [Heap.size_push] at z
            exact Nat.ne_of_lt (Nat.lt_succ_of_lt lt) (List.mem_singleton.mp z)
      · cases r with
        | error _ => exact hr
        | ok fl =>
          cases fl with
          | ret _ =>
            obtain ⟨rfl, g, tk, c, rfl, hS, hc, kp⟩ := hr
            repeat any_goals first | assumption | wp_step
            exact k g tk c hS hc kp
          | _ => exact hr.elim
    | _ => exact hr.elim
end
end BR
set_option Elab.async false
set_option linter.all false
set_option maxRecDepth 100000
set_option maxHeartbeats 4000000
/-! sorted(set(..)) of ints -/
namespace BR
open PySem PySem.Spec PyProof.Rows L2
theorem insI_mem {k j : Int} : ∀ {l : List Int}, j ∈ insI k l ↔ j = k ∨ j ∈ l
  | [] => by simp [insI]
  | x :: r => by
    unfold insI
    split
    · simp
    · split
      · rename_i e
        subst e
        simp
      · rw [List.mem_cons, insI_mem, List.mem_cons]
        constructor
        · rintro (h | h | h)
          · exact .inr (.inl h)
          · exact .inl h
          · exact .inr (.inr h)
        · rintro (h | h | h)
          · exact .inr (.inl h)
          · exact .inl h
          · exact .inr (.inr h)
theorem insI_lt {k : Int} : ∀ {l : List Int}, l.Pairwise (· < ·) → (insI k l).Pairwise (· < ·)
  | [], _ => by simp [insI]
  | x :: r, h => by
    obtain ⟨h1, h2⟩ := List.pairwise_cons.mp h
    unfold insI
    split
    · rename_i e
      refine List.pairwise_cons.mpr ⟨fun y hy => ?_, h⟩
      rcases List.mem_cons.mp hy with rfl | hy
      · exact e
      · have := h1 y hy
        omega
    · split
      · exact h
      · rename_i e1 e2
        refine List.pairwise_cons.mpr ⟨fun y hy => ?_, insI_lt h2⟩
        rcases insI_mem.mp hy with rfl | hy
        · omega
        · exact h1 y hy
theorem setI_mem {j : Int} : ∀ {l : List Int}, j ∈ setI l ↔ j ∈ l
  | [] => by simp [setI]
  | x :: r => by
    show j ∈ insI x (setI r) ↔ _
    rw [insI_mem, setI_mem, List.mem_cons]
theorem setI_lt : ∀ {l : List Int}, (setI l).Pairwise (· < ·)
  | [] => by simp [setI]
  | x :: r => insI_lt setI_lt
theorem lt_same : ∀ {l m : List Int}, l.Pairwise (· < ·) → m.Pairwise (· < ·) → (∀ k, k ∈ l ↔ k ∈ m) → l = m
  | [], [], _, _, _ => rfl
  | [], y :: m, _, _, h => absurd ((h y).mpr List.mem_cons_self) (by simp)
  | x :: l, [], _, _, h => absurd ((h x).mp List.mem_cons_self) (by simp)
  | x :: l, y :: m, h1, h2, h => by
    obtain ⟨a1, a2⟩ := List.pairwise_cons.mp h1
    obtain ⟨b1, b2⟩ := List.pairwise_cons.mp h2
    have e : x = y := by
      have p := (h x).mp List.mem_cons_self
      have q := (h y).mpr List.mem_cons_self
      rcases List.mem_cons.mp p with e | p
      · exact e
      · rcases List.mem_cons.mp q with e | q
        · exact e.symm
        · have := a1 y q
          have := b1 x p
          omega
    subst e
    congr 1
    refine lt_same a2 b2 fun k => ⟨fun hk => ?_, fun hk => ?_⟩
    · rcases List.mem_cons.mp ((h k).mp (List.mem_cons_of_mem _ hk)) with e | z
      · have := a1 k hk
        omega
      · exact z
    · rcases List.mem_cons.mp ((h k).mpr (List.mem_cons_of_mem _ hk)) with e | z
      · have := b1 k hk
        omega
      · exact z
section
variable {X : Cx} {F : Fix} {W : WX} {x : Expr} {p p1 p2 p3 : Pos} {fa : VEnv → List Cell → Res PyData}
theorem bt_sorted : bootBuiltins ("sorted" : Str) = some (.builtin "sorted") := by decide +kernel
theorem bt_set : bootBuiltins ("set" : Str) = some (.type "set") := by decide +kernel
theorem ints_rp {κ : List Addr} {U : Addr → Prop} {H : Hp} (l : List Int) : RpAll F κ U H (l.map V.int) (l.map PyData.int) := by
  induction l with
  | nil => exact .nil
  | cons a r ih => exact .cons (.int a) ih
theorem bt_len0 : bootBuiltins ("len" : Str) = some (.builtin "len") := by decide +kernel
theorem r_sset (hc : X.calm = true) (hK : F.K = X.K) (hg : Gl X ("sorted" : Str)) (hm : X.mg ("sorted" : Str) = none) (hg2 : Gl X ("set" : Str)) (hm2 : X.mg ("set" : Str) = none) (hp : pl x = true) (ha : PE X x (rdE F W fa)) :
    PE X (.Call (.Name ("sorted" : Str) p1) [.Call (.Name ("set" : Str) p2) [x] [] p3] [] p) (rdE F W fun δ C => (fa δ C).bind fun d C => opt (ssetF d) C) := by
  have hs := pl_star (es := []) (env := X.env) hp
  refine ⟨fun pins s σ H Q I h => ?_⟩
  refine Call_ (ld_blt I hg hm bt_sorted (PyProof.Rows.callWith_builtin1 (PyProof.Rows.args_cons (Call_ (ld_blt I hg2 hm2 bt_set (PyProof.Rows.callWith_type1 (PyProof.Rows.args_cons (thn (ha.run pins s σ H _ I (one h)) fun v s1 ⟨x, H1, I1, r1, q1⟩ => PyProof.Rows.args_nil ?_) hs) hs rfl))) rfl) rfl rfl))
  obtain ⟨κ, U, C, d, hv, rd, h⟩ := q1
  obtain ⟨z, e, k⟩ := fin_give h
  have e1 : (match itemsOf d with | some xs => (intsOf xs).bind fun ns => gd (decide (ns.length < 60)) (.list ((setI ns).map .int)) | none => none) = some z := e
  cases hi : itemsOf d with
  | none => rw [hi] at e1; cases e1
  | some ds =>
    rw [hi] at e1
    have e1 : ((intsOf ds).bind fun ns => gd (decide (ns.length < 60)) (.list ((setI ns).map .int))) = some z := e1
    cases hn : intsOf ds with
    | none => rw [hn] at e1; cases e1
    | some ns =>
      rw [hn] at e1
      obtain ⟨g, rfl⟩ := gd_some (show gd _ _ = some z from e1)
      have g := of_decide_eq_true g
      have go : ∀ (hh : Heap) (tk c : Nat), SetR X.w hh s1.heap.objs.size (fun j => decide (j ∈ ns)) c → c ≤ ns.length → (∀ b o, s1.heap.get? b = some o → hh.get? b = some o) →
          wpAny (model X.prog X.w) X.A (call (.builtin "sorted") [.ref s1.heap.objs.size]) (EP X pins σ Q) X.xe { s1 with heap := hh, toks := tk } := fun hh tk c R hcn kp => by
        have I2 : Inv X pins σ H1 { s1 with heap := hh, toks := tk } := I1.kept kp
        refine sorted_set R (I2.ok.hd hc) (by omega) fun s' q out cc ms k1 g1 o1 hq hg hi hs hmm hl => ?_
        have em : ms = setI ns := lt_same hs setI_lt fun j => by
          rw [hmm, setI_mem]
          exact decide_eq_true_iff
        subst em
        have hnn : H1 q = none := I2.hok.fresh hq
        have hlen : ((setI ns).map V.int).length ≤ sizeLine := by rw [List.length_map, hl, sizeLine_eq]; omega
        have J : Inv X pins σ (upd H1 q (.lst ((setI ns).map V.int))) { s1 with heap := s'.heap, gens := s'.gens, drawn := s'.drawn, toks := s'.toks } :=
          Inv.call (s := { s1 with heap := hh, toks := tk }) (ch := []) I2 (Un.laid k1 hq hnn) (I2.hok.laid k1 hq ⟨hlen, out.toList, cc, vals_of_ints hi, hg⟩) (by rw [g1]; exact I2.bare) (fun _ z => nomatch z)
        have es : s' = { s1 with heap := s'.heap, gens := s'.gens, drawn := s'.drawn, toks := s'.toks } := by
          obtain ⟨a1, a2, a3, a4, a5⟩ := s'
          obtain rfl : a5 = s1.os := o1
          rfl
        rw [es]
        have n := hv.newL hnn (ints_rp (F := F) (κ := κ) (U := U) (setI ns))
        exact ⟨.ref q, _, J, rfl, k _ _ n.1 n.2⟩
      cases rd with
      | lst w1 w2 w3 w4 =>
        cases hi
        cases r1
        obtain ⟨ev, _⟩ := w4.ints hn
        obtain ⟨its, rv, pl', hz⟩ := I1.list (.of w1)
        rw [ev] at rv
        exact set_of_list ns (I1.ok.hd hc) pl'.isList (by simpa using RZ.intsAre_vals rv) (by unfold scanBound; omega) fun g tk c R hcn kp => PyProof.Rows.args_nil (go g tk c R hcn kp)
      | tup w1 w4 =>
        cases hi
        cases r1
        obtain ⟨ev, _⟩ := w4.ints hn
        obtain ⟨its, rv, pl', hz⟩ := I1.tuple (hK ▸ sqT_of w1)
        rw [ev] at rv
        exact call_set_tupI ns (I1.ok.hd hc) pl' (by simpa using RZ.intsAre_vals rv) (by unfold scanBound; omega) fun g tk c R hcn kp => PyProof.Rows.args_nil (go g tk c R hcn kp)
      | _ => cases hi
theorem r_lset (hc : X.calm = true) (hK : F.K = X.K) (hg : Gl X ("len" : Str)) (hm : X.mg ("len" : Str) = none) (hg2 : Gl X ("set" : Str)) (hm2 : X.mg ("set" : Str) = none) (hp : pl x = true) (ha : PE X x (rdE F W fa)) :
    PE X (.Call (.Name ("len" : Str) p1) [.Call (.Name ("set" : Str) p2) [x] [] p3] [] p) (rdE F W fun δ C => (fa δ C).bind fun d C => opt (lsetF d) C) := by
  have hs := pl_star (es := []) (env := X.env) hp
  refine ⟨fun pins s σ H Q I h => ?_⟩
  refine Call_ (ld_blt I hg hm bt_len0 (PyProof.Rows.callWith_builtin1 (PyProof.Rows.args_cons (Call_ (ld_blt I hg2 hm2 bt_set (PyProof.Rows.callWith_type1 (PyProof.Rows.args_cons (thn (ha.run pins s σ H _ I (one h)) fun v s1 ⟨x, H1, I1, r1, q1⟩ => PyProof.Rows.args_nil ?_) hs) hs rfl))) rfl) rfl rfl))
  obtain ⟨κ, U, C, d, hv, rd, h⟩ := q1
  obtain ⟨z, e, k⟩ := fin_give h
  have e1 : (match itemsOf d with | some xs => (intsOf xs).bind fun ns => gd (decide (ns.length < 60)) (.int (setI ns).length) | none => none) = some z := e
  cases hi : itemsOf d with
  | none => rw [hi] at e1; cases e1
  | some ds =>
    rw [hi] at e1
    have e1 : ((intsOf ds).bind fun ns => gd (decide (ns.length < 60)) (.int (setI ns).length)) = some z := e1
    cases hn : intsOf ds with
    | none => rw [hn] at e1; cases e1
    | some ns =>
      rw [hn] at e1
      obtain ⟨g, rfl⟩ := gd_some (show gd _ _ = some z from e1)
      have g := of_decide_eq_true g
      have go : ∀ (hh : Heap) (tk c : Nat), SetR X.w hh s1.heap.objs.size (fun j => decide (j ∈ ns)) c → c ≤ ns.length → (∀ b o, s1.heap.get? b = some o → hh.get? b = some o) →
          wpAny (model X.prog X.w) X.A (call (.builtin "len") [.ref s1.heap.objs.size]) (EP X pins σ Q) X.xe { s1 with heap := hh, toks := tk } := fun hh tk c R hcn kp => by
        have I2 : Inv X pins σ H1 { s1 with heap := hh, toks := tk } := I1.kept kp
        obtain ⟨o, es, ep, t, ho, hex, hd, gd0, nd, hmm, hb, hf, hn2, hr, hl⟩ := R
        have hlen : es.size = (setI ns).length := by
          have nd2 : (setI ns).Nodup := setI_lt.imp fun h e => by omega
          have pm := (List.perm_ext_iff_of_nodup nd nd2).mpr fun j => by
            rw [← hmm j, setI_mem]
            exact decide_eq_true_iff
          have := pm.length_eq
          rw [List.length_map, Array.length_toList] at this
          exact this
        refine call_len_set ho hex hd hf (by rw [hn2]; omega) ⟨.int (setI ns).length, H1, I2.tok _, ⟨_, by rw [hlen]⟩, k _ _ (.refl hv.sr) (.int _)⟩
      cases rd with
      | lst w1 w2 w3 w4 =>
        cases hi
        cases r1
        obtain ⟨ev, _⟩ := w4.ints hn
        obtain ⟨its, rv, pl', hz⟩ := I1.list (.of w1)
        rw [ev] at rv
        exact set_of_list ns (I1.ok.hd hc) pl'.isList (by simpa using RZ.intsAre_vals rv) (by unfold scanBound; omega) fun g tk c R hcn kp => PyProof.Rows.args_nil (go g tk c R hcn kp)
      | tup w1 w4 =>
        cases hi
        cases r1
        obtain ⟨ev, _⟩ := w4.ints hn
        obtain ⟨its, rv, pl', hz⟩ := I1.tuple (hK ▸ sqT_of w1)
        rw [ev] at rv
        exact call_set_tupI ns (I1.ok.hd hc) pl' (by simpa using RZ.intsAre_vals rv) (by unfold scanBound; omega) fun g tk c R hcn kp => PyProof.Rows.args_nil (go g tk c R hcn kp)
      | _ => cases hi
end
end BR
set_option Elab.async false
set_option linter.all false
set_option maxRecDepth 100000
set_option maxHeartbeats 4000000
/-! expressions: what is matched is so -/
namespace BR
open PySem PySem.Spec PyProof.Rows L2
section
variable {P : Program} {w : World} {F : Fix} {c : Cfg} {base : Heap} {n : Nat} {Φ : Oracle} {G : Str → Option PyData}
structure SE (P : Program) (w : World) (F : Fix) (c : Cfg) (base : Heap) (n : Nat) (Φ : Oracle) (G : Str → Option PyData) (sc : Scope) (e : E) (x : Expr) : Prop where
  pe : ∀ X, Lx P w F c base n X sc → PE X x (rdE F W0 (ev Φ G e))
  pt : noIf x = true → ∀ X, Lx P w F c base n X sc → PT X x (rdT F W0 fun δ C => tstR (ev Φ G e δ C))
structure SA (P : Program) (w : World) (F : Fix) (c : Cfg) (base : Heap) (n : Nat) (Φ : Oracle) (G : Str → Option PyData) (sc : Scope) (es : Es) (xs : List Expr) : Prop where
  pa : ∀ X, Lx P w F c base n X sc → PA X xs (rdA F W0 (evs Φ G es))
  pk : ∀ X, Lx P w F c base n X sc → ∀ kws : List Keyword, kws.map (·.value) = xs → PK X kws (rdA F W0 (evs Φ G es))
  pl : xs.all pl = true
  ln : ∀ δ C ds C', evs Φ G es δ C = .ok ds C' → ds.length = xs.length
  an : xs ≠ [] → ∀ X, Lx P w F c base n X sc → ∀ p, PE X (.BoolOp .And xs p) (rdE F W0 (evAnd Φ G es))
  or : xs ≠ [] → ∀ X, Lx P w F c base n X sc → ∀ p, PE X (.BoolOp .Or xs p) (rdE F W0 (evOr Φ G es))
  ta : xs ≠ [] → xs.all noIf = true → ∀ X, Lx P w F c base n X sc → ∀ p, PW X (.BoolOp .And xs p) (rdT F W0 fun δ C => tstR (evAnd Φ G es δ C))
  to : xs ≠ [] → xs.all noIf = true → ∀ X, Lx P w F c base n X sc → ∀ p, PW X (.BoolOp .Or xs p) (rdT F W0 fun δ C => tstR (evOr Φ G es δ C))
structure SO (P : Program) (w : World) (F : Fix) (c : Cfg) (base : Heap) (n : Nat) (Φ : Oracle) (G : Str → Option PyData) (sc : Scope) (e : Eo) : Prop where
  po : ∀ x, mO c sc e x = true → ∀ X, Lx P w F c base n X sc → PO X x (rdO F W0 (evo Φ G e))
  pc : ∀ xs, mC c sc e xs = true → ∀ X, Lx P w F c base n X sc → PTs X xs (rdT F W0 (evc Φ G e))
variable {sc : Scope} {e : E} {x : Expr}
theorem SE.val (h : ∀ X, Lx P w F c base n X sc → PE X x (rdE F W0 (ev Φ G e))) (he : ∀ env whole, isTrue x env whole = (do let v ← whole; standAt x.pos; holding [v] (truthy v))) : SE P w F c base n Φ G sc e x :=
  ⟨h, fun _ X L => t_val L.K (h X L) (he X.env)⟩
theorem mE_pl : ∀ {e : E} {x : Expr}, mE c sc e x = true → pl x = true := by
  intro e x h
  cases x with
  | Slice _ _ _ _ => cases e <;> (simp [mE] at h; done)
  | Set _ _ _ => cases e <;> (simp [mE] at h; done)
  | Starred _ _ => cases e <;> (simp [mE] at h; done)
  | _ => rfl
theorem mI_pl {i : It} {t x : Expr} (h : mI c sc i t x = true) : pl x = true := by
  cases i with
  | seq e => rw [mI, Bool.and_eq_true] at h; exact h.1
  | chars e => rw [mI, Bool.and_eq_true] at h; exact h.1
  | _ => cases x <;> first | rfl | (simp [mI] at h; done)
theorem Lx.bl {X : Cx} (L : Lx P w F c base n X sc) (M : Mx P w F c base n Φ G) {y : Str} (h : y ∈ blts.map Str.ofString) : X.mg y = none := by
  rw [← L.mg]
  obtain ⟨a, h1, rfl⟩ := List.mem_map.mp h
  exact M.blt a h1
theorem glb_ne {y : Str} {nm : Str} (h : (y == nm) = true) : y = nm := eq_of_beq h
theorem s_bi {X : Cx} {b : Bi} {y : Str} {p p1 : Pos} {x : Expr} {xs : List Expr} {es : Es} (L : Lx P w F c base n X sc) (M : Mx P w F c base n Φ G) (hrp : (!(decide (b = .repr)) || c.gd) = true) (hy : (y == (biName b : Str)) = true) (hg : glb sc y = true) (hp : (x :: xs).all pl = true) (ha : PA X (x :: xs) (rdA F W0 (evs Φ G es))) :
    PE X (.Call (.Name y p1) (x :: xs) [] p) (rdE F W0 fun δ C => (evs Φ G es δ C).bind fun ds C => opt (lenC C b ds) C) := by
  have e := glb_ne hy
  subst e
  have hu := L.hu
  obtain ⟨hgl, hdb⟩ := glb_of L.sc hg
  cases b with
  | len => exact r_blt (bi_len L.K) hgl (L.bl M (by decide)) (by decide +kernel) (by decide) hdb hp ha
  | sum => exact r_blt (g := fun _ ds => biF .sum ds) (bi_sum L.calm) hgl (L.bl M (by decide)) (by decide +kernel) (by decide) hdb hp ha
  | max1 => exact r_blt (g := fun _ ds => biF .max1 ds) (bi_max1 L.K L.calm (by omega)) hgl (L.bl M (by decide)) (by decide +kernel) (by decide) hdb hp ha
  | min1 => exact r_blt (g := fun _ ds => biF .min1 ds) (bi_min1 L.K L.calm (by omega)) hgl (L.bl M (by decide)) (by decide +kernel) (by decide) hdb hp ha
  | max2 => exact r_blt (g := fun _ ds => biF .max2 ds) (bi_max2 L.calm) hgl (L.bl M (by decide)) (by decide +kernel) (by decide) hdb hp ha
  | min2 => exact r_blt (g := fun _ ds => biF .min2 ds) (bi_min2 L.calm) hgl (L.bl M (by decide)) (by decide +kernel) (by decide) hdb hp ha
  | sorted => exact r_blt (g := fun _ ds => biF .sorted ds) (bi_sorted L.K L.hu) hgl (L.bl M (by decide)) (by decide +kernel) (by decide) hdb hp ha
  | tuple => exact r_blty (g := fun _ ds => biF .tuple ds) (bi_tuple L.K) hgl (L.bl M (by decide)) (by decide +kernel) (by decide) hdb hp ha
  | list => exact r_blty (g := fun _ ds => biF .list ds) (bi_list L.K) hgl (L.bl M (by decide)) (by decide +kernel) (by decide) hdb hp ha
  | all => exact r_blt (g := fun _ ds => biF .all ds) (bi_all L.calm) hgl (L.bl M (by decide)) (by decide +kernel) (by decide) hdb hp ha
  | any => exact r_blt (g := fun _ ds => biF .any ds) (bi_any L.calm) hgl (L.bl M (by decide)) (by decide +kernel) (by decide) hdb hp ha
  | int => exact r_blty (g := fun _ ds => biF .int ds) bi_int hgl (L.bl M (by decide)) (by decide +kernel) (by decide) hdb hp ha
  | abs => exact r_blt (g := fun _ ds => biF .abs ds) bi_abs hgl (L.bl M (by decide)) (by decide +kernel) (by decide) hdb hp ha
  | str => exact r_blty (g := fun _ ds => biF .str ds) bi_str hgl (L.bl M (by decide)) (by decide +kernel) (by decide) hdb hp ha
  | repr => exact r_blt (g := fun _ ds => biF .repr ds) (bi_repr L.K (L.gs (by simpa using hrp)) (by omega)) hgl (L.bl M (by decide)) (by decide +kernel) (by decide) hdb hp ha
  | divmod => exact r_blt (g := fun _ ds => biF .divmod ds) bi_divmod hgl (L.bl M (by decide)) (by decide +kernel) (by decide) hdb hp ha
theorem r_glo {X : Cx} {z : Str} {p : Pos} (L : Lx P w F c base n X sc) (M : Mx P w F c base n Φ G) (hg : glb sc z = true) : PE X (.Name z p) (rdE F W0 fun _ C => opt (G z) C) := by
  obtain ⟨hgl, hdb⟩ := glb_of L.sc hg
  cases hG : G z with
  | none => exact ⟨fun pins s σ H Q I ⟨κ, U, δ, C, cx, h⟩ => h.elim⟩
  | some d =>
    obtain ⟨v, u, hm, rv, hr⟩ := M.glo z d hG
    exact r_con (pe_glob hgl (L.mg ▸ hm) rv hdb) (fun σ H Q h => h) hr
theorem r_fnv {X : Cx} {z : Str} {k : Nat} {p : Pos} (L : Lx P w F c base n X sc) (M : Mx P w F c base n Φ G) (hg : glb sc z = true) (hk : c.fns[k]? = some z) : PE X (.Name z p) (rdE F W0 fun _ C => .ok (hfn k) C) := by
  obtain ⟨hgl, hdb⟩ := glb_of L.sc hg
  obtain ⟨f, fd, ps, hm, _⟩ := M.fns k z hk
  exact r_con (v := .ref f) (pe_glob (v := .ref f) (u := .ref f) hgl (L.mg ▸ hm) (show L2.RelV (.ref f) (.ref f) from rfl) hdb) (fun σ H Q h => h) fun κ U H => .fn (M.cf ▸ hk) hm
end
end BR
set_option Elab.async false
set_option linter.all false
set_option maxRecDepth 100000
set_option maxHeartbeats 4000000
/-! functions made within a def -/
namespace BR
open PySem PySem.Spec PyProof.Rows L2 LamX NdefX
section
variable {X : Cx} {pins : List (Addr × Obj)} {σ : L2.St} {H H1 : Hp} {s : Shared} {F : Fix} {κ : List Addr} {C : List Cell}
theorem inv_fun {nk : NK} {c : Addr} {o : Obj} {t' : Nat} {doc pm ctv : Value} (I : Inv X pins σ H s) (ho : o = { cls := .type "function", data := .func (nk.fd c doc pm ctv) }) :
    Inv X pins σ (upd H s.heap.objs.size (FunO s.heap.objs.size c nk)) { s with heap := s.heap.push o, toks := t' } := by
  subst ho
  have got : (s.heap.push ({ cls := .type "function", data := .func (nk.fd c doc pm ctv) } : Obj)).get? s.heap.objs.size = some ({ cls := .type "function", data := .func (nk.fd c doc pm ctv) } : Obj) := Heap.get?_push_size _ rfl
  refine I.laid (a := s.heap.objs.size) (fun _ _ e => Heap.get?_push_of_some _ e) (Nat.le_refl _) ⟨⟨_, _, doc, pm, ctv, got⟩, ⟨_, got⟩, ?_⟩
  rintro h1 h2 ⟨od, sl, d, p, t, z⟩ st
  exact ⟨od, sl, d, p, t, st _ z⟩
theorem clo_nil {cells : List (Str × Addr)} : ∀ {names : List (Str × NameKind)} {acc : List (Str × Addr)}, (names.all fun y => match y.2 with | .free => false | _ => true) = true → cloFrom cells names acc = acc
  | [], _, _ => rfl
  | (n, k) :: r, acc, h => by
    simp only [List.all_cons, Bool.and_eq_true] at h
    have hk : (k == NameKind.free) = false := by
      cases k <;> first | rfl | (exact absurd h.1 (by simp))
    show (if (k == NameKind.free) = true then _ else cloFrom cells r acc) = acc
    rw [hk]
    exact clo_nil h.2
theorem no_free {sc : Scope} (h : noFree sc = true) : ∀ y ∈ sc.names, y.2 ≠ .free := by
  intro y hy e
  have := List.all_eq_true.mp h y hy
  rw [e] at this
  cases this
/-- what is made leaves what was there -/
theorem post_made (sr : Sr F κ H C) (eN : ExtN H H1) (tb : ∀ a ps, H a = some (.tbl ps) → ∃ ps', H1 a = some (.tbl ps')) (T1 : TabsN F.tabs H1) : Post F κ H κ H1 C := by
  have fx : Fx κ H H1 := ⟨fun a o e _ ht => eN a o e ht, fun a ps e _ => tb a ps e⟩
  refine ⟨fx, .refl _ _, T1, sr.nd, sr.len, fun k a c h1 h2 => ?_⟩
  obtain ⟨xs, e⟩ := sr.at (List.mem_of_getElem? h1)
  exact CellOk.mono fx (.refl _ _) (by rw [e]; exact eN a _ e fun _ z => nomatch z) (sr.cell k a c h1 h2)
theorem made_rp {U : Addr → Prop} {k : Nat} {nk : NK} {f c : Addr} (sr : Sr F κ H C) (eN : ExtN H H1) (ok : F.okF k nk) (f0 : H f = none) (f1 : H1 f = some (FunO f c nk)) (c1 : H1 c = some (CodeO c nk.qual)) : Rp F κ U H1 (.ref f) (hnf k) := by
  refine .nfn ok f1 c1 (sr.fresh f0) fun hc => ?_
  obtain ⟨xs, e⟩ := sr.at hc
  have q := eN c _ e fun _ z => nomatch z
  rw [c1] at q
  unfold CodeO at q
  cases q
/-- a lambda is made -/
theorem lam_made {T : List NTab} {nm : Nat → Nat → Str} {c P : Addr} {params : Arguments} {body : Expr} {scope : Scope} {pos : Pos} {E : Value → Shared → Prop} {Q : Value → Shared → Prop} (I : Inv X pins σ H s) (TB : TabB X.base X.mg c P) (hcode : X.env.code = .ref c)
    (hm : (P, nm) ∈ T) (hn : nm pos.line pos.col = X.env.qual ++ ("<lambda>" : Str)) (hu : ∀ p ∈ T, p.1 = P → p.2 = nm) (hT : TabsN T H) (hdef : defaultsOf params X.env = ([], [])) (hfree : noFree scope = true)
    (h : ∀ (f c' : Addr) (H1 : Hp) (s' : Shared), Inv X pins σ H1 s' → ExtN H H1 → (∀ a ps, H a = some (.tbl ps) → ∃ ps', H1 a = some (.tbl ps')) → TabsN T H1 → H f = none → H1 f = some (FunO f c' (.lam (X.env.qual ++ ("<lambda>" : Str)) params body scope)) → H1 c' = some (CodeO c' (X.env.qual ++ ("<lambda>" : Str))) → Q (.ref f) s') :
    wpAny (model X.prog X.w) X.A (eval (.Lambda params body scope pos) X.env) Q E s := by
  obtain ⟨ps, tabP, trip, among⟩ := (show TabN H P nm from hT _ hm)
  have bP : s.heap.BuiltinsAt X.mg P := TB.bm.keeps I.bk
  have objP : s.heap.get? P = some { cls := .none, data := .fields ps } := I.hok P _ tabP
  have clo : closureFor scope X.env = pure [] := by
    have q := closure_ok (scope := scope) (env := X.env) fun y hy e => absurd e (no_free hfree y hy)
    rw [clo_nil hfree] at q
    exact q
  apply PySem.W.kla_eval hdef
  cases found : codeAmong pos ps.toList with
  | some cv =>
    obtain ⟨c', rfl, hco⟩ := among pos cv found
    rw [hn] at hco
    apply PySem.W.kla_makeFunctionHit (mg := X.mg) (c := c) (P := P) (ps := ps) clo I.ok.glob (I.mod.glob.keeps I.bk) hcode (TB.code.keeps I.bk) objP trip found bP
    intro ctv h' tk ext hsz
    have I1 : Inv X pins σ H { s with heap := h', toks := tk } := I.kept ext
    have new : H h'.objs.size = none := I1.hok.fresh (Nat.le_refl _)
    have I2 := inv_fun (nk := .lam (X.env.qual ++ ("<lambda>" : Str)) params body scope) (c := c') (t' := tk) (doc := .none) (pm := (X.mg "__name__").getD .none) (ctv := ctv) I1 rfl
    have up : ∀ b o, H b = some o → upd H h'.objs.size (FunO h'.objs.size c' (.lam (X.env.qual ++ ("<lambda>" : Str)) params body scope)) b = some o := fun b o e => by
      rw [upd_ne (ne_of_none e new)]
      exact e
    exact h h'.objs.size c' _ _ I2 (.of up) (fun b q e => ⟨q, up _ _ e⟩) (hT.ext up) new upd_same (up _ _ hco)
  | none =>
    apply PySem.W.kla_makeFunction (mg := X.mg) (c := c) (P := P) (ps := ps) clo I.ok.glob (I.mod.glob.keeps I.bk) hcode (TB.code.keeps I.bk) objP trip found TB.gP bP
    intro c' ctv h' tk ext hge hlt hrec htb
    obtain ⟨c2, oc, vs, t, e2, hoc, hd, hv⟩ := hrec
    cases e2
    have newC : H c' = none := I.hok.fresh hge
    have I1 := inv_table (t' := tk) (more := #[rawInt pos.line, rawInt pos.col, .ref c']) (h' := h') I tabP (fun b o hb e => ext b o hb e) htb hge ⟨oc, vs, t, hoc, hd, hv⟩
    have newF := I1.hok.fresh (Nat.le_refl _)
    have I2 := inv_fun (nk := .lam (X.env.qual ++ ("<lambda>" : Str)) params body scope) (c := c') (t' := tk) (doc := .none) (pm := (X.mg "__name__").getD .none) (ctv := ctv) I1 rfl
    -- all but the table stays
    have mid : ExtN H (upd (upd H P (.tbl (ps ++ #[rawInt pos.line, rawInt pos.col, .ref c']))) c' (CodeO c' (X.env.qual ++ ("<lambda>" : Str)))) := by
      intro b o e n
      have hbP : b ≠ P := fun z => by
        subst z
        rw [tabP] at e
        exact n ps (Option.some.inj e).symm
      rw [upd_ne (ne_of_none e newC), upd_ne hbP]
      exact e
    have eL : (ps ++ #[rawInt pos.line, rawInt pos.col, .ref c']).toList = ps.toList ++ [rawInt pos.line, rawInt pos.col, .ref c'] := by simp
    have T1 : TabsN T (upd (upd H P (.tbl (ps ++ #[rawInt pos.line, rawInt pos.col, .ref c']))) c' (CodeO c' (X.env.qual ++ ("<lambda>" : Str)))) := by
      intro p hp
      obtain ⟨ps', a1, a2, a3⟩ := hT p hp
      by_cases hb : p.1 = P
      · rw [hu p hp hb, hb]
        refine ⟨_, by rw [upd_ne (ne_of_none tabP newC), upd_same], by rw [eL]; exact PySem.TriplesOk_snoc _ _ _ _ trip, ?_⟩
        intro p' cv hcv
        rw [eL] at hcv
        rcases among_app2 _ trip hcv with z | ⟨z, z1, z2⟩
        · obtain ⟨c0, e1, e2⟩ := among p' cv z
          exact ⟨c0, e1, mid _ _ e2 codeO_ne⟩
        · refine ⟨c', z, ?_⟩
          rw [← z1, ← z2, hn]
          exact upd_same
      · refine ⟨ps', by rw [upd_ne (ne_of_none a1 newC), upd_ne hb]; exact a1, a2, ?_⟩
        intro p' cv hcv
        obtain ⟨c0, e1, e2⟩ := a3 p' cv hcv
        exact ⟨c0, e1, mid _ _ e2 codeO_ne⟩
    refine h h'.objs.size c' _ _ I2 (fun b o e n => ?_) (fun b q e => ?_) (T1.ext fun b o e => ?_) (I.hok.fresh (Nat.le_trans hge (Nat.le_of_lt hlt))) upd_same ?_
    · have e1 := mid b o e n
      rw [upd_ne (ne_of_none e1 newF)]
      exact e1
    · by_cases hb : b = P
      · subst hb
        have e1 : upd (upd H b (.tbl (ps ++ #[rawInt pos.line, rawInt pos.col, .ref c']))) c' (CodeO c' (X.env.qual ++ ("<lambda>" : Str))) b = some (.tbl (ps ++ #[rawInt pos.line, rawInt pos.col, .ref c'])) := by rw [upd_ne (ne_of_none tabP newC), upd_same]
        exact ⟨_, by rw [upd_ne (ne_of_none e1 newF)]; exact e1⟩
      · have e1 : upd (upd H P (.tbl (ps ++ #[rawInt pos.line, rawInt pos.col, .ref c']))) c' (CodeO c' (X.env.qual ++ ("<lambda>" : Str))) b = some (.tbl q) := by rw [upd_ne (ne_of_none e newC), upd_ne hb]; exact e
        exact ⟨q, by rw [upd_ne (ne_of_none e1 newF)]; exact e1⟩
    · rw [upd_ne (ne_of_none e newF)]
      exact e
    · rw [upd_ne (Nat.ne_of_lt hlt)]
      exact upd_same
/-- a def's function is made -/
theorem nd_made {T : List NTab} {nm : Nat → Nat → Str} {c P : Addr} {name : Str} {params : Arguments} {body : List Stmt} {scope : Scope} {pos : Pos} {E : Value → Shared → Prop} {Q : Value → Shared → Prop} (I : Inv X pins σ H s) (TB : TabB X.base X.mg c P) (hcode : X.env.code = .ref c)
    (hm : (P, nm) ∈ T) (hn : nm pos.line pos.col = X.env.qual ++ name) (hu : ∀ p ∈ T, p.1 = P → p.2 = nm) (hT : TabsN T H) (hfree : noFree scope = true)
    (h : ∀ (f c' : Addr) (H1 : Hp) (s' : Shared), Inv X pins σ H1 s' → ExtN H H1 → (∀ a ps, H a = some (.tbl ps) → ∃ ps', H1 a = some (.tbl ps')) → TabsN T H1 → H f = none → H1 f = some (FunO f c' (.dfn name (X.env.qual ++ name) params body scope)) → H1 c' = some (CodeO c' (X.env.qual ++ name)) → Q (.ref f) s') :
    wpAny (model X.prog X.w) X.A (makeFunction name (X.env.qual ++ name) params (.stmts body) scope X.env [] [] [] pos pos.line) Q E s := by
  obtain ⟨ps, tabP, trip, among⟩ := (show TabN H P nm from hT _ hm)
  have bP : s.heap.BuiltinsAt X.mg P := TB.bm.keeps I.bk
  have objP : s.heap.get? P = some { cls := .none, data := .fields ps } := I.hok P _ tabP
  have clo : closureFor scope X.env = pure [] := by
    have q := closure_ok (scope := scope) (env := X.env) fun y hy e => absurd e (no_free hfree y hy)
    rw [clo_nil hfree] at q
    exact q
  cases found : codeAmong pos ps.toList with
  | some cv =>
    obtain ⟨c', rfl, hco⟩ := among pos cv found
    rw [hn] at hco
    apply PySem.W.makeFunction_hit (mg := X.mg) (c := c) (P := P) (ps := ps) clo I.ok.glob (I.mod.glob.keeps I.bk) hcode (TB.code.keeps I.bk) objP trip found bP
    intro ctv doc h' tk ext hsz
    have I1 : Inv X pins σ H { s with heap := h', toks := tk } := I.kept ext
    have new : H h'.objs.size = none := I1.hok.fresh (Nat.le_refl _)
    have I2 := inv_fun (nk := .dfn name (X.env.qual ++ name) params body scope) (c := c') (t' := tk) (doc := doc) (pm := (X.mg "__name__").getD .none) (ctv := ctv) I1 rfl
    have up : ∀ b o, H b = some o → upd H h'.objs.size (FunO h'.objs.size c' (.dfn name (X.env.qual ++ name) params body scope)) b = some o := fun b o e => by
      rw [upd_ne (ne_of_none e new)]
      exact e
    exact h h'.objs.size c' _ _ I2 (.of up) (fun b q e => ⟨q, up _ _ e⟩) (hT.ext up) new upd_same (up _ _ hco)
  | none =>
    apply PySem.W.makeFunction_K (mg := X.mg) (c := c) (P := P) (ps := ps) clo I.ok.glob (I.mod.glob.keeps I.bk) hcode (TB.code.keeps I.bk) objP trip found TB.gP bP
    intro c' ctv doc h' tk ext hge hlt hrec htb
    obtain ⟨c2, oc, vs, t, e2, hoc, hd, hv⟩ := hrec
    cases e2
    have newC : H c' = none := I.hok.fresh hge
    have I1 := inv_table (t' := tk) (more := #[rawInt pos.line, rawInt pos.col, .ref c']) (h' := h') I tabP (fun b o hb e => ext b o hb e) htb hge ⟨oc, vs, t, hoc, hd, hv⟩
    have newF := I1.hok.fresh (Nat.le_refl _)
    have I2 := inv_fun (nk := .dfn name (X.env.qual ++ name) params body scope) (c := c') (t' := tk) (doc := doc) (pm := (X.mg "__name__").getD .none) (ctv := ctv) I1 rfl
    -- all but the table stays
    have mid : ExtN H (upd (upd H P (.tbl (ps ++ #[rawInt pos.line, rawInt pos.col, .ref c']))) c' (CodeO c' (X.env.qual ++ name))) := by
      intro b o e n
      have hbP : b ≠ P := fun z => by
        subst z
        rw [tabP] at e
        exact n ps (Option.some.inj e).symm
      rw [upd_ne (ne_of_none e newC), upd_ne hbP]
      exact e
    have eL : (ps ++ #[rawInt pos.line, rawInt pos.col, .ref c']).toList = ps.toList ++ [rawInt pos.line, rawInt pos.col, .ref c'] := by simp
    have T1 : TabsN T (upd (upd H P (.tbl (ps ++ #[rawInt pos.line, rawInt pos.col, .ref c']))) c' (CodeO c' (X.env.qual ++ name))) := by
      intro p hp
      obtain ⟨ps', a1, a2, a3⟩ := hT p hp
      by_cases hb : p.1 = P
      · rw [hu p hp hb, hb]
        refine ⟨_, by rw [upd_ne (ne_of_none tabP newC), upd_same], by rw [eL]; exact PySem.TriplesOk_snoc _ _ _ _ trip, ?_⟩
        intro p' cv hcv
        rw [eL] at hcv
        rcases among_app2 _ trip hcv with z | ⟨z, z1, z2⟩
        · obtain ⟨c0, e1, e2⟩ := among p' cv z
          exact ⟨c0, e1, mid _ _ e2 codeO_ne⟩
        · refine ⟨c', z, ?_⟩
          rw [← z1, ← z2, hn]
          exact upd_same
      · refine ⟨ps', by rw [upd_ne (ne_of_none a1 newC), upd_ne hb]; exact a1, a2, ?_⟩
        intro p' cv hcv
        obtain ⟨c0, e1, e2⟩ := a3 p' cv hcv
        exact ⟨c0, e1, mid _ _ e2 codeO_ne⟩
    refine h h'.objs.size c' _ _ I2 (fun b o e n => ?_) (fun b q e => ?_) (T1.ext fun b o e => ?_) (I.hok.fresh (Nat.le_trans hge (Nat.le_of_lt hlt))) upd_same ?_
    · have e1 := mid b o e n
      rw [upd_ne (ne_of_none e1 newF)]
      exact e1
    · by_cases hb : b = P
      · subst hb
        have e1 : upd (upd H b (.tbl (ps ++ #[rawInt pos.line, rawInt pos.col, .ref c']))) c' (CodeO c' (X.env.qual ++ name)) b = some (.tbl (ps ++ #[rawInt pos.line, rawInt pos.col, .ref c'])) := by rw [upd_ne (ne_of_none tabP newC), upd_same]
        exact ⟨_, by rw [upd_ne (ne_of_none e1 newF)]; exact e1⟩
      · have e1 : upd (upd H P (.tbl (ps ++ #[rawInt pos.line, rawInt pos.col, .ref c']))) c' (CodeO c' (X.env.qual ++ name)) b = some (.tbl q) := by rw [upd_ne (ne_of_none e newC), upd_ne hb]; exact e
        exact ⟨q, by rw [upd_ne (ne_of_none e1 newF)]; exact e1⟩
    · rw [upd_ne (ne_of_none e newF)]
      exact e
    · rw [upd_ne (Nat.ne_of_lt hlt)]
      exact upd_same
theorem noDf_of {ps : Arguments} {env : Env} (h : noDf ps = true) : ps.defaults = [] ∧ ps.kw_defaults = [] ∧ defaultsOf ps env = ([], []) := by
  unfold noDf at h
  rw [Bool.and_eq_true, List.isEmpty_iff, List.isEmpty_iff] at h
  cases ps
  obtain ⟨h1, h2⟩ := h
  subst h1
  subst h2
  exact ⟨rfl, rfl, rfl⟩
end
section
variable {P : Program} {w : World} {F : Fix} {c : Cfg} {base : Heap} {n : Nat} {Φ : Oracle} {G : Str → Option PyData} {sc : Scope}
theorem mk_facts {X : Cx} (L : Lx P w F c base n X sc) {x : Str} {p : Pos} (h : mkOk c x p = true) : ∃ (cc Pt : Addr) (nm : Nat → Nat → Str), TabB X.base X.mg cc Pt ∧ X.env.code = .ref cc ∧ (Pt, nm) ∈ F.tabs ∧ (∀ q ∈ F.tabs, q.1 = Pt → q.2 = nm) ∧ nm p.line p.col = X.env.qual ++ x := by
  unfold mkOk at h
  split at h
  · rename_i q nm e
    obtain ⟨cc, Pt, h1, h2, h3, h4, h5⟩ := L.mkk q nm e
    exact ⟨cc, Pt, nm, h1, h2, h3, h4, by rw [h5]; exact eq_of_beq h⟩
  · cases h
theorem r_lam {X : Cx} (L : Lx P w F c base n X sc) (M : Mx P w F c base n Φ G) {k : Nat} {params : Arguments} {body : Expr} {scope : Scope} {pos : Pos} (h1 : noDf params = true) (h2 : noFree scope = true) (h3 : c.okE k (.Lambda params body scope pos) = true) (h4 : mkOk c "<lambda>" pos = true) :
    PE X (.Lambda params body scope pos) (rdE F W0 fun δ C => .ok (hnf k) C) := by
  obtain ⟨cc, Pt, nm, t1, t2, t3, t4, t5⟩ := mk_facts L h4
  refine ⟨fun pins s σ H Q I ⟨κ, U, δ, C, cx, h⟩ => ?_⟩
  refine lam_made I t1 t2 t3 t5 t4 cx.sr.tab (noDf_of h1).2.2 h2 fun f c' H1 s' I1 eN nn T1 f0 f1 c1 => ?_
  have p := post_made cx.sr eN nn T1
  exact ⟨.ref f, H1, I1, rfl, h κ H1 p (.ref f) (made_rp cx.sr eN (M.okE k params body scope pos h3 _) f0 f1 c1)⟩
/-- the reading of a def statement: the slot i holds the new function -/
def tMade (T : List NTab) (i : Nat) (mk : Addr → Addr → HO) (q : Str) : TS := fun D σ H => TabsN T H ∧ ∀ (f c' : Addr) (H1 : Hp), ExtN H H1 → (∀ a ps, H a = some (.tbl ps) → ∃ ps', H1 a = some (.tbl ps')) → TabsN T H1 → H f = none → H1 f = some (mk f c') → H1 c' = some (CodeO c' q) → D.nx (σ.set i (some (.ref f))) H1
theorem ps_made {X : Cx} {T : List NTab} {nm : Nat → Nat → Str} {cc P : Addr} {name : Str} {params : Arguments} {body : List Stmt} {scope : Scope} {pos : Pos} {i : Nat} (TB : TabB X.base X.mg cc P) (hcode : X.env.code = .ref cc) (hm : (P, nm) ∈ T) (hn : nm pos.line pos.col = X.env.qual ++ name) (hu : ∀ p ∈ T, p.1 = P → p.2 = nm)
    (hfree : noFree scope = true) (hd : noDf params = true) (ha : annTrees params none X.env = []) (hN : X.N.Nodup) (hi : X.N[i]? = some name) (hx : X.env.scope.names.lookup name = some .local) :
    PS X (.FunctionDef name params body [] none [] scope none name pos) (tMade T i (fun f c' => FunO f c' (.dfn name (X.env.qual ++ name) params body scope)) (X.env.qual ++ name)) := by
  refine ⟨fun pins s σ H D I h => ?_⟩
  obtain ⟨hT, h⟩ := h
  obtain ⟨d1, d2, _⟩ := noDf_of (env := X.env) hd
  have hq : qualnameIn X.env name name = X.env.qual ++ name := by
    have hk : X.env.kindOf name = some .local := hx
    unfold qualnameIn
    rw [hk]
    rfl
  refine PySem.W.nestDef_K d1 d2 ha ?_
  rw [hq]
  refine nd_made I TB hcode hm hn hu hT hfree fun f c' H1 s' I1 eN tb T1 f0 f1 c1 => ?_
  exact store_ok I1 hN hi (.inl hx) (v := .ref f) rfl (fun s'' J => ⟨_, H1, J, h f c' H1 eN tb T1 f0 f1 c1⟩) (.inr hx)
end
end BR
set_option Elab.async false
set_option linter.all false
set_option maxRecDepth 100000
set_option maxHeartbeats 8000000
/-! expressions: what is matched is so, all together -/
namespace BR
open PySem PySem.Spec PyProof.Rows L2
section
variable {P : Program} {w : World} {F : Fix} {c : Cfg} {base : Heap} {n : Nat} {Φ : Oracle} {G : Str → Option PyData}
theorem mT_ok {X : Cx} {sc : Scope} {scope : Scope} {t : Tg} {x : Expr} (L : Lx P w F c base n X sc) (h : mT c (relS scope sc) (fnOfBlk scope) t x = true) (s : Shared) (H : Hp) (C : Addr) (cl : List (Str × Addr)) (fp : List Addr) : PG (X.blk s H scope (compEnvC scope cl C X.env) fp) x (rdG F t) :=
  pg_of (X := X.blk s H scope (compEnvC scope cl C X.env) fp) L.calm L.K L.N L.nd (L.blk s H scope C cl fp).sc (fun y hy => hy) h
mutual
theorem sndE (M : Mx P w F c base n Φ G) : ∀ (e : E) (sc : Scope) (x : Expr), mE c sc e x = true → SE P w F c base n Φ G sc e x
  | .var i, sc, x, h => by
    unfold mE at h
    split at h
    · rename_i y p
      simp only [Bool.and_eq_true, decide_eq_true_eq] at h
      obtain ⟨h1, h2⟩ := h
      obtain ⟨v1, v2, v3⟩ := vis_of h2
      exact .val (fun X L => r_var (L.N ▸ h1) (L.sc ▸ v1) v2 v3) fun _ _ => rfl
    · cases h
  | .glo z, sc, x, h => by
    unfold mE at h
    split at h
    · rename_i y p
      simp only [Bool.and_eq_true, decide_eq_true_eq] at h
      obtain ⟨h1, h2⟩ := h
      have e := eq_of_beq h1
      subst e
      exact .val (fun X L => r_glo L M h2) fun _ _ => rfl
    · cases h
  | .fnv z k, sc, x, h => by
    unfold mE at h
    split at h
    · rename_i y p
      simp only [Bool.and_eq_true, decide_eq_true_eq] at h
      obtain ⟨⟨h1, h2⟩, h3⟩ := h
      have e := eq_of_beq h1
      subst e
      exact .val (fun X L => r_fnv L M h2 h3) fun _ _ => rfl
    · cases h
  | .int i, sc, x, h => by
    unfold mE at h
    split at h
    · rename_i j k p
      have e := of_decide_eq_true h
      subst e
      exact .val (fun X L => r_con (v := .int _) pe_int (fun σ H Q q => q) fun _ _ _ => .int _) fun _ _ => rfl
    · cases h
  | .str s, sc, x, h => by
    unfold mE at h
    split at h
    · rename_i j k p
      have e := of_decide_eq_true h
      subst e
      exact .val (fun X L => r_con (v := .str _) pe_str (fun σ H Q q => q) fun _ _ _ => .str _) fun _ _ => rfl
    · cases h
  | .bl b, sc, x, h => by
    unfold mE at h
    split at h
    · rename_i j k p
      have e := eq_of_beq h
      subst e
      exact .val (fun X L => r_con (v := .bl _) pe_bl (fun σ H Q q => q) fun _ _ _ => .bl _) fun _ _ => rfl
    · cases h
  | .non, sc, x, h => by
    unfold mE at h
    split at h
    · rename_i k p
      exact .val (fun X L => r_con (v := .non) pe_non (fun σ H Q q => q) fun _ _ _ => .non) fun _ _ => rfl
    · cases h
  | .tup es, sc, x, h => by
    unfold mE at h
    split at h
    · rename_i xs k p
      exact .val (fun X L => r_tup ((sndEs M es sc _ h).pa X L)) fun _ _ => rfl
    · cases h
  | .lst es, sc, x, h => by
    unfold mE at h
    split at h
    · rename_i xs p
      exact .val (fun X L => r_lst ((sndEs M es sc _ h).pa X L)) fun _ _ => rfl
    · cases h
  | .newl es, sc, x, h => by
    unfold mE at h
    split at h
    · rename_i xs p
      exact .val (fun X L => r_newl ((sndEs M es sc _ h).pa X L)) fun _ _ => rfl
    · cases h
  | .newc e, sc, x, h => by
    unfold mE at h
    split at h
    · rename_i y p1 z p
      simp only [Bool.and_eq_true, decide_eq_true_eq] at h
      obtain ⟨⟨⟨h1, h2⟩, h3⟩, h4⟩ := h
      have e := eq_of_beq h1
      subst e
      exact .val (fun X L => r_newc L.K (glb_of L.sc h2).1 (L.bl M (by decide)) h3 ((sndE M _ sc _ h4).pe X L)) fun _ _ => rfl
    · cases h
  | .bin op a b, sc, x, h => by
    unfold mE at h
    split at h
    · rename_i y op' z p
      simp only [Bool.and_eq_true, decide_eq_true_eq] at h
      obtain ⟨⟨rfl, h1⟩, h2⟩ := h
      exact .val (fun X L => r_bin L.K ((sndE M a sc _ h1).pe X L) ((sndE M b sc _ h2).pe X L)) fun _ _ => rfl
    · cases h
  | .neg a, sc, x, h => by
    unfold mE at h
    split at h
    · rename_i y p
      exact .val (fun X L => r_neg ((sndE M a sc _ h).pe X L)) fun _ _ => rfl
    · cases h
  | .nt a, sc, x, h => by
    unfold mE at h
    split at h
    · rename_i y p
      simp only [Bool.and_eq_true, decide_eq_true_eq] at h
      obtain ⟨h0, h1⟩ := h
      exact ⟨fun X L => r_nt ((sndE M a sc _ h1).pe X L), fun _ X L => t_nt ((sndE M a sc _ h1).pt h0 X L)⟩
    · cases h
  | .cmp op a b, sc, x, h => by
    unfold mE at h
    split at h
    · rename_i y op' z p
      simp only [Bool.and_eq_true, decide_eq_true_eq] at h
      obtain ⟨⟨⟨rfl, h0⟩, h1⟩, h2⟩ := h
      exact ⟨fun X L => r_cmp L.K (by have := L.hu; omega) ((sndE M a sc _ h1).pe X L) ((sndE M b sc _ h2).pe X L) (pl_mark h0), fun _ X L => t_cmp L.K (by have := L.hu; omega) ((sndE M a sc _ h1).pe X L) ((sndE M b sc _ h2).pe X L) (pl_mark h0)⟩
    · cases h
  | .cmp2 o1 o2 a b d, sc, x, h => by
    unfold mE at h
    split at h
    · rename_i y p1 p2 z w' p
      simp only [Bool.and_eq_true, decide_eq_true_eq] at h
      obtain ⟨⟨⟨⟨⟨⟨rfl, rfl⟩, h0⟩, h4⟩, h1⟩, h2⟩, h3⟩ := h
      have hm : lastMarks [o1, o2] [z, w'] = false := pl_mark h4
      exact ⟨fun X L => r_cmp2 L.K (by have := L.hu; omega) ((sndE M a sc _ h1).pe X L) ((sndE M b sc _ h2).pe X L) ((sndE M d sc _ h3).pe X L) hm, fun _ X L => t_cmp2 L.K (by have := L.hu; omega) ((sndE M a sc _ h1).pe X L) ((sndE M b sc _ h2).pe X L) ((sndE M d sc _ h3).pe X L) hm⟩
    · cases h
  | .and a es, sc, x, h => by
    unfold mE at h
    split at h
    · rename_i y z zs p
      simp only [Bool.and_eq_true, decide_eq_true_eq] at h
      obtain ⟨⟨⟨h0, h00⟩, h1⟩, h2⟩ := h
      exact ⟨fun X L => r_and ((sndE M a sc _ h1).pe X L) ((sndEs M es sc _ h2).an (List.cons_ne_nil _ _) X L p), fun _ X L => (t_and ((sndE M a sc _ h1).pt h0 X L) ((sndEs M es sc _ h2).ta (List.cons_ne_nil _ _) h00 X L p)).pt⟩
    · cases h
  | .or a es, sc, x, h => by
    unfold mE at h
    split at h
    · rename_i y z zs p
      simp only [Bool.and_eq_true, decide_eq_true_eq] at h
      obtain ⟨⟨⟨h0, h00⟩, h1⟩, h2⟩ := h
      exact ⟨fun X L => r_or ((sndE M a sc _ h1).pe X L) ((sndEs M es sc _ h2).or (List.cons_ne_nil _ _) X L p), fun _ X L => (t_or ((sndE M a sc _ h1).pt h0 X L) ((sndEs M es sc _ h2).to (List.cons_ne_nil _ _) h00 X L p)).pt⟩
    · cases h
  | .ite k a b, sc, x, h => by
    unfold mE at h
    split at h
    · rename_i w' y z p
      simp only [Bool.and_eq_true, decide_eq_true_eq] at h
      obtain ⟨⟨⟨h0, h1⟩, h2⟩, h3⟩ := h
      exact ⟨fun X L => r_ite ((sndE M k sc _ h1).pt h0 X L) ((sndE M a sc _ h2).pe X L) ((sndE M b sc _ h3).pe X L), fun hn => by cases hn⟩
    · cases h
  | .idx a b, sc, x, h => by
    unfold mE at h
    split at h
    · rename_i y z p
      simp only [Bool.and_eq_true, decide_eq_true_eq] at h
      obtain ⟨⟨h0, h1⟩, h2⟩ := h
      exact .val (fun X L => r_idx L.K ((sndE M a sc _ h1).pe X L) ((sndE M b sc _ h2).pe X L) (pl_ix h0)) fun _ _ => rfl
    · cases h
  | .sl a lo hi, sc, x, h => by
    unfold mE at h
    split at h
    · rename_i y l h' p2 p
      simp only [Bool.and_eq_true, decide_eq_true_eq] at h
      obtain ⟨⟨h1, h2⟩, h3⟩ := h
      exact .val (fun X L => r_sl L.K ((sndE M a sc _ h1).pe X L) ((sndO M lo sc).po _ h2 X L) ((sndO M hi sc).po _ h3 X L)) fun _ _ => rfl
    · cases h
  | .rvs a, sc, x, h => by
    unfold mE at h
    split at h
    · rename_i y k p1 p2 p3 p
      exact .val (fun X L => r_rvs ((sndE M a sc _ h).pe X L)) fun _ _ => rfl
    · cases h
  | .call z k es, sc, x, h => by
    unfold mE at h
    split at h
    · rename_i y p1 w' ws p
      simp only [Bool.and_eq_true, decide_eq_true_eq] at h
      obtain ⟨⟨⟨⟨h1, h2⟩, h3⟩, h4⟩, h5⟩ := h
      have e := eq_of_beq h1
      subst e
      exact .val (fun X L => r_call L M h3 h2 h4 ((sndEs M es sc _ h5).pa X L)) fun _ _ => rfl
    · cases h
  | .callv i es, sc, x, h => by
    unfold mE at h
    split at h
    · rename_i y p1 w' ws p
      simp only [Bool.and_eq_true, decide_eq_true_eq] at h
      obtain ⟨⟨⟨h1, h2⟩, h4⟩, h5⟩ := h
      exact .val (fun X L => r_callv L M h1 h2 h4 ((sndEs M es sc _ h5).pa X L)) fun _ _ => rfl
    · cases h
  | .lam k, sc, x, h => by
    unfold mE at h
    split at h
    · rename_i ps b sc2 p
      simp only [Bool.and_eq_true] at h
      obtain ⟨⟨⟨h1, h2⟩, h3⟩, h4⟩ := h
      exact .val (fun X L => r_lam L M h1 h2 h3 h4) fun _ _ => rfl
    · cases h
  | .callk z k es ks ix kes, sc, x, h => by
    unfold mE at h
    split at h
    · rename_i y p1 ws kws p
      simp only [Bool.and_eq_true, decide_eq_true_eq] at h
      obtain ⟨⟨⟨⟨⟨⟨⟨h1, h2⟩, h3⟩, h4⟩, h5⟩, h6⟩, h7⟩, h8⟩ := h
      have e := eq_of_beq h1
      subst e
      have h5 := List.elem_iff.mp h5
      have SK := sndEs M kes sc _ h8
      have SW := sndEs M es sc _ h7
      have hB : ∀ δ C ds C', evs Φ G kes δ C = .ok ds C' → ds.length = ks.length := fun δ C ds C' e => by
        rw [SK.ln δ C ds C' e, List.length_map, kw_len h6]
      cases ws with
      | nil =>
        cases es with
        | nil => exact .val (fun X L => r_callk0 L M h3 h2 h5 h6 (SK.pk X L kws rfl) hB) fun _ _ => rfl
        | cons _ _ => exact absurd h7 (by unfold mEs; exact fun z => nomatch z)
      | cons w' ws => exact .val (fun X L => r_callk L M h3 h2 h4 h5 h6 (SW.pa X L) SW.ln (SK.pk X L kws rfl) hB) fun _ _ => rfl
    · cases h
  | .bi b es, sc, x, h => by
    unfold mE at h
    split at h
    · rename_i y p1 w' ws p
      simp only [Bool.and_eq_true, decide_eq_true_eq] at h
      obtain ⟨⟨⟨⟨h0, h1⟩, h2⟩, h4⟩, h5⟩ := h
      exact .val (fun X L => s_bi L M h0 h1 h2 h4 ((sndEs M es sc _ h5).pa X L)) fun _ _ => rfl
    · cases h
  | .minkey a g, sc, x, h => by
    unfold mE at h
    split at h
    · rename_i y p1 w' kn z kp p
      simp only [Bool.and_eq_true] at h
      obtain ⟨⟨⟨⟨⟨h1, h2⟩, h3⟩, h4⟩, h5⟩, h6⟩ := h
      have e := eq_of_beq h1
      subst e
      exact .val (fun X L => r_minkey L M h1 h3 h2 (L.bl M (by decide)) h4 ((sndE M a sc _ h5).pe X L) ((sndE M g sc _ h6).pe X L)) fun _ _ => rfl
    · cases h
  | .sortkey a g, sc, x, h => by
    unfold mE at h
    split at h
    · rename_i y p1 w' kn z kp p
      simp only [Bool.and_eq_true] at h
      obtain ⟨⟨⟨⟨⟨h1, h2⟩, h3⟩, h4⟩, h5⟩, h6⟩ := h
      have e := eq_of_beq h1
      subst e
      exact .val (fun X L => r_sortkey L M h1 h3 h2 (L.bl M (by decide)) h4 ((sndE M a sc _ h5).pe X L) ((sndE M g sc _ h6).pe X L)) fun _ _ => rfl
    · cases h
  | .sset e, sc, x, h => by
    unfold mE at h
    split at h
    · rename_i y p1 z p2 w' p3 p
      simp only [Bool.and_eq_true, decide_eq_true_eq] at h
      obtain ⟨⟨⟨⟨⟨h1, h2⟩, h3⟩, h4⟩, h5⟩, h6⟩ := h
      have q1 := eq_of_beq h1
      subst q1
      have q2 := eq_of_beq h3
      subst q2
      exact .val (fun X L => r_sset L.calm L.K (glb_of L.sc h2).1 (L.bl M (by decide)) (glb_of L.sc h4).1 (L.bl M (by decide)) h5 ((sndE M e sc _ h6).pe X L)) fun _ _ => rfl
    · cases h
  | .lset e, sc, x, h => by
    unfold mE at h
    split at h
    · rename_i y p1 z p2 w' p3 p
      simp only [Bool.and_eq_true, decide_eq_true_eq] at h
      obtain ⟨⟨⟨⟨⟨h1, h2⟩, h3⟩, h4⟩, h5⟩, h6⟩ := h
      have q1 := eq_of_beq h1
      subst q1
      have q2 := eq_of_beq h3
      subst q2
      exact .val (fun X L => r_lset L.calm L.K (glb_of L.sc h2).1 (L.bl M (by decide)) (glb_of L.sc h4).1 (L.bl M (by decide)) h5 ((sndE M e sc _ h6).pe X L)) fun _ _ => rfl
    · cases h
  | .isi t a, sc, x, h => by
    unfold mE at h
    split at h
    · rename_i y p1 z w' p2 p
      simp only [Bool.and_eq_true, decide_eq_true_eq] at h
      obtain ⟨⟨⟨⟨⟨h1, h2⟩, h3⟩, h4⟩, h5⟩, h6⟩ := h
      have e := eq_of_beq h1
      subst e
      have e := eq_of_beq h3
      subst e
      exact .val (fun X L => r_isi L.K (glb_of L.sc h2).1 (L.bl M (by decide)) (glb_of L.sc h4).1 (L.bl M (by cases t <;> decide)) h5 ((sndE M a sc _ h6).pe X L)) fun _ _ => rfl
    · cases h
  | .index o a, sc, x, h => by
    unfold mE at h
    split at h
    · rename_i y n' ap w' p
      simp only [Bool.and_eq_true, decide_eq_true_eq] at h
      obtain ⟨⟨⟨⟨⟨h1, h2⟩, h3⟩, h4⟩, h5⟩, h6⟩ := h
      have e := eq_of_beq h1
      subst e
      exact .val (fun X L => r_index L.K (by have := L.hu; omega) h2 h3 h4 ((sndE M o sc _ h5).pe X L) ((sndE M a sc _ h6).pe X L)) fun _ _ => rfl
    · cases h
  | .split o a, sc, x, h => by
    unfold mE at h
    split at h
    · rename_i y n' ap w' p
      simp only [Bool.and_eq_true, decide_eq_true_eq] at h
      obtain ⟨⟨⟨⟨⟨h1, h2⟩, h3⟩, h4⟩, h5⟩, h6⟩ := h
      have e := eq_of_beq h1
      subst e
      exact .val (fun X L => r_split h2 h3 h4 ((sndE M o sc _ h5).pe X L) ((sndE M a sc _ h6).pe X L)) fun _ _ => rfl
    · cases h
  | .cpop o a, sc, x, h => by
    unfold mE at h
    split at h
    · rename_i y n' ap w' p
      simp only [Bool.and_eq_true, decide_eq_true_eq] at h
      obtain ⟨⟨⟨⟨⟨h1, h2⟩, h3⟩, h4⟩, h5⟩, h6⟩ := h
      have e := eq_of_beq h1
      subst e
      exact .val (fun X L => r_cpop h2 h3 h4 ((sndE M o sc _ h5).pe X L) ((sndE M a sc _ h6).pe X L)) fun _ _ => rfl
    · cases h
  | .trg a, sc, x, h => by
    unfold mE at h
    split at h
    · rename_i y p1 z p2 w' p3 p
      simp only [Bool.and_eq_true, decide_eq_true_eq] at h
      obtain ⟨⟨⟨⟨⟨h1, h2⟩, h3⟩, h4⟩, h5⟩, h6⟩ := h
      have e := eq_of_beq h1
      subst e
      have e := eq_of_beq h3
      subst e
      exact .val (fun X L => r_trg L.calm (glb_of L.sc h2).1 (L.bl M (by decide)) (glb_of L.sc h4).1 (L.bl M (by decide)) h5 ((sndE M a sc _ h6).pe X L)) fun _ _ => rfl
    · cases h
  | .lrg a, sc, x, h => by
    unfold mE at h
    split at h
    · rename_i y p1 z p2 w' p3 p
      simp only [Bool.and_eq_true, decide_eq_true_eq] at h
      obtain ⟨⟨⟨⟨⟨h1, h2⟩, h3⟩, h4⟩, h5⟩, h6⟩ := h
      have e := eq_of_beq h1
      subst e
      have e := eq_of_beq h3
      subst e
      exact .val (fun X L => r_lrg L.calm (glb_of L.sc h2).1 (L.bl M (by decide)) (glb_of L.sc h4).1 (L.bl M (by decide)) h5 ((sndE M a sc _ h6).pe X L)) fun _ _ => rfl
    · cases h
  | .lc own t i q e, sc, x, h => by
    unfold mE at h
    split at h
    · rename_i elt tg iter ifs scope p
      simp only [Bool.and_eq_true, decide_eq_true_eq] at h
      obtain ⟨⟨⟨⟨⟨h1, h2⟩, h3⟩, h4⟩, h5⟩, h6⟩ := h
      have hts : ∀ j ∈ tgSlots t, j ∈ own.map (·.2) := fun j hj => List.elem_iff.mp (List.all_eq_true.mp h3 j hj)
      exact .val (fun X L => r_lc L.calm L.nd (sndI M i sc _ _ h4 X L) (blkOk_by (by rw [L.N, L.sc]; exact h1)) hts (mT_ok L h2) (fun s H C cl fp => (sndO M q (relS scope sc)).pc _ h5 _ (L.blk s H scope C cl fp)) (fun s H C cl fp => (sndE M e (relS scope sc) _ h6).pe _ (L.blk s H scope C cl fp)) (pl_set (mI_pl h4) X.env)) fun _ _ => rfl
    · cases h
  | .lc2 own t i q vs t1 i1 q1 e, sc, x, h => by
    unfold mE at h
    split at h
    · rename_i elt tg iter ifs tg1 iter1 ifs1 scope p
      simp only [Bool.and_eq_true, decide_eq_true_eq] at h
      obtain ⟨⟨⟨⟨⟨⟨⟨⟨⟨⟨h1, h2⟩, h3⟩, h4⟩, h5⟩, g1⟩, g2⟩, g3⟩, g4⟩, g5⟩, h6⟩ := h
      have hts : ∀ j ∈ tgSlots t, j ∈ own.map (·.2) := fun j hj => List.elem_iff.mp (List.all_eq_true.mp h3 j hj)
      have hv : ∀ j ∈ vs, j ∈ own.map (·.2) := fun j hj => List.elem_iff.mp (List.all_eq_true.mp g1 j hj)
      have hts1 : ∀ j ∈ tgSlots t1, j ∈ vs := fun j hj => List.elem_iff.mp (List.all_eq_true.mp g3 j hj)
      exact .val (fun X L => r_lc2 L.calm L.nd (sndI M i sc _ _ h4 X L) (blkOk_by (by rw [L.N, L.sc]; exact h1)) hts hv hts1 (mT_ok L h2) (fun s H C cl fp => (sndO M q (relS scope sc)).pc _ h5 _ (L.blk s H scope C cl fp)) (fun s H C cl fp => sndI M i1 (relS scope sc) _ _ g4 _ (L.blk s H scope C cl fp)) (mT_ok L g2) (fun s H C cl fp => (sndO M q1 (relS scope sc)).pc _ g5 _ (L.blk s H scope C cl fp)) (fun s H C cl fp => (sndE M e (relS scope sc) _ h6).pe _ (L.blk s H scope C cl fp)) (pl_set (mI_pl h4) X.env) (fun env x => pl_set (mI_pl g4) env x)) fun _ _ => rfl
    · cases h
theorem sndEs (M : Mx P w F c base n Φ G) : ∀ (es : Es) (sc : Scope) (xs : List Expr), mEs c sc es xs = true → SA P w F c base n Φ G sc es xs
  | .nil, sc, xs, h => by
    unfold mEs at h
    split at h
    · exact ⟨fun X L => r_nil, fun X L kws hk => by rw [List.map_eq_nil_iff.mp hk]; exact r_knil, rfl, fun δ C ds C' e => by cases e; rfl, fun z => absurd rfl z, fun z => absurd rfl z, fun z => absurd rfl z, fun z => absurd rfl z⟩
    · cases h
  | .cons e r, sc, xs, h => by
    unfold mEs at h
    split at h
    · rename_i x xs
      simp only [Bool.and_eq_true] at h
      obtain ⟨h1, h2⟩ := h
      have SX := sndE M e sc _ h1
      have SR := sndEs M r sc _ h2
      have hpl := mE_pl h1
      refine ⟨fun X L => r_cons (pl_star hpl) (SX.pe X L) (SR.pa X L), fun X L kws hk => ?_, by rw [List.all_cons, hpl, SR.pl]; rfl, fun δ C ds C' e => ?_, fun _ X L p => ?_, fun _ X L p => ?_, fun _ hn X L p => ?_, fun _ hn X L p => ?_⟩
      · cases kws with
        | nil => cases hk
        | cons k kws =>
          obtain ⟨nm, v, kp⟩ := k
          have e1 : v = x := (List.cons.inj hk).1
          have e2 : kws.map (·.value) = xs := (List.cons.inj hk).2
          subst e1
          exact r_kcons (SX.pe X L) (SR.pk X L kws e2)
      · have e : ((ev Φ G _ δ C).bind fun d C => (evs Φ G r δ C).bind fun ds C => .ok (d :: ds) C) = Res.ok ds C' := e
        cases e1 : ev Φ G _ δ C with
        | ok d C1 =>
          rw [e1] at e
          have e : ((evs Φ G r δ C1).bind fun ds C => .ok (d :: ds) C) = Res.ok ds C' := e
          cases e2 : evs Φ G r δ C1 with
          | ok dr C2 =>
            rw [e2] at e
            cases e
            rw [List.length_cons, List.length_cons, SR.ln _ _ _ _ e2]
          | exc _ _ _ => rw [e2] at e; cases e
          | stuck => rw [e2] at e; cases e
        | exc _ _ _ => rw [e1] at e; cases e
        | stuck => rw [e1] at e; cases e
      · cases xs with
        | nil =>
          cases r with
          | nil => exact r_and1 (SX.pe X L)
          | cons _ _ => exact absurd h2 (by unfold mEs; exact fun z => nomatch z)
        | cons y ys => exact r_and (SX.pe X L) (SR.an (List.cons_ne_nil _ _) X L p)
      · cases xs with
        | nil =>
          cases r with
          | nil => exact r_or1 (SX.pe X L)
          | cons _ _ => exact absurd h2 (by unfold mEs; exact fun z => nomatch z)
        | cons y ys => exact r_or (SX.pe X L) (SR.or (List.cons_ne_nil _ _) X L p)
      · rw [List.all_cons, Bool.and_eq_true] at hn
        cases xs with
        | nil =>
          cases r with
          | nil => exact t_and1 (SX.pt hn.1 X L)
          | cons _ _ => exact absurd h2 (by unfold mEs; exact fun z => nomatch z)
        | cons y ys => exact t_and (SX.pt hn.1 X L) (SR.ta (List.cons_ne_nil _ _) hn.2 X L p)
      · rw [List.all_cons, Bool.and_eq_true] at hn
        cases xs with
        | nil =>
          cases r with
          | nil => exact t_or1 (SX.pt hn.1 X L)
          | cons _ _ => exact absurd h2 (by unfold mEs; exact fun z => nomatch z)
        | cons y ys => exact t_or (SX.pt hn.1 X L) (SR.to (List.cons_ne_nil _ _) hn.2 X L p)
    · cases h
theorem sndO (M : Mx P w F c base n Φ G) : ∀ (e : Eo) (sc : Scope), SO P w F c base n Φ G sc e
  | .none, sc => by
    refine ⟨fun x h X L => ?_, fun xs h X L => ?_⟩
    · unfold mO at h
      split at h
      · exact r_onone
      · cases h
    · unfold mC at h
      split at h
      · exact ⟨fun pins s σ H Q I ⟨κ, U, δ, C, cx, h⟩ => pts_nil.run pins s σ H Q I (h κ H (.refl cx.sr))⟩
      · cases h
  | .some e, sc => by
    refine ⟨fun x h X L => ?_, fun xs h X L => ?_⟩
    · unfold mO at h
      split at h
      · exact r_osome ((sndE M e sc _ h).pe X L)
      · cases h
    · unfold mC at h
      split at h
      · simp only [Bool.and_eq_true] at h
        exact pts_one ((sndE M e sc _ h.2).pt h.1 X L)
      · cases h
theorem sndI (M : Mx P w F c base n Φ G) : ∀ (i : It) (sc : Scope) (tg x : Expr), mI c sc i tg x = true → ∀ X, Lx P w F c base n X sc → PI X tg x (rdI F W0 (evI Φ G i))
  | .seq e, sc, tg, x, h, X, L => by
    unfold mI at h
    rw [Bool.and_eq_true] at h
    exact i_seq L.K ((sndE M e sc _ h.2).pe X L)
  | .chars e, sc, tg, x, h, X, L => by
    unfold mI at h
    rw [Bool.and_eq_true] at h
    exact i_chars ((sndE M e sc _ h.2).pe X L)
  | .rg1 a, sc, tg, x, h, X, L => by
    unfold mI at h
    split at h
    · simp only [Bool.and_eq_true] at h
      obtain ⟨⟨⟨h1, h2⟩, h3⟩, h4⟩ := h
      have e := eq_of_beq h1
      subst e
      exact i_rg1 (glb_of L.sc h2).1 (L.bl M (by decide)) h3 ((sndE M a sc _ h4).pe X L)
    · cases h
  | .rg2 a b, sc, tg, x, h, X, L => by
    unfold mI at h
    split at h
    · simp only [Bool.and_eq_true] at h
      obtain ⟨⟨⟨⟨⟨h1, h2⟩, h3⟩, h4⟩, h5⟩, h6⟩ := h
      have e := eq_of_beq h1
      subst e
      exact i_rg2 (glb_of L.sc h2).1 (L.bl M (by decide)) h3 h4 ((sndE M a sc _ h5).pe X L) ((sndE M b sc _ h6).pe X L)
    · cases h
  | .zip a b, sc, tg, x, h, X, L => by
    unfold mI at h
    split at h
    · simp only [Bool.and_eq_true] at h
      obtain ⟨⟨⟨⟨⟨⟨h0, h1⟩, h2⟩, h3⟩, h4⟩, h5⟩, h6⟩ := h
      have e := eq_of_beq h1
      subst e
      cases tg with
      | Tuple _ _ _ => exact i_zip L.K (glb_of L.sc h2).1 (L.bl M (by decide)) h3 h4 ((sndE M a sc _ h5).pe X L) ((sndE M b sc _ h6).pe X L)
      | _ => cases h0
    · cases h
  | .enum a, sc, tg, x, h, X, L => by
    unfold mI at h
    split at h
    · simp only [Bool.and_eq_true] at h
      obtain ⟨⟨⟨⟨h0, h1⟩, h2⟩, h3⟩, h5⟩ := h
      have e := eq_of_beq h1
      subst e
      cases tg with
      | Tuple _ _ _ => exact i_enum L.K (glb_of L.sc h2).1 (L.bl M (by decide)) h3 ((sndE M a sc _ h5).pe X L)
      | _ => cases h0
    · cases h
  | .rev a, sc, tg, x, h, X, L => by
    unfold mI at h
    split at h
    · simp only [Bool.and_eq_true] at h
      obtain ⟨⟨⟨h1, h2⟩, h3⟩, h5⟩ := h
      have e := eq_of_beq h1
      subst e
      exact i_rev L.K (glb_of L.sc h2).1 (L.bl M (by decide)) h3 ((sndE M a sc _ h5).pe X L)
    · cases h
end
end
end BR
set_option Elab.async false
set_option linter.all false
set_option maxRecDepth 100000
set_option maxHeartbeats 4000000
/-! statements: what a def's frame knows -/
namespace BR
open PySem PySem.Spec PyProof.Rows L2
/-- what may change: the caller's lists and the own ones -/
def Us (U0 : Addr → Prop) (σ : L2.St) (ρ : SEnv) : Addr → Prop := fun a => U0 a ∨ ∃ (i : Nat) (xs : List PyData), ρ[i]? = some (.own xs) ∧ σ[i]? = some (some (.ref a))
/-- at the entry (of a def, of a loop): V: lists that may change -/
structure Ent where
  κ : List Addr
  U : Addr → Prop
  V : Addr → Prop
  H : Hp
structure FxV (κ : List Addr) (V : Addr → Prop) (H H' : Hp) : Prop where
  keep : ∀ a o, H a = some o → a ∉ κ → ¬ V a → (∀ ps, o ≠ .tbl ps) → H' a = some o
  tbl : ∀ a ps, H a = some (.tbl ps) → a ∉ κ → ∃ ps', H' a = some (.tbl ps')
  liv : ∀ a, V a → ∃ xs, H' a = some (.lst xs)
section
variable {F : Fix} {κ κ1 κ2 : List Addr} {V : Addr → Prop} {H H1 H2 : Hp} {C1 : List Cell}
theorem FxV.refl (hV : ∀ a, V a → a ∉ κ ∧ ∃ xs, H a = some (.lst xs)) : FxV κ V H H := ⟨fun _ _ e _ _ _ => e, fun _ ps e _ => ⟨ps, e⟩, fun a h => (hV a h).2⟩
theorem FxV.trans (hV : ∀ a, V a → a ∉ κ ∧ ∃ xs, H a = some (.lst xs)) (g : Grow κ H κ1) (a : FxV κ V H H1) (b : Fx κ1 H1 H2) : FxV κ V H H2 := by
  refine ⟨fun x o e hk hv ht => b.keep x o (a.keep x o e hk hv ht) (g.notMem hk e) ht, fun x ps e hk => ?_, fun x hv => ?_⟩
  · obtain ⟨ps', q⟩ := a.tbl x ps e hk
    exact b.tbl x ps' q (g.notMem hk e)
  · obtain ⟨xs, q⟩ := a.liv x hv
    obtain ⟨hk, ys, e⟩ := hV x hv
    exact ⟨xs, b.keep _ _ q (g.notMem hk e) fun _ z => nomatch z⟩
theorem FxV.grow (hV : ∀ a, V a → a ∉ κ ∧ ∃ xs, H a = some (.lst xs)) (s1 : Sr F κ1 H1 C1) (fx : FxV κ V H H1) (a : Grow κ H κ1) (b : Grow κ1 H1 κ2) : Grow κ H κ2 := by
  obtain ⟨m, rfl, hm⟩ := a
  obtain ⟨n, rfl, hn⟩ := b
  refine ⟨m ++ n, by rw [List.append_assoc], fun x hx => ?_⟩
  rcases List.mem_append.mp hx with hx | hx
  · exact hm x hx
  · cases e : H x with
    | none => rfl
    | some o =>
      have h0 := hn x hx
      by_cases hk : x ∈ κ
      · obtain ⟨xs, e'⟩ := s1.at (List.mem_append_left m hk)
        rw [h0] at e'
        cases e'
      · by_cases hv : V x
        · obtain ⟨xs, q⟩ := fx.liv x hv
          rw [h0] at q
          cases q
        · by_cases ht : ∃ ps, o = .tbl ps
          · obtain ⟨ps, rfl⟩ := ht
            obtain ⟨ps', q⟩ := fx.tbl x ps e hk
            rw [h0] at q
            cases q
          · have q := fx.keep x o e hk hv fun ps z => ht ⟨ps, z⟩
            rw [h0] at q
            cases q
theorem FxV.free (s1 : Sr F κ1 H1 C1) (g : Grow κ H κ1) (fx : FxV κ V H H1) {x : Addr} (h0 : H1 x = none) : H x = none := by
  cases e : H x with
  | none => rfl
  | some o =>
    by_cases hk : x ∈ κ
    · obtain ⟨xs, e'⟩ := s1.at (g.mem hk)
      rw [h0] at e'
      cases e'
    · by_cases hv : V x
      · obtain ⟨xs, q⟩ := fx.liv x hv
        rw [h0] at q
        cases q
      · by_cases ht : ∃ ps, o = .tbl ps
        · obtain ⟨ps, rfl⟩ := ht
          obtain ⟨ps', q⟩ := fx.tbl x ps e hk
          rw [h0] at q
          cases q
        · have q := fx.keep x o e hk hv fun ps z => ht ⟨ps, z⟩
          rw [h0] at q
          cases q
/-- a list that is new or may change is changed -/
theorem FxV.upd {p : Addr} {xs : List L2.V} (fx : FxV κ V H H1) (hV : ∀ a, V a → a ∉ κ ∧ ∃ xs, H a = some (.lst xs)) (h : H p = none ∨ V p) : FxV κ V H (L2.upd H1 p (.lst xs)) := by
  have hne : ∀ a u, H a = some u → ¬ V a → a ≠ p := fun a u e hv z => by
    subst z
    rcases h with h | h
    · rw [h] at e; cases e
    · exact hv h
  refine ⟨fun a u e hk hv ht => by rw [upd_ne (hne a u e hv)]; exact fx.keep a u e hk hv ht, fun a ps e hk => ?_, fun a hv => ?_⟩
  · have hv : ¬ V a := fun z => by
      obtain ⟨_, ys, q⟩ := hV a z
      rw [e] at q
      cases q
    rw [upd_ne (hne a _ e hv)]
    exact fx.tbl a ps e hk
  · by_cases hp : a = p
    · subst hp
      exact ⟨xs, upd_same⟩
    · obtain ⟨ys, q⟩ := fx.liv a hv
      exact ⟨ys, by rw [upd_ne hp]; exact q⟩
end
structure CtxS (F : Fix) (N : Ent) (κ : List Addr) (H : Hp) (σ : L2.St) (ρ : SEnv) (C : List Cell) : Prop where
  fx : FxV N.κ N.V N.H H
  gr : Grow N.κ N.H κ
  sr : Sr F κ H C
  al0 : ∀ a, N.U a → (∃ xs, N.H a = some (.lst xs)) ∧ ¬ N.V a
  alV : ∀ a, N.V a → a ∉ N.κ ∧ ∃ xs, N.H a = some (.lst xs)
  ln : ρ.length ≤ σ.length
  sl : ∀ (i : Nat) (d : PyData), ρ[i]? = some (.val d) → ∃ v, σ[i]? = some (some v) ∧ Rp F κ (Us N.U σ ρ) H v d
  ow : ∀ (i : Nat) (xs : List PyData), ρ[i]? = some (.own xs) → ∃ a vs, σ[i]? = some (some (.ref a)) ∧ H a = some (.lst vs) ∧ a ∉ κ ∧ (N.H a = none ∨ N.V a) ∧ RpAll F κ (Us N.U σ ρ) H vs xs
  di : ∀ (i j : Nat) (xs ys : List PyData) (a : Addr), ρ[i]? = some (.own xs) → ρ[j]? = some (.own ys) → σ[i]? = some (some (.ref a)) → σ[j]? = some (some (.ref a)) → i = j
section
variable {F : Fix} {N : Ent} {κ κ1 κ' : List Addr} {H H1 H' : Hp} {σ : L2.St} {ρ : SEnv} {C C1 C' : List Cell} {v : V} {d : PyData} {i : Nat}
theorem CtxS.al (s : CtxS F N κ H σ ρ C) : ∀ a, Us N.U σ ρ a → ∃ xs, H a = some (.lst xs) := fun a h => by
  rcases h with h | ⟨i, xs, h1, h2⟩
  · obtain ⟨⟨xs, e⟩, nv⟩ := s.al0 a h
    by_cases hk : a ∈ N.κ
    · exact s.sr.at (s.gr.mem hk)
    · exact ⟨xs, s.fx.keep _ _ e hk nv fun _ z => nomatch z⟩
  · obtain ⟨b, vs, e1, e2, _⟩ := s.ow i xs h1
    rw [h2] at e1
    cases e1
    exact ⟨vs, e2⟩
theorem CtxS.alU (s : CtxS F N κ H σ ρ C) : ∀ a, N.U a → ∃ xs, H a = some (.lst xs) := fun a h => s.al a (.inl h)
theorem CtxS.post (s : CtxS F N κ H σ ρ C) (p : Post F κ H κ1 H1 C1) : CtxS F N κ1 H1 σ ρ C1 := by
  refine ⟨.trans s.alV s.gr s.fx p.fx, FxV.grow s.alV s.sr s.fx s.gr p.gr, p.sr, s.al0, s.alV, s.ln, fun i d h => ?_, fun i xs h => ?_, s.di⟩
  · obtain ⟨v, e, r⟩ := s.sl i d h
    exact ⟨v, e, r.post p⟩
  · obtain ⟨a, vs, e1, e2, e3, e4, r⟩ := s.ow i xs h
    exact ⟨a, vs, e1, (p.fx.keep _ _ e2 e3 fun _ z => nomatch z), p.gr.notMem e3 e2, e4, r.post p⟩
theorem join_some {α : Type} {o : Option (Option α)} {a : α} (h : o.join = some a) : o = some (some a) := by
  cases o with
  | none => cases h
  | some o => exact congrArg some h
/-- what expressions see, own lists aside -/
theorem CtxS.view0 (s : CtxS F N κ H σ ρ C) : Ctx F κ (Us N.U σ ρ) H σ (view false ρ) C := by
  refine ⟨s.sr, s.al, fun i d h => ?_⟩
  have h := join_some h
  have h : (ρ.map hidden)[i]? = some (some d) := h
  rw [List.getElem?_map] at h
  cases e : ρ[i]? with
  | none => rw [e] at h; cases h
  | some sl =>
    rw [e] at h
    cases sl with
    | val d' => cases h; exact s.sl i d e
    | no => cases h
    | own xs => cases h
/-- .. and with them -/
theorem CtxS.view1 (s : CtxS F N κ H σ ρ C) : Ctx F κ N.U H σ (view true ρ) C := by
  refine ⟨s.sr, s.alU, fun i d h => ?_⟩
  have h := join_some h
  have h : (ρ.map seen)[i]? = some (some d) := h
  rw [List.getElem?_map] at h
  cases e : ρ[i]? with
  | none => rw [e] at h; cases h
  | some sl =>
    rw [e] at h
    cases sl with
    | val d' =>
      cases h
      obtain ⟨v, e1, r⟩ := s.sl i d e
      exact ⟨v, e1, r.weak fun a h => .inl h⟩
    | no => cases h
    | own xs =>
      cases h
      obtain ⟨a, vs, e1, e2, e3, e4, r⟩ := s.ow i xs e
      refine ⟨_, e1, .lst e2 (fun z => ?_) e3 (r.weak fun a h => .inl h)⟩
      obtain ⟨⟨ys, q⟩, nv⟩ := s.al0 a z
      rcases e4 with e4 | e4
      · rw [e4] at q
        cases q
      · exact nv e4
def viewU (N : Ent) (σ : L2.St) (ρ : SEnv) (f : Bool) : Addr → Prop := if f = true then N.U else Us N.U σ ρ
theorem CtxS.view (s : CtxS F N κ H σ ρ C) (f : Bool) : Ctx F κ (viewU N σ ρ f) H σ (BR.view f ρ) C := by
  cases f with
  | true => exact s.view1
  | false => exact s.view0
/-- a value that may be kept -/
theorem keepR {f : Bool} (h : Rp F κ (viewU N σ ρ f) H v d) (hf : okFlat f d = true) : Rp F κ (Us N.U σ ρ) H v d := by
  cases f with
  | false => exact h
  | true => exact h.flat (by unfold okFlat at hf; simpa using hf)
/-- everything that is a list here may change: so a list that comes is new -/
theorem CtxS.viewF (s : CtxS F N κ H σ ρ C) : Ctx F κ (fun a => ∃ xs, H a = some (.lst xs)) H σ (viewM true true ρ) C := by
  refine ⟨s.sr, fun a h => h, fun i d h => ?_⟩
  have h := join_some h
  have h : (ρ.map seenF)[i]? = some (some d) := h
  rw [List.getElem?_map] at h
  cases e : ρ[i]? with
  | none => rw [e] at h; cases h
  | some sl =>
    rw [e] at h
    cases sl with
    | val d' =>
      have h : (some (if flat d' = true then some d' else none) : Option (Option PyData)) = some (some d) := h
      split at h
      · rename_i g
        cases h
        obtain ⟨v, e1, r⟩ := s.sl i d e
        exact ⟨v, e1, r.flat g⟩
      · cases h
    | no => cases h
    | own xs => cases h
theorem getElem?_set_some {α : Type} {l : List α} {i j : Nat} {a b : α} (h : (l.set i a)[j]? = some b) : (i = j ∧ a = b ∧ i < l.length) ∨ (i ≠ j ∧ l[j]? = some b) := by
  by_cases hj : i = j
  · subst hj
    rw [List.getElem?_set] at h
    simp only [if_true] at h
    split at h
    · rename_i hl
      exact .inl ⟨rfl, Option.some.inj h, hl⟩
    · cases h
  · rw [List.getElem?_set_ne hj] at h
    exact .inr ⟨hj, h⟩
theorem Us.set_val {U0 : Addr → Prop} {x : Option V} {sl : Slot} (hs : ∀ xs, sl ≠ .own xs) : ∀ a, Us U0 (σ.set i x) (ρ.set i sl) a → Us U0 σ ρ a := fun a h => by
  rcases h with h | ⟨j, xs, h1, h2⟩
  · exact .inl h
  · rcases getElem?_set_some h1 with ⟨rfl, e, _⟩ | ⟨hj, h1⟩
    · exact absurd e (hs xs)
    · rw [List.getElem?_set_ne hj] at h2
      exact .inr ⟨j, xs, h1, h2⟩
/-- a slot is set to what is no own list -/
theorem CtxS.putV (s : CtxS F N κ H σ ρ C) (r : Rp F κ (Us N.U σ ρ) H v d) : CtxS F N κ H (σ.set i (some v)) (ρ.set i (.val d)) C := by
  have hU : ∀ a, Us N.U (σ.set i (some v)) (ρ.set i (.val d)) a → Us N.U σ ρ a := Us.set_val fun _ z => nomatch z
  refine ⟨s.fx, s.gr, s.sr, s.al0, s.alV, by rw [List.length_set, List.length_set]; exact s.ln, fun j e h => ?_, fun j xs h => ?_, fun j k xs ys a h1 h2 h3 h4 => ?_⟩
  · rcases getElem?_set_some h with ⟨rfl, e1, hl⟩ | ⟨hj, h⟩
    · cases e1
      exact ⟨v, by rw [List.getElem?_set]; simp [Nat.lt_of_lt_of_le hl s.ln], r.weak hU⟩
    · obtain ⟨w, q, r'⟩ := s.sl j e h
      exact ⟨w, by rw [List.getElem?_set_ne hj]; exact q, r'.weak hU⟩
  · rcases getElem?_set_some h with ⟨_, e1, _⟩ | ⟨hj, h⟩
    · cases e1
    · obtain ⟨a, vs, e1, e2, e3, e4, r'⟩ := s.ow j xs h
      exact ⟨a, vs, by rw [List.getElem?_set_ne hj]; exact e1, e2, e3, e4, r'.weak hU⟩
  · rcases getElem?_set_some h1 with ⟨_, e1, _⟩ | ⟨hj, h1⟩
    · cases e1
    · rcases getElem?_set_some h2 with ⟨_, e1, _⟩ | ⟨hk, h2⟩
      · cases e1
      · rw [List.getElem?_set_ne hj] at h3
        rw [List.getElem?_set_ne hk] at h4
        exact s.di j k xs ys a h1 h2 h3 h4
/-- a slot is forgotten -/
theorem CtxS.drop (s : CtxS F N κ H σ ρ C) : CtxS F N κ H σ (ρ.set i .no) C := by
  have hU : ∀ a, Us N.U σ (ρ.set i .no) a → Us N.U σ ρ a := fun a h => by
    rcases h with h | ⟨j, xs, h1, h2⟩
    · exact .inl h
    · rcases getElem?_set_some h1 with ⟨_, e, _⟩ | ⟨hj, h1⟩
      · cases e
      · exact .inr ⟨j, xs, h1, h2⟩
  refine ⟨s.fx, s.gr, s.sr, s.al0, s.alV, by rw [List.length_set]; exact s.ln, fun j e h => ?_, fun j xs h => ?_, fun j k xs ys a h1 h2 h3 h4 => ?_⟩
  · rcases getElem?_set_some h with ⟨_, e1, _⟩ | ⟨hj, h⟩
    · cases e1
    · obtain ⟨w, q, r'⟩ := s.sl j e h
      exact ⟨w, q, r'.weak hU⟩
  · rcases getElem?_set_some h with ⟨_, e1, _⟩ | ⟨hj, h⟩
    · cases e1
    · obtain ⟨a, vs, e1, e2, e3, e4, r'⟩ := s.ow j xs h
      exact ⟨a, vs, e1, e2, e3, e4, r'.weak hU⟩
  · rcases getElem?_set_some h1 with ⟨_, e1, _⟩ | ⟨hj, h1⟩
    · cases e1
    · rcases getElem?_set_some h2 with ⟨_, e1, _⟩ | ⟨hk, h2⟩
      · cases e1
      · exact s.di j k xs ys a h1 h2 h3 h4
/-- a slot gets a list of its own: nobody knows it -/
theorem CtxS.putO {κs : List Addr} {Hs : Hp} {Cs : List Cell} {a : Addr} {vs : List V} {xs : List PyData} (s : CtxS F N κs Hs σ ρ Cs) (p : Post F κs Hs κ H C) (hn : Hs a = none) (ha : H a = some (.lst vs)) (hk : a ∉ κ)
    (r : RpAll F κ (fun b => Us N.U σ ρ b ∨ b = a) H vs xs) : CtxS F N κ H (σ.set i (some (.ref a))) (ρ.set i (.own xs)) C := by
  have hU : ∀ b, Us N.U (σ.set i (some (.ref a))) (ρ.set i (.own xs)) b → Us N.U σ ρ b ∨ b = a := fun b h => by
    rcases h with h | ⟨j, ys, h1, h2⟩
    · exact .inl (.inl h)
    · rcases getElem?_set_some h1 with ⟨rfl, _, hl⟩ | ⟨hj, h1⟩
      · rw [List.getElem?_set] at h2
        simp only [if_true] at h2
        split at h2
        · cases h2; exact .inr rfl
        · cases h2
      · rw [List.getElem?_set_ne hj] at h2
        exact .inl (.inr ⟨j, ys, h1, h2⟩)
  have hUn : ∀ b, Us N.U (σ.set i (some (.ref a))) (ρ.set i (.own xs)) b → Us N.U σ ρ b ∨ Hs b = none := fun b h => (hU b h).imp id fun e => by rw [e]; exact hn
  refine ⟨.trans s.alV s.gr s.fx p.fx, FxV.grow s.alV s.sr s.fx s.gr p.gr, p.sr, s.al0, s.alV, by rw [List.length_set, List.length_set]; exact s.ln, fun j e h => ?_, fun j ys h => ?_, fun j k ys zs b h1 h2 h3 h4 => ?_⟩
  · rcases getElem?_set_some h with ⟨_, e1, _⟩ | ⟨hj, h⟩
    · cases e1
    · obtain ⟨w, q, r'⟩ := s.sl j e h
      exact ⟨w, by rw [List.getElem?_set_ne hj]; exact q, r'.go s.al p.fx.fv p.gr hUn⟩
  · rcases getElem?_set_some h with ⟨rfl, e1, hl⟩ | ⟨hj, h⟩
    · cases e1
      exact ⟨a, vs, by rw [List.getElem?_set]; simp [Nat.lt_of_lt_of_le hl s.ln], ha, hk, .inl (s.fx.free s.sr s.gr hn), r.weak hU⟩
    · obtain ⟨b, ws, e1, e2, e3, e4, r'⟩ := s.ow j ys h
      exact ⟨b, ws, by rw [List.getElem?_set_ne hj]; exact e1, (p.fx.keep _ _ e2 e3 fun _ z => nomatch z), p.gr.notMem e3 e2, e4, r'.go s.al p.fx.fv p.gr hUn⟩
  · have new : ∀ j, i ≠ j → ∀ ys, ρ[j]? = some (.own ys) → σ[j]? = some (some (.ref a)) → False := fun j _ ys q1 q2 => by
      obtain ⟨b, ws, e1, e2, _⟩ := s.ow j ys q1
      rw [q2] at e1
      cases e1
      rw [hn] at e2
      cases e2
    have at_i : ∀ {ys b}, (ρ.set i (.own xs))[i]? = some (.own ys) → (σ.set i (some (.ref a)))[i]? = some (some (.ref b)) → b = a := fun {ys b} _ q => by
      rcases getElem?_set_some q with ⟨_, e, _⟩ | ⟨hj, _⟩
      · cases e; rfl
      · exact absurd rfl hj
    rcases getElem?_set_some h1 with ⟨rfl, _, _⟩ | ⟨hj, h1'⟩
    · have eb := at_i h1 h3
      subst eb
      rcases getElem?_set_some h2 with ⟨rfl, _, _⟩ | ⟨hk', h2⟩
      · rfl
      · rw [List.getElem?_set_ne hk'] at h4
        exact (new k hk' zs h2 h4).elim
    · rcases getElem?_set_some h2 with ⟨rfl, _, _⟩ | ⟨hk', h2'⟩
      · have eb := at_i h2 h4
        subst eb
        rw [List.getElem?_set_ne hj] at h3
        exact (new j hj ys h1' h3).elim
      · rw [List.getElem?_set_ne hj] at h3
        rw [List.getElem?_set_ne hk'] at h4
        exact s.di j k ys zs b h1' h2' h3 h4
/-- the content of an own list changes -/
theorem CtxS.chg {xs xs' : List PyData} {a : Addr} {vs' : List V} (s : CtxS F N κ H σ ρ C) (hi : ρ[i]? = some (.own xs)) (ha : σ[i]? = some (some (.ref a))) (r : RpAll F κ (Us N.U σ ρ) H vs' xs') :
    CtxS F N κ (upd H a (.lst vs')) σ (ρ.set i (.own xs')) C := by
  obtain ⟨a', vs, e1, e2, e3, e4, r0⟩ := s.ow i xs hi
  rw [ha] at e1
  cases e1
  have hil : i < ρ.length := by
    rcases Nat.lt_or_ge i ρ.length with z | z
    · exact z
    · rw [List.getElem?_eq_none z] at hi; cases hi
  have hUa : Us N.U σ ρ a := .inr ⟨i, xs, hi, ha⟩
  have hU : ∀ b, Us N.U σ (ρ.set i (.own xs')) b → Us N.U σ ρ b := fun b h => by
    rcases h with h | ⟨j, ys, h1, h2⟩
    · exact .inl h
    · rcases getElem?_set_some h1 with ⟨rfl, _, _⟩ | ⟨hj, h1⟩
      · exact .inr ⟨i, xs, hi, h2⟩
      · exact .inr ⟨j, ys, h1, h2⟩
  have fv : Fv κ (Us N.U σ ρ) H (upd H a (.lst vs')) := (Fv.refl _ _ _).upd (.inr (.inr hUa))
  have go : ∀ {d : PyData} {v : V}, Rp F κ (Us N.U σ ρ) H v d → Rp F κ (Us N.U σ (ρ.set i (.own xs'))) (upd H a (.lst vs')) v d := fun h => h.go s.al fv (.refl _ _) fun b hb => .inl (hU b hb)
  have gos : ∀ {d : List PyData} {v : List V}, RpAll F κ (Us N.U σ ρ) H v d → RpAll F κ (Us N.U σ (ρ.set i (.own xs'))) (upd H a (.lst vs')) v d := fun h => h.go s.al fv (.refl _ _) fun b hb => .inl (hU b hb)
  refine ⟨s.fx.upd s.alV e4, s.gr, s.sr.chg e3 e2 e2 (fun _ z => nomatch z) (fun _ _ z => nomatch z), s.al0, s.alV, by rw [List.length_set]; exact s.ln, fun j e h => ?_, fun j ys h => ?_, fun j k ys zs b h1 h2 h3 h4 => ?_⟩
  · rcases getElem?_set_some h with ⟨_, e1, _⟩ | ⟨hj, h⟩
    · cases e1
    · obtain ⟨w, q, r'⟩ := s.sl j e h
      exact ⟨w, q, go r'⟩
  · rcases getElem?_set_some h with ⟨rfl, e1, hl⟩ | ⟨hj, h⟩
    · cases e1
      exact ⟨a, vs', ha, upd_same, e3, e4, gos r⟩
    · obtain ⟨b, ws, q1, q2, q3, q4, r'⟩ := s.ow j ys h
      have hne : b ≠ a := fun z => by
        subst z
        exact hj (s.di i j xs ys b hi h ha q1)
      exact ⟨b, ws, q1, by rw [upd_ne hne]; exact q2, q3, q4, gos r'⟩
  · have sub : ∀ {j : Nat} {ys : List PyData}, (ρ.set i (Slot.own xs'))[j]? = some (Slot.own ys) → ∃ zs, ρ[j]? = some (Slot.own zs) := fun {j ys} h => by
      rcases getElem?_set_some h with ⟨rfl, _, _⟩ | ⟨_, h⟩
      · exact ⟨xs, hi⟩
      · exact ⟨_, h⟩
    obtain ⟨ys', q1⟩ := sub h1
    obtain ⟨zs', q2⟩ := sub h2
    exact s.di j k ys' zs' b q1 q2 h3 h4
/-- an own list is let be -/
theorem CtxS.frz {xs : List PyData} (s : CtxS F N κ H σ ρ C) (hi : ρ[i]? = some (.own xs)) : CtxS F N κ H σ (ρ.set i (.val (.list xs))) C := by
  obtain ⟨a, vs, e1, e2, e3, e4, r0⟩ := s.ow i xs hi
  have hU : ∀ b, Us N.U σ (ρ.set i (.val (.list xs))) b → Us N.U σ ρ b := fun b h => by
    rcases h with h | ⟨j, ys, h1, h2⟩
    · exact .inl h
    · rcases getElem?_set_some h1 with ⟨_, e, _⟩ | ⟨hj, h1⟩
      · cases e
      · exact .inr ⟨j, ys, h1, h2⟩
  refine ⟨s.fx, s.gr, s.sr, s.al0, s.alV, by rw [List.length_set]; exact s.ln, fun j e h => ?_, fun j ys h => ?_, fun j k ys zs b h1 h2 h3 h4 => ?_⟩
  · rcases getElem?_set_some h with ⟨rfl, e5, _⟩ | ⟨hj, h⟩
    · cases e5
      refine ⟨_, e1, .lst e2 (fun z => ?_) e3 (r0.weak hU)⟩
      rcases z with z | ⟨j, ys, h1, h2⟩
      · obtain ⟨⟨ys, q⟩, nv⟩ := s.al0 a z
        rcases e4 with e4 | e4
        · rw [e4] at q
          cases q
        · exact nv e4
      · rcases getElem?_set_some h1 with ⟨_, e, _⟩ | ⟨hj, h1⟩
        · cases e
        · exact hj (s.di i j xs ys a hi h1 e1 h2)
    · obtain ⟨w, q, r'⟩ := s.sl j e h
      exact ⟨w, q, r'.weak hU⟩
  · rcases getElem?_set_some h with ⟨_, e5, _⟩ | ⟨hj, h⟩
    · cases e5
    · obtain ⟨b, ws, q1, q2, q3, q4, r'⟩ := s.ow j ys h
      exact ⟨b, ws, q1, q2, q3, q4, r'.weak hU⟩
  · rcases getElem?_set_some h1 with ⟨_, e5, _⟩ | ⟨hj, h1⟩
    · cases e5
    · rcases getElem?_set_some h2 with ⟨_, e5, _⟩ | ⟨hk, h2⟩
      · cases e5
      · exact s.di j k ys zs b h1 h2 h3 h4
end
/-! ### targets of statements -/
def rdP (F : Fix) (t : Tg) : TG := fun v σ H Q => ∃ N κ ρ C d ρ', CtxS F N κ H σ ρ C ∧ Rp F κ (Us N.U σ ρ) H v d ∧ putT t d ρ = some ρ' ∧ ∀ σ', CtxS F N κ H σ' ρ' C → (∀ a, Us N.U σ' ρ' a → Us N.U σ ρ a) → Q σ' H
def rdPs (F : Fix) (t : Tgs) : TGs := fun vs σ H Q => ∃ N κ ρ C ds ρ', CtxS F N κ H σ ρ C ∧ RpAll F κ (Us N.U σ ρ) H vs ds ∧ putTs t ds ρ = some ρ' ∧ ∀ σ', CtxS F N κ H σ' ρ' C → (∀ a, Us N.U σ' ρ' a → Us N.U σ ρ a) → Q σ' H
section
variable {X : Cx} {F : Fix} {c : Cfg} {sc : Scope} {fn : Str → Bool}
theorem putTs_len {t : Tgs} {es : List Expr} (h : mTs c sc fn t es = true) : ∀ {ds : List PyData} {δ δ' : SEnv}, putTs t ds δ = some δ' → ds.length = es.length := by
  induction es generalizing t with
  | nil =>
    intro ds δ δ' e
    cases t with
    | nil => cases ds with
      | nil => rfl
      | cons _ _ => rw [putTs] at e; cases e; all_goals (intros; contradiction)
    | nm i r => rw [mTs] at h; cases h; all_goals (intros; contradiction)
    | tp i r => rw [mTs] at h; cases h; all_goals (intros; contradiction)
  | cons x xs ih =>
    intro ds δ δ' e
    cases t with
    | nil => rw [mTs] at h; cases h; all_goals (intros; contradiction)
    | nm i r =>
      cases x with
      | Name n p =>
        rw [mTs, Bool.and_eq_true] at h
        cases ds with
        | nil => rw [putTs] at e; cases e; all_goals (intros; contradiction)
        | cons d ds =>
          rw [putTs] at e
          rw [List.length_cons, List.length_cons, ih h.2 e]
      | _ => rw [mTs] at h; cases h; all_goals (intros; contradiction)
    | tp t r =>
      cases x with
      | Tuple es k p =>
        rw [mTs, Bool.and_eq_true] at h
        cases ds with
        | nil => rw [putTs] at e; cases e; all_goals (intros; contradiction)
        | cons d ds =>
          cases d with
          | tuple ys =>
            rw [putTs] at e
            cases e1 : putTs t ys δ with
            | none => rw [e1] at e; cases e
            | some δ1 =>
              rw [e1] at e
              rw [List.length_cons, List.length_cons, ih h.2 e]
          | _ => rw [putTs] at e; cases e; all_goals (intros; contradiction)
      | _ => rw [mTs] at h; cases h; all_goals (intros; contradiction)
theorem pp_nm {i : Nat} {x : Str} {p : Pos} (hN : X.N = c.N) (nd : X.N.Nodup) (hs : X.env.scope = sc) (hfn : ∀ y, fn y = true → X.fn y = true) (h : locOk c sc fn i x = true) : PG X (.Name x p) (rdP F (.nm i)) := by
  obtain ⟨h1, h2, h3⟩ := locOk_of h
  refine wkG (pg_name nd (hN ▸ h1) (hs ▸ h2) (h3.imp (hfn _) fun z => hs ▸ z)) fun v σ H Q ⟨N, κ, ρ, C, d, ρ', cx, rv, e, q⟩ => ?_
  rw [putT] at e
  cases e
  exact q _ (cx.putV rv) (Us.set_val fun _ z => nomatch z)
theorem pps_of (hc : X.calm = true) (hK : F.K = X.K) (hN : X.N = c.N) (nd : X.N.Nodup) (hs : X.env.scope = sc) (hfn : ∀ y, fn y = true → X.fn y = true) : ∀ {t : Tgs} {es : List Expr}, mTs c sc fn t es = true → PGs X es (rdPs F t)
  | .nil, [], _ => wkGs pgs_nil fun vs σ H Q ⟨N, κ, ρ, C, ds, ρ', cx, rv, e, q⟩ => by
    cases ds with
    | nil =>
      cases rv
      rw [putTs] at e
      cases e
      exact ⟨rfl, q σ cx fun a h => h⟩
    | cons _ _ => rw [putTs] at e; cases e; all_goals (intros; contradiction)
  | .nil, _ :: _, h => by rw [mTs] at h; cases h; all_goals (intros; contradiction)
  | .nm i r, [], h => by rw [mTs] at h; cases h; all_goals (intros; contradiction)
  | .tp i r, [], h => by rw [mTs] at h; cases h; all_goals (intros; contradiction)
  | .nm i r, x :: xs, h => by
    cases x with
    | Name n p =>
      have h0 := h
      rw [mTs, Bool.and_eq_true] at h
      refine wkGs (pgs_cons (pp_nm (F := F) hN nd hs hfn h.1) (pps_of hc hK hN nd hs hfn h.2) ((each_of_tgs h0 X.env).2.2 _ _ rfl)) fun vs σ H Q ⟨N, κ, ρ, C, ds, ρ', cx, rv, e, q⟩ => ?_
      cases ds with
      | nil => rw [putTs] at e; cases e; all_goals (intros; contradiction)
      | cons d ds =>
        cases rv with
        | cons r1 r2 =>
          rw [putTs] at e
          exact ⟨_, _, rfl, N, κ, ρ, C, d, _, cx, r1, rfl, fun σ1 cx1 sb => ⟨N, κ, _, C, ds, ρ', cx1, r2.weak sb, e, fun σ2 cx2 sb2 => q σ2 cx2 fun a h => sb a (sb2 a h)⟩⟩
    | _ => rw [mTs] at h; cases h; all_goals (intros; contradiction)
  | .tp t r, x :: xs, h => by
    cases x with
    | Tuple es k p =>
      have h0 := h
      rw [mTs, Bool.and_eq_true] at h
      have hg : PG X (.Tuple es k p) (rdP F (.tp t)) := by
        refine wkG (pg_tup hc (pps_of hc hK hN nd hs hfn h.1) (each_of_tgs h.1 X.env).1 (each_of_tgs h.1 X.env).2.1) fun v σ H Q ⟨N, κ, ρ, C, d, ρ', cx, rv, e, q⟩ => ?_
        cases d with
        | tuple ys =>
          rw [putT] at e
          cases rv with
          | tup q1 q4 => exact ⟨_, _, rfl, hK ▸ sqT_of q1, by rw [q4.length, putTs_len h.1 e], N, κ, ρ, C, ys, ρ', cx, q4, e, q⟩
        | _ => rw [putT] at e; cases e; all_goals (intros; contradiction)
      refine wkGs (pgs_cons hg (pps_of hc hK hN nd hs hfn h.2) ((each_of_tgs h0 X.env).2.2 _ _ rfl)) fun vs σ H Q ⟨N, κ, ρ, C, ds, ρ', cx, rv, e, q⟩ => ?_
      cases ds with
      | nil => rw [putTs] at e; cases e; all_goals (intros; contradiction)
      | cons d ds =>
        cases rv with
        | cons r1 r2 =>
          cases d with
          | tuple ys =>
            rw [putTs] at e
            cases e1 : putTs t ys ρ with
            | none => rw [e1] at e; cases e
            | some δ1 =>
              rw [e1] at e
              exact ⟨_, _, rfl, N, κ, ρ, C, .tuple ys, δ1, cx, r1, by rw [putT]; exact e1, fun σ1 cx1 sb => ⟨N, κ, _, C, ds, ρ', cx1, r2.weak sb, e, fun σ2 cx2 sb2 => q σ2 cx2 fun a h => sb a (sb2 a h)⟩⟩
          | _ => rw [putTs] at e; cases e; all_goals (intros; contradiction)
    | _ => rw [mTs] at h; cases h; all_goals (intros; contradiction)
theorem pp_of (hc : X.calm = true) (hK : F.K = X.K) (hN : X.N = c.N) (nd : X.N.Nodup) (hs : X.env.scope = sc) (hfn : ∀ y, fn y = true → X.fn y = true) {t : Tg} {x : Expr} (h : mT c sc fn t x = true) : PG X x (rdP F t) := by
  cases t with
  | nm i =>
    cases x with
    | Name n p => rw [mT] at h; exact pp_nm hN nd hs hfn h
    | _ => rw [mT] at h; cases h; all_goals (intros; contradiction)
  | tp t =>
    cases x with
    | Tuple es k p =>
      rw [mT] at h
      refine wkG (pg_tup hc (pps_of hc hK hN nd hs hfn h) (each_of_tgs h X.env).1 (each_of_tgs h X.env).2.1) fun v σ H Q ⟨N, κ, ρ, C, d, ρ', cx, rv, e, q⟩ => ?_
      cases d with
      | tuple ys =>
        rw [putT] at e
        cases rv with
        | tup q1 q4 => exact ⟨_, _, rfl, hK ▸ sqT_of q1, by rw [q4.length, putTs_len h e], N, κ, ρ, C, ys, ρ', cx, q4, e, q⟩
      | _ => rw [putT] at e; cases e; all_goals (intros; contradiction)
    | _ => rw [mT] at h; cases h; all_goals (intros; contradiction)
end
end BR
set_option Elab.async false
set_option linter.all false
set_option maxRecDepth 100000
set_option maxHeartbeats 4000000
/-! the rules of statements -/
namespace BR
open PySem PySem.Spec PyProof.Rows L2
structure Bas (F : Fix) (N : Ent) (κ : List Addr) (H : Hp) (C : List Cell) : Prop where
  fx : FxV N.κ N.V N.H H
  gr : Grow N.κ N.H κ
  sr : Sr F κ H C
theorem CtxS.bas {F : Fix} {N : Ent} {κ : List Addr} {H : Hp} {σ : L2.St} {ρ : SEnv} {C : List Cell} (s : CtxS F N κ H σ ρ C) : Bas F N κ H C := ⟨s.fx, s.gr, s.sr⟩
def FinS (F : Fix) (N : Ent) (r : Res Out) (D : Ends) : Prop :=
  match r with
  | .ok (.nx ρ') C' => ∀ κ' H' σ', CtxS F N κ' H' σ' ρ' C' → D.nx σ' H'
  | .ok (.bk ρ') C' => ∀ κ' H' σ', CtxS F N κ' H' σ' ρ' C' → D.bk σ' H'
  | .ok (.ret d) C' => ∀ κ' H' v, Bas F N κ' H' C' → Rp F κ' N.U H' v d → D.rt v H'
  | .exc _ _ _ => False
  | .stuck => False
def rdS (F : Fix) (f : SEnv → List Cell → Res Out) : TS := fun D σ H => ∃ N κ ρ C, CtxS F N κ H σ ρ C ∧ FinS F N (f ρ C) D
def Own (σ : L2.St) (ρ : SEnv) : Addr → Prop := fun a => ∃ (i : Nat) (xs : List PyData), ρ[i]? = some (.own xs) ∧ σ[i]? = some (some (.ref a))
section
variable {F : Fix} {N : Ent} {κ κ1 κ' : List Addr} {H H1 H' : Hp} {σ σ' : L2.St} {ρ ρ' : SEnv} {C C1 C' : List Cell} {v : V} {d : PyData} {i : Nat} {D : Ends} {α : Type}
theorem FinS.ex {r : Res α} {g : α → List Cell → Res Out} (s : CtxS F N κ H σ ρ C) (h : FinS F N (r.bind g) D) : BR.Fin F W0 κ H σ r fun a C1 κ1 H1 => r = .ok a C1 ∧ CtxS F N κ1 H1 σ ρ C1 ∧ FinS F N (g a C1) D := by
  cases r with
  | ok a C1 => exact fun κ1 H1 p => ⟨rfl, s.post p, h⟩
  | exc _ _ _ => exact h
  | stuck => exact h
theorem FinS.opt {o : Option α} {g : α → List Cell → Res Out} (h : FinS F N ((opt o C).bind g) D) : ∃ a, o = some a ∧ FinS F N (g a C) D := by
  cases o with
  | some a => exact ⟨a, rfl, h⟩
  | none => exact h.elim
/-- .. whatever comes first -/
theorem FinS.opt2 {r : Res α} {β : Type} {o : Option β} {g : α → β → List Cell → Res Out} (h : FinS F N (r.bind fun a C => (BR.opt o C).bind (g a)) D) : ∃ b, o = some b := by
  cases r with
  | ok a C1 =>
    obtain ⟨b, e, _⟩ := FinS.opt (show FinS F N ((BR.opt o C1).bind (g a)) D from h)
    exact ⟨b, e⟩
  | exc _ _ _ => exact h.elim
  | stuck => exact h.elim
theorem Own.none {a : Addr} (s : CtxS F N κ H σ ρ C) (h : Own σ ρ a) : N.H a = none ∨ N.V a := by
  obtain ⟨i, xs, h1, h2⟩ := h
  obtain ⟨b, vs, e1, _, _, e4, _⟩ := s.ow i xs h1
  rw [h2] at e1
  cases e1
  exact e4
/-- a loop begins -/
theorem CtxS.enter (s : CtxS F N κ H σ ρ C) : CtxS F ⟨κ, N.U, Own σ ρ, H⟩ κ H σ ρ C := by
  have hV : ∀ a, Own σ ρ a → a ∉ κ ∧ ∃ xs, H a = some (.lst xs) := fun a ⟨i, xs, h1, h2⟩ => by
    obtain ⟨b, vs, e1, e2, e3, _⟩ := s.ow i xs h1
    rw [h2] at e1
    cases e1
    exact ⟨e3, vs, e2⟩
  refine ⟨.refl hV, .refl _ _, s.sr, fun a h => ⟨s.alU a h, fun z => ?_⟩, hV, s.ln, s.sl, fun i xs h => ?_, s.di⟩
  · obtain ⟨⟨ys, q⟩, nv⟩ := s.al0 a h
    rcases Own.none s z with e | e
    · rw [e] at q; cases q
    · exact nv e
  · obtain ⟨a, vs, e1, e2, e3, e4, r⟩ := s.ow i xs h
    exact ⟨a, vs, e1, e2, e3, .inr ⟨i, xs, h, e1⟩, r⟩
/-- .. and what is shown within counts without -/
theorem CtxS.leaveB (s : CtxS F N κ H σ ρ C) (b : Bas F ⟨κ, N.U, Own σ ρ, H⟩ κ' H' C') : Bas F N κ' H' C' := by
  have no : ∀ a o, N.H a = some o → ¬ N.V a → ¬ Own σ ρ a := fun a o e nv z => by
    rcases Own.none s z with q | q
    · rw [q] at e; cases e
    · exact nv q
  refine ⟨⟨fun a o e hk hv ht => b.fx.keep a o (s.fx.keep a o e hk hv ht) (s.gr.notMem hk e) (no a o e hv) ht, fun a ps e hk => ?_, fun a hv => ?_⟩, FxV.grow s.alV s.sr s.fx s.gr b.gr, b.sr⟩
  · obtain ⟨ps', q⟩ := s.fx.tbl a ps e hk
    exact b.fx.tbl a ps' q (s.gr.notMem hk e)
  · by_cases ho : Own σ ρ a
    · exact b.fx.liv a ho
    · obtain ⟨xs, q⟩ := s.fx.liv a hv
      obtain ⟨hk, ys, e⟩ := s.alV a hv
      exact ⟨xs, b.fx.keep a _ q (s.gr.notMem hk e) ho fun _ z => nomatch z⟩
theorem CtxS.leave (s : CtxS F N κ H σ ρ C) (t : CtxS F ⟨κ, N.U, Own σ ρ, H⟩ κ' H' σ' ρ' C') : CtxS F N κ' H' σ' ρ' C' := by
  have b := s.leaveB t.bas
  refine ⟨b.fx, b.gr, b.sr, s.al0, s.alV, t.ln, t.sl, fun i xs h => ?_, t.di⟩
  obtain ⟨a, vs, e1, e2, e3, e4, r⟩ := t.ow i xs h
  refine ⟨a, vs, e1, e2, e3, ?_, r⟩
  rcases e4 with e4 | e4
  · exact .inl (s.fx.free s.sr s.gr e4)
  · exact Own.none s e4
theorem FinS.leave {r : Res Out} (s : CtxS F N κ H σ ρ C) (h : FinS F N r D) : FinS F ⟨κ, N.U, Own σ ρ, H⟩ r D := by
  cases r with
  | ok o C1 =>
    cases o with
    | nx ρ1 => exact fun κ' H' σ' t => h κ' H' σ' (s.leave t)
    | bk ρ1 => exact fun κ' H' σ' t => h κ' H' σ' (s.leave t)
    | ret d => exact fun κ' H' v b rv => h κ' H' v (s.leaveB b) rv
  | exc _ _ _ => exact h
  | stuck => exact h
end
section
variable {X : Cx} {F : Fix} {c : Cfg} {sc : Scope} {x y z : Expr} {p p1 p2 : Pos} {fa fb fc : VEnv → List Cell → Res PyData} {sts : List Stmt} {st : Stmt} {fs fr : SEnv → List Cell → Res Out}
theorem s_nil : PSs X [] (rdS F fun ρ C => .ok (.nx ρ) C) := wkSs pss_nil fun D σ H ⟨N, κ, ρ, C, s, h⟩ => h κ H σ s
def seqR (fs fr : SEnv → List Cell → Res Out) : SEnv → List Cell → Res Out := fun ρ C => (fs ρ C).bind fun o C => match o with
    | .nx ρ' => fr ρ' C
    | .bk ρ' => .ok (.bk ρ') C
    | .ret d => .ok (.ret d) C
theorem FinS.seq {N : Ent} {ρ : SEnv} {C : List Cell} {D : Ends} (h : FinS F N (seqR fs fr ρ C) D) : FinS F N (fs ρ C) { D with nx := rdS F fr D } := by
  revert h
  unfold seqR
  cases fs ρ C with
  | ok o C1 =>
    cases o with
    | nx ρ1 => exact fun h κ' H' σ' t => ⟨N, κ', ρ1, C1, t, h⟩
    | bk ρ1 => exact fun h => h
    | ret d => exact fun h => h
  | exc _ _ _ => exact fun h => h
  | stuck => exact fun h => h
theorem s_cons (h1 : PS X st (rdS F fs)) (h2 : PSs X sts (rdS F fr)) : PSs X (st :: sts) (rdS F (seqR fs fr)) :=
  wkSs (pss_cons h1 h2) fun D σ H ⟨N, κ, ρ, C, s, h⟩ => ⟨N, κ, ρ, C, s, h.seq⟩
/-- a step that is none of the text's -/
theorem s_ghost (g : ∀ N κ H σ ρ C D, CtxS F N κ H σ ρ C → FinS F N (fs ρ C) D → ∃ ρ' C', CtxS F N κ H σ ρ' C' ∧ FinS F N (.ok (.nx ρ') C') D) (h2 : PSs X sts (rdS F fr)) : PSs X sts (rdS F (seqR fs fr)) := by
  refine wkSs h2 fun D σ H ⟨N, κ, ρ, C, s, h⟩ => ?_
  obtain ⟨ρ', C', s', h'⟩ := g N κ H σ ρ C _ s h.seq
  exact h' κ H σ s'
theorem g_frz {i : Nat} {N : Ent} {κ : List Addr} {H : Hp} {σ : L2.St} {ρ : SEnv} {C : List Cell} {D : Ends} (s : CtxS F N κ H σ ρ C) (h : FinS F N ((opt (ownAt ρ i) C).bind fun xs C => .ok (.nx (ρ.set i (.val (.list xs)))) C) D) :
    ∃ ρ' C', CtxS F N κ H σ ρ' C' ∧ FinS F N (.ok (.nx ρ') C') D := by
  obtain ⟨xs, e, h⟩ := h.opt
  unfold ownAt at e
  split at e
  · rename_i ys hi
    cases e
    exact ⟨_, C, s.frz hi, h⟩
  · cases e
theorem s_pass : PS X (.Pass p) (rdS F fun ρ C => .ok (.nx ρ) C) := wkS ps_pass fun D σ H ⟨N, κ, ρ, C, s, h⟩ => h κ H σ s
theorem s_brk : PS X (.Break p) (rdS F fun ρ C => .ok (.bk ρ) C) := wkS ps_break fun D σ H ⟨N, κ, ρ, C, s, h⟩ => h κ H σ s
theorem s_never : PS X st (rdS F fun _ _ => .stuck) := wkS ps_never fun D σ H ⟨N, κ, ρ, C, s, h⟩ => h.elim
theorem s_retN : PS X (.Return none p) (rdS F fun _ C => .ok (.ret .none) C) := wkS ps_retN fun D σ H ⟨N, κ, ρ, C, s, h⟩ => h κ H .non s.bas .non
theorem s_ret (ha : PE X x (rdE F W0 fa)) : PS X (.Return (some x) p) (rdS F fun ρ C => (fa (view true ρ) C).bind fun d C => .ok (.ret d) C) :=
  wkS (ps_ret ha) fun D σ H ⟨N, κ, ρ, C, s, h⟩ => ⟨κ, N.U, view true ρ, C, s.view1, (FinS.ex s h).mono fun d C1 κ1 H1 p1 ⟨_, s1, h1⟩ v rv => h1 κ1 H1 v s1.bas rv⟩
theorem s_expr (ha : PE X x (rdE F W0 fa)) (hs : swapsWith x none p.line X.env = pure false) : PS X (.Expr x p) (rdS F fun ρ C => (fa (view true ρ) C).bind fun _ C => .ok (.nx ρ) C) :=
  wkS (ps_expr ha hs) fun D σ H ⟨N, κ, ρ, C, s, h⟩ => ⟨κ, N.U, view true ρ, C, s.view1, (FinS.ex s h).mono fun d C1 κ1 H1 p1 ⟨_, s1, h1⟩ v rv => h1 κ1 H1 σ s1⟩
theorem s_if {as bs : List Stmt} {ga gb : SEnv → List Cell → Res Out} (hc : PT X x (rdT F W0 fun δ C => tstR (fc δ C))) (ha : PSs X as (rdS F ga)) (hb : PSs X bs (rdS F gb)) :
    PS X (.If x as bs p) (rdS F fun ρ C => (tstR (fc (view true ρ) C)).bind fun k C => if k = true then ga ρ C else gb ρ C) := by
  refine wkS (ps_if hc ha hb) fun D σ H ⟨N, κ, ρ, C, s, h⟩ => ⟨κ, N.U, view true ρ, C, s.view1, (FinS.ex s h).mono fun k C1 κ1 H1 p1 ⟨_, s1, h1⟩ => ?_⟩
  cases k with
  | true => exact iteT ⟨N, κ1, ρ, C1, s1, h1⟩
  | false => exact iteF ⟨N, κ1, ρ, C1, s1, h1⟩
theorem s_asg {t : Tg} {f : Bool} {tg : Expr} (hc : X.calm = true) (hK : F.K = X.K) (hN : X.N = c.N) (nd : X.N.Nodup) (hs : X.env.scope = sc) {fn : Str → Bool} (hfn : ∀ y, fn y = true → X.fn y = true) (hm : mT c sc fn t tg = true) (ha : PE X x (rdE F W0 fa))
    (h1 : swapsWithSole [tg] x p.line X.env = pure false) (h2 : swappedStores [tg] x X.env = pure none) (h3 : (assignEach [tg] X.env).map (·.2) = [assign tg X.env]) :
    PS X (.Assign [tg] x p) (rdS F fun ρ C => (fa (view f ρ) C).bind fun d C => if okFlat f d = true then (opt (putT t d ρ) C).bind fun ρ' C => .ok (.nx ρ') C else .stuck) := by
  refine wkS (ps_asg ha (pp_of (F := F) hc hK hN nd hs hfn hm) h1 h2 h3) fun D σ H ⟨N, κ, ρ, C, s, h⟩ => ⟨κ, viewU N σ ρ f, view f ρ, C, s.view f, (FinS.ex s h).mono fun d C1 κ1 H1 p1 ⟨_, s1, h1⟩ v rv => ?_⟩
  by_cases g : okFlat f d = true
  · rw [if_pos g] at h1
    obtain ⟨ρ', e, h1⟩ := h1.opt
    exact ⟨N, κ1, ρ, C1, d, ρ', s1, keepR rv g, e, fun σ' s' _ => h1 κ1 H1 σ' s'⟩
  · rw [if_neg g] at h1
    exact h1.elim
/-- name = value, by the name -/
theorem s_asgN {i : Nat} {f : Bool} {st : Stmt} (hset : PS X st (tAsg (rdE F W0 fa) (gName i))) :
    PS X st (rdS F fun ρ C => (fa (view f ρ) C).bind fun d C => if okFlat f d = true then (opt (putT (.nm i) d ρ) C).bind fun ρ' C => .ok (.nx ρ') C else .stuck) := by
  refine wkS hset fun D σ H ⟨N, κ, ρ, C, s, h⟩ => ⟨κ, viewU N σ ρ f, view f ρ, C, s.view f, (FinS.ex s h).mono fun d C1 κ1 H1 p1 ⟨_, s1, h1⟩ v rv => ?_⟩
  by_cases g : okFlat f d = true
  · rw [if_pos g] at h1
    obtain ⟨ρ', e, h1⟩ := h1.opt
    rw [putT] at e
    cases e
    exact h1 κ1 H1 _ (s1.putV (keepR rv g))
  · rw [if_neg g] at h1
    exact h1.elim
/-- what comes when every list may change is new -/
theorem newL {κ κ1 : List Addr} {H H1 : Hp} {C1 : List Cell} {a : Addr} {xs : List PyData} (p : Post F κ H κ1 H1 C1) (r : Rp F κ1 (fun a => ∃ xs, H a = some (.lst xs)) H1 (.ref a) (.list xs)) :
    H a = none ∧ a ∉ κ1 ∧ ∃ vs, H1 a = some (.lst vs) ∧ RpAll F κ1 (fun a => ∃ xs, H a = some (.lst xs)) H1 vs xs := by
  cases r with
  | lst h1 h2 h3 h4 =>
    refine ⟨?_, h3, _, h1, h4⟩
    cases e : H a with
    | none => rfl
    | some o =>
      have hk : a ∉ κ := fun z => h3 (p.gr.mem z)
      by_cases ht : ∃ ps, o = .tbl ps
      · obtain ⟨ps, rfl⟩ := ht
        obtain ⟨ps', q⟩ := p.fx.tbl a ps e hk
        rw [h1] at q
        cases q
      · have q := p.fx.keep a o e hk fun ps z => ht ⟨ps, z⟩
        rw [h1] at q
        cases q
        exact absurd ⟨_, e⟩ h2
theorem rp_list {κ1 : List Addr} {U : Addr → Prop} {H1 : Hp} {v : V} {xs : List PyData} (r : Rp F κ1 U H1 v (.list xs)) : ∃ a, v = .ref a := by
  cases r with
  | lst _ _ _ _ => exact ⟨_, rfl⟩
theorem mkOwn {d : PyData} {sl : Slot} {f : Bool} (h : mkSlot true f d = some sl) : ∃ xs, d = .list xs ∧ flats xs = true ∧ sl = .own xs := by
  unfold mkSlot at h
  rw [if_pos rfl] at h
  split at h
  · split at h
    · rename_i g
      cases h
      exact ⟨_, rfl, g, rfl⟩
    · cases h
  · cases h
theorem s_own {i : Nat} {st : Stmt} (hset : PS X st (tAsg (rdE F W0 fa) (gName i))) :
    PS X st (rdS F fun ρ C => (fa (viewM true true ρ) C).bind fun d C => (opt (mkSlot true true d) C).bind fun s C => .ok (.nx (ρ.set i s)) C) := by
  refine wkS hset fun D σ H ⟨N, κ, ρ, C, s, h⟩ => ⟨κ, _, viewM true true ρ, C, s.viewF, ((FinS.ex s h).mono fun d C1 κ1 H1 p1 ⟨_, s1, h1⟩ v rv => ?_)⟩
  obtain ⟨sl, e, h1⟩ := h1.opt
  obtain ⟨xs, rfl, hf, rfl⟩ := mkOwn e
  obtain ⟨a, rfl⟩ := rp_list rv
  obtain ⟨n1, n2, vs, n3, n4⟩ := newL p1 rv
  exact h1 κ1 H1 _ (s.putO p1 n1 n3 n2 (n4.flat hf))
theorem s_asgNew {i : Nat} {st : Stmt} (hset : PS X st (tAsg (rdN F W0 fa) (gName i))) :
    PS X st (rdS F fun ρ C => (fa (view true ρ) C).bind fun d C => (opt (newD d) C).bind fun xs C => .ok (.nx (ρ.set i (.val (.list xs)))) C) := by
  refine wkS hset fun D σ H ⟨N, κ, ρ, C, s, h⟩ => ⟨κ, N.U, view true ρ, C, s.view1, (FinS.ex s h).mono fun d C1 κ1 H1 p1 ⟨_, s1, h1⟩ a vs xs e hn ha nU nk r => ?_⟩
  obtain ⟨ys, e2, h1⟩ := h1.opt
  subst e
  have e2 : (if flats xs = true then some xs else none) = some ys := e2
  by_cases hf : flats xs = true
  · rw [if_pos hf] at e2
    cases e2
    refine h1 κ1 H1 _ (s1.putV (.lst ha (fun z => ?_) nk (r.flat hf)))
    rcases z with z | ⟨j, ws, q1, q2⟩
    · exact nU z
    · obtain ⟨b, us, w1, w2, _⟩ := s.ow j ws q1
      rw [q2] at w1
      cases w1
      rw [hn] at w2
      cases w2
  · rw [if_neg hf] at e2
    cases e2
theorem newD_some {d : PyData} {ys : List PyData} (h : newD d = some ys) : d = .list ys ∧ flats ys = true := by
  cases d with
  | list xs =>
    have h : (if flats xs = true then some xs else none) = some ys := h
    by_cases hf : flats xs = true
    · rw [if_pos hf] at h
      cases h
      exact ⟨rfl, hf⟩
    · rw [if_neg hf] at h
      cases h
  | _ => cases h
theorem s_ownNew {i : Nat} {st : Stmt} (hset : PS X st (tAsg (rdN F W0 fa) (gName i))) :
    PS X st (rdS F fun ρ C => (fa (view true ρ) C).bind fun d C => (opt (newD d) C).bind fun xs C => .ok (.nx (ρ.set i (.own xs))) C) := by
  refine wkS hset fun D σ H ⟨N, κ, ρ, C, s, h⟩ => ⟨κ, N.U, view true ρ, C, s.view1, (FinS.ex s h).mono fun d C1 κ1 H1 p1 ⟨_, s1, h1⟩ a vs xs e hn ha nU nk r => ?_⟩
  obtain ⟨ys, e2, h1⟩ := h1.opt
  subst e
  have e2 : (if flats xs = true then some xs else none) = some ys := e2
  by_cases hf : flats xs = true
  · rw [if_pos hf] at e2
    cases e2
    exact h1 κ1 H1 _ (s.putO p1 hn ha nk (r.flat hf))
  · rw [if_neg hf] at e2
    cases e2
theorem s_mv {i j : Nat} {nm : Str} (hset : PS X st (tAsg (tVar j) (gName i))) : PS X st (rdS F fun ρ C => (opt (ownAt ρ j) C).bind fun xs C => .ok (.nx ((ρ.set j .no).set i (.own xs))) C) := by
  refine wkS hset fun D σ H ⟨N, κ, ρ, C, s, h⟩ => ?_
  obtain ⟨xs, e, h⟩ := h.opt
  unfold ownAt at e
  split at e
  · rename_i ys hj
    cases e
    obtain ⟨a, vs, e1, e2, e3, e4, r⟩ := s.ow j _ hj
    refine ⟨.ref a, e1, h κ H _ ?_⟩
    have hU : ∀ b, Us N.U (σ.set i (some (.ref a))) ((ρ.set j .no).set i (.own xs)) b → Us N.U σ ρ b := fun b hb => by
      rcases hb with hb | ⟨k, zs, h1, h2⟩
      · exact .inl hb
      · rcases getElem?_set_some h1 with ⟨rfl, _, _⟩ | ⟨hk, h1⟩
        · rcases getElem?_set_some h2 with ⟨_, q, _⟩ | ⟨q, _⟩
          · cases q
            exact .inr ⟨j, xs, hj, e1⟩
          · exact absurd rfl q
        · rcases getElem?_set_some h1 with ⟨_, q, _⟩ | ⟨hk', h1⟩
          · cases q
          · rw [List.getElem?_set_ne hk] at h2
            exact .inr ⟨k, zs, h1, h2⟩
    refine ⟨s.fx, s.gr, s.sr, s.al0, s.alV, by rw [List.length_set, List.length_set, List.length_set]; exact s.ln, fun k d h1 => ?_, fun k zs h1 => ?_, fun k l ys zs b h1 h2 h3 h4 => ?_⟩
    · rcases getElem?_set_some h1 with ⟨_, q, _⟩ | ⟨hk, h1⟩
      · cases q
      · rcases getElem?_set_some h1 with ⟨_, q, _⟩ | ⟨hk', h1⟩
        · cases q
        · obtain ⟨w, q, r'⟩ := s.sl k d h1
          exact ⟨w, by rw [List.getElem?_set_ne hk]; exact q, r'.weak hU⟩
    · rcases getElem?_set_some h1 with ⟨rfl, q, hl⟩ | ⟨hk, h1⟩
      · cases q
        refine ⟨a, vs, ?_, e2, e3, e4, r.weak hU⟩
        rw [List.length_set] at hl
        rw [List.getElem?_set]
        simp [Nat.lt_of_lt_of_le hl s.ln]
      · rcases getElem?_set_some h1 with ⟨_, q, _⟩ | ⟨hk', h1⟩
        · cases q
        · obtain ⟨b, ws, q1, q2, q3, q4, r'⟩ := s.ow k zs h1
          exact ⟨b, ws, by rw [List.getElem?_set_ne hk]; exact q1, q2, q3, q4, r'.weak hU⟩
    · have back : ∀ {k : Nat} {ys : List PyData} {b : Addr}, ((ρ.set j Slot.no).set i (Slot.own xs))[k]? = some (Slot.own ys) → (σ.set i (some (V.ref a)))[k]? = some (some (V.ref b)) → (k = i ∧ b = a) ∨ (k ≠ i ∧ k ≠ j ∧ ρ[k]? = some (Slot.own ys) ∧ σ[k]? = some (some (V.ref b))) := fun {k ys b} h1 h2 => by
        rcases getElem?_set_some h1 with ⟨rfl, _, _⟩ | ⟨hk, h1⟩
        · rcases getElem?_set_some h2 with ⟨_, q, _⟩ | ⟨q, _⟩
          · cases q; exact .inl ⟨rfl, rfl⟩
          · exact absurd rfl q
        · rcases getElem?_set_some h1 with ⟨_, q, _⟩ | ⟨hk', h1⟩
          · cases q
          · rw [List.getElem?_set_ne hk] at h2
            exact .inr ⟨fun z => hk z.symm, fun z => hk' z.symm, h1, h2⟩
      rcases back h1 h3 with ⟨rfl, rfl⟩ | ⟨n1, n2, q1, q2⟩
      · rcases back h2 h4 with ⟨rfl, _⟩ | ⟨n1, n2, q1, q2⟩
        · rfl
        · exact absurd (s.di l j zs xs _ q1 hj q2 e1) n2
      · rcases back h2 h4 with ⟨rfl, rfl⟩ | ⟨_, _, q3, q4⟩
        · exact absurd (s.di k j ys xs _ q1 hj q2 e1) n2
        · exact s.di k l ys zs b q1 q3 q2 q4
  · cases e
theorem s_app {i : Nat} {f : Bool} {nm : Str} {ap p0 pp : Pos} (hi : X.N[i]? = some nm) (hv : Vis X.env.scope nm) (hd : (nm == ("__debug__" : Str)) = false) (hcd : (nm == ("__classdict__" : Str)) = false) (hl : (ap.endLine == pp.line) = true) (hp : pl x = true) (ha : PE X x (rdE F W0 fa)) :
    PS X (.Expr (.Call (.Attribute (.Name nm p0) ("append" : Str) ap) [x] [] pp) p) (rdS F fun ρ C => (fa (view f ρ) C).bind fun d C => (opt (ownAt ρ i) C).bind fun xs C =>
      if okFlat f d = true ∧ xs.length < big then .ok (.nx (ρ.set i (.own (xs ++ [d])))) C else .stuck) := by
  have hs : starEach [x] X.env = (false, eval x X.env) :: starEach [] X.env := pl_star hp
  refine wkS (ps_expr (pe_bm PySem.F.plainAttrs_list PySem.F.slot_list_append PySem.F.type_list_append mt_append (pe_var hi hv hd hcd) (pa_cons ha pa_nil hs) rfl (by rw [hs]; rfl) hl hs rfl) rfl) fun D σ H ⟨N, κ, ρ, C, s, h⟩ => ?_
  obtain ⟨xs, e⟩ := FinS.opt2 h
  have e0 := e
  unfold ownAt at e
  split at e
  · rename_i ys hj
    cases e
    obtain ⟨a, vs, e1, e2, e3, e4, r⟩ := s.ow i _ hj
    refine ⟨.ref a, e1, .inl ⟨rfl, vs, .of e2⟩, κ, viewU N σ ρ f, view f ρ, C, s.view f, (FinS.ex s h).mono fun d C1 κ1 H1 p1 ⟨_, s1, h1⟩ v rv => ?_⟩
    rw [e0] at h1
    by_cases g : okFlat f d = true ∧ xs.length < big
    · have h1 : FinS F N (if okFlat f d = true ∧ xs.length < big then .ok (.nx (ρ.set i (.own (xs ++ [d])))) C1 else .stuck) D := h1
      rw [if_pos g] at h1
      have e2' := p1.fx.keep _ _ e2 e3 fun _ z => nomatch z
      obtain ⟨a', vs', q1, q2, q3, q4, r'⟩ := s1.ow i _ hj
      rw [e1] at q1
      cases q1
      rw [e2'] at q2
      cases q2
      refine ⟨a, vs, v, rfl, rfl, e2', ?_, h1 κ1 _ σ (s1.chg hj e1 (r'.append (.cons (keepR rv g.1) .nil)))⟩
      rw [r.length, sizeLine_eq]
      have := g.2
      unfold big at this
      omega
    · have h1 : FinS F N (if okFlat f d = true ∧ xs.length < big then .ok (.nx (ρ.set i (.own (xs ++ [d])))) C1 else .stuck) D := h1
      rw [if_neg g] at h1
      exact h1.elim
  · cases e
theorem s_ext {i : Nat} {f : Bool} {nm : Str} {ap p0 pp : Pos} (hi : X.N[i]? = some nm) (hv : Vis X.env.scope nm) (hd : (nm == ("__debug__" : Str)) = false) (hcd : (nm == ("__classdict__" : Str)) = false) (hl : (ap.endLine == pp.line) = true) (hp : pl x = true) (ha : PE X x (rdE F W0 fa)) :
    PS X (.Expr (.Call (.Attribute (.Name nm p0) ("extend" : Str) ap) [x] [] pp) p) (rdS F fun ρ C => (fa (view f ρ) C).bind fun d C => (opt (ownAt ρ i) C).bind fun xs C => (opt (newD d) C).bind fun ys C =>
      if xs.length + ys.length ≤ big then .ok (.nx (ρ.set i (.own (xs ++ ys)))) C else .stuck) := by
  have hs : starEach [x] X.env = (false, eval x X.env) :: starEach [] X.env := pl_star hp
  refine wkS (ps_expr (pe_bm PySem.F.plainAttrs_list PySem.F.slot_list_extend PySem.F.type_list_extend mt_extend (pe_var hi hv hd hcd) (pa_cons ha pa_nil hs) rfl (by rw [hs]; rfl) hl hs rfl) rfl) fun D σ H ⟨N, κ, ρ, C, s, h⟩ => ?_
  obtain ⟨xs, e⟩ := FinS.opt2 h
  have e0 := e
  unfold ownAt at e
  split at e
  · rename_i ys hj
    cases e
    obtain ⟨a, vs, e1, e2, e3, e4, r⟩ := s.ow i _ hj
    refine ⟨.ref a, e1, .inl ⟨rfl, vs, .of e2⟩, κ, viewU N σ ρ f, view f ρ, C, s.view f, (FinS.ex s h).mono fun d C1 κ1 H1 p1 ⟨_, s1, h1⟩ v rv => ?_⟩
    rw [e0] at h1
    have h1 : FinS F N ((opt (newD d) C1).bind fun ys C => if xs.length + ys.length ≤ big then .ok (.nx (ρ.set i (.own (xs ++ ys)))) C else .stuck) D := h1
    obtain ⟨zs, e5, h9⟩ := h1.opt
    clear h1
    obtain ⟨rfl, hf⟩ := newD_some e5
    have h1 : FinS F N (if xs.length + zs.length ≤ big then .ok (.nx (ρ.set i (.own (xs ++ zs)))) C1 else .stuck) D := h9
    by_cases g : xs.length + zs.length ≤ big
    · rw [if_pos g] at h1
      have e2' := p1.fx.keep _ _ e2 e3 fun _ z => nomatch z
      obtain ⟨a', vs', q1, q2, q3, q4, r'⟩ := s1.ow i _ hj
      rw [e1] at q1
      cases q1
      rw [e2'] at q2
      cases q2
      cases rv with
      | @lst b us _ hb hU hk hr =>
        refine ⟨a, b, vs, us, rfl, rfl, e2', hb, ?_, h1 κ1 _ σ (s1.chg hj e1 (r'.append (hr.flat hf)))⟩
        rw [r.length, hr.length, sizeLine_eq]
        unfold big at g
        omega
    · rw [if_neg g] at h1
      exact h1.elim
  · cases e
end
end BR
set_option Elab.async false
set_option linter.all false
set_option maxRecDepth 100000
set_option maxHeartbeats 4000000
/-! the rules of statements: stores, loops -/
namespace BR
open PySem PySem.Spec PyProof.Rows L2
/-- what an iterator yields hangs on nothing that may change -/
def rdIA (F : Fix) (W : WX) (f : VEnv → List Cell → Res (List PyData)) : TI := fun σ H R => ∃ κ U δ C, Ctx F κ U H σ δ C ∧ BR.Fin F W κ H σ (f δ C) fun xs _ κ1 H1 => ∀ J, (∀ U, Its F κ1 U H1 J xs) → R J H1
section
variable {X : Cx} {F : Fix} {W : WX} {x y z tg : Expr} {es : List Expr} {p p1 : Pos} {fa fb : VEnv → List Cell → Res PyData}
variable {κ κ1 κ' : List Addr} {U U2 : Addr → Prop} {H H1 H' : Hp} {C : List Cell}
theorem i_rg1A (hg : Gl X ("range" : Str)) (hm : X.mg ("range" : Str) = none) (hp : pl x = true) (ha : PE X x (rdE F W fa)) :
    PI X tg (.Call (.Name ("range" : Str) p1) [x] [] p) (rdIA F W fun δ C => (fa δ C).bind fun x C => match x with | .int i => if smallI i = true then .ok (rangeD 0 i) C else .stuck | _ => .stuck) := by
  refine ⟨fun pins s σ H R I ⟨κ, U, δ, C, cx, h⟩ => ?_⟩
  refine (pi_range1 (tg := tg) hg hm (pa_cons ha pa_nil (pl_star hp)) (pl_star hp)).run pins s σ H R I ⟨κ, U, δ, C, cx, h.bind.mono fun d C1 κ1 H1 p1 h1 v rv => ?_⟩
  cases rv with
  | int i =>
    simp only at h1
    split at h1
    · rename_i g
      obtain ⟨g1, g2⟩ := small_of g
      refine ⟨i, rfl, by omega, by omega, h1 κ1 H1 (.refl p1.sr) _ fun U => ?_⟩
      have := its_range (F := F) (κ := κ1) (U := U) (H := H1) 0 i.toNat
      unfold rangeD
      rw [Int.sub_zero]
      exact this
    · exact h1.elim
  | _ => exact h1.elim
theorem i_rg2A (hg : Gl X ("range" : Str)) (hm : X.mg ("range" : Str) = none) (hp : pl x = true) (hp2 : pl y = true) (ha : PE X x (rdE F W fa)) (hb : PE X y (rdE F W fb)) :
    PI X tg (.Call (.Name ("range" : Str) p1) [x, y] [] p) (rdIA F W fun δ C => (fa δ C).bind fun x C => (fb δ C).bind fun y C => match x, y with
      | .int i, .int j => if smallI i = true ∧ smallI j = true then .ok (rangeD i j) C else .stuck
      | _, _ => .stuck) := by
  refine ⟨fun pins s σ H R I ⟨κ, U, δ, C, cx, h⟩ => ?_⟩
  have s2 : starEach [x, y] X.env = [(false, eval x X.env), (false, eval y X.env)] := (pl_star hp).trans (by rw [pl_star hp2]; rfl)
  refine (pi_range2 (tg := tg) hg hm (pa_cons ha (pa_cons hb pa_nil (pl_star hp2)) (pl_star hp)) s2 (pl_star hp2)).run pins s σ H R I ⟨κ, U, δ, C, cx, h.bind.mono fun d C1 κ1 H1 p1 h1 v rv => ?_⟩
  refine ⟨κ1, U, δ, C1, cx.post p1, h1.bind.mono fun e C2 κ2 H2 p2 h2 u ru => ?_⟩
  cases rv with
  | int i =>
    cases ru with
    | int j =>
      simp only at h2
      split at h2
      · rename_i g
        obtain ⟨g1, g2⟩ := small_of g.1
        obtain ⟨g3, g4⟩ := small_of g.2
        refine ⟨i, j, rfl, ⟨by omega, by omega, by omega, by omega⟩, h2 κ2 H2 (.refl p2.sr) _ fun U => ?_⟩
        exact its_range (F := F) (κ := κ2) (U := U) (H := H2) i (j - i).toNat
      · exact h2.elim
    | _ => exact h2.elim
  | _ => exact (h2 : False).elim
theorem i_charsA (ha : PE X x (rdE F W fa)) : PI X tg x (rdIA F W fun δ C => (fa δ C).bind fun d C => match d with | .str x => .ok (x.cps.toList.map fun c => .str ⟨#[c]⟩) C | _ => .stuck) := by
  refine ⟨fun pins s σ H R I ⟨κ, U, δ, C, cx, h⟩ => ?_⟩
  refine (pi_str (tg := tg) ha).run pins s σ H R I ⟨κ, U, δ, C, cx, h.bind.mono fun d C1 κ1 H1 p1 h1 v rv => ?_⟩
  cases rv with
  | str t =>
    refine ⟨t, rfl, h1 κ1 H1 (.refl p1.sr) _ fun U => (its_of (walk_str (z := t)) (by rw [List.length_map, Array.length_toList]) (fun _ _ _ _ => trivial) fun κ' H' C' U2 i v H'' f g sr h2 al2 hi y => ?_)⟩
    obtain ⟨rfl, c, e, rfl⟩ := y
    refine ⟨.refl sr, .str ⟨#[c]⟩, ?_, .str _⟩
    rw [List.getElem?_map, Array.getElem?_toList, e]
    rfl
  | _ => exact h1.elim
end
section
variable {X : Cx} {F : Fix} {c : Cfg} {sc : Scope} {x y z tg iter : Expr} {p p1 p2 : Pos} {fa fb fc fo fi : VEnv → List Cell → Res PyData} {sts : List Stmt} {st : Stmt} {fs fr : SEnv → List Cell → Res Out}
theorem ixN_nonneg {n : Nat} {k : Int} (h0 : 0 ≤ k) (h1 : k < n) : ixN n k = some k.toNat := by
  unfold ixN
  rw [if_pos h0, if_pos h1]
theorem assign_sub {o i : Expr} (hp : pl i = true) {env : Env} (v : Value) : assign (.Subscript o i p) env v = (do
      let ov ← holding [v] (eval o env)
      let iv ← holding [v, ov] (eval i env)
      standAt p
      holding [v, ov, iv] (setItem ov iv v)
      release [v, ov, iv] []) := by
  cases i <;> first | rfl | (cases hp; done)
theorem FinS.some3 {N : Ent} {D : Ends} {α β γ : Type} {r : Res α} {r2 : α → List Cell → Res β} {o : Option γ} {g : α → β → γ → List Cell → Res Out} (h : FinS F N (r.bind fun a C => (r2 a C).bind fun b C => (BR.opt o C).bind fun q C => g a b q C) D) : ∃ b, o = some b := by
  cases r with
  | ok a C1 => exact FinS.opt2 (show FinS F N ((r2 a C1).bind fun b C => (BR.opt o C).bind fun q C => g a b q C) D from h)
  | exc _ _ _ => exact h.elim
  | stuck => exact h.elim
theorem s_seti {i : Nat} {f : Bool} {nm : Str} {p0 : Pos} (hi : X.N[i]? = some nm) (hv : Vis X.env.scope nm) (hd : (nm == ("__debug__" : Str)) = false) (hcd : (nm == ("__classdict__" : Str)) = false) (hp : pl z = true) (ha : PE X x (rdE F W0 fa)) (hz : PE X z (rdE F W0 fb))
    (h1 : swapsWithSole [.Subscript (.Name nm p0) z p1] x p.line X.env = pure false) :
    PS X (.Assign [.Subscript (.Name nm p0) z p1] x p) (rdS F fun ρ C => (fa (view f ρ) C).bind fun d C => (fb (view true ρ) C).bind fun k C => (opt (ownAt ρ i) C).bind fun xs C => match k with
      | .int k => if okFlat f d = true ∧ 0 ≤ k ∧ k < xs.length then .ok (.nx (ρ.set i (.own (xs.set k.toNat d)))) C else .stuck
      | _ => .stuck) := by
  refine wkS (ps_asg ha (pg_sub (pe_var hi hv hd hcd) hz set_list (assign_sub hp)) h1 rfl rfl) fun D σ H ⟨N, κ, ρ, C, s, h⟩ => ?_
  refine ⟨κ, viewU N σ ρ f, view f ρ, C, s.view f, (FinS.ex s h).mono fun d C1 κ1 H1 p1 ⟨_, s1, h1⟩ v rv => ?_⟩
  obtain ⟨xs, e⟩ := FinS.opt2 h1
  have e0 := e
  unfold ownAt at e
  split at e
  · rename_i ys hj
    cases e
    obtain ⟨a, vs, e1, e2, e3, e4, r⟩ := s1.ow i _ hj
    refine ⟨.ref a, e1, κ1, N.U, view true ρ, C1, s1.view1, (FinS.ex s1 h1).mono fun k C2 κ2 H2 p2 ⟨_, s2, h2⟩ w rw' => ?_⟩
    obtain ⟨xs', q, h2⟩ := h2.opt
    rw [e0] at q
    cases q
    cases rw' with
    | int k =>
      by_cases g : okFlat f d = true ∧ 0 ≤ k ∧ k < xs.length
      · have h2 : FinS F N (if okFlat f d = true ∧ 0 ≤ k ∧ k < xs.length then .ok (.nx (ρ.set i (.own (xs.set k.toNat d)))) C2 else .stuck) D := h2
        rw [if_pos g] at h2
        have e2' := p2.fx.keep _ _ e2 e3 fun _ z => nomatch z
        obtain ⟨a', vs', q1, q2, q3, q4, r'⟩ := s2.ow i _ hj
        rw [e1] at q1
        cases q1
        rw [e2'] at q2
        cases q2
        exact ⟨a, vs, k, k.toNat, rfl, rfl, e2', ixN_nonneg g.2.1 (by rw [r.length]; exact g.2.2), h2 κ2 _ σ (s2.chg hj e1 (r'.set ((keepR rv g.1).post p2) _))⟩
      · have h2 : FinS F N (if okFlat f d = true ∧ 0 ≤ k ∧ k < xs.length then .ok (.nx (ρ.set i (.own (xs.set k.toNat d)))) C2 else .stuck) D := h2
        rw [if_neg g] at h2
        exact h2.elim
    | _ => exact (h2 : False).elim
  · cases e
/-- o[i] = v where o is a cell -/
theorem cell_set {N : Ent} {κ : List Addr} {H : Hp} {σ : L2.St} {ρ ρ' : SEnv} {C : List Cell} {D : Ends} {d a b : PyData} {v o i : V} {Q : Hp → Prop} (s : CtxS F N κ H σ ρ C) (rd : Rp F κ N.U H v d) (ro : Rp F κ N.U H o a) (ri : Rp F κ N.U H i b)
    (h : FinS F N (csetR ρ' d a b C) D) (k : ∀ κ' H' C', CtxS F N κ' H' σ ρ C' → Post F κ H κ' H' C' → FinS F N (.ok (.nx ρ') C') D → Q H') : rSetL o i v H Q := by
  unfold csetR at h
  cases e : cellOf C a with
  | none => rw [e] at h; exact h.elim
  | some q =>
    obtain ⟨k0, cc⟩ := q
    rw [e] at h
    obtain ⟨rfl, hC⟩ := cellOf_some e
    cases cc with
    | lst xs =>
      cases ri with
      | int j =>
        simp only at h
        split at h
        · rename_i gg
          have hv : Hv F κ N.U H C := ⟨s.sr, s.alU⟩
          obtain ⟨ad, rfl, hk, hfl, vs, hp, hvs⟩ := hv.cell ro hC
          have hpost := hv.setC hk hC hp (flats_set (i := j.toNat) gg.1 hfl) (hvs.set (rd.flat gg.1) j.toNat)
          exact ⟨ad, vs, j, j.toNat, rfl, rfl, hp, ixN_nonneg gg.2.1 (by rw [hvs.length]; exact gg.2.2), k κ _ _ (s.post hpost) hpost h⟩
        · exact h.elim
      | _ => exact (h : False).elim
    | dct _ => exact (h : False).elim
    | ins _ _ => exact (h : False).elim
theorem s_cset {o ix : Expr} (hp : pl ix = true) (ha : PE X x (rdE F W0 fa)) (ho : PE X o (rdE F W0 fo)) (hz : PE X ix (rdE F W0 fi)) (h1 : swapsWithSole [.Subscript o ix p1] x p.line X.env = pure false) :
    PS X (.Assign [.Subscript o ix p1] x p) (rdS F fun ρ C => (fa (view true ρ) C).bind fun d C => (fo (view true ρ) C).bind fun x C => (fi (view true ρ) C).bind fun y C => csetR ρ d x y C) := by
  refine wkS (ps_asg ha (pg_sub ho hz set_list (assign_sub hp)) h1 rfl rfl) fun D σ H ⟨N, κ, ρ, C, s, h⟩ => ?_
  refine ⟨κ, N.U, view true ρ, C, s.view1, (FinS.ex s h).mono fun d C1 κ1 H1 p1 ⟨_, s1, h1⟩ v rv => ?_⟩
  refine ⟨κ1, N.U, view true ρ, C1, s1.view1, (FinS.ex s1 h1).mono fun a C2 κ2 H2 p2 ⟨_, s2, h2⟩ ov ro => ?_⟩
  refine ⟨κ2, N.U, view true ρ, C2, s2.view1, (FinS.ex s2 h2).mono fun b C3 κ3 H3 p3 ⟨_, s3, h3⟩ iv ri => ?_⟩
  exact cell_set (D := D) s3 ((rv.post p2).post p3) (ro.post p3) ri h3 fun κ' H' C' s' _ h' => h' _ _ _ s'
theorem FinS.two {N : Ent} {D : Ends} {α β : Type} {r : Res α} {r2 : α → List Cell → Res β} {g : α → β → List Cell → Res Out} (h : FinS F N (r.bind fun a C => (r2 a C).bind fun b C => g a b C) D) : ∃ a b C, FinS F N (g a b C) D := by
  cases r with
  | ok a C1 =>
    have h : FinS F N ((r2 a C1).bind fun b C => g a b C) D := h
    cases e : r2 a C1 with
    | ok b C2 => rw [e] at h; exact ⟨a, b, C2, h⟩
    | exc _ _ _ => rw [e] at h; exact h.elim
    | stuck => rw [e] at h; exact h.elim
  | exc _ _ _ => exact h.elim
  | stuck => exact h.elim
theorem cset2_some {N : Ent} {D : Ends} {ρ : SEnv} {i : Nat} {d x y : PyData} {C : List Cell} (h : FinS F N (cset2R ρ i d x y C) D) : ∃ d1 d2, d = .tuple [d1, d2] ∧ flat d2 = true := by
  unfold cset2R at h
  split at h
  · split at h
    · exact ⟨_, _, rfl, by assumption⟩
    · exact h.elim
  · exact h.elim
theorem s_cset2 {o ix : Expr} {i : Nat} {nm : Str} {kt : Nat} {pt pn : Pos} (hc : X.calm = true) (hK : F.K = X.K) (nd : X.N.Nodup) (hi : X.N[i]? = some nm) (hx : Loc X.env.scope nm) (hfn : X.fn nm = true ∨ X.env.scope.names.lookup nm = some .local) (hp : pl ix = true) (ha : PE X x (rdE F W0 fa)) (ho : PE X o (rdE F W0 fo)) (hz : PE X ix (rdE F W0 fi))
    (h1 : swapsWithSole [.Tuple [.Subscript o ix p1, .Name nm pn] kt pt] x p.line X.env = pure false) (h2 : swappedStores [.Tuple [.Subscript o ix p1, .Name nm pn] kt pt] x X.env = pure none) :
    PS X (.Assign [.Tuple [.Subscript o ix p1, .Name nm pn] kt pt] x p) (rdS F fun ρ C => (fa (view true ρ) C).bind fun d C => (fo (view true ρ) C).bind fun x C => (fi (view true ρ) C).bind fun y C => cset2R ρ i d x y C) := by
  refine wkS (ps_asg ha (pg_tup hc (pgs_cons (pg_sub ho hz set_list (assign_sub hp)) (pgs_cons (pg_name nd hi hx hfn) pgs_nil)) rfl rfl) h1 h2 rfl) fun D σ H ⟨N, κ, ρ, C, s, h⟩ => ?_
  refine ⟨κ, N.U, view true ρ, C, s.view1, (FinS.ex s h).mono fun d C1 κ1 H1 p1 ⟨_, s1, h1⟩ v rv => ?_⟩
  obtain ⟨_, _, _, hd⟩ := FinS.two h1
  obtain ⟨d1, d2, rfl, f2⟩ := cset2_some hd
  cases rv with
  | @tup a vs _ q1 q4 =>
    cases q4 with
    | @cons v1 vr _ _ r1 q4 =>
      cases q4 with
      | @cons v2 vr _ _ r2 q4 =>
        cases q4
        refine ⟨a, [v1, v2], rfl, hK ▸ sqT_of q1, rfl, v1, [v2], rfl, ?_⟩
        refine ⟨κ1, N.U, view true ρ, C1, s1.view1, (FinS.ex s1 h1).mono fun a C2 κ2 H2 p2 ⟨_, s2, h2⟩ ov ro => ?_⟩
        refine ⟨κ2, N.U, view true ρ, C2, s2.view1, (FinS.ex s2 h2).mono fun b C3 κ3 H3 p3 ⟨_, s3, h3⟩ iv ri => ?_⟩
        have h3 : FinS F N (if flat d2 = true then csetR (ρ.set i (.val d2)) d1 a b C3 else .stuck) D := h3
        rw [if_pos f2] at h3
        refine cell_set (D := D) s3 ((r1.post p2).post p3) (ro.post p3) ri h3 fun κ' H' C' s' pp h' => ?_
        exact ⟨v2, [], rfl, rfl, h' _ _ _ (s'.putV ((((r2.post p2).post p3).post pp).flat f2))⟩
/-! ### loops -/
def lpR (t : Tg) (fs : SEnv → List Cell → Res Out) : PyData → SEnv → List Cell → Res Out := fun x ρ C => (opt (putT t x ρ) C).bind fun ρ' C => fs ρ' C
theorem loop_read {t : Tg} {N : Ent} {κ1 : List Addr} {H1 : Hp} {σ : L2.St} {ρ : SEnv} {C1 : List Cell} {D : Ends} {xs : List PyData} {J : L2.It} (s1 : CtxS F N κ1 H1 σ ρ C1) (hJ : Its F κ1 (Us N.U σ ρ) H1 J xs) (h : FinS F N (loopS (lpR t fs) xs ρ C1) D) :
    ∃ W : Nat → Nat → L2.St → Hp → Prop, (∃ m, W 0 m σ H1) ∧ ∀ i m σ H, W i m σ H →
      (J.stop i H ∧ D.nx σ H) ∨ (J.go i H ∧ ∃ N : L2.St → Hp → Prop, (∀ σ' H', N σ' H' → ∃ m', m' < m ∧ W (i + 1) m' σ' H') ∧ ∀ x H', J.yld i H x H' → rdP F t x σ H' fun σ2 H2 => rdS F fs { D with nx := N, ct := N, bk := D.nx } σ2 H2) := by
  obtain ⟨G, Y, w, gg, yy⟩ := hJ
  have sub : ∀ a, Own σ ρ a → Us N.U σ ρ a := fun a h => .inr h
  refine for_it w (fun i σ' H' => ∃ κ' ρ' C', CtxS F ⟨κ1, N.U, Own σ ρ, H1⟩ κ' H' σ' ρ' C' ∧ FinS F ⟨κ1, N.U, Own σ ρ, H1⟩ (loopS (lpR t fs) (xs.drop i) ρ' C') D) ⟨κ1, ρ, C1, s1.enter, h.leave s1⟩ (fun i σ' H' _ ⟨κ', ρ', C', s', h'⟩ => ?_) (fun i x σ' H' H'' hi ⟨κ', ρ', C', s', h'⟩ y => ?_) (fun σ' H' ⟨κ', ρ', C', s', h'⟩ => ?_)
  · exact gg κ' H' ⟨fun a o e hk hu ht => s'.fx.keep a o e hk (fun z => hu (sub a z)) ht⟩ s'.gr
  · have hU2 : ∀ a, Us N.U σ' ρ' a → Us N.U σ ρ a ∨ H1 a = none := fun a ha => by
      rcases ha with ha | ha
      · exact .inl (.inl ha)
      · rcases Own.none s' ha with q | q
        · exact .inr q
        · exact .inl (.inr q)
    obtain ⟨pp, d, hx, rx⟩ := yy κ' H' C' (Us N.U σ' ρ') i x H'' ⟨fun a o e hk hu ht => s'.fx.keep a o e hk (fun z => hu (sub a z)) ht⟩ s'.gr s'.sr hU2 s'.al hi y
    rw [drop_at hx] at h'
    have h' : FinS F ⟨κ1, N.U, Own σ ρ, H1⟩ ((opt (putT t d ρ') C').bind fun ρ2 C => (fs ρ2 C).bind fun o C => match o with
      | .nx ρ' => loopS (lpR t fs) (xs.drop (i + 1)) ρ' C
      | .bk ρ' => .ok (.nx ρ') C
      | .ret d => .ok (.ret d) C) D := by
      rw [loopS, lpR, bind_assoc] at h'
      exact h'
    obtain ⟨ρ2, e, h'⟩ := h'.opt
    refine ⟨_, κ', ρ', C', d, ρ2, s'.post pp, rx, e, fun σ2 s2 _ => ⟨_, κ', ρ2, C', s2, ?_⟩⟩
    revert h'
    cases fs ρ2 C' with
    | ok o C2 =>
      cases o with
      | nx ρ3 => exact fun h κ3 H3 σ3 s3 => ⟨κ3, ρ3, C2, s3, h⟩
      | bk ρ3 => exact fun h => h
      | ret d => exact fun h => h
    | exc _ _ _ => exact fun h => h
    | stuck => exact fun h => h
  · rw [List.drop_length] at h'
    have h2 : FinS F ⟨κ1, N.U, Own σ ρ, H1⟩ (.ok (.nx ρ') C') D := h'
    exact h2 κ' H' σ' s'
theorem s_loop {t : Tg} {fI : VEnv → List Cell → Res (List PyData)} (hp : PassesOwn (model X.prog X.w) X.A X.env X.xe) (hc : X.calm = true) (hi : PI X tg iter (rdI F W0 fI)) (hg : PG X tg (rdP F t)) (hb : PSs X sts (rdS F fs)) (hs : ∀ x, foldedSetIterable iter X.env x = pure x) :
    PS X (.For tg iter sts [] p) (rdS F fun ρ C => (fI (view false ρ) C).bind fun xs C => loopS (lpR t fs) xs ρ C) := by
  refine wkS (ps_for hp hc hi hg hb hs) fun D σ H ⟨N, κ, ρ, C, s, h⟩ => ?_
  exact ⟨κ, Us N.U σ ρ, view false ρ, C, s.view0, (FinS.ex s h).mono fun xs C1 κ1 H1 p1 ⟨_, s1, h1⟩ J hJ => loop_read s1 hJ h1⟩
theorem s_loopA {t : Tg} {fI : VEnv → List Cell → Res (List PyData)} (hp : PassesOwn (model X.prog X.w) X.A X.env X.xe) (hc : X.calm = true) (hi : PI X tg iter (rdIA F W0 fI)) (hg : PG X tg (rdP F t)) (hb : PSs X sts (rdS F fs)) (hs : ∀ x, foldedSetIterable iter X.env x = pure x) :
    PS X (.For tg iter sts [] p) (rdS F fun ρ C => (fI (view true ρ) C).bind fun xs C => loopS (lpR t fs) xs ρ C) := by
  refine wkS (ps_for hp hc hi hg hb hs) fun D σ H ⟨N, κ, ρ, C, s, h⟩ => ?_
  exact ⟨κ, N.U, view true ρ, C, s.view1, (FinS.ex s h).mono fun xs C1 κ1 H1 p1 ⟨_, s1, h1⟩ J hJ => loop_read s1 (hJ _) h1⟩
theorem s_whil {fuel : Nat} (hp : PassesOwn (model X.prog X.w) X.A X.env X.xe) (hc : PT X x (rdT F W0 fun δ C => tstR (fa δ C))) (hb : PSs X sts (rdS F fs)) :
    PS X (.While x sts [] p) (rdS F fun ρ C => whileS (fun ρ C => tstR (fa (view true ρ) C)) fs fuel ρ C) := by
  refine wkS (ps_while hp hc hb) fun D σ H ⟨N, κ, ρ, C, s, h⟩ => ?_
  refine ⟨fun m σ H => ∃ κ ρ C, CtxS F N κ H σ ρ C ∧ FinS F N (whileS (fun ρ C => tstR (fa (view true ρ) C)) fs m ρ C) D, ⟨fuel, κ, ρ, C, s, h⟩, fun m σ H ⟨κ, ρ, C, s, h⟩ => ?_⟩
  cases m with
  | zero => exact h.elim
  | succ m =>
    rw [whileS] at h
    refine ⟨κ, N.U, view true ρ, C, s.view1, (FinS.ex s h).mono fun b C1 κ1 H1 p1 ⟨_, s1, h1⟩ => ?_⟩
    cases b with
    | false => exact iteF (h1 κ1 H1 σ s1)
    | true =>
      refine iteT ⟨fun σ' H' => ∃ κ ρ C, CtxS F N κ H' σ' ρ C ∧ FinS F N (whileS (fun ρ C => tstR (fa (view true ρ) C)) fs m ρ C) D, fun σ' H' q => ⟨m, Nat.lt_succ_self m, q⟩, N, κ1, ρ, C1, s1, ?_⟩
      revert h1
      simp only [if_true]
      cases fs ρ C1 with
      | ok o C2 =>
        cases o with
        | nx ρ3 => exact fun h κ3 H3 σ3 s3 => ⟨κ3, ρ3, C2, s3, h⟩
        | bk ρ3 => exact fun h => h
        | ret d => exact fun h => h
      | exc _ _ _ => exact fun h => h
      | stuck => exact fun h => h
end
end BR
set_option Elab.async false
set_option linter.all false
set_option maxRecDepth 100000
set_option maxHeartbeats 4000000
/-! the rules of statements: several stores at once, the matcher -/
namespace BR
open PySem PySem.Spec PyProof.Rows L2
def OkP {α : Type} (r : Res α) (R : α → List Cell → Prop) : Prop :=
  match r with
  | .ok a C => R a C
  | .exc _ _ _ => False
  | .stuck => False
theorem OkP.bind {α β : Type} {r : Res α} {g : α → List Cell → Res β} {R : β → List Cell → Prop} (h : OkP (r.bind g) R) : ∃ a C, r = .ok a C ∧ OkP (g a C) R := by
  cases r with
  | ok a C => exact ⟨a, C, rfl, h⟩
  | exc _ _ _ => exact h.elim
  | stuck => exact h.elim
theorem OkP.opt {α β : Type} {o : Option α} {C : List Cell} {g : α → List Cell → Res β} {R : β → List Cell → Prop} (h : OkP ((opt o C).bind g) R) : ∃ a, o = some a ∧ OkP (g a C) R := by
  cases o with
  | some a => exact ⟨a, rfl, h⟩
  | none => exact h.elim
def setV : List (Bool × Bool × Nat) → List V → L2.St → L2.St
  | (_, _, i) :: ms, v :: vs, σ => setV ms vs (σ.set i (some v))
  | _, _, σ => σ
def rdPar (F : Fix) (ms : List (Bool × Bool × Nat)) (g : SEnv → List Cell → Res (List Slot)) : TA := fun σ H1 Q => ∃ N κ0 H0 ρ0 C0 κ1 ρ1 σ1 C1, CtxS F N κ0 H0 σ ρ0 C0 ∧ Post F κ0 H0 κ1 H1 C1 ∧ CtxS F N κ1 H1 σ1 ρ1 C1 ∧ (∀ a, Us N.U σ1 ρ1 a → Us N.U σ ρ0 a ∨ H0 a = none) ∧
  OkP (g ρ0 C1) fun ss C2 => ∀ κ2 H2 vs, vs.length = ms.length → CtxS F N κ2 H2 (setV ms vs σ1) (setAll ms ss ρ1) C2 → Q vs H2
section
variable {F : Fix} {κ κ1 : List Addr} {H H1 : Hp} {σ : L2.St} {C C1 : List Cell} {α : Type}
theorem fin_ok {r : Res α} {a : α} {P : α → List Cell → List Addr → Hp → Prop} (e : r = .ok a C1) (k : ∀ κ' H', Post F κ H κ' H' C1 → P a C1 κ' H') : BR.Fin F W0 κ H σ r P := by
  subst e
  exact k
theorem s_par1 {X : Cx} {x : Expr} {es : List Expr} {o f : Bool} {i : Nat} {ms : List (Bool × Bool × Nat)} {fe : VEnv → List Cell → Res PyData} {g : SEnv → List Cell → Res (List Slot)} (hp : pl x = true) (ha : PE X x (rdE F W0 fe)) (hr : PA X es (rdPar F ms g)) :
    PA X (x :: es) (rdPar F ((o, f, i) :: ms) fun ρ C => (fe (viewM o f ρ) C).bind fun d C => (opt (mkSlot o f d) C).bind fun s C => (g ρ C).bind fun ss C => .ok (s :: ss) C) := by
  refine wkA (pa_cons ha hr (pl_star hp)) fun σ H Q ⟨N, κ0, H0, ρ0, C0, κ1, ρ1, σ1, C1, s0, p, s1, hU, h⟩ => ?_
  obtain ⟨d, C2, e1, h⟩ := h.bind
  obtain ⟨sl, e2, h⟩ := h.opt
  obtain ⟨ss, C3, e3, h⟩ := h.bind
  have s0' := s0.post p
  have fin : ∀ {κ2 H2 v}, Post F κ1 H κ2 H2 C2 → CtxS F N κ2 H2 (σ1.set i (some v)) (ρ1.set i sl) C2 → (∀ a, Us N.U (σ1.set i (some v)) (ρ1.set i sl) a → Us N.U σ ρ0 a ∨ H0 a = none) → rdPar F ms g σ H2 fun vs H3 => Q (v :: vs) H3 := fun {κ2 H2 v} p2 s2 hU2 => by
    refine ⟨N, κ0, H0, ρ0, C0, κ2, ρ1.set i sl, σ1.set i (some v), C2, s0, p.trans p2, s2, hU2, ?_⟩
    rw [e3]
    exact fun κ3 H3 vs hl s3 => h κ3 H3 (v :: vs) (by rw [List.length_cons, List.length_cons, hl]) s3
  cases o with
  | true =>
    obtain ⟨xs, rfl, hf, rfl⟩ := mkOwn e2
    have cx : Ctx F κ1 (fun a => ∃ xs, H a = some (.lst xs)) H σ (viewM true f ρ0) C1 := s0'.viewF
    refine ⟨κ1, _, _, C1, cx, fin_ok e1 fun κ2 H2 p2 v rv => ?_⟩
    obtain ⟨a, rfl⟩ := rp_list rv
    obtain ⟨n1, n2, vs, n3, n4⟩ := newL p2 rv
    refine fin p2 (s1.putO p2 n1 n3 n2 (n4.flat hf)) fun b hb => ?_
    rcases hb with hb | ⟨j, ys, h1, h2⟩
    · exact .inl (.inl hb)
    · rcases getElem?_set_some h1 with ⟨rfl, _, hl⟩ | ⟨hj, h1⟩
      · rcases getElem?_set_some h2 with ⟨_, q, _⟩ | ⟨q, _⟩
        · cases q
          refine .inr ?_
          cases e : H0 a with
          | none => rfl
          | some oo =>
            by_cases hk : a ∈ κ0
            · obtain ⟨zs, q⟩ := s0'.sr.at (p.gr.mem hk)
              rw [n1] at q
              cases q
            · obtain ⟨o', q⟩ := p.fx.there e hk
              rw [n1] at q
              cases q
        · exact absurd rfl q
      · rw [List.getElem?_set_ne hj] at h2
        exact hU b (.inr ⟨j, ys, h1, h2⟩)
  | false =>
    have hm : okFlat f d = true ∧ sl = .val d := by
      unfold mkSlot at e2
      rw [if_neg Bool.false_ne_true] at e2
      split at e2
      · rename_i g
        cases e2
        exact ⟨g, rfl⟩
      · cases e2
    obtain ⟨hf, rfl⟩ := hm
    have key : ∀ {κ2 H2 v}, Post F κ1 H κ2 H2 C2 → Rp F κ2 (Us N.U σ1 ρ1) H2 v d → rdPar F ms g σ H2 fun vs H3 => Q (v :: vs) H3 := fun p2 rv =>
      fin p2 ((s1.post p2).putV rv) fun a ha => hU a (Us.set_val (by intro _ z; cases z) a ha)
    cases f with
    | true => exact ⟨κ1, N.U, view true ρ0, C1, s0'.view1, fin_ok e1 fun κ2 H2 p2 v rv => key p2 (rv.flat (by unfold okFlat at hf; simpa using hf))⟩
    | false =>
      refine ⟨κ1, Us N.U σ1 ρ1, view false ρ0, C1, ⟨s1.sr, s1.al, fun j e h => ?_⟩, fin_ok e1 fun κ2 H2 p2 v rv => key p2 rv⟩
      obtain ⟨w, q, r⟩ := s0.view0.sl j e h
      exact ⟨w, q, r.go s0.al p.fx.fv p.gr hU⟩
end
section
variable {P : Program} {w : World} {F : Fix} {c : Cfg} {base : Heap} {n : Nat} {Φ : Oracle} {G : Str → Option PyData}
theorem par_pa (M : Mx P w F c base n Φ G) {X : Cx} {sc : Scope} (L : Lx P w F c base n X sc) : ∀ {es : Es} {ms : List (Bool × Bool × Nat)} {xs : List Expr}, mEs c sc es xs = true → PA X xs (rdPar F ms (evPar Φ G es ms))
  | .nil, [], xs, h => by
    unfold mEs at h
    split at h
    · refine wkA pa_nil fun σ H Q q => ?_
      obtain ⟨N, κ0, H0, ρ0, C0, κ1, ρ1, σ1, C1, s0, p, s1, hU, h⟩ := q
      exact h κ1 H [] rfl s1
    · cases h
  | .nil, _ :: _, xs, h => ⟨fun pos pins s σ H Q I q => by obtain ⟨N, κ0, H0, ρ0, C0, κ1, ρ1, σ1, C1, s0, p, s1, hU, h⟩ := q; exact False.elim h⟩
  | .cons e r, [], xs, h => ⟨fun pos pins s σ H Q I q => by obtain ⟨N, κ0, H0, ρ0, C0, κ1, ρ1, σ1, C1, s0, p, s1, hU, h⟩ := q; exact False.elim h⟩
  | .cons e r, (o, f, i) :: ms, xs, h => by
    unfold mEs at h
    split at h
    · rw [Bool.and_eq_true] at h
      exact s_par1 (mE_pl h.1) ((sndE M e sc _ h.1).pe X L) (par_pa M L h.2)
    · cases h
end
section
variable {X : Cx} {F : Fix} {x y : Expr} {p p1 p2 : Pos} {g : SEnv → List Cell → Res (List Slot)}
theorem s_parn {st : Stmt} {ms : List (Bool × Bool × Nat)} {xs : List Expr} (hst : ∀ {t : TA}, PA X xs t → PS X st fun D σ H => t σ H fun vs H1 => vs.length = ms.length ∧ D.nx (setV ms vs σ) H1) (ha : PA X xs (rdPar F ms g)) :
    PS X st (rdS F fun ρ C => (g ρ C).bind fun ss C => .ok (.nx (setAll ms ss ρ)) C) := by
  refine wkS (hst ha) fun D σ H ⟨N, κ, ρ, C, s, h⟩ => ⟨N, κ, H, ρ, C, κ, ρ, σ, C, s, .refl s.sr, s, fun a h => .inl h, ?_⟩
  have h : FinS F N ((g ρ C).bind fun ss C => .ok (.nx (setAll ms ss ρ)) C) D := h
  revert h
  cases g ρ C with
  | ok ss C2 => exact fun h κ2 H2 vs hl s2 => ⟨hl, (show ∀ κ' H' σ', CtxS F N κ' H' σ' (setAll ms ss ρ) C2 → D.nx σ' H' from h) κ2 H2 _ s2⟩
  | exc _ _ _ => exact fun h => (show False from h).elim
  | stuck => exact fun h => (show False from h).elim
theorem kind_fn {env : Env} (hk : env.scope.kind = .function) : env.blockKind = .function := by unfold Env.blockKind; rw [hk]; rfl
theorem swap2 {env : Env} {a b : Str} {kt k2 : Nat} {pt pt2 : Pos} (hk : env.scope.kind = .function) (hx : env.scope.names.lookup a = some .local) (hy : env.scope.names.lookup b = some .local) (hl : (p2.line == p1.line) = true) (hab : (a == b) = false) (pa : pl x = true) (pb : pl y = true)
    (hf : [x, y].all (foldedForSure 8) = false) (hcc : [x, y].all (constantsAlone 8) = false) : swappedStores [.Tuple [.Name a p1, .Name b p2] kt pt] (.Tuple [x, y] k2 pt2) env = pure (some [a, b]) := by
  have kx : env.kindOf a = some .local := hx
  have ky : env.kindOf b = some .local := hy
  have st : ([x, y].any fun | .Starred .. => true | _ => false) = false := by
    cases x <;> first | (cases y <;> first | rfl | (cases pb; done)) | (cases pa; done)
  have hba : (b == a) = false := by
    cases e : b == a with
    | false => rfl
    | true => rw [eq_of_beq e] at hab; simp at hab
  unfold swappedStores
  simp only [kind_fn hk, Expr.pos, List.filterMap_cons, List.filterMap_nil, kx, ky, hl, st, hf, hcc, List.head?_cons, Option.map_some, Option.getD_some]
  simp [List.eraseDups_cons, hab, hba, hl]
  intro h
  clear st
  rcases h with h | h
  · cases x <;> first | (cases h; done) | (cases pa; done)
  · cases y <;> first | (cases h; done) | (cases pb; done)
theorem swap3 {env : Env} {z : Expr} {a b d : Str} {kt k2 : Nat} {p3 pt pt2 : Pos} (hk : env.scope.kind = .function) (hx : env.scope.names.lookup a = some .local) (hy : env.scope.names.lookup b = some .local) (hz : env.scope.names.lookup d = some .local) (hl : (p2.line == p1.line) = true) (hl3 : (p3.line == p1.line) = true)
    (hab : (a == b) = false) (had : (a == d) = false) (hbd : (b == d) = false) (pa : pl x = true) (pb : pl y = true) (pc : pl z = true)
    (hf : [x, y, z].all (foldedForSure 8) = false) (hcc : [x, y, z].all (constantsAlone 8) = false) : swappedStores [.Tuple [.Name a p1, .Name b p2, .Name d p3] kt pt] (.Tuple [x, y, z] k2 pt2) env = pure (some [a, b, d]) := by
  have kx : env.kindOf a = some .local := hx
  have ky : env.kindOf b = some .local := hy
  have kz : env.kindOf d = some .local := hz
  have flip : ∀ {u v : Str}, (u == v) = false → (v == u) = false := fun {u v} h => by
    cases e : v == u with
    | false => rfl
    | true => rw [eq_of_beq e] at h; simp at h
  have hba := flip hab
  have hda := flip had
  have hdb := flip hbd
  unfold swappedStores
  simp only [kind_fn hk, Expr.pos, List.filterMap_cons, List.filterMap_nil, kx, ky, kz, hl, hl3, hf, hcc, List.head?_cons, Option.map_some, Option.getD_some]
  simp [List.eraseDups_cons, hab, hba, had, hda, hbd, hdb, hl, hl3]
  intro h
  rcases h with h | h | h
  · cases x <;> first | (cases h; done) | (cases pa; done)
  · cases y <;> first | (cases h; done) | (cases pb; done)
  · cases z <;> first | (cases h; done) | (cases pc; done)
end
end BR
set_option Elab.async false
set_option linter.all false
set_option maxRecDepth 100000
set_option maxHeartbeats 8000000
/-! statements: what is matched is so -/
namespace BR
open PySem PySem.Spec PyProof.Rows L2
def fnK (sc : Scope) : Bool := match sc.kind with
  | .function => true
  | _ => false
def noLc : Expr → Bool
  | .ListComp _ _ _ _ => false
  | .SetComp _ _ _ _ => false
  | .DictComp _ _ _ _ _ => false
  | _ => true
def swN (sc : Scope) (y : Str) (py : Pos) : Expr → Bool
  | .ListComp _ _ scope pos => (py.line == pos.line) && fnK sc && !(scope.names.any fun (n, k) => n == y && (k == .local || k == .cell))
  | x => noLc x
def noSw : Expr → Bool
  | .Tuple vs _ _ => vs.all (foldedForSure 8)
  | _ => true
def lcl (sc : Scope) (y : Str) : Bool := match sc.names.lookup y with
  | some .local => true
  | _ => false
abbrev allT : Str → Bool := fun _ => true
/-- nothing but plain parameters -/
def noAnn (ps : Arguments) : Bool := ps.posonlyargs.isEmpty && ps.vararg.isNone && ps.kwonlyargs.isEmpty && ps.kwarg.isNone && ps.args.all fun a => a.annotation.isNone
theorem noAnn_of {ps : Arguments} {env : Env} (h : noAnn ps = true) : annTrees ps none env = [] := by
  unfold noAnn at h
  simp only [Bool.and_eq_true, List.isEmpty_iff, Option.isNone_iff_eq_none] at h
  obtain ⟨po, as, va, ko, kd, kw, df⟩ := ps
  obtain ⟨⟨⟨⟨h1, h2⟩, h3⟩, h4⟩, h5⟩ := h
  subst h1; subst h2; subst h3; subst h4
  have : ∀ l : List Arg, (l.all fun a => a.annotation.isNone) = true → annotationsOf l env = [] := fun l => by
    induction l with
    | nil => intro _; rfl
    | cons a r ih =>
      intro h
      rw [List.all_cons, Bool.and_eq_true, Option.isNone_iff_eq_none] at h
      obtain ⟨n, an, p⟩ := a
      have e : an = none := h.1
      subst e
      exact ih h.2
  unfold annTrees
  simp only [Option.toList_none, List.append_nil]
  rw [this as h5]
  rfl
section
variable (c : Cfg)
mutual
def mS (sc : Scope) : S → Stmt → Bool
  | .asg f t e, st => (match st with | .Assign [tg] x pos => mE c sc e x && mT c sc allT t tg && (match tg with | .Name y py => swN sc y py x | .Tuple _ _ _ => noLc x && noSw x | _ => false) | _ => false)
  | .own i e, st => (match st with | .Assign [.Name y py] x pos => mE c sc e x && locOk c sc allT i y && swN sc y py x | _ => false)
  | .asgN i e, st => (match e, st with | .lc _ _ _ _ _, .Assign [.Name y py] x pos => mE c sc e x && locOk c sc allT i y && swN sc y py x | _, _ => false)
  | .ownN i e, st => (match e, st with | .lc _ _ _ _ _, .Assign [.Name y py] x pos => mE c sc e x && locOk c sc allT i y && swN sc y py x | _, _ => false)
  | .parn ms es, st => (match ms, st with
    | [(_, _, i), (_, _, j)], .Assign [.Tuple [.Name a p1, .Name b p2] _ _] (.Tuple [x, y] _ _) _ => decide (c.N[i]? = some a) && decide (c.N[j]? = some b) && decide (i ≠ j) && pl x && pl y && fnK sc && mEs c sc es [x, y] && ((lcl sc a && lcl sc b && (p2.line == p1.line) && !(a == b) && !([x, y].all (foldedForSure 8)) && !([x, y].all (constantsAlone 8))) || (!(lcl sc a && lcl sc b) && locOk c sc allT i a && locOk c sc allT j b))
    | [(_, _, i), (_, _, j), (_, _, l)], .Assign [.Tuple [.Name a p1, .Name b p2, .Name d p3] _ _] (.Tuple [x, y, z] _ _) _ => decide (c.N[i]? = some a) && decide (c.N[j]? = some b) && decide (c.N[l]? = some d) && decide (i ≠ j) && decide (i ≠ l) && decide (j ≠ l) && lcl sc a && lcl sc b && lcl sc d && (p2.line == p1.line) && (p3.line == p1.line) && !(a == b) && !(a == d) && !(b == d) && pl x && pl y && pl z && !([x, y, z].all (foldedForSure 8)) && !([x, y, z].all (constantsAlone 8)) && fnK sc && mEs c sc es [x, y, z]
    | _, _ => false)
  | .mv i j, st => (match st with | .Assign [.Name y py] (.Name z _) pos => locOk c sc allT i y && decide (c.N[j]? = some z) && vis sc z | _ => false)
  | .frz _, _ => false
  | .app f i e, st => (match st with | .Expr (.Call (.Attribute (.Name y _) nm ap) [x] [] p) _ => nm == ("append" : Str) && (ap.endLine == p.line) && decide (c.N[i]? = some y) && vis sc y && pl x && mE c sc e x | _ => false)
  | .ext f i e, st => (match st with | .Expr (.Call (.Attribute (.Name y _) nm ap) [x] [] p) _ => nm == ("extend" : Str) && (ap.endLine == p.line) && decide (c.N[i]? = some y) && vis sc y && pl x && mE c sc e x | _ => false)
  | .seti f i ix e, st => (match st with | .Assign [.Subscript (.Name y _) z _] x _ => decide (c.N[i]? = some y) && vis sc y && pl z && noLc x && mE c sc ix z && mE c sc e x | _ => false)
  | .cset o ix e, st => (match st with | .Assign [.Subscript oo z _] x _ => pl z && noLc x && mE c sc o oo && mE c sc ix z && mE c sc e x | _ => false)
  | .cset2 o ix i e, st => (match st with | .Assign [.Tuple [.Subscript oo z _, .Name y _] _ _] x _ => pl z && noLc x && !isTup x && locOk c sc allT i y && mE c sc o oo && mE c sc ix z && mE c sc e x | _ => false)
  | .iff k a b, st => (match st with | .If x as bs _ => noIf x && mE c sc k x && mSs sc a as && mSs sc b bs | _ => false)
  | .loop f t i b, st => (match st with | .For tg it body [] _ => (!f || noSrc i) && mT c sc allT t tg && mI c sc i tg it && mSs sc b body | _ => false)
  | .whil k b, st => (match st with | .While x body [] _ => noIf x && mE c sc k x && mSs sc b body | _ => false)
  | .ret e, st => (match st with | .Return (some x) _ => mE c sc e x | _ => false)
  | .retN, st => (match st with | .Return none _ => true | _ => false)
  | .expr e, st => (match st with | .Expr x _ => noLc x && mE c sc e x | _ => false)
  | .brk, st => (match st with | .Break _ => true | _ => false)
  | .pass, st => (match st with | .Pass _ => true | _ => false)
  | .never, _ => true
  | .ndef i k, st => (match st with | .FunctionDef name params body [] none [] scope none nm2 pos => decide (nm2 = name) && decide (c.N[i]? = some name) && lcl sc name && noDf params && noAnn params && noFree scope && c.okN k (.FunctionDef name params body [] none [] scope none name pos) && mkOk c name pos | _ => false)
def mSs (sc : Scope) : Ss → List Stmt → Bool
  | .nil, sts => (match sts with | [] => true | _ => false)
  | .cons s r, sts => (match s with
    | .frz _ => mSs sc r sts
    | _ => (match sts with | st :: sts => mS sc s st && mSs sc r sts | [] => false))
end
end
section
variable {P : Program} {w : World} {F : Fix} {c : Cfg} {base : Heap} {n : Nat} {Φ : Oracle} {G : Str → Option PyData} {Wf : Nat}
/-- a def's body stands so -/
structure Ly (P : Program) (w : World) (F : Fix) (c : Cfg) (base : Heap) (n : Nat) (X : Cx) (sc : Scope) : Prop extends Lx P w F c base n X sc where
  po : PassesOwn (model X.prog X.w) X.A X.env X.xe
  fn : ∀ y, X.fn y = true
theorem fnK_of {sc : Scope} (h : fnK sc = true) : sc.kind = .function := by
  unfold fnK at h
  split at h
  · assumption
  · cases h
theorem lcl_of {sc : Scope} {y : Str} (h : lcl sc y = true) : sc.names.lookup y = some .local := by
  unfold lcl at h
  split at h
  · assumption
  · cases h
theorem noLc_sw {x : Expr} {t : Option Expr} {l : Nat} {env : Env} (h : noLc x = true) : swapsWith x t l env = pure false := by
  cases x <;> first | rfl | (cases h; done)
theorem noLc_sole {x t : Expr} {l : Nat} {env : Env} (h : noLc x = true) : swapsWithSole [t] x l env = pure false := noLc_sw h
theorem noSw_of {x : Expr} {ts : List Expr} {k : Nat} {p : Pos} {env : Env} (h : noSw x = true) : swappedStores [.Tuple ts k p] x env = pure none := by
  cases x with
  | Tuple vs k2 p2 =>
    have h : vs.all (foldedForSure 8) = true := h
    unfold swappedStores
    dsimp only
    split
    · rfl
    · split
      · rfl
      · split
        · rfl
        · first | rfl | (rw [if_pos h]) | (split <;> first | rfl | contradiction)
  | _ => rfl
/-- name = value -/
theorem s_set (M : Mx P w F c base n Φ G) {X : Cx} {sc : Scope} (L : Ly P w F c base n X sc) {i : Nat} {y : Str} {py pos : Pos} {e : E} {x : Expr} (he : mE c sc e x = true) (hl : locOk c sc allT i y = true) (hsw : swN sc y py x = true) :
    PS X (.Assign [.Name y py] x pos) (tAsg (rdE F W0 (ev Φ G e)) (gName i)) := by
  obtain ⟨h1, h2, h3⟩ := locOk_of hl
  have base : swapsWith x (some (.Name y py)) pos.line X.env = pure false → PS X (.Assign [.Name y py] x pos) (tAsg (rdE F W0 (ev Φ G e)) (gName i)) := fun q =>
    ps_set L.nd (L.N ▸ h1) (L.sc ▸ h2) ((sndE M e sc x he).pe X L.toLx) q (.inl (L.fn y))
  cases x with
  | ListComp elt gens scope lp =>
    unfold swN at hsw
    simp only [Bool.and_eq_true] at hsw
    have hk : X.env.scope.kind = .function := by rw [L.sc]; exact fnK_of hsw.1.2
    have ha : (scope.names.any fun (n, k) => n == y && (k == .local || k == .cell)) = false := by simpa using hsw.2
    rcases h2 with h2 | h2
    · have hy : X.env.scope.names.lookup y = some .local := by rw [L.sc]; exact h2
      cases e with
      | lc own t it q e =>
        unfold mE at he
        split at he
        · rename_i elt' tg iter ifs scope' p' heq
          cases heq
          simp only [Bool.and_eq_true, decide_eq_true_eq] at he
          obtain ⟨⟨⟨⟨⟨g1, g2⟩, g3⟩, g4⟩, g5⟩, g6⟩ := he
          have hts : ∀ j ∈ tgSlots t, j ∈ own.map (·.2) := fun j hj => List.elem_iff.mp (List.all_eq_true.mp g3 j hj)
          have LX := L.toLx
          refine wkS (ps_setLc L.calm L.nd (L.N ▸ h1) hy (sw_true hk hy hsw.1.1 ha) (sndI M it sc _ _ g4 X LX) (blkOk_by (by rw [L.N, L.sc]; exact g1)) (mT_ok LX g2) (fun s H C cl fp => (sndO M q (relS _ sc)).pc _ g5 _ (LX.blk s H _ C cl fp)) (fun s H C cl fp => (sndE M e (relS _ sc) _ g6).pe _ (LX.blk s H _ C cl fp)) (pl_set (mI_pl g4) X.env)) fun D σ H h => ?_
          exact lc_read (W := W0) hts h
        · cases he
      | lc2 own t it q vs t1 i1 q1 e =>
        unfold mE at he
        split at he
        · rename_i elt' tg iter ifs tg1 iter1 ifs1 scope' p' heq
          cases heq
          simp only [Bool.and_eq_true, decide_eq_true_eq] at he
          obtain ⟨⟨⟨⟨⟨⟨⟨⟨⟨⟨g1, g2⟩, g3⟩, g4⟩, g5⟩, k1⟩, k2⟩, k3⟩, k4⟩, k5⟩, g6⟩ := he
          have hts : ∀ j ∈ tgSlots t, j ∈ own.map (·.2) := fun j hj => List.elem_iff.mp (List.all_eq_true.mp g3 j hj)
          have hv : ∀ j ∈ vs, j ∈ own.map (·.2) := fun j hj => List.elem_iff.mp (List.all_eq_true.mp k1 j hj)
          have hts1 : ∀ j ∈ tgSlots t1, j ∈ vs := fun j hj => List.elem_iff.mp (List.all_eq_true.mp k3 j hj)
          have LX := L.toLx
          refine wkS (ps_setLc2 (vs1 := vs) L.calm L.nd (L.N ▸ h1) hy (sw_true hk hy hsw.1.1 ha) (sndI M it sc _ _ g4 X LX) (blkOk_by (by rw [L.N, L.sc]; exact g1)) hv (mT_ok LX g2) (fun s H C cl fp => (sndO M q (relS _ sc)).pc _ g5 _ (LX.blk s H _ C cl fp)) (fun s H C cl fp => sndI M i1 (relS _ sc) _ _ k4 _ (LX.blk s H _ C cl fp)) (mT_ok LX k2) (fun s H C cl fp => (sndO M q1 (relS _ sc)).pc _ k5 _ (LX.blk s H _ C cl fp)) (fun s H C cl fp => (sndE M e (relS _ sc) _ g6).pe _ (LX.blk s H _ C cl fp)) (pl_set (mI_pl g4) X.env) (fun env x => pl_set (mI_pl k4) env x)) fun D σ H h => ?_
          exact lc2_readN (W := W0) hts hts1 h.toN
        · cases he
      | _ => unfold mE at he; first | (cases he; done) | (split at he <;> first | (cases he; done) | (rename_i heq; cases heq; done))
    · have hy : X.env.kindOf y = some .cell := by show X.env.scope.names.lookup y = _; rw [L.sc]; exact h2
      refine base ?_
      unfold swapsWith
      simp only [hy]
      rw [show ((some NameKind.cell : Option NameKind) == some NameKind.local) = false from rfl, Bool.and_false, Bool.false_and, Bool.false_and]
  | SetComp _ _ _ _ => cases hsw
  | DictComp _ _ _ _ _ => cases hsw
  | _ => exact base (noLc_sw hsw)
theorem s_setN (M : Mx P w F c base n Φ G) {X : Cx} {sc : Scope} (L : Ly P w F c base n X sc) {i : Nat} {y : Str} {py pos : Pos} {own : List (Str × Nat)} {t : Tg} {it : It} {q : Eo} {e : E} {x : Expr} (he : mE c sc (.lc own t it q e) x = true) (hl : locOk c sc allT i y = true) (hsw : swN sc y py x = true) :
    PS X (.Assign [.Name y py] x pos) (tAsg (rdN F W0 (ev Φ G (.lc own t it q e))) (gName i)) := by
  obtain ⟨h1, h2, h3⟩ := locOk_of hl
  have LX := L.toLx
  unfold mE at he
  split at he
  · rename_i elt tg iter ifs scope lp
    simp only [Bool.and_eq_true, decide_eq_true_eq] at he
    obtain ⟨⟨⟨⟨⟨g1, g2⟩, g3⟩, g4⟩, g5⟩, g6⟩ := he
    have hts : ∀ j ∈ tgSlots t, j ∈ own.map (·.2) := fun j hj => List.elem_iff.mp (List.all_eq_true.mp g3 j hj)
    have bk : BlkOk X.N X.env.scope scope own := blkOk_by (by rw [L.N, L.sc]; exact g1)
    unfold swN at hsw
    simp only [Bool.and_eq_true] at hsw
    have hk : X.env.scope.kind = .function := by rw [L.sc]; exact fnK_of hsw.1.2
    have ha : (scope.names.any fun (n, k) => n == y && (k == .local || k == .cell)) = false := by simpa using hsw.2
    rcases h2 with h2 | h2
    · have hy : X.env.scope.names.lookup y = some .local := by rw [L.sc]; exact h2
      refine wkS (ps_setLc L.calm L.nd (L.N ▸ h1) hy (sw_true hk hy hsw.1.1 ha) (sndI M it sc _ _ g4 X LX) bk (mT_ok LX g2) (fun s H C cl fp => (sndO M q (relS _ sc)).pc _ g5 _ (LX.blk s H _ C cl fp)) (fun s H C cl fp => (sndE M e (relS _ sc) _ g6).pe _ (LX.blk s H _ C cl fp)) (pl_set (mI_pl g4) X.env)) fun D σ H h => ?_
      exact lc_readN (W := W0) hts h
    · have hy : X.env.kindOf y = some .cell := by show X.env.scope.names.lookup y = _; rw [L.sc]; exact h2
      refine ps_set L.nd (L.N ▸ h1) (L.sc ▸ .inr h2) (wkE (pe_lc L.calm L.nd (sndI M it sc _ _ g4 X LX) bk (mT_ok LX g2) (fun s H C cl fp => (sndO M q (relS _ sc)).pc _ g5 _ (LX.blk s H _ C cl fp)) (fun s H C cl fp => (sndE M e (relS _ sc) _ g6).pe _ (LX.blk s H _ C cl fp)) (pl_set (mI_pl g4) X.env)) fun σ H Q h => lc_readN (W := W0) hts h) ?_ (.inl (L.fn y))
      unfold swapsWith
      simp only [hy]
      rw [show ((some NameKind.cell : Option NameKind) == some NameKind.local) = false from rfl, Bool.and_false, Bool.false_and, Bool.false_and]
  · cases he
end
end BR
set_option Elab.async false
set_option linter.all false
set_option maxRecDepth 100000
set_option maxHeartbeats 4000000
/-! a, b = x, y where one name is captured: by a tuple -/
namespace BR
open PySem PySem.Spec PyProof.Rows L2
section
variable {P : Program} {w : World} {F : Fix} {c : Cfg} {base : Heap} {n : Nat} {Φ : Oracle} {G : Str → Option PyData}
theorem swap2c {env : Env} {a b : Str} {x y : Expr} {p1 p2 : Pos} {kt k2 : Nat} {pt pt2 : Pos} (hk : env.scope.kind = .function) (hx : Loc env.scope a) (hy : Loc env.scope b) (pa : pl x = true) (pb : pl y = true) (h : ¬ (env.scope.names.lookup a = some .local ∧ env.scope.names.lookup b = some .local)) : swappedStores [.Tuple [.Name a p1, .Name b p2] kt pt] (.Tuple [x, y] k2 pt2) env = pure none := by
  have st : ([x, y].any fun | .Starred .. => true | _ => false) = false := by
    cases x <;> first | (cases y <;> first | rfl | (cases pb; done)) | (cases pa; done)
  have c1 : env.kindOf a = env.scope.names.lookup a := rfl
  have c2 : env.kindOf b = env.scope.names.lookup b := rfl
  have lc : (some NameKind.cell == some NameKind.local) = false := rfl
  have ll : (some NameKind.local == some NameKind.local) = true := rfl
  rcases hx with hx | hx <;> rcases hy with hy | hy
  · exact absurd ⟨hx, hy⟩ h
  all_goals
    rw [hx] at c1
    rw [hy] at c2
    unfold swappedStores
    simp only [kind_fn hk, Expr.pos, List.filterMap_cons, List.filterMap_nil, c1, c2, st, lc, ll, Bool.false_and, Bool.true_and, List.head?_cons, Option.map_some, Option.getD_some, Bool.false_eq_true, if_false]
    by_cases hpl : p2.line = p1.line <;> simp [hpl] <;> (try (split <;> simp [hpl]))
theorem s_par2c (M : Mx P w F c base n Φ G) {X : Cx} {sc : Scope} (L : Lx P w F c base n X sc) {i j : Nat} {o1 f1 o2 f2 : Bool} {x y : Str} {a b : Expr} {px py pt pos : Pos} {kt k2 pt2} {es : Es} (hi : X.N[i]? = some x) (hj : X.N[j]? = some y)
    (hx : Loc X.env.scope x) (hy : Loc X.env.scope y) (fx : X.fn x = true) (fy : X.fn y = true) (hw : swappedStores [.Tuple [.Name x px, .Name y py] kt pt] (.Tuple [a, b] k2 pt2) X.env = pure none) (he : mEs c sc es [a, b] = true) :
    PS X (.Assign [.Tuple [.Name x px, .Name y py] kt pt] (.Tuple [a, b] k2 pt2) pos) (rdS F fun ρ C => (evPar Φ G es [(o1, f1, i), (o2, f2, j)] ρ C).bind fun ss C => .ok (.nx (setAll [(o1, f1, i), (o2, f2, j)] ss ρ)) C) := by
  refine wkS (ps_asg (pe_tupX (par_pa M L (ms := [(o1, f1, i), (o2, f2, j)]) he)) (pg_tup L.calm (pgs_cons (pg_name L.nd hi hx (.inl fx)) (pgs_cons (pg_name L.nd hj hy (.inl fy)) pgs_nil))) rfl hw rfl) fun D σ H ⟨N, κ, ρ, C, s, h⟩ => ⟨N, κ, H, ρ, C, κ, ρ, σ, C, s, .refl s.sr, s, fun a h => .inl h, ?_⟩
  have h : FinS F N ((evPar Φ G es [(o1, f1, i), (o2, f2, j)] ρ C).bind fun ss C => .ok (.nx (setAll [(o1, f1, i), (o2, f2, j)] ss ρ)) C) D := h
  revert h
  cases evPar Φ G es [(o1, f1, i), (o2, f2, j)] ρ C with
  | ok ss C2 =>
    intro h κ2 H2 vs hl s2
    cases vs with
    | nil => cases hl
    | cons v vs =>
      cases vs with
      | nil => cases hl
      | cons u vs =>
        cases vs with
        | nil =>
          refine ⟨by show 2 ≤ sizeLine; decide, fun p ob hp hd => ⟨p, [v, u], rfl, .inl (.inr ⟨ob, upd_same⟩), rfl, v, [u], rfl, u, [], rfl, rfl, ?_⟩⟩
          exact (show ∀ κ' H' σ', CtxS F N κ' H' σ' (setAll [(o1, f1, i), (o2, f2, j)] ss ρ) C2 → D.nx σ' H' from h) κ2 _ _ (s2.post (.new s2.sr hp))
        | cons _ _ => cases hl
  | exc _ _ _ => exact fun h => (show False from h).elim
  | stuck => exact fun h => (show False from h).elim
end
end BR
set_option Elab.async false
set_option linter.all false
set_option maxRecDepth 100000
set_option maxHeartbeats 8000000
/-! statements: what is matched is so, all together -/
namespace BR
open PySem PySem.Spec PyProof.Rows L2
section
variable {P : Program} {w : World} {F : Fix} {c : Cfg} {base : Heap} {n : Nat} {Φ : Oracle} {G : Str → Option PyData} {Wf : Nat}
theorem sndIA (M : Mx P w F c base n Φ G) {i : It} {sc : Scope} {tg x : Expr} (hn : noSrc i = true) (h : mI c sc i tg x = true) {X : Cx} (L : Lx P w F c base n X sc) : PI X tg x (rdIA F W0 (evI Φ G i)) := by
  cases i with
  | rg1 a =>
    unfold mI at h
    split at h
    · simp only [Bool.and_eq_true] at h
      obtain ⟨⟨⟨h1, h2⟩, h3⟩, h4⟩ := h
      have e := eq_of_beq h1
      subst e
      exact i_rg1A (glb_of L.sc h2).1 (L.bl M (by decide)) h3 ((sndE M a sc _ h4).pe X L)
    · cases h
  | rg2 a b =>
    unfold mI at h
    split at h
    · simp only [Bool.and_eq_true] at h
      obtain ⟨⟨⟨⟨⟨h1, h2⟩, h3⟩, h4⟩, h5⟩, h6⟩ := h
      have e := eq_of_beq h1
      subst e
      exact i_rg2A (glb_of L.sc h2).1 (L.bl M (by decide)) h3 h4 ((sndE M a sc _ h5).pe X L) ((sndE M b sc _ h6).pe X L)
    · cases h
  | chars e =>
    unfold mI at h
    rw [Bool.and_eq_true] at h
    exact i_charsA ((sndE M e sc _ h.2).pe X L)
  | _ => cases hn
theorem s_par2 (M : Mx P w F c base n Φ G) {X : Cx} {sc : Scope} (L : Lx P w F c base n X sc) {i j : Nat} {o1 f1 o2 f2 : Bool} {x y : Str} {a b : Expr} {px py pt pos : Pos} {kt k2 pt2} {es : Es} (hi : X.N[i]? = some x) (hj : X.N[j]? = some y) (hij : i ≠ j)
    (hx : X.env.scope.names.lookup x = some .local) (hy : X.env.scope.names.lookup y = some .local) (hw : swappedStores [.Tuple [.Name x px, .Name y py] kt pt] (.Tuple [a, b] k2 pt2) X.env = pure (some [x, y])) (he : mEs c sc es [a, b] = true) :
    PS X (.Assign [.Tuple [.Name x px, .Name y py] kt pt] (.Tuple [a, b] k2 pt2) pos) (rdS F fun ρ C => (evPar Φ G es [(o1, f1, i), (o2, f2, j)] ρ C).bind fun ss C => .ok (.nx (setAll [(o1, f1, i), (o2, f2, j)] ss ρ)) C) := by
  refine wkS (ps_par L.calm L.nd hi hj hij hx hy (par_pa M L (ms := [(o1, f1, i), (o2, f2, j)]) he) hw) fun D σ H ⟨N, κ, ρ, C, s, h⟩ => ⟨N, κ, H, ρ, C, κ, ρ, σ, C, s, .refl s.sr, s, fun a h => .inl h, ?_⟩
  have h : FinS F N ((evPar Φ G es [(o1, f1, i), (o2, f2, j)] ρ C).bind fun ss C => .ok (.nx (setAll [(o1, f1, i), (o2, f2, j)] ss ρ)) C) D := h
  revert h
  cases evPar Φ G es [(o1, f1, i), (o2, f2, j)] ρ C with
  | ok ss C2 =>
    intro h κ2 H2 vs hl s2
    cases vs with
    | nil => cases hl
    | cons v vs =>
      cases vs with
      | nil => cases hl
      | cons u vs =>
        cases vs with
        | nil => exact ⟨v, u, rfl, (show ∀ κ' H' σ', CtxS F N κ' H' σ' (setAll [(o1, f1, i), (o2, f2, j)] ss ρ) C2 → D.nx σ' H' from h) κ2 H2 _ s2⟩
        | cons _ _ => cases hl
  | exc _ _ _ => exact fun h => (show False from h).elim
  | stuck => exact fun h => (show False from h).elim
theorem s_par3 (M : Mx P w F c base n Φ G) {X : Cx} {sc : Scope} (L : Lx P w F c base n X sc) {i j l : Nat} {o1 f1 o2 f2 o3 f3 : Bool} {x y z : Str} {a b d : Expr} {px py pz pt pos : Pos} {kt k2 pt2} {es : Es} (hi : X.N[i]? = some x) (hj : X.N[j]? = some y) (hl : X.N[l]? = some z) (hij : i ≠ j) (hil : i ≠ l) (hjl : j ≠ l)
    (hx : X.env.scope.names.lookup x = some .local) (hy : X.env.scope.names.lookup y = some .local) (hz : X.env.scope.names.lookup z = some .local) (hw : swappedStores [.Tuple [.Name x px, .Name y py, .Name z pz] kt pt] (.Tuple [a, b, d] k2 pt2) X.env = pure (some [x, y, z])) (he : mEs c sc es [a, b, d] = true) :
    PS X (.Assign [.Tuple [.Name x px, .Name y py, .Name z pz] kt pt] (.Tuple [a, b, d] k2 pt2) pos) (rdS F fun ρ C => (evPar Φ G es [(o1, f1, i), (o2, f2, j), (o3, f3, l)] ρ C).bind fun ss C => .ok (.nx (setAll [(o1, f1, i), (o2, f2, j), (o3, f3, l)] ss ρ)) C) := by
  refine wkS (ps_par3 L.calm L.nd hi hj hl hij hil hjl hx hy hz (par_pa M L (ms := [(o1, f1, i), (o2, f2, j), (o3, f3, l)]) he) hw) fun D σ H ⟨N, κ, ρ, C, s, h⟩ => ⟨N, κ, H, ρ, C, κ, ρ, σ, C, s, .refl s.sr, s, fun a h => .inl h, ?_⟩
  have h : FinS F N ((evPar Φ G es [(o1, f1, i), (o2, f2, j), (o3, f3, l)] ρ C).bind fun ss C => .ok (.nx (setAll [(o1, f1, i), (o2, f2, j), (o3, f3, l)] ss ρ)) C) D := h
  revert h
  cases evPar Φ G es [(o1, f1, i), (o2, f2, j), (o3, f3, l)] ρ C with
  | ok ss C2 =>
    intro h κ2 H2 vs hl s2
    cases vs with
    | nil => cases hl
    | cons v vs =>
      cases vs with
      | nil => cases hl
      | cons u vs =>
        cases vs with
        | nil => cases hl
        | cons t vs =>
          cases vs with
          | nil => exact ⟨v, u, t, rfl, (show ∀ κ' H' σ', CtxS F N κ' H' σ' (setAll [(o1, f1, i), (o2, f2, j), (o3, f3, l)] ss ρ) C2 → D.nx σ' H' from h) κ2 H2 _ s2⟩
          | cons _ _ => cases hl
  | exc _ _ _ => exact fun h => (show False from h).elim
  | stuck => exact fun h => (show False from h).elim
mutual
theorem sndS (M : Mx P w F c base n Φ G) : ∀ (s : S) (sc : Scope) (st : Stmt), mS c sc s st = true → ∀ X, Ly P w F c base n X sc → PS X st (rdS F (evS Φ G Wf s))
  | .asg f t e, sc, st, h, X, L => by
    unfold mS at h
    split at h
    · rename_i tg x pos
      simp only [Bool.and_eq_true] at h
      obtain ⟨⟨h1, h2⟩, h3⟩ := h
      cases tg with
      | Name y py =>
        cases t with
        | nm i => exact s_asgN (s_set M L h1 h2 h3)
        | tp t => rw [mT] at h2; cases h2; all_goals (intros; contradiction)
      | Tuple ts k tp =>
        simp only [Bool.and_eq_true] at h3
        have hfn : ∀ y, allT y = true → X.fn y = true := fun y _ => L.fn y
        exact s_asg L.calm L.K L.N L.nd L.sc hfn h2 ((sndE M e sc _ h1).pe X L.toLx) (noLc_sole h3.1) (noSw_of h3.2) rfl
      | _ => cases h3
    · cases h
  | .own i e, sc, st, h, X, L => by
    unfold mS at h
    split at h
    · simp only [Bool.and_eq_true] at h
      obtain ⟨⟨h1, h2⟩, h3⟩ := h
      exact s_own (s_set M L h1 h2 h3)
    · cases h
  | .asgN i e, sc, st, h, X, L => by
    unfold mS at h
    split at h
    · simp only [Bool.and_eq_true] at h
      obtain ⟨⟨h1, h2⟩, h3⟩ := h
      exact s_asgNew (s_setN M L h1 h2 h3)
    · cases h
  | .ownN i e, sc, st, h, X, L => by
    unfold mS at h
    split at h
    · simp only [Bool.and_eq_true] at h
      obtain ⟨⟨h1, h2⟩, h3⟩ := h
      exact s_ownNew (s_setN M L h1 h2 h3)
    · cases h
  | .ext f i e, sc, st, h, X, L => by
    unfold mS at h
    split at h
    · simp only [Bool.and_eq_true, decide_eq_true_eq] at h
      obtain ⟨⟨⟨⟨⟨h1, h2⟩, h3⟩, h4⟩, h5⟩, h6⟩ := h
      have e := eq_of_beq h1
      subst e
      obtain ⟨v1, v2, v3⟩ := vis_of h4
      exact s_ext (L.N ▸ h3) (L.sc ▸ v1) v2 v3 h2 h5 ((sndE M e sc _ h6).pe X L.toLx)
    · cases h
  | .parn ms es, sc, st, h, X, L => by
    unfold mS at h
    split at h
    · rename_i a p1 b p2 _ _ x y _ _ _
      simp only [Bool.and_eq_true, Bool.or_eq_true, decide_eq_true_eq] at h
      obtain ⟨⟨⟨⟨⟨⟨⟨h1, h2⟩, h3⟩, h8⟩, h9⟩, h12⟩, h13⟩, hor⟩ := h
      rcases hor with hor | hor
      · simp only [Bool.not_eq_true'] at hor
        obtain ⟨⟨⟨⟨⟨h4, h5⟩, h6⟩, h7⟩, h10⟩, h11⟩ := hor
        have e4 := lcl_of h4
        have e5 := lcl_of h5
        rw [← L.sc] at e4 e5
        exact s_par2 M L.toLx (L.N ▸ h1) (L.N ▸ h2) h3 e4 e5 (swap2 (by rw [L.sc]; exact fnK_of h12) e4 e5 h6 h7 h8 h9 h10 h11) h13
      · obtain ⟨⟨hno, ha⟩, hb⟩ := hor
        obtain ⟨_, la, _⟩ := locOk_of ha
        obtain ⟨_, lb, _⟩ := locOk_of hb
        rw [← L.sc] at la lb
        refine s_par2c M L.toLx (L.N ▸ h1) (L.N ▸ h2) la lb (L.fn _) (L.fn _) (swap2c (by rw [L.sc]; exact fnK_of h12) la lb h8 h9 fun ⟨q1, q2⟩ => ?_) h13
        rw [L.sc] at q1 q2
        have e1 : lcl sc a = true := by unfold lcl; rw [q1]
        have e2 : lcl sc b = true := by unfold lcl; rw [q2]
        rw [e1, e2] at hno
        cases hno
    · simp only [Bool.and_eq_true, decide_eq_true_eq, Bool.not_eq_true'] at h
      obtain ⟨⟨⟨⟨⟨⟨⟨⟨⟨⟨⟨⟨⟨⟨⟨⟨⟨⟨⟨⟨h1, h2⟩, h3⟩, h4⟩, h5⟩, h6⟩, h7⟩, h8⟩, h9⟩, h10⟩, h11⟩, h12⟩, h13⟩, h14⟩, h15⟩, h16⟩, h17⟩, h18⟩, h19⟩, h20⟩, h21⟩ := h
      have e7 := lcl_of h7
      have e8 := lcl_of h8
      have e9 := lcl_of h9
      rw [← L.sc] at e7 e8 e9
      exact s_par3 M L.toLx (L.N ▸ h1) (L.N ▸ h2) (L.N ▸ h3) h4 h5 h6 e7 e8 e9 (swap3 (by rw [L.sc]; exact fnK_of h20) e7 e8 e9 h10 h11 h12 h13 h14 h15 h16 h17 h18 h19) h21
    · cases h
  | .mv i j, sc, st, h, X, L => by
    unfold mS at h
    split at h
    · rename_i y py z pz pos
      simp only [Bool.and_eq_true, decide_eq_true_eq] at h
      obtain ⟨⟨h1, h2⟩, h3⟩ := h
      obtain ⟨g1, g2, g3⟩ := locOk_of h1
      obtain ⟨v1, v2, v3⟩ := vis_of h3
      exact s_mv (nm := y) (ps_set L.nd (L.N ▸ g1) (L.sc ▸ g2) (pe_var (L.N ▸ h2) (L.sc ▸ v1) v2 v3) rfl (.inl (L.fn y)))
    · cases h
  | .frz i, sc, st, h, X, L => by
    unfold mS at h
    cases h
  | .app f i e, sc, st, h, X, L => by
    unfold mS at h
    split at h
    · simp only [Bool.and_eq_true, decide_eq_true_eq] at h
      obtain ⟨⟨⟨⟨⟨h1, h2⟩, h3⟩, h4⟩, h5⟩, h6⟩ := h
      have e := eq_of_beq h1
      subst e
      obtain ⟨v1, v2, v3⟩ := vis_of h4
      exact s_app (L.N ▸ h3) (L.sc ▸ v1) v2 v3 h2 h5 ((sndE M e sc _ h6).pe X L.toLx)
    · cases h
  | .seti f i ix e, sc, st, h, X, L => by
    unfold mS at h
    split at h
    · simp only [Bool.and_eq_true, decide_eq_true_eq] at h
      obtain ⟨⟨⟨⟨⟨h1, h2⟩, h3⟩, h4⟩, h5⟩, h6⟩ := h
      obtain ⟨v1, v2, v3⟩ := vis_of h2
      exact s_seti (L.N ▸ h1) (L.sc ▸ v1) v2 v3 h3 ((sndE M e sc _ h6).pe X L.toLx) ((sndE M ix sc _ h5).pe X L.toLx) (noLc_sole h4)
    · cases h
  | .cset o ix e, sc, st, h, X, L => by
    unfold mS at h
    split at h
    · simp only [Bool.and_eq_true] at h
      obtain ⟨⟨⟨⟨h1, h2⟩, h3⟩, h4⟩, h5⟩ := h
      exact s_cset h1 ((sndE M e sc _ h5).pe X L.toLx) ((sndE M o sc _ h3).pe X L.toLx) ((sndE M ix sc _ h4).pe X L.toLx) (noLc_sole h2)
    · cases h
  | .cset2 o ix i e, sc, st, h, X, L => by
    unfold mS at h
    split at h
    · rename_i oo z p1 y p2 kt pt x pos
      simp only [Bool.and_eq_true, Bool.not_eq_true'] at h
      obtain ⟨⟨⟨⟨⟨⟨h1, h2⟩, h3⟩, h4⟩, h5⟩, h6⟩, h7⟩ := h
      obtain ⟨g1, g2, g3⟩ := locOk_of h4
      have hsw : swappedStores [.Tuple [.Subscript oo z p1, .Name y p2] kt pt] x X.env = pure none := by
        cases x <;> first | rfl | (cases h3; done)
      exact s_cset2 L.calm L.K L.nd (L.N ▸ g1) (L.sc ▸ g2) (.inl (L.fn _)) h1 ((sndE M e sc _ h7).pe X L.toLx) ((sndE M o sc _ h5).pe X L.toLx) ((sndE M ix sc _ h6).pe X L.toLx) (noLc_sole h2) hsw
    · cases h
  | .iff k a b, sc, st, h, X, L => by
    unfold mS at h
    split at h
    · simp only [Bool.and_eq_true] at h
      obtain ⟨⟨⟨h1, h2⟩, h3⟩, h4⟩ := h
      exact s_if ((sndE M k sc _ h2).pt h1 X L.toLx) (sndSs M a sc _ h3 X L) (sndSs M b sc _ h4 X L)
    · cases h
  | .loop f t i b, sc, st, h, X, L => by
    unfold mS at h
    split at h
    · rename_i tg it body pos
      simp only [Bool.and_eq_true] at h
      obtain ⟨⟨⟨h1, h2⟩, h3⟩, h4⟩ := h
      have hfn : ∀ y, allT y = true → X.fn y = true := fun y _ => L.fn y
      have hg := pp_of (F := F) L.calm L.K L.N L.nd L.sc hfn h2
      have hb := sndSs M b sc _ h4 X L
      have hit := pl_set (mI_pl h3) X.env
      cases f with
      | false => exact wkS (s_loop L.po L.calm (sndI M i sc _ _ h3 X L.toLx) hg hb hit) fun D σ H ⟨N, κ, ρ, C, s, h⟩ => ⟨N, κ, ρ, C, s, h⟩
      | true =>
        have hn : noSrc i = true := h1
        refine wkS (s_loopA L.po L.calm (sndIA M hn h3 L.toLx) hg hb hit) fun D σ H ⟨N, κ, ρ, C, s, h⟩ => ⟨N, κ, ρ, C, s, ?_⟩
        have h : FinS F N ((evI Φ G i (view true ρ) C).bind fun xs C => if (!true || noSrc i) = true then loopS (fun x ρ C => (opt (putT t x ρ) C).bind fun ρ' C => evSs Φ G Wf b ρ' C) xs ρ C else .stuck) D := h
        rw [hn] at h
        exact h
    · cases h
  | .whil k b, sc, st, h, X, L => by
    unfold mS at h
    split at h
    · simp only [Bool.and_eq_true] at h
      obtain ⟨⟨h1, h2⟩, h3⟩ := h
      exact s_whil (fuel := Wf) L.po ((sndE M k sc _ h2).pt h1 X L.toLx) (sndSs M b sc _ h3 X L)
    · cases h
  | .ret e, sc, st, h, X, L => by
    unfold mS at h
    split at h
    · exact s_ret ((sndE M e sc _ h).pe X L.toLx)
    · cases h
  | .retN, sc, st, h, X, L => by
    unfold mS at h
    split at h
    · exact s_retN
    · cases h
  | .expr e, sc, st, h, X, L => by
    unfold mS at h
    split at h
    · rw [Bool.and_eq_true] at h
      exact s_expr ((sndE M e sc _ h.2).pe X L.toLx) (noLc_sw h.1)
    · cases h
  | .brk, sc, st, h, X, L => by
    unfold mS at h
    split at h
    · exact s_brk
    · cases h
  | .pass, sc, st, h, X, L => by
    unfold mS at h
    split at h
    · exact s_pass
    · cases h
  | .never, sc, st, h, X, L => s_never
  | .ndef i k, sc, st, h, X, L => by
    unfold mS at h
    split at h
    · rename_i name params body scope nm2 pos
      simp only [Bool.and_eq_true, decide_eq_true_eq] at h
      obtain ⟨⟨⟨⟨⟨⟨⟨h0, h1⟩, h2⟩, h3⟩, h4⟩, h5⟩, h6⟩, h7⟩ := h
      subst h0
      obtain ⟨cc, Pt, nm, t1, t2, t3, t4, t5⟩ := mk_facts L.toLx h7
      refine wkS (ps_made t1 t2 t3 t5 t4 h5 h3 (noAnn_of h4) L.nd (L.N ▸ h1) (by rw [L.sc]; exact lcl_of h2)) fun D σ H ⟨N, κ, ρ, C, s, h⟩ => ⟨s.sr.tab, fun f c' H1 eN tb T1 f0 f1 c1 => ?_⟩
      exact h κ H1 _ ((s.post (post_made s.sr eN tb T1)).putV (made_rp s.sr eN (M.okN k _ _ _ _ _ h6 _) f0 f1 c1))
    · cases h
theorem sndSs (M : Mx P w F c base n Φ G) : ∀ (b : Ss) (sc : Scope) (sts : List Stmt), mSs c sc b sts = true → ∀ X, Ly P w F c base n X sc → PSs X sts (rdS F (evSs Φ G Wf b))
  | .nil, sc, sts, h, X, L => by
    unfold mSs at h
    split at h
    · exact s_nil
    · cases h
  | .cons s r, sc, sts, h, X, L => by
    by_cases hs : ∃ i, s = .frz i
    · obtain ⟨i, rfl⟩ := hs
      unfold mSs at h
      exact s_ghost (fs := evS Φ G Wf (.frz i)) (fun N κ H σ ρ C D s h => g_frz s h) (sndSs M r sc _ h X L)
    · cases sts with
      | nil =>
        unfold mSs at h
        split at h
        · exact absurd ⟨_, rfl⟩ hs
        · cases h
      | cons st sts =>
        have h' : (mS c sc s st && mSs c sc r sts) = true := by
          unfold mSs at h
          split at h
          · exact absurd ⟨_, rfl⟩ hs
          · exact h
        rw [Bool.and_eq_true] at h'
        exact s_cons (sndS M s sc _ h'.1 X L) (sndSs M r sc _ h'.2 X L)
end
end
end BR
set_option Elab.async false
set_option linter.all false
set_option maxRecDepth 100000
set_option maxHeartbeats 4000000
/-! defs: each keeps what the evaluator says of it -/
namespace BR
open PySem PySem.Spec PyProof.Rows L2
structure DefI where
  name : Str
  st : Stmt
  N : List Str
  ps : List Str
  mkn : Option (Nat → Nat → Str)
def noDup : List Str → Bool
  | [] => true
  | x :: r => !(r.contains x) && noDup r
theorem noDup_of : ∀ {l : List Str}, noDup l = true → l.Nodup
  | [], _ => List.nodup_nil
  | x :: r, h => by
    rw [noDup, Bool.and_eq_true] at h
    refine List.nodup_cons.mpr ⟨fun hm => ?_, noDup_of h.2⟩
    have h1 := h.1
    rw [List.contains_iff_mem.mpr hm] at h1
    cases h1
def scB (N ps : List Str) (sc : Scope) : Bool := fnK sc && !sc.isCoroutine && !sc.isGenerator && noDup N && decide (N.take ps.length = ps) && ps.all (fun x => match sc.names.lookup x with | some .local => true | some .cell => true | _ => false) && sc.names.all fun y => match y.2 with | .free => false | _ => true
theorem scB_of {N ps : List Str} {sc : Scope} (h : scB N ps sc = true) : FnScope N ps sc := by
  unfold scB at h
  simp only [Bool.and_eq_true, Bool.not_eq_true', decide_eq_true_eq] at h
  obtain ⟨⟨⟨⟨⟨⟨h1, h2⟩, h3⟩, h4⟩, h5⟩, h6⟩, h7⟩ := h
  refine ⟨fnK_of h1, h2, h3, noDup_of h4, h5, fun x hx => ?_, fun y hy e => ?_⟩
  · have q := List.all_eq_true.mp h6 x hx
    split at q
    · exact .inl (by assumption)
    · exact .inr (by assumption)
    · cases q
  · have q := List.all_eq_true.mp h7 y hy
    rw [e] at q
    cases q
def okD (c : Cfg) (D : Def) (I : DefI) : Bool := mSs { c with N := I.N, mkr := I.mkn.map fun nm => (I.name, nm) } (defScope I.st) D.body (defBody I.st) && decide (D.np = I.ps.length) && decide (D.ns = I.N.length) && decide (I.ps.length ≤ I.N.length) && scB I.N I.ps (defScope I.st)
section
variable {P : Program} {w : World} {F : Fix} {base : Heap} {G : Str → Option PyData} {Wf : Nat} {T : List Def} {c : Cfg} {Is : List DefI}
/-- what a function does when it is called, by its body: where its object lies in the heap -/
theorem fn_core {k : Nat} {f : Addr} {name qual : Str} {params : Arguments} {body : List Stmt} {scope : Scope} {d1 d2 d3 d4 cdv ct oc : Value} {an od : Option Addr} {osl : Array (Option Value)} {N ps : List Str}
    {A : Around} {outer : List Env} {s : Shared} {H : Hp} {args : Args} {us : List Value} {vs : List V} {Q : VK} {E : XK}
    (ho : s.heap.get? f = some ⟨oc, od, .func (PySem.W.fnOf name qual params body scope d1 d2 d3 d4 an cdv ct), osl⟩) (hcd : s.heap.CodeRec cdv qual) (S : FnScope N ps scope) (hl : vs.length = ps.length)
    (room : Room (k + 1) A) (e0 : Env0 P w F.K F.mg base A outer s H) (bnd : BindsTo s (PySem.W.fnOf name qual params body scope d1 d2 d3 d4 an cdv ct) args (ps.zip us)) (rel : Vals vs us)
    (inside : ∃ t, PSs (cxOf CXZ P w F.K F.mg base N qual scope f cdv A outer s H E) body t ∧ t { nx := fun _ H' => Q .non H', rt := Q } (L2.start N vs) H) :
    codeAny (model P w) A (.call (.ref f) args) (CR CXZ outer P w H s Q E) s := by
  have old : ∀ b o, base.get? b = some o → s.heap.get? b = some o := fun b o e => (e0.bs b o e).1
  have lim := e0.mod.nolimit.keeps old
  have arg : ∀ y ∈ ps.zip us, scope.names.lookup y.1 = some .local ∨ (scope.names.lookup y.1 = some .cell ∧ ((cellsFrom (s.heap.objs.size + 1) scope.names []).lookup y.1).isSome = true) := by
    rintro ⟨n, v⟩ hy
    cases S.par n (List.of_mem_zip hy).1 with
    | inl q => exact Or.inl q
    | inr q => exact Or.inr ⟨q, PySem.W.cellsFrom_some _ _ _ (Or.inl q)⟩
  apply codeAny_call_function room.depth ho rfl S.co S.gen rfl hcd
  apply bnd
  apply wpAny_newFunctionEnv_cells S.kind arg
  intro env he s1 x
  subst he
  obtain ⟨t, ht, hq⟩ := inside
  have I := inv_start (CX := CXZ) (E := E) S room.hd e0 hl rel x
  refine ⟨lim.keeps x.toInCall.keep, codeAny_func (wpAny_mono (ht.run [] s1 (L2.start N vs) H _ I hq) ?_ fun _ _ z => z)⟩
  rintro fl s' hs
  cases fl with
  | ret u => obtain ⟨v, _, H', J, rv, q⟩ := hs; exact ⟨v, H', J.os, J.bare, J.base, J.hok, rv, q⟩
  | next => obtain ⟨_, H', J, q⟩ := hs; exact ⟨V.non, H', J.os, J.bare, J.base, J.hok, rfl, q⟩
  | brk => obtain ⟨_, _, _, q⟩ := hs; exact q.elim
  | cont => obtain ⟨_, _, _, q⟩ := hs; exact q.elim
/-- the same of a lambda -/
theorem lam_core {k : Nat} {f c1 : Addr} {qual : Str} {params : Arguments} {body : Expr} {scope : Scope} {pm ctv oc : Value} {od : Option Addr} {osl : Array (Option Value)} {N ps : List Str}
    {A : Around} {outer : List Env} {s : Shared} {H : Hp} {args : Args} {us : List Value} {vs : List V} {Q : VK} {E : XK} {t : TE}
    (ho : s.heap.get? f = some ⟨oc, od, .func (PySem.W.kla_fn "<lambda>" qual params body scope [] pm (.ref c1) ctv), osl⟩) (hcd : s.heap.CodeRec (.ref c1) qual) (S : FnScope N ps scope) (hl : vs.length = ps.length)
    (room : Room (k + 1) A) (e0 : Env0 P w F.K F.mg base A outer s H) (bnd : BindsTo s (PySem.W.kla_fn "<lambda>" qual params body scope [] pm (.ref c1) ctv) args (ps.zip us)) (rel : Vals vs us)
    (ht : PE (cxOf CXZ P w F.K F.mg base N qual scope f (.ref c1) A outer s H E) body t) (hq : t (L2.start N vs) H Q) :
    codeAny (model P w) A (.call (.ref f) args) (CR CXZ outer P w H s Q E) s := by
  have old : ∀ b o, base.get? b = some o → s.heap.get? b = some o := fun b o e => (e0.bs b o e).1
  have lim := e0.mod.nolimit.keeps old
  have arg : ∀ y ∈ ps.zip us, scope.names.lookup y.1 = some .local ∨ (scope.names.lookup y.1 = some .cell ∧ ((cellsFrom (s.heap.objs.size + 1) scope.names []).lookup y.1).isSome = true) := by
    rintro ⟨n, v⟩ hy
    cases S.par n (List.of_mem_zip hy).1 with
    | inl q => exact Or.inl q
    | inr q => exact Or.inr ⟨q, PySem.W.cellsFrom_some _ _ _ (Or.inl q)⟩
  apply PySem.W.kla_callFunE room.depth ho rfl S.co S.gen rfl hcd
  apply bnd
  apply wpAny_newFunctionEnv_cells S.kind arg
  intro env he s1 x
  subst he
  have I := inv_start (CX := CXZ) (E := E) S room.hd e0 hl rel x
  refine ⟨lim.keeps x.toInCall.keep, PySem.W.kla_codeExpr (wpAny_mono (ht.run [] s1 (L2.start N vs) H _ I hq) ?_ fun _ _ z => z)⟩
  rintro u s' ⟨v, H', J, rv, q⟩
  exact ⟨v, H', J.os, J.bare, J.base, J.hok, rv, q⟩
/-- a def of the module; where gd is set, nothing is being written out meanwhile -/
theorem fnG_of {gd : Bool} {k : Nat} {f : Addr} {name qual : Str} {params : Arguments} {body : List Stmt} {scope : Scope} {d1 d2 d3 d4 cdv ct oc : Value} {an od : Option Addr} {osl : Array (Option Value)} {N ps : List Str} {sp : Sp}
    (lk : F.K.lookup f = some ⟨oc, od, .func (PySem.W.fnOf name qual params body scope d1 d2 d3 d4 an cdv ct), osl⟩) (hcd : PySem.W.codeIn F.K cdv qual = true) (S : FnScope N ps scope)
    (len : ∀ vs H Q E, sp vs H Q E → vs.length = ps.length)
    (inside : ∀ (A : Around) (outer : List Env) (s : Shared) (H : Hp) (vs : List V) (Q : VK) (E : XK), Room k (A.deeper (envOfC qual scope s.heap.objs.size f cdv)) → Room k (A.deeper (envOfC qual scope s.heap.objs.size f cdv)).in1.in1 → (gd = true → (A.deeper (envOfC qual scope s.heap.objs.size f cdv)).guards = some []) → sp vs H Q E →
      ∃ t, PSs (cxOf CXZ P w F.K F.mg base N qual scope f cdv A outer s H E) body t ∧ t { nx := fun _ H' => Q .non H', rt := Q } (L2.start N vs) H) :
    FnG gd P w F.K F.mg base (k + 1) f (PySem.W.fnOf name qual params body scope d1 d2 d3 d4 an cdv ct) ps sp := by
  refine ⟨len, fun A outer s H args us vs Q E room grd e0 bnd rel want => ?_⟩
  have inK := e0.mod.kin.keeps fun b o e => (e0.bs b o e).1
  exact fn_core (inK _ _ lk) (PySem.W.codeRec_of inK hcd) S (len _ _ _ _ want) room e0 bnd rel (inside A outer s H vs Q E (room.deeper _) (room_dI room _) grd want)
/-- plain parameters of these names -/
def plainPs (ps : Arguments) (xs : List Str) : Bool := noAnn ps && noDf ps && decide (ps.args.map (·.arg) = xs) && decide (xs.length ≤ 3) && decide (1 ≤ xs.length)
theorem plain_bind {params : Arguments} {ps : List Str} (h : plainPs params ps = true) : ∃ as : List Arg, params = ⟨[], as, none, [], [], none, []⟩ ∧ as.map (·.arg) = ps ∧ 1 ≤ ps.length ∧ ps.length ≤ 3 := by
  unfold plainPs noAnn noDf at h
  simp only [Bool.and_eq_true, List.isEmpty_iff, Option.isNone_iff_eq_none, decide_eq_true_eq] at h
  obtain ⟨po, as, va, ko, kd, kw, df⟩ := params
  obtain ⟨⟨⟨⟨⟨⟨⟨⟨h1, h2⟩, h3⟩, h4⟩, _⟩, h5, h6⟩, h7⟩, h8⟩, h9⟩ := h
  subst h1; subst h2; subst h3; subst h4; subst h5; subst h6
  exact ⟨as, rfl, h7, h9, h8⟩
/-- how plain parameters of these names bind -/
def PlainBind (ps : List Str) : Prop := ∀ as : List Arg, as.map (·.arg) = ps → ∀ us : List Value, us.length = ps.length →
  (∀ (name q : Str) (body : List Stmt) (scope : Scope) (doc pm cdv ctv : Value), bindArgs (PySem.W.fnOf name q ⟨[], as, none, [], [], none, []⟩ body scope .none .none doc pm none cdv ctv) ⟨us, []⟩ = pure (ps.zip us)) ∧
  ∀ (q : Str) (body : Expr) (scope : Scope) (pm cdv ctv : Value), bindArgs (PySem.W.kla_fn "<lambda>" q ⟨[], as, none, [], [], none, []⟩ body scope [] pm cdv ctv) ⟨us, []⟩ = pure (ps.zip us)
theorem bind_dfn {name q : Str} {params : Arguments} {body : List Stmt} {scope : Scope} {ps : List Str} (pb : PlainBind ps) (h : plainPs params ps = true) (doc pm cdv ctv : Value) (us : List Value) (hl : us.length = ps.length) :
    bindArgs (PySem.W.fnOf name q params body scope .none .none doc pm none cdv ctv) ⟨us, []⟩ = pure (ps.zip us) := by
  obtain ⟨as, rfl, e, _, _⟩ := plain_bind h
  exact (pb as e us hl).1 _ _ _ _ _ _ _ _
theorem bind_lam {q : Str} {params : Arguments} {body : Expr} {scope : Scope} {ps : List Str} (pb : PlainBind ps) (h : plainPs params ps = true) (pm cdv ctv : Value) (us : List Value) (hl : us.length = ps.length) :
    bindArgs (PySem.W.kla_fn "<lambda>" q params body scope [] pm cdv ctv) ⟨us, []⟩ = pure (ps.zip us) := by
  obtain ⟨as, rfl, e, _, _⟩ := plain_bind h
  exact (pb as e us hl).2 _ _ _ _ _ _
/-- a made function is what the evaluator's def says -/
def retOf : Ss → Option E
  | .cons (.ret e) .nil => some e
  | _ => none
def okK (c : Cfg) (D : Def) (N ps : List Str) : NK → Bool
  | .dfn _ _ params body scope => plainPs params ps && mSs { c with N := N, mkr := none } scope D.body body && decide (D.np = ps.length) && decide (D.ns = N.length) && decide (ps.length ≤ N.length) && scB N ps scope
  | .lam _ params body scope => plainPs params ps && (match retOf D.body with | some e => mE { c with N := N, mkr := none } scope e body | none => false) && decide (D.np = ps.length) && decide (D.ns = N.length) && decide (ps.length ≤ N.length) && scB N ps scope
theorem spO_len {np : Nat} {f : List PyData → List Cell → Res PyData} {vs : List V} {H : Hp} {Q : VK} {E : XK} (h : spO F np f vs H Q E) : vs.length = np := by
  obtain ⟨κ, U, C, ds, hl, hv, ra, _⟩ := h
  rw [ra.length, hl]
theorem Bas.post {κ κ' : List Addr} {U : Addr → Prop} {H H' : Hp} {C' : List Cell} (b : Bas F ⟨κ, U, fun _ => False, H⟩ κ' H' C') : Post F κ H κ' H' C' :=
  ⟨⟨fun a o e hk ht => b.fx.keep a o e hk (fun z => z) ht, b.fx.tbl⟩, b.gr, b.sr⟩
/-- the entry of a def -/
theorem enter {κ : List Addr} {U : Addr → Prop} {H : Hp} {C : List Cell} {vs : List V} {ds : List PyData} {N : List Str} {m : Nat} (hv : Hv F κ U H C) (ra : RpAll F κ U H vs ds) (hm : ds.length + m = N.length) :
    CtxS F ⟨κ, U, fun _ => False, H⟩ κ H (L2.start N vs) (ds.map Slot.val ++ List.replicate m Slot.no) C := by
  have noOwn : ∀ (i : Nat) (xs : List PyData), (ds.map Slot.val ++ List.replicate m Slot.no)[i]? ≠ some (.own xs) := fun i xs e => by
    have hm := List.mem_of_getElem? e
    rcases List.mem_append.mp hm with h | h
    · obtain ⟨_, _, q⟩ := List.mem_map.mp h
      cases q
    · have := (List.mem_replicate.mp h).2
      cases this
  have hU : ∀ a, Us U (L2.start N vs) (ds.map Slot.val ++ List.replicate m Slot.no) a → U a := fun a h => by
    rcases h with h | ⟨i, xs, h1, _⟩
    · exact h
    · exact absurd h1 (noOwn i xs)
  refine ⟨.refl fun _ z => z.elim, .refl _ _, hv.sr, fun a h => ⟨hv.al a h, fun z => z⟩, fun _ z => z.elim, ?_, fun i d h => ?_, fun i xs h => absurd h (noOwn i xs), fun i j xs ys a h => absurd h (noOwn i xs)⟩
  · have := ra.length
    unfold L2.start
    simp only [List.length_append, List.length_map, List.length_replicate]
    omega
  · have hi : i < ds.length := by
      rcases Nat.lt_or_ge i ds.length with z | z
      · exact z
      · rw [List.getElem?_append_right (by simpa using z)] at h
        rw [List.getElem?_replicate] at h
        split at h <;> cases h
    rw [List.getElem?_append_left (by simpa using hi), List.getElem?_map] at h
    cases e : ds[i]? with
    | none => rw [e] at h; cases h
    | some d' =>
      rw [e] at h
      cases h
      obtain ⟨v, q, r⟩ := ra.get e
      refine ⟨v, ?_, r.weak hU⟩
      unfold L2.start
      have hv2 : i < vs.length := by rw [ra.length]; exact hi
      rw [List.getElem?_append_left (by simpa using hv2), List.getElem?_map, q]
      rfl
/-- a def's body by what the evaluator says of it -/
theorem body_ok {κ : List Addr} {U : Addr → Prop} {H : Hp} {C : List Cell} {ρ : SEnv} {Q : VK} {g : SEnv → List Cell → Res Out} {σ : L2.St} (h : BR.Fin F W0 κ H σ (ended (g ρ C)) fun d _ κ' H' => ∀ v, Rp F κ' U H' v d → Q v H') :
    FinS F ⟨κ, U, fun _ => False, H⟩ (g ρ C) { nx := fun _ H' => Q .non H', rt := Q } := by
  revert h
  cases g ρ C with
  | ok o C' =>
    cases o with
    | nx ρ' => exact fun h κ' H' σ' s => h κ' H' s.bas.post .non .non
    | bk ρ' => exact fun h => (show False from h).elim
    | ret d => exact fun h κ' H' v b rv => h κ' H' b.post v rv
  | exc _ _ _ => exact fun h => h
  | stuck => exact fun h => h
theorem Mx.withN {n : Nat} {Φ : Oracle} (M : Mx P w F c base n Φ G) (N : List Str) (mk : Option (Str × (Nat → Nat → Str))) : Mx P w F { c with N := N, mkr := mk } base n Φ G := ⟨M.cf, M.fns, M.glo, M.blt, M.nst, M.okN, M.okE⟩
theorem def_ok {n k : Nat} {D : Def} {I : DefI} {f : Addr} {fd : FuncData} (M : Mx P w F c base n (runD T G Wf n) G) (e2 : T[k]? = some D) (ho : okD c D I = true) (hF1 : FunD F.K I.name I.name (defArgs I.st) (defBody I.st) (defScope I.st) [] [] f fd)
    (hmk : ∀ nm, I.mkn = some nm → ∃ cc Pt : Addr, fd.code = .ref cc ∧ LamX.TabB base F.mg cc Pt ∧ (Pt, nm) ∈ F.tabs ∧ ∀ p ∈ F.tabs, p.1 = Pt → p.2 = nm) :
    FnG c.gd P w F.K F.mg base (n + 1) f fd I.ps (spO F I.ps.length (runD T G Wf (n + 1) k)) := by
  unfold okD at ho
  simp only [Bool.and_eq_true, decide_eq_true_eq] at ho
  obtain ⟨⟨⟨⟨o1, o2⟩, o3⟩, o4⟩, o5⟩ := ho
  have S := scB_of o5
  have run_k : ∀ ds C, runD T G Wf (n + 1) k ds C = if ds.length = D.np then ended (evSs (runD T G Wf n) G Wf D.body (ds.map Slot.val ++ List.replicate (D.ns - D.np) Slot.no) C) else .stuck := fun ds C => by
    rw [runD, e2]
  obtain ⟨oc, od, dV, kV, doc, pm, an, cdv, ct, osl, rfl, lk, hcd, _, _⟩ := hF1.ex
  refine fnG_of lk hcd S (fun vs H Q E h => spO_len h) fun A outer s H vs Q E hr hri hgr ⟨κ, U, C, ds, hl, hv, ra, h⟩ => ⟨rdS F (evSs (runD T G Wf n) G Wf D.body), ?_, ?_⟩
  · refine sndSs (M.withN I.N (I.mkn.map fun nm => (I.name, nm))) D.body (defScope I.st) (defBody I.st) o1 _ ⟨⟨rfl, rfl, rfl, rfl, rfl, rfl, S.nd, rfl, rfl, hr, hri, hgr, fun q nm e => ?_⟩, passes_of rfl, fun _ => rfl⟩
    cases hm : I.mkn with
    | none => have e : I.mkn.map (fun nm => (I.name, nm)) = some (q, nm) := e; rw [hm] at e; cases e
    | some nm2 =>
      have e : I.mkn.map (fun nm => (I.name, nm)) = some (q, nm) := e
      rw [hm] at e
      cases e
      obtain ⟨cc, Pt, h1, h2, h3, h4⟩ := hmk nm hm
      exact ⟨cc, Pt, h2, h1, h3, h4, rfl⟩
  · rw [run_k] at h
    rw [if_pos (by rw [hl, o2])] at h
    exact ⟨⟨κ, U, fun _ => False, H⟩, κ, _, C, enter hv ra (by omega), body_ok (g := evSs (runD T G Wf n) G Wf D.body) h⟩
theorem run_np {n k : Nat} {D : Def} {I : DefI} (e2 : T[k]? = some D) (ho : okD c D I = true) (ds : List PyData) (C : List Cell) (h : runD T G Wf (n + 1) k ds C ≠ .stuck) : ds.length = I.ps.length := by
  unfold okD at ho
  simp only [Bool.and_eq_true, decide_eq_true_eq] at ho
  rw [runD, e2] at h
  dsimp only at h
  split at h
  · rw [← ho.1.1.1.2]; assumption
  · exact absurd rfl h
/-- a made function keeps what the evaluator says of it -/
theorem nst_ok {n k : Nat} {D : Def} {N ps : List Str} {nk : NK} (M : Mx P w F c base n (runD T G Wf n) G) (e2 : T[k]? = some D) (pb : PlainBind ps) (ho : okK c D N ps nk = true) : FnL c.gd P w F.K F.mg base (n + 1) nk ps (spO F ps.length (runD T G Wf (n + 1) k)) := by
  have run_k : ∀ ds C, runD T G Wf (n + 1) k ds C = if ds.length = D.np then ended (evSs (runD T G Wf n) G Wf D.body (ds.map Slot.val ++ List.replicate (D.ns - D.np) Slot.no) C) else .stuck := fun ds C => by
    rw [runD, e2]
  refine ⟨fun vs H Q E h => spO_len h, fun A outer s H f c1 us vs Q E room grd e0 hf hc rel want => ?_⟩
  have hl := spO_len want
  obtain ⟨od, sl, doc, pm, ctv, hobj⟩ := funO_at e0.hok hf
  have hrec := NdefX.codeO_at e0.hok hc
  obtain ⟨κ, U, C, ds, hdl, hv, ra, h⟩ := want
  cases nk with
  | dfn name q params body scope =>
    unfold okK at ho
    simp only [Bool.and_eq_true, decide_eq_true_eq] at ho
    obtain ⟨⟨⟨⟨⟨o0, o1⟩, o2⟩, o3⟩, o4⟩, o5⟩ := ho
    have S := scB_of o5
    refine fn_core (N := N) hobj hrec S hl room e0 (.of_eq (bind_dfn pb o0 _ _ _ _ us (by rw [← rel.length]; exact hl))) rel ⟨rdS F (evSs (runD T G Wf n) G Wf D.body), ?_, ?_⟩
    · exact sndSs (M.withN N none) D.body scope body o1 _ ⟨⟨rfl, rfl, rfl, rfl, rfl, rfl, S.nd, rfl, rfl, room.deeper _, room_dI room _, grd, fun q nm e => by cases e⟩, passes_of rfl, fun _ => rfl⟩
    · rw [run_k] at h
      rw [if_pos (by rw [hdl, o2])] at h
      exact ⟨⟨κ, U, fun _ => False, H⟩, κ, _, C, enter hv ra (by omega), body_ok (g := evSs (runD T G Wf n) G Wf D.body) h⟩
  | lam q params body scope =>
    unfold okK at ho
    simp only [Bool.and_eq_true, decide_eq_true_eq] at ho
    obtain ⟨⟨⟨⟨⟨o0, o1⟩, o2⟩, o3⟩, o4⟩, o5⟩ := ho
    have S := scB_of o5
    obtain ⟨e, he⟩ : ∃ e, D.body = .cons (.ret e) .nil := by
      unfold retOf at o1
      split at o1
      · rename_i e2 q1
        split at q1
        · exact ⟨_, by assumption⟩
        · cases q1
      · cases o1
    rw [he] at o1
    have o1 : mE { c with N := N, mkr := none } scope e body = true := o1
    rw [run_k, if_pos (by rw [hdl, o2]), he] at h
    have en := enter (m := D.ns - D.np) hv ra (show ds.length + (D.ns - D.np) = N.length by omega)
    have h2 : BR.Fin F W0 κ H [] (ev (runD T G Wf n) G e (view true (ds.map Slot.val ++ List.replicate (D.ns - D.np) Slot.no)) C) fun d C' κ' H' => ∀ v, Rp F κ' U H' v d → Q v H' := by
      have e3 : ended (evSs (runD T G Wf n) G Wf (.cons (.ret e) .nil) (ds.map Slot.val ++ List.replicate (D.ns - D.np) Slot.no) C) = ev (runD T G Wf n) G e (view true (ds.map Slot.val ++ List.replicate (D.ns - D.np) Slot.no)) C := by
        show ended (((ev (runD T G Wf n) G e (view true (ds.map Slot.val ++ List.replicate (D.ns - D.np) Slot.no)) C).bind fun d C => Res.ok (Out.ret d) C).bind fun o C => match o with | Out.nx ρ' => evSs (runD T G Wf n) G Wf .nil ρ' C | Out.bk ρ' => .ok (.bk ρ') C | Out.ret d => .ok (.ret d) C) = _
        cases ev (runD T G Wf n) G e (view true (ds.map Slot.val ++ List.replicate (D.ns - D.np) Slot.no)) C <;> rfl
      rw [e3] at h
      exact h
    refine lam_core (N := N) (t := rdE F W0 (ev (runD T G Wf n) G e)) hobj hrec S hl room e0 (.of_eq (bind_lam pb o0 _ _ _ us (by rw [← rel.length]; exact hl))) rel ((sndE (M.withN N none) e scope body o1).pe _ ⟨rfl, rfl, rfl, rfl, rfl, rfl, S.nd, rfl, rfl, room.deeper _, room_dI room _, grd, fun q nm e => by cases e⟩) ⟨κ, U, _, C, en.view1, ?_⟩
    exact h2.mono fun d C' κ' H' p z => z
theorem run_npK {n k : Nat} {D : Def} {N ps : List Str} {nk : NK} (e2 : T[k]? = some D) (ho : okK c D N ps nk = true) (ds : List PyData) (C : List Cell) (h : runD T G Wf (n + 1) k ds C ≠ .stuck) : ds.length = ps.length := by
  have hnp : D.np = ps.length := by
    cases nk <;> (unfold okK at ho; simp only [Bool.and_eq_true, decide_eq_true_eq] at ho; exact ho.1.1.1.2)
  rw [runD, e2] at h
  dsimp only at h
  split at h
  · rw [← hnp]; assumption
  · exact absurd rfl h
/-- within what is made nothing is made -/
def Cfg.flat (c : Cfg) : Cfg := { c with okN := fun _ _ => false, okE := fun _ _ => false, mkr := none }
theorem Mx.flat {n : Nat} {Φ : Oracle} (M : Mx P w F c base n Φ G) : Mx P w F c.flat base n Φ G := ⟨M.cf, M.fns, M.glo, M.blt, M.nst, (fun _ _ _ _ _ _ h => by cases h), (fun _ _ _ _ _ h => by cases h)⟩
theorem mx_all (hc : c.fns = F.fns) (hn : Is.map (·.name) = c.fns) (hT : Is.length ≤ T.length) (hok : ((T.zip Is).all fun p => okD c p.1 p.2) = true)
    (hF : ∀ (k : Nat) (I : DefI), Is[k]? = some I → ∃ f fd, F.mg I.name = some (.ref f) ∧ FunD F.K I.name I.name (defArgs I.st) (defBody I.st) (defScope I.st) [] [] f fd ∧ Binds F.K fd I.ps [] ∧ (∀ (np : Nat) (ks : List Str) (ix : List Nat), (k, np, ks, ix) ∈ c.kws → KBnd F.K fd I.ps np ks ix) ∧
      ∀ nm, I.mkn = some nm → ∃ cc Pt : Addr, fd.code = .ref cc ∧ LamX.TabB base F.mg cc Pt ∧ (Pt, nm) ∈ F.tabs ∧ ∀ p ∈ F.tabs, p.1 = Pt → p.2 = nm)
    (hG : ∀ (x : Str) (d : PyData), G x = some d → ∃ (v : V) (u : Value), F.mg x = some u ∧ RelV v u ∧ ∀ κ U H, Rp F κ U H v d) (hb : ∀ x ∈ blts, F.mg (x : Str) = none)
    (hN : ∀ (k : Nat) (nk : NK), F.okF k nk → ∃ D N ps, T[k]? = some D ∧ PlainBind ps ∧ okK c.flat D N ps nk = true)
    (h1 : ∀ (k : Nat) (name : Str) (params : Arguments) (body : List Stmt) (scope : Scope) (pos : Pos), c.okN k (.FunctionDef name params body [] none [] scope none name pos) = true → ∀ q, F.okF k (.dfn name q params body scope))
    (h2 : ∀ (k : Nat) (params : Arguments) (body : Expr) (scope : Scope) (pos : Pos), c.okE k (.Lambda params body scope pos) = true → ∀ q, F.okF k (.lam q params body scope)) : ∀ n, Mx P w F c base n (runD T G Wf n) G := by
  have at_k : ∀ {k : Nat} {x : Str}, c.fns[k]? = some x → ∃ I D, Is[k]? = some I ∧ I.name = x ∧ T[k]? = some D ∧ okD c D I = true := fun {k x} h => by
    rw [← hn, List.getElem?_map] at h
    cases e : Is[k]? with
    | none => rw [e] at h; cases h
    | some I =>
      rw [e] at h
      have hk : k < T.length := by
        rcases Nat.lt_or_ge k Is.length with z | z
        · omega
        · rw [List.getElem?_eq_none z] at e; cases e
      refine ⟨I, T[k], rfl, Option.some.inj h, List.getElem?_eq_getElem hk, ?_⟩
      have hz : (T.zip Is)[k]? = some (T[k], I) := by
        rw [List.getElem?_zip_eq_some]
        exact ⟨List.getElem?_eq_getElem hk, e⟩
      exact List.all_eq_true.mp hok _ (List.mem_of_getElem? hz)
  intro n
  induction n with
  | zero =>
    refine ⟨hc, fun k x hk => ?_, hG, hb, fun k nk hk => ?_, h1, h2⟩
    · obtain ⟨I, D, e1, rfl, e2, ho⟩ := at_k hk
      obtain ⟨f, fd, hm, hF1, hB, hK, _⟩ := hF k I e1
      exact ⟨f, fd, I.ps, hm, hF1.kp, ⟨fun vs H Q E h => spO_len h, fun A outer s H args us vs Q E _ _ _ _ _ ⟨κ, U, C, ds, _, _, _, h⟩ => h.elim⟩, fun ds C h => absurd rfl h, hB, hK⟩
    · obtain ⟨D, N, ps, e2, pb, ho⟩ := hN k nk hk
      exact ⟨ps, ⟨fun vs H Q E h => spO_len h, fun A outer s H f c1 us vs Q E _ _ _ _ _ _ ⟨κ, U, C, ds, _, _, _, h⟩ => h.elim⟩, fun ds C h => absurd rfl h⟩
  | succ n ih =>
    refine ⟨hc, fun k x hk => ?_, hG, hb, fun k nk hk => ?_, h1, h2⟩
    · obtain ⟨I, D, e1, rfl, e2, ho⟩ := at_k hk
      obtain ⟨f, fd, hm, hF1, hB, hK, hM⟩ := hF k I e1
      exact ⟨f, fd, I.ps, hm, hF1.kp, def_ok ih e2 ho hF1 hM, fun ds C h => run_np e2 ho ds C h, hB, hK⟩
    · obtain ⟨D, N, ps, e2, pb, ho⟩ := hN k nk hk
      exact ⟨ps, nst_ok (c := c.flat) ih.flat e2 pb ho, fun ds C h => run_npK e2 ho ds C h⟩
end
end BR
set_option Elab.async false
set_option linter.all false
set_option maxRecDepth 100000
set_option maxHeartbeats 4000000
/-! a law's end: from what the evaluator answers to the law's statement -/
namespace BR
open PySem PySem.Spec PyProof.Rows L2
inductive GlD where
  | int (i : Int)
  | str (z : Str)
  | tup (ws : List Str)
def glD : GlD → PyData
  | .int i => .int i
  | .str z => .str z
  | .tup ws => .tuple (ws.map .str)
def gTab (gs : List (Str × GlD)) : Str → Option PyData := fun x => (gs.lookup x).map glD
def glF (g : Str × GlD) : He.Fa := match g.2 with
  | .int i => .int g.1 i
  | .str z => .str g.1 z
  | .tup _ => .glo g.1
def faL (Is : List DefI) (gs : List (Str × GlD)) : List He.Fa := Is.map (fun I => .glo I.name) ++ blts.map (fun x => .free (x : Str)) ++ gs.map glF
def fnL (Is : List DefI) : List He.DefD := Is.map fun I => ⟨(I.name, none), I.name, I.name, defArgs I.st, defBody I.st, defScope I.st, [], []⟩
/-- the makers: defs in which functions are made -/
def mkL (Is : List DefI) : List He.Defn := (Is.filter fun I => I.mkn.isSome).map fun I => (I.name, none)
def addrsU : List Addr → Bool
  | [] => true
  | a :: r => !(r.contains a) && addrsU r
/-- no dict there -/
def dnB (K : PySem.W.Frag) (a : Addr) : Bool := match K.lookup a with
  | some o => o.dict.isNone
  | none => false
def exL (Is : List DefI) (gs : List (Str × GlD)) (K : PySem.W.Frag) : Bool := (gs.all fun g => match g.2 with
  | .tup ws => He.tupB K g.1 (ws.map .str) && dnB K (He.ga K g.1)
  | _ => true) && addrsU ((mkL Is).map fun p => (He.cT K p).2)
/-- their tables -/
def tabsL (Is : List DefI) (K : PySem.W.Frag) : List NdefX.NTab := Is.filterMap fun I => I.mkn.map fun nm => ((He.cT K (I.name, none)).2, nm)
theorem tabs_mem {Is : List DefI} {K : PySem.W.Frag} {p : NdefX.NTab} (h : p ∈ tabsL Is K) : ∃ q ∈ mkL Is, (He.cT K q).2 = p.1 := by
  unfold tabsL at h
  obtain ⟨I, hI, e⟩ := List.mem_filterMap.mp h
  cases hm : I.mkn with
  | none => rw [hm] at e; cases e
  | some nm =>
    rw [hm] at e
    cases e
    exact ⟨(I.name, none), List.mem_map.mpr ⟨I, List.mem_filter.mpr ⟨hI, by rw [hm]; rfl⟩, rfl⟩, rfl⟩
theorem tabs_one {K : PySem.W.Frag} : ∀ {Is : List DefI}, addrsU ((mkL Is).map fun p => (He.cT K p).2) = true → ∀ I ∈ Is, ∀ nm, I.mkn = some nm → ∀ p ∈ tabsL Is K, p.1 = (He.cT K (I.name, none)).2 → p.2 = nm := by
  have mem2 : ∀ {Is : List DefI} {I : DefI} {nm : Nat → Nat → Str}, I ∈ Is → I.mkn = some nm → (He.cT K (I.name, none)).2 ∈ (mkL Is).map fun p => (He.cT K p).2 := fun {Is I nm} h e =>
    List.mem_map.mpr ⟨(I.name, none), List.mem_map.mpr ⟨I, List.mem_filter.mpr ⟨h, by rw [e]; rfl⟩, rfl⟩, rfl⟩
  intro Is
  induction Is with
  | nil => intro _ I h; cases h
  | cons J r ih =>
    intro hu I hI nm hm p hp hpa
    cases hJ : J.mkn with
    | none =>
      have e1 : mkL (J :: r) = mkL r := by unfold mkL; rw [List.filter_cons_of_neg (by rw [hJ]; simp)]
      have e2 : tabsL (J :: r) K = tabsL r K := by unfold tabsL; rw [List.filterMap_cons_none (by rw [hJ]; rfl)]
      rw [e1] at hu
      rw [e2] at hp
      rcases List.mem_cons.mp hI with e | hI
      · rw [e, hJ] at hm; cases hm
      · exact ih hu I hI nm hm p hp hpa
    | some nj =>
      have e1 : mkL (J :: r) = (J.name, none) :: mkL r := by unfold mkL; rw [List.filter_cons_of_pos (by rw [hJ]; rfl)]; rfl
      have e2 : tabsL (J :: r) K = ((He.cT K (J.name, none)).2, nj) :: tabsL r K := by unfold tabsL; rw [List.filterMap_cons_some (by rw [hJ]; rfl)]
      rw [e1, List.map_cons, addrsU, Bool.and_eq_true, Bool.not_eq_true'] at hu
      have no : (He.cT K (J.name, none)).2 ∉ (mkL r).map fun p => (He.cT K p).2 := fun z => by
        rw [List.contains_iff_mem.mpr z] at hu
        cases hu.1
      rw [e2] at hp
      rcases List.mem_cons.mp hI with e | hI
      · subst e
        rw [hJ] at hm
        cases hm
        rcases List.mem_cons.mp hp with e | hp
        · rw [e]
        · obtain ⟨q, hq, e⟩ := tabs_mem hp
          exact absurd (List.mem_map.mpr ⟨q, hq, by rw [e, hpa]⟩) no
      · rcases List.mem_cons.mp hp with e | hp
        · rw [e] at hpa
          have hpa : (He.cT K (J.name, none)).2 = (He.cT K (I.name, none)).2 := hpa
          exact absurd (by rw [hpa]; exact mem2 hI hm) no
        · exact ih hu.2 I hI nm hm p hp hpa
/-- which made functions are the evaluator's -/
def okFn (T : List Def) (c : Cfg) (k : Nat) (nk : NK) : Prop := ∃ (D : Def) (N ps : List Str), T[k]? = some D ∧ PlainBind ps ∧ okK c.flat D N ps nk = true
abbrev fixL (T : List Def) (Is : List DefI) (c : Cfg) (K : PySem.W.Frag) (mg : Str → Option Value) : Fix := ⟨K, mg, c.fns, tabsL Is K, okFn T c⟩
/-- what is told of what is made -/
structure MadeOk (T : List Def) (c : Cfg) : Prop where
  n : ∀ (k : Nat) (name : Str) (params : Arguments) (body : List Stmt) (scope : Scope) (pos : Pos), c.okN k (.FunctionDef name params body [] none [] scope none name pos) = true → ∀ q, okFn T c k (.dfn name q params body scope)
  e : ∀ (k : Nat) (params : Arguments) (body : Expr) (scope : Scope) (pos : Pos), c.okE k (.Lambda params body scope pos) = true → ∀ q, okFn T c k (.lam q params body scope)
def BindOk (I : DefI) : Prop := ∀ (kV doc pm : Value) (an : Option Addr) (cdv ct : Value) (us : List Value), us.length = I.ps.length → bindArgs (PySem.W.fnOf I.name I.name (defArgs I.st) (defBody I.st) (defScope I.st) .none kV doc pm an cdv ct) ⟨us, []⟩ = pure (I.ps.zip us)
def KBindOk (I : DefI) (np : Nat) (ks : List Str) (ix : List Nat) : Prop := ∀ (kV doc pm : Value) (an : Option Addr) (cdv ct : Value) (us ws r : List Value), us.length = np → ws.length = ks.length → placed (us ++ ws) ix = some r →
  bindArgs (PySem.W.fnOf I.name I.name (defArgs I.st) (defBody I.st) (defScope I.st) .none kV doc pm an cdv ct) ⟨us, ks.zip ws⟩ = pure (I.ps.zip r)
def AllB : List DefI → Prop
  | [] => True
  | I :: r => BindOk I ∧ AllB r
theorem AllB.mem : ∀ {l : List DefI}, AllB l → ∀ I ∈ l, BindOk I
  | [], _, _, h => by cases h
  | J :: r, a, I, h => by
    rcases List.mem_cons.mp h with e | h
    · rw [e]; exact a.1
    · exact AllB.mem a.2 I h
def AllK (Is : List DefI) : List (Nat × Nat × List Str × List Nat) → Prop
  | [] => True
  | q :: r => (∀ I, Is[q.1]? = some I → KBindOk I q.2.1 q.2.2.1 q.2.2.2) ∧ AllK Is r
theorem AllK.mem {Is : List DefI} : ∀ {l : List (Nat × Nat × List Str × List Nat)}, AllK Is l → ∀ (k : Nat) (I : DefI) (np : Nat) (ks : List Str) (ix : List Nat), Is[k]? = some I → (k, np, ks, ix) ∈ l → KBindOk I np ks ix
  | [], _, _, _, _, _, _, _, h => by cases h
  | q :: r, a, k, I, np, ks, ix, e, h => by
    rcases List.mem_cons.mp h with e2 | h
    · subst e2; exact a.1 I e
    · exact AllK.mem a.2 k I np ks ix e h
/-- the made functions by number: the evaluator's def, its names, its parameters -/
abbrev Nst := List (Nat × Def × List Str × List Str)
def okNF (c : Cfg) (ns : Nst) (k : Nat) : Stmt → Bool
  | .FunctionDef name params body _ _ _ scope _ _ _ => ns.any fun q => (q.1 == k) && okK c q.2.1 q.2.2.1 q.2.2.2 (.dfn name name params body scope)
  | _ => false
def okEF (c : Cfg) (ns : Nst) (k : Nat) : Expr → Bool
  | .Lambda params body scope _ => ns.any fun q => (q.1 == k) && okK c q.2.1 q.2.2.1 q.2.2.2 (.lam Str.empty params body scope)
  | _ => false
def NstAll (T : List Def) : Nst → Prop
  | [] => True
  | q :: r => (T[q.1]? = some q.2.1 ∧ PlainBind q.2.2.2) ∧ NstAll T r
theorem NstAll.mem {T : List Def} : ∀ {l : Nst}, NstAll T l → ∀ q ∈ l, T[q.1]? = some q.2.1 ∧ PlainBind q.2.2.2
  | [], _, _, h => by cases h
  | p :: r, a, q, h => by
    rcases List.mem_cons.mp h with e | h
    · rw [e]; exact a.1
    · exact NstAll.mem a.2 q h
theorem madeOk {T : List Def} {c c0 : Cfg} {ns : Nst} (hf : c.flat = c0) (hN : c.okN = okNF c0 ns) (hE : c.okE = okEF c0 ns) (ha : NstAll T ns) : MadeOk T c := by
  refine ⟨fun k name params body scope pos h q => ?_, fun k params body scope pos h q => ?_⟩
  · rw [hN] at h
    obtain ⟨p, hp, hq⟩ := List.any_eq_true.mp h
    rw [Bool.and_eq_true] at hq
    obtain ⟨h1, h2⟩ := ha.mem p hp
    have e := eq_of_beq hq.1
    exact ⟨p.2.1, p.2.2.1, p.2.2.2, by rw [← e]; exact h1, h2, by rw [hf]; exact hq.2⟩
  · rw [hE] at h
    obtain ⟨p, hp, hq⟩ := List.any_eq_true.mp h
    rw [Bool.and_eq_true] at hq
    obtain ⟨h1, h2⟩ := ha.mem p hp
    have e := eq_of_beq hq.1
    exact ⟨p.2.1, p.2.2.1, p.2.2.2, by rw [← e]; exact h1, h2, by rw [hf]; exact hq.2⟩
section
variable {P : Program} {w : World} {K : PySem.W.Frag} {h base : Heap} {mg : Str → Option Value} {T : List Def} {Is : List DefI} {c : Cfg} {gs : List (Str × GlD)} {Wf : Nat}
theorem relTup {H : Hp} {κ : List Addr} {U : Addr → Prop} {F : Fix} (ws : List Str) : RpAll F κ U H (ws.map V.str) (ws.map PyData.str) := by
  induction ws with
  | nil => exact .nil
  | cons a r ih => exact .cons (.str a) ih
theorem tupK {x : Str} {ws : List Str} (hb : (He.tupB K x (ws.map .str) && dnB K (He.ga K x)) = true) : KT K (He.ga K x) (ws.map V.str) := by
  rw [Bool.and_eq_true] at hb
  have q := He.tupB_ok hb.1 (fun _ => none)
  rw [List.map_map] at q
  rcases q with q | q
  · rcases q with q | ⟨o, q⟩ <;> cases q
  · obtain ⟨o, its, n, h1, h2, h3⟩ := q
    have hd := hb.2
    unfold dnB at hd
    rw [h1] at hd
    exact ⟨o, its, n, h1, h2, by simpa using hd, h3⟩
theorem facts_mx (X : K.In h) (Gn : h.Ns mainGlobals mg) (sx : He.SaysX (faL Is gs) (fnL Is) [] (mkL Is) (exL Is gs) w h K) (hTB : ∀ p ∈ mkL Is, LamX.TabB base mg (He.cT K p).1 (He.cT K p).2) (mo : MadeOk T c) (hn : Is.map (·.name) = c.fns) (hT : Is.length ≤ T.length) (hok : ((T.zip Is).all fun p => okD c p.1 p.2) = true)
    (hB : ∀ I ∈ Is, BindOk I) (hK : ∀ (k : Nat) (I : DefI) (np : Nat) (ks : List Str) (ix : List Nat), Is[k]? = some I → (k, np, ks, ix) ∈ c.kws → KBindOk I np ks ix) (n : Nat) : Mx P w (fixL T Is c K mg) c base n (runD T (gTab gs) Wf n) (gTab gs) := by
  have cD : He.SaysD (faL Is gs) (fnL Is) K := congrArg (fun z : He.AlT => z.1) sx.t
  have cE := sx.more
  unfold exL at cE
  rw [Bool.and_eq_true] at cE
  refine mx_all (F := fixL T Is c K mg) rfl hn hT hok (fun k I e => ?_) (fun x d e => ?_) (fun x hx => ?_) (fun k nk h => h) mo.n mo.e n
  · have hm := List.mem_of_getElem? e
    have g1 : mg I.name = some (.ref (He.ga K I.name)) := He.glo_ok X Gn (cD.facts (f := .glo I.name) (List.mem_append_left _ (List.mem_append_left _ (List.mem_map.mpr ⟨I, hm, rfl⟩))))
    obtain ⟨fd, hF⟩ := cD.defs (d := ⟨(I.name, none), I.name, I.name, defArgs I.st, defBody I.st, defScope I.st, [], []⟩) (List.mem_map.mpr ⟨I, hm, rfl⟩)
    refine ⟨He.ga K I.name, fd, g1, hF, FunD.bindsN hF (hB I hm), fun np ks ix hk s us ws r _ h1 h2 h3 _ => ?_, fun nm hmk => ?_⟩
    rotate_left
    · obtain ⟨oc, od, dV, kV, doc, pm, an, cdv, ct, osl, rfl, lk, hcd, _, _⟩ := FunD.ex hF
      obtain ⟨cc, ecd⟩ := He.codeIn_ref hcd
      have ec : (He.cT K (I.name, none)).1 = cc := He.codeOf_eq lk (show (PySem.W.fnOf I.name I.name (defArgs I.st) (defBody I.st) (defScope I.st) dV kV doc pm an cdv ct).code = .ref cc from ecd)
      have hmm : (I.name, none) ∈ mkL Is := List.mem_map.mpr ⟨I, List.mem_filter.mpr ⟨hm, by rw [hmk]; rfl⟩, rfl⟩
      have tb := hTB _ hmm
      rw [ec] at tb
      refine ⟨cc, (He.cT K (I.name, none)).2, ecd, tb, List.mem_filterMap.mpr ⟨I, hm, by rw [hmk]; rfl⟩, tabs_one cE.2 I hm nm hmk⟩
    obtain ⟨oc, od, dV, kV, doc, pm, an, cdv, ct, osl, rfl, lk, hcd, hD, _⟩ := FunD.ex hF
    rcases hD with ⟨_, rfl⟩ | ⟨z, _⟩
    · exact .of_eq (hK k I np ks ix e hk kV doc pm an cdv ct us ws r h1 h2 h3)
    · exact absurd rfl z
  · unfold gTab at e
    cases hl : gs.lookup x with
    | none => rw [hl] at e; cases e
    | some g =>
      rw [hl] at e
      have hm : (x, g) ∈ gs := PySem.mem_of_lookup hl
      have hfa : glF (x, g) ∈ faL Is gs := List.mem_append_right _ (List.mem_map.mpr ⟨_, hm, rfl⟩)
      cases g with
      | int i =>
        cases e
        obtain ⟨t, q⟩ := He.int_ok X Gn (cD.facts (f := .int x i) hfa)
        exact ⟨.int i, _, q, ⟨t, rfl⟩, fun _ _ _ => .int i⟩
      | str z =>
        cases e
        obtain ⟨t, q⟩ := He.str_ok X Gn (cD.facts (f := .str x z) hfa)
        exact ⟨.str z, _, q, ⟨t, rfl⟩, fun _ _ _ => .str z⟩
      | tup ws =>
        cases e
        have q := He.glo_ok X Gn (cD.facts (f := .glo x) hfa)
        have ht : (He.tupB K x (ws.map .str) && dnB K (He.ga K x)) = true := List.all_eq_true.mp cE.1 _ hm
        exact ⟨.ref (He.ga K x), _, q, rfl, fun _ _ _ => .tup (.inr (tupK ht)) (relTup ws)⟩
  · exact He.free_ok X Gn (cD.facts (f := .free (x : Str)) (List.mem_append_left _ (List.mem_append_right _ (List.mem_map.mpr ⟨x, hx, rfl⟩))))
theorem scr_rp {F : Fix} {H : Hp} {a : Addr} {ns : List Int} (hS : SqL F.K H a (ns.map V.int)) : RpAll F [] (fun _ => False) H [.ref a] [hscr (ns.map .int)] := by
  have hi : ∀ l : List Int, RpAll F [] (fun _ => False) H (l.map V.int) (l.map PyData.int) := fun l => by
    induction l with
    | nil => exact .nil
    | cons x r ih => exact .cons (.int x) ih
  refine .cons (.scr ?_ (hi ns)) .nil
  rcases hS with q | q
  · exact .inl ⟨q, by simp, fun z => z⟩
  · exact .inr q
theorem law_F {m n kl : Nat} {D : Def} {I : DefI} {x nm : Str} (hI : Is[kl]? = some I) (hD : T[kl]? = some D) (hID : okD c D I = true) (hps : I.ps = [x]) (hnm : I.name = nm) (mo : MadeOk T c) (hn : Is.map (·.name) = c.fns) (hT : Is.length ≤ T.length) (hok : ((T.zip Is).all fun p => okD c p.1 p.2) = true)
    (hB : ∀ I ∈ Is, BindOk I) (hK : ∀ (k : Nat) (I : DefI) (np : Nat) (ks : List Str) (ix : List Nat), Is[k]? = some I → (k, np, ks, ix) ∈ c.kws → KBindOk I np ks ix)
    (math : ∀ ns : List Int, ns.length ≤ m → ∃ C', runD T (gTab gs) Wf (n + 1) kl [hscr (ns.map .int)] [] = .ok (.bool true) C') :
    ∀ (w : World) (mg : Str → Option Value) (fa : Addr) (h : Heap), (He.hookX 4 (faL Is gs) (fnL Is) [] (mkL Is) (exL Is gs)).says w h → h.Ns mainGlobals mg → mg nm = some (.ref fa) →
      ∃ (K : PySem.W.Frag) (fd : FuncData) (cs : List (Addr × Addr)) (sp : Sp), K.In h ∧ (∀ p ∈ cs, h.get? p.2 = some { cls := .none, data := .fields #[] }) ∧ (∀ p ∈ cs, K.lookup p.2 = none) ∧ (∀ p ∈ cs, PySem.W.codeHdIn K p.1 p.2 = true) ∧ (∀ (s : Shared) (u : Value), BindsTo s fd ⟨[u], []⟩ [(x, u)]) ∧
        (∀ (H : Hp) (a : Addr) (ns : List Int), ns.length ≤ m → (∀ p ∈ cs, H p.2 = some (.tbl #[])) → SqL K H a (ns.map V.int) → sp [.ref a] H (fun v _ => v = .bl true) fun _ _ _ => False) ∧
        ∀ base : Heap, K.In base → base.Ns mainGlobals mg → (∀ p ∈ cs, LamX.TabB base mg p.1 p.2) → FnG c.gd P w K mg base (n + 1) fa fd [x] sp := by
  intro w mg fa h ⟨K, KX, sx⟩ Gn hmg
  have hm := List.mem_of_getElem? hI
  have M := fun base n (tb : ∀ p ∈ mkL Is, LamX.TabB base mg (He.cT K p).1 (He.cT K p).2) => facts_mx (P := P) (w := w) (base := base) (Wf := Wf) (T := T) KX Gn sx tb mo hn hT hok hB hK n
  have hk : c.fns[kl]? = some nm := by rw [← hn, List.getElem?_map, hI, ← hnm]; rfl
  have cD : He.SaysD (faL Is gs) (fnL Is) K := congrArg (fun z : He.AlT => z.1) sx.t
  have cE := sx.more
  unfold exL at cE
  rw [Bool.and_eq_true] at cE
  obtain ⟨fd, hF⟩ := cD.defs (d := ⟨(I.name, none), I.name, I.name, defArgs I.st, defBody I.st, defScope I.st, [], []⟩) (List.mem_map.mpr ⟨I, hm, rfl⟩)
  have g1 : mg nm = some (.ref (He.ga K I.name)) := by
    rw [← hnm]
    exact He.glo_ok KX Gn (cD.facts (f := .glo I.name) (List.mem_append_left _ (List.mem_append_left _ (List.mem_map.mpr ⟨I, hm, rfl⟩))))
  rw [hmg] at g1
  cases g1
  refine ⟨K, fd, (mkL Is).map (He.cT K), spO (fixL T Is c K mg) 1 (runD T (gTab gs) Wf (n + 1) kl), KX, fun p hp => ?_, fun p hp => ?_, fun p hp => ?_, fun s u => ?_, fun H a ns hl hO hS => ?_, fun base hb1 hb2 tb => ?_⟩
  · obtain ⟨q, hq, rfl⟩ := List.mem_map.mp hp
    exact sx.empty q hq
  · obtain ⟨q, hq, rfl⟩ := List.mem_map.mp hp
    exact sx.out q hq
  · obtain ⟨q, hq, rfl⟩ := List.mem_map.mp hp
    exact sx.hd q hq
  · have q := FunD.bindsA (ps := I.ps) hF (hB I hm) s [u] (by rw [hps]; rfl)
    rw [hps] at q
    exact q
  · obtain ⟨C', e⟩ := math ns hl
    have tt : NdefX.TabsN (tabsL Is K) H := fun p hp => by
      obtain ⟨q, hq, e⟩ := tabs_mem hp
      refine NdefX.TabN.nil ?_
      rw [← e]
      exact hO _ (List.mem_map.mpr ⟨q, hq, rfl⟩)
    refine ⟨[], fun _ => False, [], [hscr (ns.map .int)], rfl, ⟨⟨tt, List.nodup_nil, rfl, fun k a c h => by simp at h⟩, fun _ z => z.elim⟩, scr_rp hS, ?_⟩
    rw [e]
    intro κ' H' p v rv
    cases rv
    rfl
  · have tb2 : ∀ p ∈ mkL Is, LamX.TabB base mg (He.cT K p).1 (He.cT K p).2 := fun p hp => tb _ (List.mem_map.mpr ⟨p, hp, rfl⟩)
    have q := def_ok (P := P) (w := w) (base := base) (Wf := Wf) (M base n tb2) hD hID hF fun nm hmk => by
      obtain ⟨oc, od, dV, kV, doc, pm, an, cdv, ct, osl, rfl, lk, hcd, _, _⟩ := FunD.ex hF
      obtain ⟨cc, ecd⟩ := He.codeIn_ref hcd
      have ec : (He.cT K (I.name, none)).1 = cc := He.codeOf_eq lk (show (PySem.W.fnOf I.name I.name (defArgs I.st) (defBody I.st) (defScope I.st) dV kV doc pm an cdv ct).code = .ref cc from ecd)
      have hmm : (I.name, none) ∈ mkL Is := List.mem_map.mpr ⟨I, List.mem_filter.mpr ⟨hm, by rw [hmk]; rfl⟩, rfl⟩
      have tb3 := tb2 _ hmm
      rw [ec] at tb3
      exact ⟨cc, (He.cT K (I.name, none)).2, ecd, tb3, List.mem_filterMap.mpr ⟨I, hm, by rw [hmk]; rfl⟩, tabs_one cE.2 I hm nm hmk⟩
    rw [hps] at q
    exact q
end
/-! a law's call, its def's promise being one that knows what is being written out -/
/-- from a heap in which nothing but the script and the tables may be tracked -/
theorem lawG_core {gd : Bool} {P : Program} {w : World} {K : PySem.W.Frag} {mg mb : Str → Option Value} {k : Nat} {fa a : Addr} {cs : List (Addr × Addr)} {fd : FuncData} {x : Str} {sp : Sp} {s₁ : Shared} {vs : List Value} {H : Hp}
    (KX : K.In s₁.heap) (hns : s₁.heap.Ns mainGlobals mg) (hb : s₁.heap.Ns builtinsNs mb) (hbb : ∀ x : Str, x ≠ "__name__" → mb x = bootBuiltins x) (hlim : s₁.heap.NoLimit) (hg : s₁.gens = #[])
    (oT : ∀ p ∈ cs, s₁.heap.get? p.2 = some { cls := .none, data := .fields #[] }) (nT : ∀ p ∈ cs, K.lookup p.2 = none) (cT : ∀ p ∈ cs, PySem.W.codeHdIn K p.1 p.2 = true)
    (hbm : ∃ (bm : Addr) (ob : Obj), mg "__builtins__" = some (.ref bm) ∧ bm ≠ builtinsNs ∧ s₁.heap.get? bm = some ob ∧ ob.cls = .type "module" ∧ ob.dict = some builtinsNs ∧ ob.data = .plain)
    (ha : s₁.heap.get? a = some { cls := .type "list", data := .seq vs.toArray }) (hr : Room k callerA)
    (prom : ∀ base : Heap, K.In base → base.Ns mainGlobals mg → (∀ p ∈ cs, LamX.TabB base mg p.1 p.2) → FnG gd P w K mg base k fa fd [x] sp) (bnd : ∀ (s : Shared) (u : Value), BindsTo s fd ⟨[u], []⟩ [(x, u)])
    (want : sp [.ref a] H (fun v _ => v = .bl true) fun _ _ _ => False) (hO : ∀ b, H b = none ∨ (b ∈ cs.map (·.2) ∧ H b = some (.tbl #[])) ∨ ∃ o xs, H b = some (.frz o (.lst xs))) (hok : HOk P w H s₁.heap) (hA : ∀ b, H b ≠ none → b = a ∨ b ∈ cs.map (·.2)) (hK : H a ≠ none → K.lookup a = none) (hTb : ∀ p ∈ cs, H p.2 = some (.tbl #[])) :
    codeAny (model P w) callerA (.call (.ref fa) ⟨[.ref a], []⟩) (fun r s' => r = .ok (.ret (.bool true)) ∧ OldK s₁.heap s'.heap ∧ s'.os = s₁.os ∧ AllBare s'.gens) s₁ := by
  have isTab : ∀ b ∈ cs.map (·.2), s₁.heap.get? b = some { cls := .none, data := .fields #[] } := by
    intro b hb
    obtain ⟨p, hp, e⟩ := List.mem_map.mp hb
    rw [← e]
    exact oT p hp
  -- what is no row and no table is not tracked
  have loose : ∀ {b : Addr} {o : Obj}, s₁.heap.get? b = some o → (∀ us n, o.data ≠ .seq us n) → o.data ≠ .fields #[] → (hidT s₁.heap H).get? b = some o := by
    intro b o e n1 n2
    refine hidT_get e ?_
    by_cases q : H b = none
    · exact q
    · exfalso
      rcases hA b q with z | z
      · rw [z, ha] at e
        cases e
        exact n1 _ _ rfl
      · rw [isTab b z] at e
        cases e
        exact n2 rfl
  have names : ∀ {b : Addr} {m : Str → Option Value}, s₁.heap.Ns b m → (hidT s₁.heap H).Ns b m := by
    rintro b m ⟨o, es, ep, e, d, r⟩
    exact ⟨o, es, ep, loose e (fun us n z => by rw [d] at z; cases z) (fun z => by rw [d] at z; cases z), d, r⟩
  have inB : K.In (hidT s₁.heap H) := by
    intro b o e
    refine hidT_get (KX b o e) ?_
    by_cases q : H b = none
    · exact q
    · exfalso
      rcases hA b q with z | z
      · subst z
        rw [hK q] at e
        cases e
      · obtain ⟨p, hp, ep⟩ := List.mem_map.mp z
        rw [← ep, nT p hp] at e
        cases e
  have md : Mod K mg (hidT s₁.heap H) := by
    obtain ⟨mc, m1, m2⟩ := hlim
    exact ⟨inB, names hns, ⟨mb, names hb, hbb⟩, mc, names m1, m2⟩
  have tb : ∀ p ∈ cs, LamX.TabB (hidT s₁.heap H) mg p.1 p.2 := by
    intro p hp
    obtain ⟨bm, ob, b1, b2, b3, b4, b5, b6⟩ := hbm
    have apart : ∀ {q : Addr}, (∃ o es ep, s₁.heap.get? q = some o ∧ o.data = .dict es ep) → q ≠ p.2 ∧ q ≠ bm := by
      rintro q ⟨o, es, ep, e, d⟩
      refine ⟨fun z => ?_, fun z => ?_⟩
      · rw [z, oT p hp] at e
        cases e
        cases d
      · rw [z, b3] at e
        cases e
        rw [b6] at d
        cases d
    obtain ⟨og, es, ep, e, d, _⟩ := hns
    have ap := apart ⟨og, es, ep, e, d⟩
    refine NdefX.tabB_of_K inB (cT p hp) ⟨bm, ob, b1, b2, Ne.symm ap.2, ?_, loose b3 (fun us n z => by rw [b6] at z; cases z) (fun z => by rw [b6] at z; cases z), b4, b5, b6⟩ ap.1
    intro z
    rw [z, oT p hp] at b3
    cases b3
    cases b6
  have e0 : Env0 P w K mg (hidT s₁.heap H) callerA [] s₁ H := ⟨rfl, md, fun b o e => of_hidT e, Nat.le_of_eq (hidT_size _ _), trivial, (fun b hb => by cases hb), hok, .of_eq hg⟩
  have run := (prom _ inB (names hns) tb).run callerA [] s₁ H ⟨[.ref a], []⟩ [.ref a] [.ref a] _ _ hr (fun _ => rfl) e0 (bnd s₁ (.ref a)) (.cons rfl .nil) want
  refine codeAny_mono run ?_
  rintro r s' h
  cases r with
  | error e => exact (show False from h).elim
  | ok fl =>
    cases fl with
    | next => exact (show False from h).elim
    | brk => exact (show False from h).elim
    | cont => exact (show False from h).elim
    | ret u =>
      obtain ⟨v, H', os, bare, un, hok', rv, q⟩ := h
      have hv : v = .bl true := q
      subst hv
      have hu : u = Value.bool true := rv
      subst hu
      have stays : ∀ b o, b ∉ cs.map (·.2) → s₁.heap.get? b = some o → s'.heap.get? b = some o := by
        intro b o nb e
        by_cases q : H b = none
        · exact un.keep b o e q (fun z => by cases z) (by simp)
        · rcases hO b with z | ⟨z, _⟩ | ⟨ob, xs, z⟩
          · exact absurd z q
          · exact absurd z nb
          · have now := (hok' b _ (un.frzs b ob _ z)).1
            have was := (hok b _ z).1
            rw [e] at was
            cases was
            exact now
      have grown : ∀ p ∈ cs, ∃ more : Array Value, s'.heap.get? p.2 = some { cls := .none, data := .fields more } := by
        intro p hp
        obtain ⟨more, z⟩ := un.tbls p.2 #[] (hTb p hp)
        exact ⟨_, hok' p.2 _ z⟩
      refine ⟨rfl, ⟨?_, ?_⟩, os, bare⟩
      · intro b o e
        by_cases hb : b ∈ cs.map (·.2)
        · obtain ⟨p, hp, ep⟩ := List.mem_map.mp hb
          obtain ⟨more, hm⟩ := grown p hp
          have hd := PySem.W.codeHd_of_K KX (cT p hp)
          rw [← ep] at e ⊢
          rw [oT p hp] at e
          cases e
          exact .inr (.inl ⟨(hd.tab (oT p hp)).isCodeTable, rfl, #[], more, rfl, by rw [Array.empty_append]; exact hm⟩)
        · exact .inl (stays b o hb e)
      · intro b o e
        by_cases hb : b ∈ cs.map (·.2)
        · obtain ⟨p, hp, ep⟩ := List.mem_map.mp hb
          obtain ⟨more, hm⟩ := grown p hp
          rw [← ep]
          exact ⟨_, hm⟩
        · exact ⟨o, stays b o hb e⟩
theorem lawG_call {gd : Bool} {P : Program} {w : World} {K : PySem.W.Frag} {mg mb : Str → Option Value} {k : Nat} {fa a : Addr} {cs : List (Addr × Addr)} {fd : FuncData} {x : Str} {sp : Sp} {s₁ : Shared} {vs : List Value} {ns : List Int}
    (KX : K.In s₁.heap) (hns : s₁.heap.Ns mainGlobals mg) (hb : s₁.heap.Ns builtinsNs mb) (hbb : ∀ x : Str, x ≠ "__name__" → mb x = bootBuiltins x) (hlim : s₁.heap.NoLimit) (hg : s₁.gens = #[])
    (oT : ∀ p ∈ cs, s₁.heap.get? p.2 = some { cls := .none, data := .fields #[] }) (nT : ∀ p ∈ cs, K.lookup p.2 = none) (cT : ∀ p ∈ cs, PySem.W.codeHdIn K p.1 p.2 = true)
    (hbm : ∃ (bm : Addr) (ob : Obj), mg "__builtins__" = some (.ref bm) ∧ bm ≠ builtinsNs ∧ s₁.heap.get? bm = some ob ∧ ob.cls = .type "module" ∧ ob.dict = some builtinsNs ∧ ob.data = .plain)
    (ha : s₁.heap.get? a = some { cls := .type "list", data := .seq vs.toArray }) (hi : IntsAre vs ns) (hl : ns.length ≤ sizeLine) (hr : Room k callerA)
    (prom : ∀ base : Heap, K.In base → base.Ns mainGlobals mg → (∀ p ∈ cs, LamX.TabB base mg p.1 p.2) → FnG gd P w K mg base k fa fd [x] sp) (bnd : ∀ (s : Shared) (u : Value), BindsTo s fd ⟨[u], []⟩ [(x, u)])
    (want : ∀ H : Hp, (∀ p ∈ cs, H p.2 = some (.tbl #[])) → SqL K H a (ns.map V.int) → sp [.ref a] H (fun v _ => v = .bl true) fun _ _ _ => False) :
    codeAny (model P w) callerA (.call (.ref fa) ⟨[.ref a], []⟩) (fun r s' => r = .ok (.ret (.bool true)) ∧ OldK s₁.heap s'.heap ∧ s'.os = s₁.os ∧ AllBare s'.gens) s₁ := by
  have rel := vals_ints hi
  have many := hi.length
  have aT : a ∉ cs.map (·.2) := by
    intro z
    obtain ⟨p, hp, e⟩ := List.mem_map.mp z
    have q := oT p hp
    rw [e, ha] at q
    have z' : Data.seq vs.toArray _ = Data.fields #[] := congrArg Obj.data (Option.some.inj q)
    cases z'
  let H0 : Hp := fun b => if b ∈ cs.map (·.2) then some (.tbl #[]) else none
  have h0y : ∀ b, b ∈ cs.map (·.2) → H0 b = some (.tbl #[]) := fun b h => if_pos h
  have h0n : ∀ b, b ∉ cs.map (·.2) → H0 b = none := fun b h => if_neg h
  have ok0 : HOk P w H0 s₁.heap := by
    intro b u z
    by_cases hb : b ∈ cs.map (·.2)
    · rw [h0y b hb] at z
      cases z
      obtain ⟨p, hp, e⟩ := List.mem_map.mp hb
      rw [← e]
      exact oT p hp
    · rw [h0n b hb] at z
      cases z
  by_cases hk : K.lookup a = none
  · let H : Hp := fun b => if b = a then some (.frz { cls := .type "list", data := .seq vs.toArray } (.lst (ns.map V.int))) else H0 b
    have hHa : H a = some (.frz { cls := .type "list", data := .seq vs.toArray } (.lst (ns.map V.int))) := if_pos rfl
    have hHb : ∀ b, b ≠ a → H b = H0 b := fun b n => if_neg n
    have tabs : ∀ p ∈ cs, H p.2 = some (.tbl #[]) := fun p hp => by
      have hm : p.2 ∈ cs.map (·.2) := List.mem_map.mpr ⟨p, hp, rfl⟩
      rw [hHb _ (fun z => aT (by rw [← z]; exact hm)), h0y _ hm]
    refine lawG_core (H := H) KX hns hb hbb hlim hg oT nT cT hbm ha hr prom bnd (want H tabs (Or.inl (Or.inr ⟨_, hHa⟩))) ?_ ?_ ?_ (fun _ => hk) tabs
    · intro b
      by_cases e : b = a
      · subst e; exact Or.inr (Or.inr ⟨_, _, hHa⟩)
      · rw [hHb b e]
        by_cases hm : b ∈ cs.map (·.2)
        · exact Or.inr (Or.inl ⟨hm, h0y b hm⟩)
        · exact Or.inl (h0n b hm)
    · intro b u z
      by_cases e : b = a
      · subst e
        rw [hHa] at z
        cases z
        exact ⟨ha, by rw [List.length_map]; exact hl, vs, _, rel, ha⟩
      · rw [hHb b e] at z
        by_cases hm : b ∈ cs.map (·.2)
        · rw [h0y b hm] at z
          cases z
          obtain ⟨p, hp, e⟩ := List.mem_map.mp hm
          rw [← e]
          exact oT p hp
        · rw [h0n b hm] at z
          cases z
    · intro b z
      by_cases e : b = a
      · exact Or.inl e
      · rw [hHb b e] at z
        by_cases hm : b ∈ cs.map (·.2)
        · exact Or.inr hm
        · exact absurd (h0n b hm) z
  · obtain ⟨o, hko⟩ : ∃ o, K.lookup a = some o := by
      cases e : K.lookup a with
      | none => exact absurd e hk
      | some o => exact ⟨o, rfl⟩
    have e := KX a o hko
    rw [ha] at e
    cases e
    have tabs : ∀ p ∈ cs, H0 p.2 = some (.tbl #[]) := fun p hp => h0y _ (List.mem_map.mpr ⟨p, hp, rfl⟩)
    refine lawG_core (H := H0) KX hns hb hbb hlim hg oT nT cT hbm ha hr prom bnd (want _ tabs (Or.inr ⟨_, vs.toArray, _, hko, rfl, rfl, rfl, by rw [List.size_toArray, many]; exact hl, by simpa using rel⟩)) ?_ ok0 ?_ (fun z => absurd (h0n a aT) z) tabs
    · intro b
      by_cases hm : b ∈ cs.map (·.2)
      · exact Or.inr (Or.inl ⟨hm, h0y b hm⟩)
      · exact Or.inl (h0n b hm)
    · intro b z
      by_cases hm : b ∈ cs.map (·.2)
      · exact Or.inr hm
      · exact absurd (h0n b hm) z
theorem walkG {gd : Bool} {l : PySem.W.OpenLaw} {n k : Nat} {q : Program} {loose : List Str} {XP : (Str → Option Value) → Heap → Prop} {YP : World → Heap → Prop} {d : DefRec} {x : Str}
    (hn : l.most = some n) (hn2 : n ≤ sizeLine) (hdf : d.params.defaults = []) (hr : Room k callerA)
    (facts : ∀ (w : World) (mg : Str → Option Value) (fa : Addr) (h : Heap), YP w h → h.Ns mainGlobals mg → mg d.name = some (.ref fa) →
      ∃ (K : PySem.W.Frag) (fd : FuncData) (cs : List (Addr × Addr)) (sp : Sp), K.In h ∧ (∀ p ∈ cs, h.get? p.2 = some { cls := .none, data := .fields #[] }) ∧ (∀ p ∈ cs, K.lookup p.2 = none) ∧ (∀ p ∈ cs, PySem.W.codeHdIn K p.1 p.2 = true) ∧ (∀ (s : Shared) (u : Value), BindsTo s fd ⟨[u], []⟩ [(x, u)]) ∧
        (∀ (H : Hp) (a : Addr) (ns : List Int), ns.length ≤ n → (∀ p ∈ cs, H p.2 = some (.tbl #[])) → SqL K H a (ns.map V.int) → sp [.ref a] H (fun v _ => v = .bl true) fun _ _ _ => False) ∧
        ∀ base : Heap, K.In base → base.Ns mainGlobals mg → (∀ p ∈ cs, LamX.TabB base mg p.1 p.2) → FnG gd l.prog w K mg base k fa fd [x] sp) :
    PySem.W.WalkO q loose XP YP l.row.toRowW d [] (fun f vs => PySem.call f vs) := by
  apply Att.attach_call hn hdf
  intro w s₀ s₁ mg mb fa o pm cd doc a vs ns gr Y ho hd hcd hmg hobj hints hlen hg
  obtain ⟨K, fd, cs, sp, KX, oT, nT, cT, bnd, want, prom⟩ := facts w mg fa _ Y gr.T.g hmg
  exact lawG_call KX gr.T.g gr.T.b gr.T.builtins gr.T.nolimit hg oT nT cT gr.T.bmain hobj hints (Nat.le_trans hlen hn2) hr prom bnd fun H hH hS => want H a ns hlen hH hS
end BR
set_option Elab.async false
set_option linter.all false
set_option maxRecDepth 100000
set_option maxHeartbeats 4000000
/-! the evaluator by rewriting -/
namespace BR
open PySem
@[simp] theorem b_ok {α β : Type} (a : α) (C : List Cell) (f : α → List Cell → Res β) : (Res.ok a C).bind f = f a C := Eq.trans rfl rfl
@[simp] theorem b_exc {α β : Type} (x : Str) (fs : List (Str × PyData)) (C : List Cell) (f : α → List Cell → Res β) : (Res.exc x fs C : Res α).bind f = .exc x fs C := Eq.trans rfl rfl
@[simp] theorem b_stuck {α β : Type} (f : α → List Cell → Res β) : (Res.stuck : Res α).bind f = .stuck := Eq.trans rfl rfl
@[simp] theorem o_some {α : Type} (a : α) (C : List Cell) : opt (some a) C = Res.ok a C := Eq.trans rfl rfl
@[simp] theorem o_none {α : Type} (C : List Cell) : opt (none : Option α) C = Res.stuck := Eq.trans rfl rfl
@[simp] theorem gd_t {α : Type} (a : α) : gd true a = some a := Eq.trans rfl rfl
theorem gd_of {α : Type} {b : Bool} (a : α) (h : b = true) : gd b a = some a := by rw [h]; rfl
@[simp] theorem tstB_ok (b : Bool) (C : List Cell) : tstB (.ok (.bool b) C) = .ok b C := Eq.trans rfl rfl
@[simp] theorem tstR_bool (b : Bool) (C : List Cell) : tstR (.ok (.bool b) C) = .ok b C := Eq.trans rfl rfl
@[simp] theorem tstR_int (i : Int) (C : List Cell) : tstR (.ok (.int i) C) = .ok (i != 0) C := Eq.trans rfl rfl
@[simp] theorem ended_ret (d : PyData) (C : List Cell) : ended (.ok (.ret d) C) = .ok d C := Eq.trans rfl rfl
@[simp] theorem ended_nx (ρ : SEnv) (C : List Cell) : ended (.ok (.nx ρ) C) = .ok .none C := Eq.trans rfl rfl
@[simp] theorem ended_exc (x : Str) (fs : List (Str × PyData)) (C : List Cell) : ended (.exc x fs C) = .exc x fs C := Eq.trans rfl rfl
section
variable {Φ : Oracle} {G : Str → Option PyData} {W : Nat} {δ : VEnv} {ρ : SEnv} {C : List Cell}
def k2 {γ : Type} (Φ : Oracle) (G : Str → Option PyData) (b : E) (δ : VEnv) (g : PyData → PyData → List Cell → Res γ) (x : PyData) (C : List Cell) : Res γ := (ev Φ G b δ C).bind (g x)
@[simp ↓] theorem k2_app {γ : Type} (b : E) (g : PyData → PyData → List Cell → Res γ) (x : PyData) : k2 Φ G b δ g x C = (ev Φ G b δ C).bind (g x) := Eq.trans rfl rfl
def kEs (Φ : Oracle) (G : Str → Option PyData) (r : Es) (δ : VEnv) (d : PyData) (C : List Cell) : Res (List PyData) := (evs Φ G r δ C).bind fun ds C => .ok (d :: ds) C
@[simp ↓] theorem kEs_app (r : Es) (d : PyData) : kEs Φ G r δ d C = (evs Φ G r δ C).bind fun ds C => .ok (d :: ds) C := Eq.trans rfl rfl
def kAnd (Φ : Oracle) (G : Str → Option PyData) (es : Es) (δ : VEnv) (b : Bool) (C : List Cell) : Res PyData := if b = true then evAnd Φ G es δ C else .ok (.bool false) C
@[simp ↓] theorem kAnd_app (es : Es) (b : Bool) : kAnd Φ G es δ b C = if b = true then evAnd Φ G es δ C else .ok (.bool false) C := Eq.trans rfl rfl
def kOr (Φ : Oracle) (G : Str → Option PyData) (es : Es) (δ : VEnv) (b : Bool) (C : List Cell) : Res PyData := if b = true then .ok (.bool true) C else evOr Φ G es δ C
@[simp ↓] theorem kOr_app (es : Es) (b : Bool) : kOr Φ G es δ b C = if b = true then .ok (.bool true) C else evOr Φ G es δ C := Eq.trans rfl rfl
def kIte (Φ : Oracle) (G : Str → Option PyData) (a b : E) (δ : VEnv) (k : Bool) (C : List Cell) : Res PyData := if k = true then ev Φ G a δ C else ev Φ G b δ C
@[simp ↓] theorem kIte_app (a b : E) (k : Bool) : kIte Φ G a b δ k C = if k = true then ev Φ G a δ C else ev Φ G b δ C := Eq.trans rfl rfl
def kCmp2 (Φ : Oracle) (G : Str → Option PyData) (op op' : CmpOp) (c : E) (δ : VEnv) (x y : PyData) (C : List Cell) : Res PyData := (opt (cmpF op x y) C).bind fun k C => if k = true then (ev Φ G c δ C).bind fun z C => opt ((cmpF op' y z).map .bool) C else .ok (.bool false) C
@[simp ↓] theorem kCmp2_app (op op' : CmpOp) (c : E) (x y : PyData) : kCmp2 Φ G op op' c δ x y C = (opt (cmpF op x y) C).bind fun k C => if k = true then (ev Φ G c δ C).bind fun z C => opt ((cmpF op' y z).map .bool) C else .ok (.bool false) C := Eq.trans rfl rfl
def kSl (Φ : Oracle) (G : Str → Option PyData) (lo hi : Eo) (δ : VEnv) (x : PyData) (C : List Cell) : Res PyData := (evo Φ G lo δ C).bind fun l C => (evo Φ G hi δ C).bind fun h C => opt (slF x l h) C
@[simp ↓] theorem kSl_app (lo hi : Eo) (x : PyData) : kSl Φ G lo hi δ x C = (evo Φ G lo δ C).bind fun l C => (evo Φ G hi δ C).bind fun h C => opt (slF x l h) C := Eq.trans rfl rfl
def kKw (Φ : Oracle) (G : Str → Option PyData) (k : Nat) (ix : List Nat) (kes : Es) (δ : VEnv) (ds : List PyData) (C : List Cell) : Res PyData := (evs Φ G kes δ C).bind fun ks C => (opt (placed (ds ++ ks) ix) C).bind fun vs C => Φ k vs C
@[simp ↓] theorem kKw_app (k : Nat) (ix : List Nat) (kes : Es) (ds : List PyData) : kKw Φ G k ix kes δ ds C = (evs Φ G kes δ C).bind fun ks C => (opt (placed (ds ++ ks) ix) C).bind fun vs C => Φ k vs C := Eq.trans rfl rfl
def kCallv (Φ : Oracle) (G : Str → Option PyData) (es : Es) (δ : VEnv) (f : PyData) (C : List Cell) : Res PyData := match f with
    | .dict [(.bool true, .int k)] => if 0 ≤ k then (evs Φ G es δ C).bind fun ds C => Φ k.toNat ds C else .stuck
    | .dict [(.str _, .int k)] => if 0 ≤ k then (evs Φ G es δ C).bind fun ds C => Φ k.toNat ds C else .stuck
    | _ => .stuck
@[simp ↓] theorem kCallv_appN (es : Es) (k : Nat) : kCallv Φ G es δ (hnf k) C = (evs Φ G es δ C).bind (Φ k) := by
  show (if 0 ≤ (k : Int) then (evs Φ G es δ C).bind fun ds C => Φ (k : Int).toNat ds C else .stuck) = _
  rw [if_pos (by omega)]; rfl
@[simp ↓] theorem kCallv_app (es : Es) (k : Nat) : kCallv Φ G es δ (hfn k) C = (evs Φ G es δ C).bind (Φ k) := by
  show (if 0 ≤ (k : Int) then (evs Φ G es δ C).bind fun ds C => Φ (k : Int).toNat ds C else .stuck) = _
  rw [if_pos (by omega)]; rfl
@[simp ↓] theorem ev_var (i : Nat) : ev Φ G (.var i) δ C = opt (δ[i]?.join) C := Eq.trans rfl rfl
@[simp ↓] theorem ev_glo (x : Str) : ev Φ G (.glo x) δ C = opt (G x) C := Eq.trans rfl rfl
@[simp ↓] theorem ev_fnv (x : Str) (k : Nat) : ev Φ G (.fnv x k) δ C = .ok (hfn k) C := Eq.trans rfl rfl
@[simp ↓] theorem ev_int (i : Int) : ev Φ G (.int i) δ C = .ok (.int i) C := Eq.trans rfl rfl
@[simp ↓] theorem ev_str (x : Str) : ev Φ G (.str x) δ C = .ok (.str x) C := Eq.trans rfl rfl
@[simp ↓] theorem ev_bl (b : Bool) : ev Φ G (.bl b) δ C = .ok (.bool b) C := Eq.trans rfl rfl
@[simp ↓] theorem ev_non : ev Φ G .non δ C = .ok .none C := Eq.trans rfl rfl
@[simp ↓] theorem ev_tup (es : Es) : ev Φ G (.tup es) δ C = (evs Φ G es δ C).bind fun ds C => opt (gd (decide (ds.length ≤ big)) (.tuple ds)) C := Eq.trans rfl rfl
@[simp ↓] theorem ev_lst (es : Es) : ev Φ G (.lst es) δ C = (evs Φ G es δ C).bind fun ds C => opt (gd (decide (ds.length ≤ big)) (.list ds)) C := Eq.trans rfl rfl
@[simp ↓] theorem ev_lam (k : Nat) : ev Φ G (.lam k) δ C = .ok (hnf k) C := Eq.trans rfl rfl
@[simp ↓] theorem ev_minkey (a g : E) : ev Φ G (.minkey a g) δ C = (ev Φ G a δ C).bind (k2 Φ G g δ fun x h C => minkeyR Φ x h C) := Eq.trans rfl rfl
@[simp ↓] theorem ev_sortkey (a g : E) : ev Φ G (.sortkey a g) δ C = (ev Φ G a δ C).bind (k2 Φ G g δ fun x h C => sortkeyR Φ x h C) := Eq.trans rfl rfl
@[simp ↓] theorem ev_newl (es : Es) : ev Φ G (.newl es) δ C = (evs Φ G es δ C).bind fun ds C => if ds.length ≤ big ∧ flats ds = true then .ok (hcell C.length) (C ++ [.lst ds]) else .stuck := Eq.trans rfl rfl
@[simp ↓] theorem ev_newc (e : E) : ev Φ G (.newc e) δ C = (ev Φ G e δ C).bind fun d C => match itemsOf d with
    | some ds => if flats ds = true then .ok (hcell C.length) (C ++ [.lst ds]) else .stuck
    | none => .stuck := Eq.trans rfl rfl
@[simp ↓] theorem ev_bin (op : Operator) (a b : E) : ev Φ G (.bin op a b) δ C = (ev Φ G a δ C).bind (k2 Φ G b δ fun x y C => opt (binF op x y) C) := Eq.trans rfl rfl
@[simp ↓] theorem ev_neg (a : E) : ev Φ G (.neg a) δ C = (ev Φ G a δ C).bind fun x C => match x with | .int i => .ok (.int (-i)) C | _ => .stuck := Eq.trans rfl rfl
@[simp ↓] theorem ev_nt (a : E) : ev Φ G (.nt a) δ C = (tstB (ev Φ G a δ C)).bind fun b C => .ok (.bool (!b)) C := Eq.trans rfl rfl
@[simp ↓] theorem ev_cmp (op : CmpOp) (a b : E) : ev Φ G (.cmp op a b) δ C = (ev Φ G a δ C).bind (k2 Φ G b δ fun x y C => opt ((cmpF op x y).map .bool) C) := Eq.trans rfl rfl
@[simp ↓] theorem ev_cmp2 (op op' : CmpOp) (a b c : E) : ev Φ G (.cmp2 op op' a b c) δ C = (ev Φ G a δ C).bind (k2 Φ G b δ (kCmp2 Φ G op op' c δ)) := Eq.trans rfl rfl
@[simp ↓] theorem ev_and (a : E) (es : Es) : ev Φ G (.and a es) δ C = (tstB (ev Φ G a δ C)).bind (kAnd Φ G es δ) := Eq.trans rfl rfl
@[simp ↓] theorem ev_or (a : E) (es : Es) : ev Φ G (.or a es) δ C = (tstB (ev Φ G a δ C)).bind (kOr Φ G es δ) := Eq.trans rfl rfl
@[simp ↓] theorem ev_ite (c a b : E) : ev Φ G (.ite c a b) δ C = (tstR (ev Φ G c δ C)).bind (kIte Φ G a b δ) := Eq.trans rfl rfl
@[simp ↓] theorem ev_idx (a b : E) : ev Φ G (.idx a b) δ C = (ev Φ G a δ C).bind (k2 Φ G b δ fun x y C => opt (idxC C x y) C) := Eq.trans rfl rfl
@[simp ↓] theorem ev_sl (a : E) (lo hi : Eo) : ev Φ G (.sl a lo hi) δ C = (ev Φ G a δ C).bind (kSl Φ G lo hi δ) := Eq.trans rfl rfl
@[simp ↓] theorem ev_rvs (a : E) : ev Φ G (.rvs a) δ C = (ev Φ G a δ C).bind fun x C => opt (rvF x) C := Eq.trans rfl rfl
@[simp ↓] theorem ev_call (x : Str) (k : Nat) (es : Es) : ev Φ G (.call x k es) δ C = (evs Φ G es δ C).bind (Φ k) := Eq.trans rfl rfl
@[simp ↓] theorem ev_callk (x : Str) (k : Nat) (es : Es) (ks : List Str) (ix : List Nat) (kes : Es) : ev Φ G (.callk x k es ks ix kes) δ C = (evs Φ G es δ C).bind (kKw Φ G k ix kes δ) := Eq.trans rfl rfl
@[simp ↓] theorem ev_callv (i : Nat) (es : Es) : ev Φ G (.callv i es) δ C = (opt (δ[i]?.join) C).bind (kCallv Φ G es δ) := Eq.trans rfl rfl
@[simp ↓] theorem ev_bi (b : Bi) (es : Es) : ev Φ G (.bi b es) δ C = (evs Φ G es δ C).bind fun ds C => opt (lenC C b ds) C := Eq.trans rfl rfl
@[simp ↓] theorem ev_isi (t : Ty) (a : E) : ev Φ G (.isi t a) δ C = (ev Φ G a δ C).bind fun x C => opt ((isiF t x).map .bool) C := Eq.trans rfl rfl
@[simp ↓] theorem ev_index (o a : E) : ev Φ G (.index o a) δ C = (ev Φ G o δ C).bind (k2 Φ G a δ fun x y C => opt (indexF x y) C) := Eq.trans rfl rfl
@[simp ↓] theorem ev_split (o a : E) : ev Φ G (.split o a) δ C = (ev Φ G o δ C).bind (k2 Φ G a δ fun x y C => opt (splitF x y) C) := Eq.trans rfl rfl
@[simp ↓] theorem ev_sset (a : E) : ev Φ G (.sset a) δ C = (ev Φ G a δ C).bind fun x C => opt (ssetF x) C := Eq.trans rfl rfl
@[simp ↓] theorem ev_lset (a : E) : ev Φ G (.lset a) δ C = (ev Φ G a δ C).bind fun x C => opt (lsetF x) C := Eq.trans rfl rfl
@[simp ↓] theorem ev_cpop (o ix : E) : ev Φ G (.cpop o ix) δ C = (ev Φ G o δ C).bind fun x C => (ev Φ G ix δ C).bind fun y C => match cellOf C x, y with
    | some (k, .lst xs), .int i => if 0 ≤ i ∧ i ≤ 1000000 then (match xs[i.toNat]? with
      | some z => .ok z (C.set k (.lst (xs.eraseIdx i.toNat)))
      | none => .stuck) else .stuck
    | _, _ => .stuck := Eq.trans rfl rfl
@[simp ↓] theorem ev_trg (a : E) : ev Φ G (.trg a) δ C = (ev Φ G a δ C).bind fun x C => match x with | .int i => if smallI i = true then .ok (.tuple (rangeD 0 i)) C else .stuck | _ => .stuck := Eq.trans rfl rfl
@[simp ↓] theorem ev_lrg (a : E) : ev Φ G (.lrg a) δ C = (ev Φ G a δ C).bind fun x C => match x with | .int i => if smallI i = true then .ok (.list (rangeD 0 i)) C else .stuck | _ => .stuck := Eq.trans rfl rfl
/-- one step of a comprehension -/
def lcStep (Φ : Oracle) (G : Str → Option PyData) (t : Tg) (c : Eo) (e : E) (δ : VEnv) (x : PyData) (C : List Cell) : Res (List PyData) :=
  (opt (bindT t x δ) C).bind fun δ' C => (evc Φ G c δ' C).bind fun b C => if b = true then (ev Φ G e δ' C).bind fun d C => .ok [d] C else .ok [] C
@[simp ↓] theorem ev_lc (own : List (Str × Nat)) (t : Tg) (i : It) (c : Eo) (e : E) : ev Φ G (.lc own t i c e) δ C = (evI Φ G i δ C).bind fun xs C => (mapR (lcStep Φ G t c e (wipeD δ (own.map (·.2)))) xs C).bind fun ds C => if ds.length ≤ big then .ok (.list ds) C else .stuck := Eq.trans rfl rfl
def lc2Step (Φ : Oracle) (G : Str → Option PyData) (t : Tg) (c : Eo) (vs : List Nat) (t1 : Tg) (i1 : It) (c1 : Eo) (e : E) (δ : VEnv) (x : PyData) (C : List Cell) : Res (List PyData) :=
  (opt (bindT t x δ) C).bind fun δ' C => (evc Φ G c δ' C).bind fun b C => if b = true then (evI Φ G i1 δ' C).bind fun ys C => mapR (lcStep Φ G t1 c1 e (wipeD δ' vs)) ys C else .ok [] C
@[simp ↓] theorem ev_lc2 (own : List (Str × Nat)) (t : Tg) (i : It) (c : Eo) (vs : List Nat) (t1 : Tg) (i1 : It) (c1 : Eo) (e : E) : ev Φ G (.lc2 own t i c vs t1 i1 c1 e) δ C = (evI Φ G i δ C).bind fun xs C => (mapR (lc2Step Φ G t c vs t1 i1 c1 e (wipeD δ (own.map (·.2)))) xs C).bind fun ds C => if ds.length ≤ big then .ok (.list ds) C else .stuck := Eq.trans rfl rfl
@[simp ↓] theorem evAnd_nil : evAnd Φ G .nil δ C = .ok (.bool true) C := Eq.trans rfl rfl
@[simp ↓] theorem evAnd_cons (e : E) (r : Es) : evAnd Φ G (.cons e r) δ C = (tstB (ev Φ G e δ C)).bind (kAnd Φ G r δ) := Eq.trans rfl rfl
@[simp ↓] theorem evOr_nil : evOr Φ G .nil δ C = .ok (.bool false) C := Eq.trans rfl rfl
@[simp ↓] theorem evOr_cons (e : E) (r : Es) : evOr Φ G (.cons e r) δ C = (tstB (ev Φ G e δ C)).bind (kOr Φ G r δ) := Eq.trans rfl rfl
@[simp ↓] theorem evs_nil : evs Φ G .nil δ C = .ok [] C := Eq.trans rfl rfl
@[simp ↓] theorem evs_cons (e : E) (r : Es) : evs Φ G (.cons e r) δ C = (ev Φ G e δ C).bind (kEs Φ G r δ) := Eq.trans rfl rfl
@[simp ↓] theorem evo_none : evo Φ G .none δ C = .ok none C := Eq.trans rfl rfl
@[simp ↓] theorem evo_some (e : E) : evo Φ G (.some e) δ C = (ev Φ G e δ C).bind fun d C => match d with | .int i => .ok (some i) C | _ => .stuck := Eq.trans rfl rfl
@[simp ↓] theorem evI_seq (e : E) : evI Φ G (.seq e) δ C = (ev Φ G e δ C).bind fun d C => opt (itemsOf d) C := Eq.trans rfl rfl
@[simp ↓] theorem evI_chars (e : E) : evI Φ G (.chars e) δ C = (ev Φ G e δ C).bind fun d C => match d with | .str x => .ok (x.cps.toList.map fun c => .str ⟨#[c]⟩) C | _ => .stuck := Eq.trans rfl rfl
@[simp ↓] theorem evI_rg1 (a : E) : evI Φ G (.rg1 a) δ C = (ev Φ G a δ C).bind fun x C => match x with | .int i => if smallI i = true then .ok (rangeD 0 i) C else .stuck | _ => .stuck := Eq.trans rfl rfl
@[simp ↓] theorem evI_rg2 (a b : E) : evI Φ G (.rg2 a b) δ C = (ev Φ G a δ C).bind fun x C => (ev Φ G b δ C).bind fun y C => match x, y with
    | .int i, .int j => if smallI i = true ∧ smallI j = true then .ok (rangeD i j) C else .stuck
    | _, _ => .stuck := Eq.trans rfl rfl
def enumD (xs : List PyData) : List PyData := ((List.range xs.length).zip xs).map fun p => .tuple [.int p.1, p.2]
def zipD (xs ys : List PyData) : List PyData := (xs.zip ys).map fun p => .tuple [p.1, p.2]
@[simp ↓] theorem evI_zip (a b : E) : evI Φ G (.zip a b) δ C = (ev Φ G a δ C).bind fun x C => (ev Φ G b δ C).bind fun y C => match itemsOf x, itemsOf y with
    | some xs, some ys => .ok (zipD xs ys) C
    | _, _ => .stuck := Eq.trans rfl rfl
@[simp ↓] theorem evI_enum (a : E) : evI Φ G (.enum a) δ C = (ev Φ G a δ C).bind fun x C => match itemsOf x with
    | some xs => .ok (enumD xs) C
    | _ => .stuck := Eq.trans rfl rfl
@[simp ↓] theorem evI_rev (a : E) : evI Φ G (.rev a) δ C = (ev Φ G a δ C).bind fun x C => match itemsOf x with
    | some xs => .ok xs.reverse C
    | _ => .stuck := Eq.trans rfl rfl
@[simp ↓] theorem evc_none : evc Φ G .none δ C = .ok true C := Eq.trans rfl rfl
@[simp ↓] theorem evc_some (e : E) : evc Φ G (.some e) δ C = tstR (ev Φ G e δ C) := Eq.trans rfl rfl
/-- one step of a loop -/
def loStep (Φ : Oracle) (G : Str → Option PyData) (W : Nat) (t : Tg) (b : Ss) (x : PyData) (ρ : SEnv) (C : List Cell) : Res Out := (opt (putT t x ρ) C).bind fun ρ' C => evSs Φ G W b ρ' C
/-- what comes behind a statement -/
def thenS (Φ : Oracle) (G : Str → Option PyData) (W : Nat) (r : Ss) (o : Out) (C : List Cell) : Res Out := match o with
    | .nx ρ' => evSs Φ G W r ρ' C
    | .bk ρ' => .ok (.bk ρ') C
    | .ret d => .ok (.ret d) C
def kIff (Φ : Oracle) (G : Str → Option PyData) (W : Nat) (a b : Ss) (ρ : SEnv) (k : Bool) (C : List Cell) : Res Out := if k = true then evSs Φ G W a ρ C else evSs Φ G W b ρ C
@[simp ↓] theorem kIff_app (a b : Ss) (k : Bool) : kIff Φ G W a b ρ k C = if k = true then evSs Φ G W a ρ C else evSs Φ G W b ρ C := Eq.trans rfl rfl
def whC (Φ : Oracle) (G : Str → Option PyData) (c : E) (ρ : SEnv) (C : List Cell) : Res Bool := tstR (ev Φ G c (view true ρ) C)
def whB (Φ : Oracle) (G : Str → Option PyData) (W : Nat) (b : Ss) (ρ : SEnv) (C : List Cell) : Res Out := evSs Φ G W b ρ C
def kPar (Φ : Oracle) (G : Str → Option PyData) (o f : Bool) (r : Es) (ms : List (Bool × Bool × Nat)) (ρ : SEnv) (d : PyData) (C : List Cell) : Res (List Slot) := (opt (mkSlot o f d) C).bind fun s C => (evPar Φ G r ms ρ C).bind fun ss C => .ok (s :: ss) C
@[simp ↓] theorem kPar_app (o f : Bool) (r : Es) (ms : List (Bool × Bool × Nat)) (d : PyData) : kPar Φ G o f r ms ρ d C = (opt (mkSlot o f d) C).bind fun s C => (evPar Φ G r ms ρ C).bind fun ss C => .ok (s :: ss) C := Eq.trans rfl rfl
@[simp ↓] theorem evSs_nil : evSs Φ G W .nil ρ C = .ok (.nx ρ) C := Eq.trans rfl rfl
@[simp ↓] theorem evSs_cons (s : S) (r : Ss) : evSs Φ G W (.cons s r) ρ C = (evS Φ G W s ρ C).bind (thenS Φ G W r) := Eq.trans rfl rfl
@[simp ↓] theorem thenS_nx (r : Ss) (ρ' : SEnv) : thenS Φ G W r (.nx ρ') C = evSs Φ G W r ρ' C := Eq.trans rfl rfl
@[simp ↓] theorem thenS_bk (r : Ss) (ρ' : SEnv) : thenS Φ G W r (.bk ρ') C = .ok (.bk ρ') C := Eq.trans rfl rfl
@[simp ↓] theorem thenS_ret (r : Ss) (d : PyData) : thenS Φ G W r (.ret d) C = .ok (.ret d) C := Eq.trans rfl rfl
@[simp ↓] theorem evS_asg (f : Bool) (t : Tg) (e : E) : evS Φ G W (.asg f t e) ρ C = (ev Φ G e (view f ρ) C).bind fun d C => if okFlat f d = true then (opt (putT t d ρ) C).bind fun ρ' C => .ok (.nx ρ') C else .stuck := Eq.trans rfl rfl
@[simp ↓] theorem evS_own (i : Nat) (e : E) : evS Φ G W (.own i e) ρ C = (ev Φ G e (viewM true true ρ) C).bind fun d C => (opt (mkSlot true true d) C).bind fun s C => .ok (.nx (ρ.set i s)) C := Eq.trans rfl rfl
@[simp ↓] theorem evS_asgN (i : Nat) (e : E) : evS Φ G W (.asgN i e) ρ C = (ev Φ G e (view true ρ) C).bind fun d C => (opt (newD d) C).bind fun xs C => .ok (.nx (ρ.set i (.val (.list xs)))) C := Eq.trans rfl rfl
@[simp ↓] theorem evS_parn (ms : List (Bool × Bool × Nat)) (es : Es) : evS Φ G W (.parn ms es) ρ C = (evPar Φ G es ms ρ C).bind fun ss C => .ok (.nx (setAll ms ss ρ)) C := Eq.trans rfl rfl
@[simp ↓] theorem evS_mv (i j : Nat) : evS Φ G W (.mv i j) ρ C = (opt (ownAt ρ j) C).bind fun xs C => .ok (.nx ((ρ.set j .no).set i (.own xs))) C := Eq.trans rfl rfl
@[simp ↓] theorem evS_frz (i : Nat) : evS Φ G W (.frz i) ρ C = (opt (ownAt ρ i) C).bind fun xs C => .ok (.nx (ρ.set i (.val (.list xs)))) C := Eq.trans rfl rfl
@[simp ↓] theorem evS_ownN (i : Nat) (e : E) : evS Φ G W (.ownN i e) ρ C = (ev Φ G e (view true ρ) C).bind fun d C => (opt (newD d) C).bind fun xs C => .ok (.nx (ρ.set i (.own xs))) C := Eq.trans rfl rfl
@[simp ↓] theorem evS_ext (f : Bool) (i : Nat) (e : E) : evS Φ G W (.ext f i e) ρ C = (ev Φ G e (view f ρ) C).bind fun d C => (opt (ownAt ρ i) C).bind fun xs C => (opt (newD d) C).bind fun ys C =>
      if xs.length + ys.length ≤ big then .ok (.nx (ρ.set i (.own (xs ++ ys)))) C else .stuck := Eq.trans rfl rfl
@[simp ↓] theorem evS_app (f : Bool) (i : Nat) (e : E) : evS Φ G W (.app f i e) ρ C = (ev Φ G e (view f ρ) C).bind fun d C => (opt (ownAt ρ i) C).bind fun xs C =>
      if okFlat f d = true ∧ xs.length < big then .ok (.nx (ρ.set i (.own (xs ++ [d])))) C else .stuck := Eq.trans rfl rfl
@[simp ↓] theorem evS_seti (f : Bool) (i : Nat) (ix e : E) : evS Φ G W (.seti f i ix e) ρ C = (ev Φ G e (view f ρ) C).bind fun d C => (ev Φ G ix (view true ρ) C).bind fun k C => (opt (ownAt ρ i) C).bind fun xs C => match k with
      | .int k => if okFlat f d = true ∧ 0 ≤ k ∧ k < xs.length then .ok (.nx (ρ.set i (.own (xs.set k.toNat d)))) C else .stuck
      | _ => .stuck := Eq.trans rfl rfl
@[simp ↓] theorem evS_cset (o ix e : E) : evS Φ G W (.cset o ix e) ρ C = (ev Φ G e (view true ρ) C).bind fun d C => (ev Φ G o (view true ρ) C).bind fun x C => (ev Φ G ix (view true ρ) C).bind fun y C => csetR ρ d x y C := Eq.trans rfl rfl
@[simp ↓] theorem evS_cset2 (o ix : E) (i : Nat) (e : E) : evS Φ G W (.cset2 o ix i e) ρ C = (ev Φ G e (view true ρ) C).bind fun d C => (ev Φ G o (view true ρ) C).bind fun x C => (ev Φ G ix (view true ρ) C).bind fun y C => cset2R ρ i d x y C := Eq.trans rfl rfl
@[simp ↓] theorem evS_iff (c : E) (a b : Ss) : evS Φ G W (.iff c a b) ρ C = (tstR (ev Φ G c (view true ρ) C)).bind (kIff Φ G W a b ρ) := Eq.trans rfl rfl
@[simp ↓] theorem evS_loop (f : Bool) (t : Tg) (i : It) (b : Ss) : evS Φ G W (.loop f t i b) ρ C = (evI Φ G i (view f ρ) C).bind fun xs C => if (!f || noSrc i) = true then loopS (loStep Φ G W t b) xs ρ C else .stuck := Eq.trans rfl rfl
@[simp ↓] theorem evS_whil (c : E) (b : Ss) : evS Φ G W (.whil c b) ρ C = whileS (whC Φ G c) (whB Φ G W b) W ρ C := Eq.trans rfl rfl
@[simp ↓] theorem evS_ret (e : E) : evS Φ G W (.ret e) ρ C = (ev Φ G e (view true ρ) C).bind fun d C => .ok (.ret d) C := Eq.trans rfl rfl
@[simp ↓] theorem evS_retN : evS Φ G W .retN ρ C = .ok (.ret .none) C := Eq.trans rfl rfl
@[simp ↓] theorem evS_expr (e : E) : evS Φ G W (.expr e) ρ C = (ev Φ G e (view true ρ) C).bind fun _ C => .ok (.nx ρ) C := Eq.trans rfl rfl
@[simp ↓] theorem evS_brk : evS Φ G W .brk ρ C = .ok (.bk ρ) C := Eq.trans rfl rfl
@[simp ↓] theorem evS_ndef (i k : Nat) : evS Φ G W (.ndef i k) ρ C = .ok (.nx (ρ.set i (.val (hnf k)))) C := Eq.trans rfl rfl
@[simp ↓] theorem evS_pass : evS Φ G W .pass ρ C = .ok (.nx ρ) C := Eq.trans rfl rfl
@[simp ↓] theorem evPar_nil : evPar Φ G .nil [] ρ C = .ok [] C := Eq.trans rfl rfl
@[simp ↓] theorem evPar_cons (e : E) (r : Es) (o f : Bool) (i : Nat) (ms : List (Bool × Bool × Nat)) : evPar Φ G (.cons e r) ((o, f, i) :: ms) ρ C = (ev Φ G e (viewM o f ρ) C).bind (kPar Φ G o f r ms ρ) := Eq.trans rfl rfl
end
/-! views and places -/
@[simp] theorem view_t (ρ : SEnv) : view true ρ = ρ.map seen := Eq.trans rfl rfl
@[simp] theorem view_f (ρ : SEnv) : view false ρ = ρ.map hidden := Eq.trans rfl rfl
@[simp] theorem viewM_t (f : Bool) (ρ : SEnv) : viewM true f ρ = ρ.map seenF := Eq.trans rfl rfl
@[simp] theorem viewM_f (f : Bool) (ρ : SEnv) : viewM false f ρ = view f ρ := Eq.trans rfl rfl
@[simp] theorem seen_no : seen .no = none := Eq.trans rfl rfl
@[simp] theorem seen_val (d : PyData) : seen (.val d) = some d := Eq.trans rfl rfl
@[simp] theorem seen_own (xs : List PyData) : seen (.own xs) = some (.list xs) := Eq.trans rfl rfl
@[simp] theorem hidden_no : hidden .no = none := Eq.trans rfl rfl
@[simp] theorem hidden_val (d : PyData) : hidden (.val d) = some d := Eq.trans rfl rfl
@[simp] theorem hidden_own (xs : List PyData) : hidden (.own xs) = none := Eq.trans rfl rfl
@[simp] theorem seenF_no : seenF .no = none := Eq.trans rfl rfl
@[simp] theorem seenF_val (d : PyData) : seenF (.val d) = if flat d = true then some d else none := Eq.trans rfl rfl
@[simp] theorem seenF_own (xs : List PyData) : seenF (.own xs) = none := Eq.trans rfl rfl
@[simp] theorem okFlat_f (d : PyData) : okFlat false d = true := Eq.trans rfl rfl
@[simp] theorem okFlat_t (d : PyData) : okFlat true d = flat d := Eq.trans rfl rfl
@[simp] theorem mkSlot_own (f : Bool) (xs : List PyData) : mkSlot true f (.list xs) = if flats xs = true then some (.own xs) else none := Eq.trans rfl rfl
@[simp] theorem mkSlot_val (f : Bool) (d : PyData) : mkSlot false f d = if okFlat f d = true then some (.val d) else none := Eq.trans rfl rfl
@[simp] theorem setAll_nil (ρ : SEnv) : setAll [] [] ρ = ρ := Eq.trans rfl rfl
@[simp] theorem setAll_cons (o f : Bool) (i : Nat) (ms : List (Bool × Bool × Nat)) (s : Slot) (ss : List Slot) (ρ : SEnv) : setAll ((o, f, i) :: ms) (s :: ss) ρ = setAll ms ss (ρ.set i s) := Eq.trans rfl rfl
@[simp] theorem ownAt_def (ρ : SEnv) (i : Nat) : ownAt ρ i = (match ρ[i]? with | some (.own xs) => some xs | _ => none) := Eq.trans rfl rfl
@[simp] theorem newD_list (xs : List PyData) : newD (.list xs) = if flats xs = true then some xs else none := Eq.trans rfl rfl
@[simp] theorem putT_nm (i : Nat) (d : PyData) (ρ : SEnv) : putT (.nm i) d ρ = some (ρ.set i (.val d)) := by unfold putT; rfl
@[simp] theorem putT_tp (t : Tgs) (xs : List PyData) (ρ : SEnv) : putT (.tp t) (.tuple xs) ρ = putTs t xs ρ := Eq.trans rfl rfl
@[simp] theorem putTs_nil (ρ : SEnv) : putTs .nil [] ρ = some ρ := Eq.trans rfl rfl
@[simp] theorem putTs_nm (i : Nat) (r : Tgs) (d : PyData) (ds : List PyData) (ρ : SEnv) : putTs (.nm i r) (d :: ds) ρ = putTs r ds (ρ.set i (.val d)) := by rw [putTs]
@[simp] theorem putTs_tp (t r : Tgs) (xs ds : List PyData) (ρ : SEnv) : putTs (.tp t r) (.tuple xs :: ds) ρ = (putTs t xs ρ).bind fun ρ' => putTs r ds ρ' := by rw [putTs]
@[simp] theorem bindT_nm (i : Nat) (d : PyData) (ρ : VEnv) : bindT (.nm i) d ρ = some (ρ.set i (some d)) := by unfold bindT; rfl
@[simp] theorem bindT_tp (t : Tgs) (xs : List PyData) (ρ : VEnv) : bindT (.tp t) (.tuple xs) ρ = bindTs t xs ρ := Eq.trans rfl rfl
@[simp] theorem bindTs_nil (ρ : VEnv) : bindTs .nil [] ρ = some ρ := Eq.trans rfl rfl
@[simp] theorem bindTs_nm (i : Nat) (r : Tgs) (d : PyData) (ds : List PyData) (ρ : VEnv) : bindTs (.nm i r) (d :: ds) ρ = bindTs r ds (ρ.set i (some d)) := by rw [bindTs]
@[simp] theorem bindTs_tp (t r : Tgs) (xs ds : List PyData) (ρ : VEnv) : bindTs (.tp t r) (.tuple xs :: ds) ρ = (bindTs t xs ρ).bind fun ρ' => bindTs r ds ρ' := by rw [bindTs]
@[simp] theorem wipeD_nil (δ : VEnv) : wipeD δ [] = δ := Eq.trans rfl rfl
@[simp] theorem wipeD_cons (δ : VEnv) (v : Nat) (vs : List Nat) : wipeD δ (v :: vs) = (wipeD δ vs).set v none := Eq.trans rfl rfl
@[simp] theorem loopS_nil (f : PyData → SEnv → List Cell → Res Out) (ρ : SEnv) (C : List Cell) : loopS f [] ρ C = .ok (.nx ρ) C := Eq.trans rfl rfl
@[simp] theorem mapR_nil {α β : Type} (f : α → List Cell → Res (List β)) (C : List Cell) : mapR f [] C = .ok [] C := Eq.trans rfl rfl
@[simp] theorem itemsOf_list (xs : List PyData) : itemsOf (.list xs) = some xs := Eq.trans rfl rfl
@[simp] theorem itemsOf_tuple (xs : List PyData) : itemsOf (.tuple xs) = some xs := Eq.trans rfl rfl
/-! operations -/
@[simp] theorem binF_add (i j : Int) : binF .Add (.int i) (.int j) = some (.int (i + j)) := Eq.trans rfl rfl
@[simp] theorem binF_sub (i j : Int) : binF .Sub (.int i) (.int j) = some (.int (i - j)) := Eq.trans rfl rfl
theorem binF_tup {xs ys : List PyData} (h : xs.length + ys.length ≤ big) : binF .Add (.tuple xs) (.tuple ys) = some (.tuple (xs ++ ys)) := gd_of _ (decide_eq_true h)
theorem binF_lst {xs ys : List PyData} (h : xs.length + ys.length ≤ big) : binF .Add (.list xs) (.list ys) = some (.list (xs ++ ys)) := gd_of _ (decide_eq_true h)
theorem binF_str {xs ys : Str} (h : xs.length + ys.length ≤ big) : binF .Add (.str xs) (.str ys) = some (.str (xs ++ ys)) := gd_of _ (decide_eq_true h)
theorem binF_mod {i j : Int} (h : 0 < j) : binF .Mod (.int i) (.int j) = some (.int (i % j)) := gd_of _ (decide_eq_true h)
theorem binF_div {i j : Int} (h : 0 < j) (h2 : j < 2 ^ 29) : binF .FloorDiv (.int i) (.int j) = some (.int (i / j)) := gd_of _ (by rw [decide_eq_true h, decide_eq_true h2]; rfl)
theorem binF_mul_r {i j : Int} (h : j.natAbs < 2 ^ 60) : binF .Mult (.int i) (.int j) = some (.int (i * j)) := gd_of _ (by rw [decide_eq_true h, Bool.or_true])
theorem binF_mul_l {i j : Int} (h : i.natAbs < 2 ^ 60) : binF .Mult (.int i) (.int j) = some (.int (i * j)) := gd_of _ (by rw [decide_eq_true h, Bool.true_or])
theorem binF_mul_m {i x k r : Int} (h1 : 0 < k) (h2 : k < 2 ^ 40) (h3 : 0 ≤ r) (h4 : r < 2 ^ 40) : binF .Mult (.int i) (.int (x % k + r)) = some (.int (i * (x % k + r))) := binF_mul_r (by
  have := Int.emod_nonneg x (show k ≠ 0 by omega)
  have := Int.emod_lt_of_pos x h1
  omega)
theorem shp_of {d : PyData} (h : d.canLay0 = true) (h2 : d.depth ≤ 64) : shp d = true := by
  unfold shp SeqAt.shaped
  rw [h, decide_eq_true h2]; rfl
@[simp] theorem cmpF_eq_int (i j : Int) : cmpF .Eq (.int i) (.int j) = some (decide (i = j)) := by
  show gd (shp (.int i) && shp (.int j)) (PyData.eqv (.int i) (.int j)) = _
  rw [show (shp (.int i) && shp (.int j)) = true from rfl]
  show some (i == j) = _
  by_cases h : i = j <;> simp [h]
@[simp] theorem cmpF_ne_int (i j : Int) : cmpF .NotEq (.int i) (.int j) = some (!decide (i = j)) := by
  show gd (shp (.int i) && shp (.int j)) (!PyData.eqv (.int i) (.int j)) = _
  rw [show (shp (.int i) && shp (.int j)) = true from rfl]
  show some (!(i == j)) = _
  by_cases h : i = j <;> simp [h]
@[simp] theorem cmpF_lt_int (i j : Int) : cmpF .Lt (.int i) (.int j) = some (decide (i < j)) := by
  show (lessF (.int i) (.int j)) = _
  unfold lessF
  rw [W.dataLt_int]; rfl
@[simp] theorem cmpF_gt_int (i j : Int) : cmpF .Gt (.int i) (.int j) = some (decide (j < i)) := Eq.trans rfl rfl
@[simp] theorem cmpF_le_int (i j : Int) : cmpF .LtE (.int i) (.int j) = some (decide (i ≤ j)) := Eq.trans rfl rfl
@[simp] theorem cmpF_ge_int (i j : Int) : cmpF .GtE (.int i) (.int j) = some (decide (j ≤ i)) := Eq.trans rfl rfl
@[simp] theorem cmpF_is (d : PyData) : cmpF .Is d .none = some (isNone d) := Eq.trans rfl rfl
@[simp] theorem cmpF_isnot (d : PyData) : cmpF .IsNot d .none = some (!isNone d) := Eq.trans rfl rfl
@[simp] theorem isNone_none : isNone .none = true := Eq.trans rfl rfl
@[simp] theorem isNone_int (i : Int) : isNone (.int i) = false := Eq.trans rfl rfl
@[simp] theorem isNone_tuple (i : List PyData) : isNone (.tuple i) = false := Eq.trans rfl rfl
@[simp] theorem isNone_list (i : List PyData) : isNone (.list i) = false := Eq.trans rfl rfl
@[simp] theorem isNone_str (i : Str) : isNone (.str i) = false := Eq.trans rfl rfl
@[simp] theorem isNone_bool (i : Bool) : isNone (.bool i) = false := Eq.trans rfl rfl
@[simp] theorem cmpF_notin (a b : PyData) : cmpF .NotIn a b = (cmpF .In a b).map (!·) := Eq.trans rfl rfl
@[simp] theorem isi_int_int (i : Int) : isiF .int (.int i) = some true := Eq.trans rfl rfl
@[simp] theorem isi_int_bool (i : Bool) : isiF .int (.bool i) = some true := Eq.trans rfl rfl
@[simp] theorem isi_bool_int (i : Int) : isiF .bool (.int i) = some false := Eq.trans rfl rfl
@[simp] theorem isi_tuple_tuple (xs : List PyData) : isiF .tuple (.tuple xs) = some true := Eq.trans rfl rfl
@[simp] theorem isi_tuple_int (i : Int) : isiF .tuple (.int i) = some false := Eq.trans rfl rfl
@[simp] theorem isi_bool_tuple (xs : List PyData) : isiF .bool (.tuple xs) = some false := Eq.trans rfl rfl
@[simp] theorem isi_str_str (x : Str) : isiF .str (.str x) = some true := Eq.trans rfl rfl
@[simp] theorem isi_bool_bool (b : Bool) : isiF .bool (.bool b) = some true := Eq.trans rfl rfl
@[simp] theorem isi_tuple_none : isiF .tuple .none = some false := Eq.trans rfl rfl
@[simp] theorem isi_int_none : isiF .int .none = some false := Eq.trans rfl rfl
@[simp] theorem isi_bool_none : isiF .bool .none = some false := Eq.trans rfl rfl
@[simp] theorem flat_none : flat .none = true := Eq.trans rfl rfl
@[simp] theorem flat_int (i : Int) : flat (.int i) = true := Eq.trans rfl rfl
@[simp] theorem flat_bool (i : Bool) : flat (.bool i) = true := Eq.trans rfl rfl
@[simp] theorem flat_str (i : Str) : flat (.str i) = true := Eq.trans rfl rfl
@[simp] theorem flat_tuple (xs : List PyData) : flat (.tuple xs) = flats xs := by rw [flat]
@[simp] theorem flat_list (xs : List PyData) : flat (.list xs) = false := Eq.trans rfl rfl
@[simp] theorem flat_hcell (k : Nat) : flat (hcell k) = true := Eq.trans rfl rfl
@[simp] theorem flats_nil : flats [] = true := Eq.trans rfl rfl
@[simp] theorem flats_cons (x : PyData) (r : List PyData) : flats (x :: r) = (flat x && flats r) := by rw [flats]
@[simp] theorem flats_append (x r : List PyData) : flats (x ++ r) = (flats x && flats r) := by
  induction x with
  | nil => simp
  | cons a x ih => simp [ih, Bool.and_assoc]
theorem flats_map {α : Type} (f : α → PyData) (xs : List α) (h : ∀ x ∈ xs, flat (f x) = true) : flats (xs.map f) = true := by
  induction xs with
  | nil => rfl
  | cons a x ih => simp [h a (by simp), ih fun y hy => h y (by simp [hy])]
theorem flats_all {xs : List PyData} (h : ∀ x ∈ xs, flat x = true) : flats xs = true := by
  have := flats_map id xs h
  simpa using this
@[simp] theorem cellOf_hcell (C : List Cell) (k : Nat) : cellOf C (hcell k) = (C[k]?).map fun c => (k, c) := by
  unfold cellOf
  simp
@[simp] theorem cellOf_int (C : List Cell) (k : Int) : cellOf C (.int k) = none := Eq.trans rfl rfl
@[simp] theorem cellOf_tuple (C : List Cell) (k : List PyData) : cellOf C (.tuple k) = none := Eq.trans rfl rfl
@[simp] theorem cellOf_list (C : List Cell) (k : List PyData) : cellOf C (.list k) = none := Eq.trans rfl rfl
@[simp] theorem cellOf_str (C : List Cell) (k : Str) : cellOf C (.str k) = none := Eq.trans rfl rfl
@[simp] theorem idxC_tuple (C : List Cell) (xs : List PyData) (b : PyData) : idxC C (.tuple xs) b = idxF (.tuple xs) b := Eq.trans rfl rfl
@[simp] theorem idxC_list (C : List Cell) (xs : List PyData) (b : PyData) : idxC C (.list xs) b = idxF (.list xs) b := Eq.trans rfl rfl
@[simp] theorem idxC_str (C : List Cell) (x : Str) (b : PyData) : idxC C (.str x) b = idxF (.str x) b := Eq.trans rfl rfl
@[simp] theorem idxC_scr (C : List Cell) (xs : List PyData) (b : PyData) : idxC C (hscr xs) b = idxF (hscr xs) b := Eq.trans rfl rfl
theorem idxC_cell {C : List Cell} {k : Nat} {xs : List PyData} (h : C[k]? = some (.lst xs)) (b : PyData) : idxC C (hcell k) b = idxF (.list xs) b := by
  unfold idxC
  rw [cellOf_hcell, h]
  rfl
theorem atI_nat {α : Type} {xs : List α} {i : Int} (h : 0 ≤ i) : L2.atI xs i = xs[i.toNat]? := by
  unfold L2.atI L2.ixN
  rw [if_pos h]
  by_cases h1 : i < xs.length
  · rw [if_pos h1]; rfl
  · rw [if_neg h1, List.getElem?_eq_none (by omega)]; rfl
@[simp] theorem idxF_tuple_nat (xs : List PyData) (k : Nat) : idxF (.tuple xs) (.int (k : Int)) = xs[k]? := by
  show L2.atI xs (k : Int) = _
  rw [atI_nat (by omega)]; rfl
@[simp] theorem idxF_list_nat (xs : List PyData) (k : Nat) : idxF (.list xs) (.int (k : Int)) = xs[k]? := by
  show L2.atI xs (k : Int) = _
  rw [atI_nat (by omega)]; rfl
@[simp] theorem idxF_scr_nat (xs : List PyData) (k : Nat) : idxF (hscr xs) (.int (k : Int)) = xs[k]? := by
  show L2.atI xs (k : Int) = _
  rw [atI_nat (by omega)]; rfl
@[simp] theorem idxF_tuple_succ (xs : List PyData) (k : Nat) : idxF (.tuple xs) (.int ((k : Int) + 1)) = xs[k + 1]? := idxF_tuple_nat xs (k + 1)
@[simp] theorem idxF_list_succ (xs : List PyData) (k : Nat) : idxF (.list xs) (.int ((k : Int) + 1)) = xs[k + 1]? := idxF_list_nat xs (k + 1)
@[simp] theorem idxF_tuple_0 (xs : List PyData) : idxF (.tuple xs) (.int 0) = xs[0]? := idxF_tuple_nat xs 0
@[simp] theorem idxF_tuple_1 (xs : List PyData) : idxF (.tuple xs) (.int 1) = xs[1]? := idxF_tuple_nat xs 1
@[simp] theorem idxF_tuple_2 (xs : List PyData) : idxF (.tuple xs) (.int 2) = xs[2]? := idxF_tuple_nat xs 2
@[simp] theorem idxF_list_0 (xs : List PyData) : idxF (.list xs) (.int 0) = xs[0]? := idxF_list_nat xs 0
@[simp] theorem idxF_list_1 (xs : List PyData) : idxF (.list xs) (.int 1) = xs[1]? := idxF_list_nat xs 1
@[simp] theorem idxF_list_2 (xs : List PyData) : idxF (.list xs) (.int 2) = xs[2]? := idxF_list_nat xs 2
@[simp] theorem lenC_len_tuple (C : List Cell) (xs : List PyData) : lenC C .len [.tuple xs] = some (.int xs.length) := Eq.trans rfl rfl
@[simp] theorem lenC_len_list (C : List Cell) (xs : List PyData) : lenC C .len [.list xs] = some (.int xs.length) := Eq.trans rfl rfl
@[simp] theorem lenC_len_scr (C : List Cell) (xs : List PyData) : lenC C .len [hscr xs] = some (.int xs.length) := Eq.trans rfl rfl
theorem lenC_len_str {C : List Cell} {x : Str} (h : x.length ≤ big) : lenC C .len [.str x] = some (.int x.length) := by
  show (if x.length ≤ big then some (PyData.int x.length) else none) = _
  rw [if_pos h]
theorem lenC_len_cell {C : List Cell} {k : Nat} {xs : List PyData} (h : C[k]? = some (.lst xs)) : lenC C .len [hcell k] = some (.int xs.length) := by
  unfold lenC
  simp [h]
@[simp] theorem lenC_sum (C : List Cell) (xs : List PyData) : lenC C .sum [.list xs] = (intsOf xs).map fun ns => .int ns.sum := Eq.trans rfl rfl
@[simp] theorem lenC_tuple (C : List Cell) (d : PyData) : lenC C .tuple [d] = (itemsOf d).map .tuple := Eq.trans rfl rfl
@[simp] theorem lenC_list (C : List Cell) (d : PyData) : lenC C .list [d] = (itemsOf d).map .list := Eq.trans rfl rfl
@[simp] theorem lenC_all (C : List Cell) (xs : List PyData) : lenC C .all [.list xs] = (boolsOf xs).map fun bs => .bool (bs.all id) := Eq.trans rfl rfl
@[simp] theorem lenC_any (C : List Cell) (xs : List PyData) : lenC C .any [.list xs] = (boolsOf xs).map fun bs => .bool (bs.any id) := Eq.trans rfl rfl
@[simp] theorem lenC_int (C : List Cell) (i : Int) : lenC C .int [.int i] = some (.int i) := Eq.trans rfl rfl
@[simp] theorem lenC_abs (C : List Cell) (i : Int) : lenC C .abs [.int i] = some (.int (if i < 0 then -i else i)) := Eq.trans rfl rfl
@[simp] theorem lenC_max2 (C : List Cell) (i j : Int) : lenC C .max2 [.int i, .int j] = some (.int (max i j)) := by
  show some (PyData.int (if j > i then j else i)) = _
  congr 2
  rw [Int.max_def]; split <;> split <;> omega
@[simp] theorem lenC_min2 (C : List Cell) (i j : Int) : lenC C .min2 [.int i, .int j] = some (.int (min i j)) := by
  show some (PyData.int (if j < i then j else i)) = _
  congr 2
  rw [Int.min_def]; split <;> split <;> omega
@[simp] theorem lenC_divmod (C : List Cell) (i j : Int) : lenC C .divmod [.int i, .int j] = gd (decide (0 < j) && decide (j < 2 ^ 29)) (.tuple [.int (i / j), .int (i % j)]) := Eq.trans rfl rfl
@[simp] theorem lenC_max1 (C : List Cell) (d : PyData) : lenC C .max1 [d] = biF .max1 [d] := Eq.trans rfl rfl
@[simp] theorem lenC_min1 (C : List Cell) (d : PyData) : lenC C .min1 [d] = biF .min1 [d] := Eq.trans rfl rfl
@[simp] theorem lenC_sorted (C : List Cell) (d : PyData) : lenC C .sorted [d] = biF .sorted [d] := Eq.trans rfl rfl
theorem intsOf_map {α : Type} (f : α → Int) (xs : List α) : intsOf (xs.map fun x => .int (f x)) = some (xs.map f) := by
  induction xs with
  | nil => rfl
  | cons a x ih =>
    show (intsOf (x.map fun x => .int (f x))).map (f a :: ·) = _
    rw [ih]; rfl
@[simp] theorem intsOf_mapI (xs : List Int) : intsOf (xs.map PyData.int) = some xs := by
  have := intsOf_map id xs
  simpa using this
theorem boolsOf_map {α : Type} (f : α → Bool) (xs : List α) : boolsOf (xs.map fun x => .bool (f x)) = some (xs.map f) := by
  induction xs with
  | nil => rfl
  | cons a x ih =>
    show (boolsOf (x.map fun x => .bool (f x))).map (f a :: ·) = _
    rw [ih]; rfl
@[simp] theorem if_tf (p : Prop) [Decidable p] (C : List Cell) : (if p then Res.ok (PyData.bool true) C else .ok (.bool false) C) = .ok (.bool (decide p)) C := by
  by_cases h : p <;> simp [h]
/-! walks -/
theorem mapR_map {α : Type} {f : PyData → List Cell → Res (List PyData)} {enc : α → PyData} {xs : List α} {C : List Cell} (g : α → PyData) (h : ∀ x ∈ xs, f (enc x) C = .ok [g x] C) : mapR f (xs.map enc) C = .ok (xs.map g) C := by
  induction xs with
  | nil => rfl
  | cons a x ih =>
    show (f (enc a) C).bind _ = _
    rw [h a (by simp), b_ok, ih fun y hy => h y (by simp [hy])]
    rfl
theorem mapR_filter {α : Type} {f : PyData → List Cell → Res (List PyData)} {enc : α → PyData} {xs : List α} {C : List Cell} (p : α → Bool) (g : α → PyData) (h : ∀ x ∈ xs, f (enc x) C = .ok (if p x = true then [g x] else []) C) : mapR f (xs.map enc) C = .ok ((xs.filter p).map g) C := by
  induction xs with
  | nil => rfl
  | cons a x ih =>
    show (f (enc a) C).bind _ = _
    rw [h a (by simp), b_ok, ih fun y hy => h y (by simp [hy])]
    by_cases q : p a = true
    · simp [q]
    · simp [q]
theorem mapR_flat {α : Type} {f : PyData → List Cell → Res (List PyData)} {enc : α → PyData} {xs : List α} {C : List Cell} (g : α → List PyData) (h : ∀ x ∈ xs, f (enc x) C = .ok (g x) C) : mapR f (xs.map enc) C = .ok (xs.flatMap g) C := by
  induction xs with
  | nil => rfl
  | cons a x ih =>
    show (f (enc a) C).bind _ = _
    rw [h a (by simp), b_ok, ih fun y hy => h y (by simp [hy])]
    rfl
/-- a loop that goes through, by its state -/
theorem loopS_fold {α σ : Type} {f : PyData → SEnv → List Cell → Res Out} {enc : α → PyData} {C : List Cell} (mk : σ → SEnv) (g : σ → α → σ) (I : List α → σ → Prop) :
    ∀ {xs pre : List α} {s : σ}, I pre s → (∀ pre x post s, pre ++ x :: post = pre ++ x :: post → x ∈ xs → I pre s → f (enc x) (mk s) C = .ok (.nx (mk (g s x))) C ∧ I (pre ++ [x]) (g s x)) → loopS f (xs.map enc) (mk s) C = .ok (.nx (mk (xs.foldl g s))) C ∧ I (pre ++ xs) (xs.foldl g s)
  | [], pre, s, hI, h => ⟨rfl, by simpa using hI⟩
  | x :: xs, pre, s, hI, h => by
    obtain ⟨e1, e2⟩ := h pre x [] s rfl (by simp) hI
    obtain ⟨r1, r2⟩ := loopS_fold mk g I (xs := xs) (pre := pre ++ [x]) (s := g s x) e2 fun pre' x' post' s' _ hx hI' => h pre' x' post' s' rfl (by simp [hx]) hI'
    refine ⟨?_, by simpa using r2⟩
    show (f (enc x) (mk s) C).bind _ = _
    rw [e1, b_ok]
    exact r1
/-- as the plainest loop: no invariant -/
theorem loopS_run {α σ : Type} {f : PyData → SEnv → List Cell → Res Out} {enc : α → PyData} {C : List Cell} (mk : σ → SEnv) (g : σ → α → σ) {xs : List α} {s : σ} (h : ∀ x ∈ xs, ∀ s, f (enc x) (mk s) C = .ok (.nx (mk (g s x))) C) : loopS f (xs.map enc) (mk s) C = .ok (.nx (mk (xs.foldl g s))) C :=
  (loopS_fold mk g (fun _ _ => True) (pre := []) (s := s) trivial fun _ x _ s _ hx _ => ⟨h x hx s, trivial⟩).1
theorem loopS_run' {α σ : Type} {f : PyData → SEnv → List Cell → Res Out} {enc : α → PyData} {C : List Cell} {ρ : SEnv} {xs : List α} (mk : σ → SEnv) (g : σ → α → σ) (s : σ) (hρ : ρ = mk s) (h : ∀ x ∈ xs, ∀ s, f (enc x) (mk s) C = .ok (.nx (mk (g s x))) C) : loopS f (xs.map enc) ρ C = .ok (.nx (mk (xs.foldl g s))) C := by
  rw [hρ]; exact loopS_run mk g h
/-- a loop by an invariant of what went before: states are free -/
theorem loopS_inv {α : Type} {f : PyData → SEnv → List Cell → Res Out} {enc : α → PyData} {C : List Cell} (I : List α → SEnv → Prop) :
    ∀ {xs pre : List α} {ρ : SEnv}, I pre ρ → (∀ pre' x post ρ, pre' ++ x :: post = pre ++ xs → I pre' ρ → ∃ ρ', f (enc x) ρ C = .ok (.nx ρ') C ∧ I (pre' ++ [x]) ρ') → ∃ ρ', loopS f (xs.map enc) ρ C = .ok (.nx ρ') C ∧ I (pre ++ xs) ρ'
  | [], pre, ρ, hI, h => ⟨ρ, rfl, by simpa using hI⟩
  | x :: xs, pre, ρ, hI, h => by
    obtain ⟨ρ1, e1, e2⟩ := h pre x xs ρ rfl hI
    obtain ⟨ρ', r1, r2⟩ := loopS_inv I (xs := xs) (pre := pre ++ [x]) (ρ := ρ1) e2 fun pre' x' post ρ hp => h pre' x' post ρ (by simpa using hp)
    refine ⟨ρ', ?_, by simpa using r2⟩
    show (f (enc x) ρ C).bind _ = _
    rw [e1, b_ok]
    exact r1
/-- an answer, by what it keeps -/
def wp {α : Type} (r : Res α) (P : α → List Cell → Prop) : Prop := ∃ a C', r = .ok a C' ∧ P a C'
theorem wp_ok {α : Type} {a : α} {C : List Cell} {P : α → List Cell → Prop} (h : P a C) : wp (.ok a C) P := ⟨a, C, rfl, h⟩
theorem wp_of {α : Type} {r : Res α} {a : α} {C : List Cell} {P : α → List Cell → Prop} (h : P a C) (e : r = .ok a C) : wp r P := ⟨a, C, e, h⟩
theorem wp_hide {α : Type} {r : Res α} {P : α → List Cell → Prop} (h : ∀ Q : α → List Cell → Prop, (∀ a C, P a C → Q a C) → wp r Q) : wp r P := h P fun _ _ h => h
theorem wp_bind {α β : Type} {r : Res α} {f : α → List Cell → Res β} {P : α → List Cell → Prop} {Q : β → List Cell → Prop} (h : wp r P) (k : ∀ a C, P a C → wp (f a C) Q) : wp (r.bind f) Q := by
  obtain ⟨a, C', rfl, hP⟩ := h
  exact k a C' hP
theorem wp_mono {α : Type} {r : Res α} {P Q : α → List Cell → Prop} (h : wp r P) (k : ∀ a C, P a C → Q a C) : wp r Q := by
  obtain ⟨a, C', e, hP⟩ := h
  exact ⟨a, C', e, k a C' hP⟩
/-- a loop that changes cells -/
theorem loopS_wp {α : Type} {f : PyData → SEnv → List Cell → Res Out} {enc : α → PyData} (I : List α → SEnv → List Cell → Prop) :
    ∀ {xs pre : List α} {ρ : SEnv} {C : List Cell}, I pre ρ C → (∀ pre' x post ρ C, pre' ++ x :: post = pre ++ xs → I pre' ρ C → wp (f (enc x) ρ C) fun o C' => ∃ ρ', o = .nx ρ' ∧ I (pre' ++ [x]) ρ' C') → wp (loopS f (xs.map enc) ρ C) fun o C' => ∃ ρ', o = .nx ρ' ∧ I (pre ++ xs) ρ' C'
  | [], pre, ρ, C, hI, h => ⟨_, _, rfl, ρ, rfl, by simpa using hI⟩
  | x :: xs, pre, ρ, C, hI, h => by
    obtain ⟨o, C1, e1, ρ1, rfl, e2⟩ := h pre x xs ρ C rfl hI
    obtain ⟨o', C', r1, ρ', rfl, r2⟩ := loopS_wp I (xs := xs) (pre := pre ++ [x]) (ρ := ρ1) (C := C1) e2 fun pre' x' post ρ C hp => h pre' x' post ρ C (by simpa using hp)
    refine ⟨_, C', ?_, ρ', rfl, by simpa using r2⟩
    show (f (enc x) ρ C).bind _ = _
    rw [e1, b_ok]
    exact r1
theorem mapR_wp {α : Type} {f : PyData → List Cell → Res (List PyData)} {enc : α → PyData} (I : List α → List PyData → List Cell → Prop) :
    ∀ {xs pre : List α} {got : List PyData} {C : List Cell}, I pre got C → (∀ pre' x post got C, pre' ++ x :: post = pre ++ xs → I pre' got C → wp (f (enc x) C) fun ds C' => I (pre' ++ [x]) (got ++ ds) C') → wp (mapR f (xs.map enc) C) fun ds C' => I (pre ++ xs) (got ++ ds) C'
  | [], pre, got, C, hI, h => ⟨[], C, rfl, by simpa using hI⟩
  | x :: xs, pre, got, C, hI, h => by
    obtain ⟨ds, C1, e1, e2⟩ := h pre x xs got C rfl hI
    obtain ⟨es, C', r1, r2⟩ := mapR_wp I (xs := xs) (pre := pre ++ [x]) (got := got ++ ds) (C := C1) e2 fun pre' x' post got C hp => h pre' x' post got C (by simpa using hp)
    refine ⟨ds ++ es, C', ?_, by simpa using r2⟩
    show (f (enc x) C).bind _ = _
    rw [e1, b_ok]
    show (mapR f (xs.map enc) C1).bind _ = _
    rw [r1]; rfl
/-! what is walked -/
theorem enum_enc {α : Type} (e : α → PyData) (xs : List α) : ((List.range (xs.map e).length).zip (xs.map e)).map (fun p => PyData.tuple [.int p.1, p.2]) = xs.zipIdx.map fun p => .tuple [.int (p.2 : Nat), e p.1] := by
  have : ∀ (n : Nat) (xs : List α), ((List.range' n (xs.map e).length).zip (xs.map e)).map (fun p => PyData.tuple [.int p.1, p.2]) = (xs.zipIdx n).map fun p => .tuple [.int (p.2 : Nat), e p.1] := by
    intro n xs
    induction xs generalizing n with
    | nil => rfl
    | cons a x ih =>
      simp only [List.map_cons, List.length_cons, List.range'_succ, List.zip_cons_cons, List.zipIdx_cons]
      rw [ih (n + 1)]
  rw [List.range_eq_range']
  exact this 0 xs
theorem zip_enc {α β : Type} (e : α → PyData) (e' : β → PyData) (xs : List α) (ys : List β) : ((xs.map e).zip (ys.map e')).map (fun p => PyData.tuple [p.1, p.2]) = (xs.zip ys).map fun p => .tuple [e p.1, e' p.2] := by
  induction xs generalizing ys with
  | nil => simp
  | cons a x ih => cases ys with
    | nil => simp
    | cons b y => simp [ih]
@[simp] theorem enumD_map {α : Type} (e : α → PyData) (xs : List α) : enumD (xs.map e) = xs.zipIdx.map fun p => .tuple [.int (p.2 : Nat), e p.1] := enum_enc e xs
@[simp] theorem zipD_map {α β : Type} (e : α → PyData) (e' : β → PyData) (xs : List α) (ys : List β) : zipD (xs.map e) (ys.map e') = (xs.zip ys).map fun p => .tuple [e p.1, e' p.2] := zip_enc e e' xs ys
@[simp] theorem rangeD_nat (n : Nat) : rangeD 0 (n : Int) = (List.range n).map fun k => .int (k : Nat) := by
  unfold rangeD
  simp
theorem rangeD_one (n : Nat) : rangeD 1 (n : Int) = (List.range (n - 1)).map fun k : Nat => .int ((k : Int) + 1) := by
  unfold rangeD
  rw [show ((n : Int) - 1).toNat = n - 1 by omega]
  refine List.map_congr_left fun k _ => ?_
  rw [Int.add_comm]
theorem smallI_nat {n : Nat} (h : n ≤ 1000000) : smallI (n : Int) = true := by
  unfold smallI
  simp
  omega
end BR
set_option Elab.async false
set_option linter.all false
set_option maxRecDepth 100000
set_option maxHeartbeats 4000000
/-! passengers, queues: as data -/
namespace BR
open PySem
structure Pas where
  name : Str
  row : Int
  takes : Int
  deriving DecidableEq
def encP (p : Pas) : PyData := .tuple [.str p.name, .int p.row, .int p.takes]
abbrev encQ (q : List Pas) : PyData := .tuple (q.map encP)
@[simp] theorem idxC_p0 (C : List Cell) (p : Pas) : idxC C (encP p) (.int 0) = some (.str p.name) := rfl
@[simp] theorem idxC_p1 (C : List Cell) (p : Pas) : idxC C (encP p) (.int 1) = some (.int p.row) := rfl
@[simp] theorem idxC_p2 (C : List Cell) (p : Pas) : idxC C (encP p) (.int 2) = some (.int p.takes) := rfl
def wordsL : List Str := ["all", "at", "beat", "board", "by", "chain", "door", "ends", "enter", "for", "from", "go", "group", "in", "inside", "join", "leave", "left", "lot", "none", "of", "queue", "row", "swap", "takes", "time", "to", "undo", "wait", "zone"].map Str.ofString
def lettersS : Str := Str.ofString "abcdefghijklmnopqrstuvwxyz"
theorem letters_cps : lettersS.cps.toList = (List.range 26).map (· + 97) := by decide +kernel
theorem mem_letters {c : Nat} : c ∈ lettersS.cps.toList ↔ 97 ≤ c ∧ c ≤ 122 := by
  rw [letters_cps]
  simp only [List.mem_map, List.mem_range]
  constructor
  · rintro ⟨a, h, rfl⟩; omega
  · intro h; exact ⟨c - 97, by omega, by omega⟩
structure OkName (x : Str) : Prop where
  ne : x.cps.toList ≠ []
  lo : ∀ c ∈ x.cps.toList, 97 ≤ c ∧ c ≤ 122
  len : x.cps.toList.length ≤ 8
  nw : x ∉ wordsL
structure OkPas (p : Pas) : Prop where
  nm : OkName p.name
  r1 : 1 ≤ p.row
  r9 : p.row ≤ 99
  t1 : 1 ≤ p.takes
  t9 : p.takes ≤ 9
structure OkQ (q : List Pas) : Prop where
  ps : ∀ p ∈ q, OkPas p
  nd : (q.map (·.name)).Nodup
  lo : 1 ≤ q.length
  hi : q.length ≤ 9
theorem strOk_name {x : Str} (h : ∀ c ∈ x.cps.toList, c ≤ 122) : PyData.strOk x = true := by
  unfold PyData.strOk
  rw [← Array.all_toList]
  exact List.all_eq_true.mpr fun c hc => by have := h c hc; simp; omega
theorem shp_str {x : Str} (h : ∀ c ∈ x.cps.toList, c ≤ 122) : shp (.str x) = true := shp_of (by rw [PyData.canLay0]; exact strOk_name h) (by simp [PyData.depth])
theorem depth_leaf_all {α : Type} (f : α → PyData) (xs : List α) (h : ∀ x ∈ xs, (f x).depth ≤ 1) : PyData.depthAll (xs.map f) ≤ 1 := by
  induction xs with
  | nil => simp [PyData.depthAll]
  | cons a x ih =>
    simp only [List.map_cons, PyData.depthAll]
    have := h a (by simp)
    have := ih fun y hy => h y (by simp [hy])
    omega
theorem canLay_all {α : Type} (f : α → PyData) (xs : List α) (h : ∀ x ∈ xs, (f x).canLay0 = true) : PyData.canLayAll0 (xs.map f) = true := by
  induction xs with
  | nil => rfl
  | cons a x ih =>
    simp only [List.map_cons, PyData.canLayAll0, Bool.and_eq_true]
    exact ⟨h a (by simp), ih fun y hy => h y (by simp [hy])⟩
theorem eqv_str (x y : Str) : PyData.eqv (.str x) (.str y) = decide (x = y) := by
  rw [PyData.eqv]
  by_cases h : x = y <;> simp [h]
theorem any_eqv_str (xs : List Str) (x : Str) : (xs.map PyData.str).any (fun y => PyData.eqv y (.str x)) = decide (x ∈ xs) := by
  induction xs with
  | nil => simp
  | cons a r ih =>
    rw [List.map_cons, List.any_cons, ih, eqv_str]
    by_cases h : a = x
    · simp [h]
    · by_cases h2 : x ∈ r
      · simp [h2]
      · simp [h, h2, Ne.symm h]
def encN (xs : List Str) : PyData := .tuple (xs.map .str)
/-- a name among names -/
theorem cmpF_in_strs {x : Str} {xs : List Str} (hx : ∀ c ∈ x.cps.toList, c ≤ 122) (hxs : ∀ y ∈ xs, ∀ c ∈ y.cps.toList, c ≤ 122) : cmpF .In (.str x) (encN xs) = some (decide (x ∈ xs)) := by
  unfold encN
  show gd (shp (.str x) && shp (.tuple (xs.map .str))) _ = _
  rw [shp_str hx, shp_of (d := .tuple (xs.map .str)) (by rw [PyData.canLay0]; exact canLay_all _ _ fun y hy => by rw [PyData.canLay0]; exact strOk_name (hxs y hy))
    (by rw [PyData.depth]; have := depth_leaf_all PyData.str xs (fun y hy => by simp [PyData.depth]); omega)]
  rw [Bool.true_and, gd_t, any_eqv_str]
theorem cmpF_in_strsL {x : Str} {xs : List Str} (hx : ∀ c ∈ x.cps.toList, c ≤ 122) (hxs : ∀ y ∈ xs, ∀ c ∈ y.cps.toList, c ≤ 122) : cmpF .In (.str x) (.list (xs.map .str)) = some (decide (x ∈ xs)) := by
  show gd (shp (.str x) && shp (.list (xs.map .str))) _ = _
  rw [shp_str hx, shp_of (d := .list (xs.map .str)) (by rw [PyData.canLay0]; exact canLay_all _ _ fun y hy => by rw [PyData.canLay0]; exact strOk_name (hxs y hy))
    (by rw [PyData.depth]; have := depth_leaf_all PyData.str xs (fun y hy => by simp [PyData.depth]); omega)]
  rw [Bool.true_and, gd_t, any_eqv_str]
theorem words_lo : ∀ y ∈ wordsL, ∀ c ∈ y.cps.toList, c ≤ 122 := by decide +kernel
theorem cmpF_ne_str {x y : Str} (hx : ∀ c ∈ x.cps.toList, c ≤ 122) (hy : ∀ c ∈ y.cps.toList, c ≤ 122) : cmpF .NotEq (.str x) (.str y) = some (!decide (x = y)) := by
  show gd (shp (.str x) && shp (.str y)) _ = _
  rw [shp_str hx, shp_str hy, eqv_str]; rfl
theorem inF_char {c : Nat} {y : Str} : cmpF .In (.str ⟨#[c]⟩) (.str y) = some (decide (c ∈ y.cps.toList)) := rfl
theorem all_true_map {α : Type} (xs : List α) : (xs.map fun _ => true).all id = true := by
  induction xs with
  | nil => rfl
  | cons a r ih => rw [List.map_cons, List.all_cons, ih]; rfl
theorem OkName.hi {x : Str} (h : OkName x) : ∀ c ∈ x.cps.toList, c ≤ 122 := fun c hc => (h.lo c hc).2
theorem shp_encQ {q : List Pas} (h : ∀ p ∈ q, OkPas p) : shp (encQ q) = true := by
  refine shp_of ?_ ?_
  · rw [PyData.canLay0]
    refine canLay_all _ _ fun p hp => ?_
    simp [encP, PyData.canLay0, PyData.canLayAll0, strOk_name (h p hp).nm.hi]
  · rw [PyData.depth]
    have : PyData.depthAll (q.map encP) ≤ 2 := by
      clear h
      induction q with
      | nil => simp [PyData.depthAll]
      | cons a r ih =>
        simp only [List.map_cons, PyData.depthAll, encP, PyData.depth]
        omega
    omega
theorem cmpF_eq_encQ_nil {q : List Pas} (h : OkQ q) : cmpF .Eq (encQ q) (.tuple []) = some false := by
  show gd (shp (encQ q) && shp (.tuple [])) (PyData.eqv (encQ q) (.tuple [])) = _
  rw [shp_encQ h.ps, show shp (.tuple []) = true from rfl]
  have := h.lo
  cases q with
  | nil => simp at this
  | cons a r => simp [PyData.eqv, PyData.eqvAll]
theorem slF_drop {xs : List PyData} {k : Nat} : slF (.list xs) (some (k : Int)) none = some (.list (xs.drop k)) := by
  unfold slF cutL HT.sIx
  have h0 : ¬ ((k : Int) < 0) := by omega
  simp [h0]
  rcases Nat.lt_or_ge xs.length k with z | z
  · rw [Nat.min_eq_right (Nat.le_of_lt z), List.drop_of_length_le (Nat.le_refl _), List.drop_of_length_le (Nat.le_of_lt z)]; simp
  · rw [Nat.min_eq_left z, List.take_of_length_le (by simp)]
theorem slF_dropT {xs : List PyData} {k : Nat} : slF (.tuple xs) (some (k : Int)) none = some (.tuple (xs.drop k)) := by
  unfold slF cutL HT.sIx
  have h0 : ¬ ((k : Int) < 0) := by omega
  simp [h0]
  rcases Nat.lt_or_ge xs.length k with z | z
  · rw [Nat.min_eq_right (Nat.le_of_lt z), List.drop_of_length_le (Nat.le_refl _), List.drop_of_length_le (Nat.le_of_lt z)]; simp
  · rw [Nat.min_eq_left z, List.take_of_length_le (by simp)]
theorem slF_drop1 {xs : List PyData} {k : Nat} : slF (.list xs) (some ((k : Int) + 1)) none = some (.list (xs.drop (k + 1))) := by
  have h : (k : Int) + 1 = ((k + 1 : Nat) : Int) := by omega
  rw [h]; exact slF_drop
theorem slF_drop1T {xs : List PyData} {k : Nat} : slF (.tuple xs) (some ((k : Int) + 1)) none = some (.tuple (xs.drop (k + 1))) := by
  have h : (k : Int) + 1 = ((k + 1 : Nat) : Int) := by omega
  rw [h]; exact slF_dropT
theorem slF_take {xs : List PyData} {k : Nat} : slF (.tuple xs) none (some (k : Int)) = some (.tuple (xs.take k)) := by
  unfold slF cutL HT.sIx
  have h0 : ¬ ((k : Int) < 0) := by omega
  simp [h0, List.take_eq_take_iff]
theorem slF_takeL {xs : List PyData} {k : Nat} : slF (.list xs) none (some (k : Int)) = some (.list (xs.take k)) := by
  unfold slF cutL HT.sIx
  have h0 : ¬ ((k : Int) < 0) := by omega
  simp [h0, List.take_eq_take_iff]
end BR
set_option Elab.async false
set_option linter.all false
set_option maxRecDepth 100000
set_option maxHeartbeats 4000000
/-! draws: wells among the cells -/
namespace BR
open PySem
abbrev W3 (a b c : Int) : Cell := .lst [.int a, .int b, .int c]
/-- a well -/
def IsW (C : List Cell) (j : Nat) : Prop := ∃ a b c, C[j]? = some (W3 a b c)
/-- from C to C': the well j goes on, other cells may be new -/
def Nx (j : Nat) (C C' : List Cell) : Prop := j < C.length ∧ ∃ a b c ex, C' = C.set j (W3 a b c) ++ ex
theorem IsW.lt {C : List Cell} {j : Nat} (h : IsW C j) : j < C.length := by
  obtain ⟨a, b, c, h⟩ := h
  rcases Nat.lt_or_ge j C.length with z | z
  · exact z
  · rw [List.getElem?_eq_none z] at h; cases h
theorem IsW.refl {C : List Cell} {j : Nat} (h : IsW C j) : Nx j C C := by
  have hl := h.lt
  obtain ⟨a, b, c, h⟩ := h
  refine ⟨hl, a, b, c, [], ?_⟩
  rw [List.getElem?_eq_getElem hl] at h
  rw [← Option.some.inj h]
  simp
theorem Nx.trans {j : Nat} {C C' C'' : List Cell} (h : Nx j C C') (h' : Nx j C' C'') : Nx j C C'' := by
  obtain ⟨h1, a, b, c, ex, rfl⟩ := h
  obtain ⟨_, a', b', c', ex', rfl⟩ := h'
  refine ⟨h1, a', b', c', ex ++ ex', ?_⟩
  rw [List.set_append_left _ _ (by simpa using h1), List.set_set, List.append_assoc]
theorem Nx.isW {j : Nat} {C C' : List Cell} (h : Nx j C C') : IsW C' j := by
  obtain ⟨h1, a, b, c, ex, rfl⟩ := h
  refine ⟨a, b, c, ?_⟩
  rw [List.getElem?_append_left (by simpa using h1)]
  simp [h1]
theorem Nx.get {j i : Nat} {C C' : List Cell} {x : Cell} (h : Nx j C C') (hne : i ≠ j) (hx : C[i]? = some x) : C'[i]? = some x := by
  obtain ⟨h1, a, b, c, ex, rfl⟩ := h
  have hi : i < C.length := by
    rcases Nat.lt_or_ge i C.length with z | z
    · exact z
    · rw [List.getElem?_eq_none z] at hx; cases hx
  rw [List.getElem?_append_left (by simpa using hi), List.getElem?_set_ne (Ne.symm hne)]
  exact hx
theorem Nx.other {j i : Nat} {C C' : List Cell} (h : Nx j C C') (hi : IsW C i) : IsW C' i := by
  by_cases e : i = j
  · subst e; exact h.isW
  · obtain ⟨a, b, c, q⟩ := hi
    exact ⟨a, b, c, h.get e q⟩
theorem Nx.len {j : Nat} {C C' : List Cell} (h : Nx j C C') : C.length ≤ C'.length := by
  obtain ⟨h1, a, b, c, ex, rfl⟩ := h
  simp
theorem Nx.setNew {j L : Nat} {C C' : List Cell} {x : Cell} (h : Nx j C C') (hL : C.length ≤ L) : Nx j C (C'.set L x) := by
  obtain ⟨h1, a, b, c, ex, rfl⟩ := h
  refine ⟨h1, a, b, c, ex.set (L - C.length) x, ?_⟩
  rw [List.set_append_right _ _ (by simpa using hL)]
  simp
theorem Nx.new {j : Nat} {C : List Cell} (h : IsW C j) (x : Cell) : Nx j C (C ++ [x]) := by
  obtain ⟨h1, a, b, c, ex, e⟩ := h.refl
  refine ⟨h1, a, b, c, ex ++ [x], ?_⟩
  rw [← List.append_assoc, ← e]
theorem Nx.set {j : Nat} {C : List Cell} (h : j < C.length) (a b c : Int) : Nx j C (C.set j (W3 a b c)) := ⟨h, a, b, c, [], by simp⟩
theorem getW {C : List Cell} {j : Nat} (h : j < C.length) (x : Cell) : (C.set j x)[j]? = some x := by simp [h]
theorem idxW0 {C : List Cell} {j : Nat} {a b c : Int} (h : C[j]? = some (W3 a b c)) : idxC C (hcell j) (.int 0) = some (.int a) := by rw [idxC_cell h]; rfl
theorem idxW1 {C : List Cell} {j : Nat} {a b c : Int} (h : C[j]? = some (W3 a b c)) : idxC C (hcell j) (.int 1) = some (.int b) := by rw [idxC_cell h]; rfl
theorem idxW2 {C : List Cell} {j : Nat} {a b c : Int} (h : C[j]? = some (W3 a b c)) : idxC C (hcell j) (.int 2) = some (.int c) := by rw [idxC_cell h]; rfl
theorem csetW0 {C : List Cell} {j : Nat} {a b c : Int} (h : C[j]? = some (W3 a b c)) (ρ : SEnv) (v : Int) : csetR ρ (.int v) (hcell j) (.int 0) C = .ok (.nx ρ) (C.set j (W3 v b c)) := by
  unfold csetR; rw [cellOf_hcell, h]; rfl
theorem csetW1 {C : List Cell} {j : Nat} {a b c : Int} (h : C[j]? = some (W3 a b c)) (ρ : SEnv) (v : Int) : csetR ρ (.int v) (hcell j) (.int 1) C = .ok (.nx ρ) (C.set j (W3 a v c)) := by
  unfold csetR; rw [cellOf_hcell, h]; rfl
theorem csetW2 {C : List Cell} {j : Nat} {a b c : Int} (h : C[j]? = some (W3 a b c)) (ρ : SEnv) (v : Int) : csetR ρ (.int v) (hcell j) (.int 2) C = .ok (.nx ρ) (C.set j (W3 a b v)) := by
  unfold csetR; rw [cellOf_hcell, h]; rfl
theorem cset2W0 {C : List Cell} {j : Nat} {a b c : Int} (h : C[j]? = some (W3 a b c)) (ρ : SEnv) (i : Nat) (v w : Int) : cset2R ρ i (.tuple [.int v, .int w]) (hcell j) (.int 0) C = .ok (.nx (ρ.set i (.val (.int w)))) (C.set j (W3 v b c)) := by
  unfold cset2R; rw [← csetW0 h]; rfl
theorem pow_lit : binF .Pow (.int 10) (.int 15) = some (.int (10 ^ 15)) := rfl
theorem slF_scr {xs : List PyData} {k : Nat} : slF (hscr xs) none (some (k : Int)) = some (.list (xs.take k)) := by
  show some (PyData.list (cutL xs none (some (k : Int)))) = _
  unfold cutL HT.sIx
  have h0 : ¬ ((k : Int) < 0) := by omega
  simp [h0, List.take_eq_take_iff]
/-- sorted, by an order of what is encoded -/
theorem sortD_map {α : Type} (e : α → PyData) (xs : List α) : sortD (xs.map e) = (xs.mergeSort fun a b => W.dataLe false id (e a) (e b)).map e := by
  unfold sortD
  rw [List.map_mergeSort]
  intro a _ b _
  rfl
theorem sortable_strs {xs : List Str} (h : ∀ x ∈ xs, ∀ c ∈ x.cps.toList, c ≤ 122) : sortable (xs.map .str) = true := by
  unfold sortable ordAll
  simp only [Bool.and_eq_true, List.all_eq_true, Bool.or_eq_true]
  refine ⟨fun x hx => ?_, .inr fun x hx => ?_⟩
  · obtain ⟨s, hs, rfl⟩ := List.mem_map.mp hx
    refine ⟨⟨shp_str (h s hs), rfl⟩, fun y hy => ?_⟩
    obtain ⟨t, ht, rfl⟩ := List.mem_map.mp hy
    rfl
  · obtain ⟨s, hs, rfl⟩ := List.mem_map.mp hx
    rfl
theorem strOf_len (s t : Str) : (s ++ t).cps.toList = s.cps.toList ++ t.cps.toList := by
  show (Str.append s t).cps.toList = _
  unfold Str.append
  simp
theorem idx_letters {k : Nat} (h : k < 26) : idxF (.str (Str.ofString "abcdefghijklmnopqrstuvwxyz")) (.int (k : Int)) = some (.str ⟨#[97 + k]⟩) := by
  show (if lettersS.length ≤ big then (L2.atI lettersS.cps.toList (k : Int)).map (fun c => PyData.str ⟨#[c]⟩) else none) = _
  rw [if_pos (by decide +kernel), atI_nat (by omega), letters_cps, Int.toNat_natCast, List.getElem?_map, List.getElem?_range h]
  simp [Nat.add_comm]
def wordsA : List Str := ["all", "at", "beat", "board", "by", "chain", "door", "ends", "enter", "for", "from", "go", "group", "in", "inside", "join", "leave", "left", "lot", "none", "of", "queue"].map Str.ofString
def wordsB : List Str := ["row", "swap", "takes", "time", "to", "undo", "wait", "zone"].map Str.ofString
theorem split_A : splitF (.str (Str.ofString "all at beat board by chain door ends enter for from go group in inside join leave left lot none of queue")) (.str (Str.ofString " ")) = some (.list (wordsA.map .str)) := by kernel_rfl
theorem split_B : splitF (.str (Str.ofString "row swap takes time to undo wait zone")) (.str (Str.ofString " ")) = some (.list (wordsB.map .str)) := by kernel_rfl
theorem words_AB : binF .Add (.list (wordsA.map .str)) (.list (wordsB.map .str)) = some (.list (wordsL.map .str)) := by kernel_rfl
def encL (xs : List Str) : PyData := .list (xs.map .str)
theorem qName {k : Nat} (h : k < 26) : OkName (Str.ofString "q" ++ ⟨#[97 + k]⟩) := by
  have e : (Str.ofString "q" ++ ⟨#[97 + k]⟩ : Str).cps.toList = [113, 97 + k] := by rw [strOf_len]; rfl
  refine ⟨by rw [e]; simp, fun c hc => ?_, by rw [e]; simp, ?_⟩
  · rw [e] at hc
    simp at hc
    omega
  · intro hm
    have : ∀ x ∈ wordsL, x.cps.toList.head? = some 113 → x.cps.toList.length ≠ 2 := by decide +kernel
    exact this _ hm (by rw [e]; rfl) (by rw [e]; rfl)
theorem pre_range {n : Nat} {pre : List Nat} {k : Nat} {post : List Nat} (h : pre ++ k :: post = List.range n) : k = pre.length ∧ k < n := by
  have h1 : (List.range n)[pre.length]? = some k := by rw [← h]; simp
  have h2 : pre.length < n := by
    have := congrArg List.length h
    simp at this
    omega
  rw [List.getElem?_range h2] at h1
  exact ⟨(Option.some.inj h1).symm, by rw [← Option.some.inj h1]; exact h2⟩
theorem map_eraseIdx' {α β : Type} (f : α → β) : ∀ (l : List α) (i : Nat), (l.map f).eraseIdx i = (l.eraseIdx i).map f
  | [], i => by simp
  | a :: l, 0 => by simp
  | a :: l, i + 1 => by simp [map_eraseIdx' f l i]
theorem perm_erase {α : Type} : ∀ (l : List α) (i : Nat) (h : i < l.length), (l[i] :: l.eraseIdx i).Perm l
  | a :: l, 0, _ => by simp
  | a :: l, i + 1, h => by
    simp only [List.getElem_cons_succ, List.eraseIdx_cons_succ]
    exact (List.Perm.swap _ _ _).trans ((perm_erase l i (by simpa using h)).cons a)
theorem sortedStrs {C : List Cell} {xs : List Str} (h : ∀ x ∈ xs, ∀ c ∈ x.cps.toList, c ≤ 122) (hl : xs.length ≤ big) : ∃ ys : List Str, ys.Perm xs ∧ biF .sorted [.list (xs.map .str)] = some (.list (ys.map .str)) := by
  refine ⟨xs.mergeSort fun a b => W.dataLe false id (.str a) (.str b), List.mergeSort_perm _ _, ?_⟩
  show (some (xs.map PyData.str)).bind (fun xs => gd (sortable xs && decide (xs.length ≤ big)) (PyData.list (sortD xs))) = _
  rw [Option.bind_some, sortable_strs h, sortD_map]
  simp [hl]
end BR
set_option Elab.async false
set_option linter.all false
set_option maxRecDepth 100000
set_option maxHeartbeats 4000000
/-! whole numbers in rows -/
namespace BR
open PySem
def mxf (b : Int) (xs : List Int) : Int := xs.foldl max b
def mnf (b : Int) (xs : List Int) : Int := xs.foldl min b
def imax : List Int → Int
  | [] => 0
  | x :: r => mxf x r
def imin : List Int → Int
  | [] => 0
  | x :: r => mnf x r
theorem mxf_le {b m : Int} {xs : List Int} : mxf b xs ≤ m ↔ b ≤ m ∧ ∀ x ∈ xs, x ≤ m := by
  induction xs generalizing b with
  | nil => simp [mxf]
  | cons a r ih =>
    show mxf (max b a) r ≤ m ↔ _
    rw [ih, Int.max_le, List.forall_mem_cons, and_assoc]
theorem le_mnf {b m : Int} {xs : List Int} : m ≤ mnf b xs ↔ m ≤ b ∧ ∀ x ∈ xs, m ≤ x := by
  induction xs generalizing b with
  | nil => simp [mnf]
  | cons a r ih =>
    show m ≤ mnf (min b a) r ↔ _
    rw [ih, Int.le_min, List.forall_mem_cons, and_assoc]
theorem mxf_mem {b : Int} {xs : List Int} : mxf b xs = b ∨ mxf b xs ∈ xs := by
  induction xs generalizing b with
  | nil => left; rfl
  | cons a r ih =>
    show mxf (max b a) r = b ∨ mxf (max b a) r ∈ _
    rcases ih (b := max b a) with h | h
    · rw [h]
      by_cases q : b ≤ a
      · right; rw [Int.max_eq_right q]; simp
      · left; exact Int.max_eq_left (by omega)
    · right; exact List.mem_cons_of_mem _ h
theorem mnf_mem {b : Int} {xs : List Int} : mnf b xs = b ∨ mnf b xs ∈ xs := by
  induction xs generalizing b with
  | nil => left; rfl
  | cons a r ih =>
    show mnf (min b a) r = b ∨ mnf (min b a) r ∈ _
    rcases ih (b := min b a) with h | h
    · rw [h]
      by_cases q : a ≤ b
      · right; rw [Int.min_eq_right q]; simp
      · left; exact Int.min_eq_left (by omega)
    · right; exact List.mem_cons_of_mem _ h
theorem le_mxf {b : Int} {xs : List Int} : b ≤ mxf b xs := (mxf_le.mp (Int.le_refl _)).1
theorem le_mxf_mem {b x : Int} {xs : List Int} (h : x ∈ xs) : x ≤ mxf b xs := (mxf_le.mp (Int.le_refl _)).2 x h
theorem imax_le {xs : List Int} (h : xs ≠ []) {m : Int} : imax xs ≤ m ↔ ∀ x ∈ xs, x ≤ m := by
  cases xs with
  | nil => exact absurd rfl h
  | cons a r => show mxf a r ≤ m ↔ _; rw [mxf_le]; simp
theorem le_imin {xs : List Int} (h : xs ≠ []) {m : Int} : m ≤ imin xs ↔ ∀ x ∈ xs, m ≤ x := by
  cases xs with
  | nil => exact absurd rfl h
  | cons a r => show m ≤ mnf a r ↔ _; rw [le_mnf]; simp
theorem imax_mem {xs : List Int} (h : xs ≠ []) : imax xs ∈ xs := by
  cases xs with
  | nil => exact absurd rfl h
  | cons a r =>
    show mxf a r ∈ _
    rcases mxf_mem (b := a) (xs := r) with q | q
    · rw [q]; simp
    · exact List.mem_cons_of_mem _ q
theorem imin_mem {xs : List Int} (h : xs ≠ []) : imin xs ∈ xs := by
  cases xs with
  | nil => exact absurd rfl h
  | cons a r =>
    show mnf a r ∈ _
    rcases mnf_mem (b := a) (xs := r) with q | q
    · rw [q]; simp
    · exact List.mem_cons_of_mem _ q
theorem le_imax {xs : List Int} {x : Int} (h : x ∈ xs) : x ≤ imax xs := (imax_le (List.ne_nil_of_mem h)).mp (Int.le_refl _) x h
theorem imin_le {xs : List Int} {x : Int} (h : x ∈ xs) : imin xs ≤ x := (le_imin (List.ne_nil_of_mem h)).mp (Int.le_refl _) x h
theorem eq_of_le {a b : Int} (h : ∀ m, a ≤ m ↔ b ≤ m) : a = b := Int.le_antisymm ((h b).mpr (Int.le_refl _)) ((h a).mp (Int.le_refl _))
theorem eq_of_ge {a b : Int} (h : ∀ m, m ≤ a ↔ m ≤ b) : a = b := Int.le_antisymm ((h a).mp (Int.le_refl _)) ((h b).mpr (Int.le_refl _))
theorem imax_eq {xs : List Int} {m : Int} (h : m ∈ xs) (h2 : ∀ x ∈ xs, x ≤ m) : imax xs = m := Int.le_antisymm ((imax_le (List.ne_nil_of_mem h)).mpr h2) (le_imax h)
theorem imin_eq {xs : List Int} {m : Int} (h : m ∈ xs) (h2 : ∀ x ∈ xs, m ≤ x) : imin xs = m := Int.le_antisymm (imin_le h) ((le_imin (List.ne_nil_of_mem h)).mpr h2)
theorem maxD_ints (x : Int) (xs : List Int) : W.maxD (.int x) (xs.map .int) = .int (mxf x xs) := by
  unfold W.maxD mxf
  induction xs generalizing x with
  | nil => rfl
  | cons a r ih =>
    simp only [List.map_cons, List.foldl_cons]
    have : (if W.dataLt (.int x) (.int a) = true then PyData.int a else .int x) = .int (max x a) := by
      rw [W.dataLt_int]
      by_cases h : x < a
      · simp [h]; omega
      · simp [h]; omega
    rw [this, ih]
theorem minD_ints (x : Int) (xs : List Int) : W.minD (.int x) (xs.map .int) = .int (mnf x xs) := by
  unfold W.minD mnf
  induction xs generalizing x with
  | nil => rfl
  | cons a r ih =>
    simp only [List.map_cons, List.foldl_cons]
    have : (if W.dataLt (.int a) (.int x) = true then PyData.int a else .int x) = .int (min x a) := by
      rw [W.dataLt_int]
      by_cases h : a < x
      · simp [h]; omega
      · simp [h]; omega
    rw [this, ih]
theorem ordAll_ints (xs : List Int) : ordAll (xs.map .int) = true := by
  unfold ordAll
  simp only [List.all_eq_true, Bool.and_eq_true]
  intro x hx
  obtain ⟨a, _, rfl⟩ := List.mem_map.mp hx
  refine ⟨⟨rfl, rfl⟩, fun y hy => ?_⟩
  obtain ⟨b, _, rfl⟩ := List.mem_map.mp hy
  rfl
theorem max1_of {d : PyData} {xs : List Int} (hd : itemsOf d = some (xs.map .int)) (h : xs ≠ []) : biF .max1 [d] = some (.int (imax xs)) := by
  show ((itemsOf d).bind fun xs => match xs with | [] => none | x :: r => gd (ordAll (x :: r)) (W.maxD x r)) = _
  rw [hd]
  cases xs with
  | nil => exact absurd rfl h
  | cons a r =>
    show gd (ordAll ((a :: r).map .int)) (W.maxD (.int a) (r.map .int)) = _
    rw [ordAll_ints, maxD_ints]; rfl
theorem min1_of {d : PyData} {xs : List Int} (hd : itemsOf d = some (xs.map .int)) (h : xs ≠ []) : biF .min1 [d] = some (.int (imin xs)) := by
  show ((itemsOf d).bind fun xs => match xs with | [] => none | x :: r => gd (ordAll (x :: r)) (W.minD x r)) = _
  rw [hd]
  cases xs with
  | nil => exact absurd rfl h
  | cons a r =>
    show gd (ordAll ((a :: r).map .int)) (W.minD (.int a) (r.map .int)) = _
    rw [ordAll_ints, minD_ints]; rfl
theorem max1_list {xs : List Int} (h : xs ≠ []) : biF .max1 [.list (xs.map .int)] = some (.int (imax xs)) := max1_of rfl h
theorem max1_tuple {xs : List Int} (h : xs ≠ []) : biF .max1 [.tuple (xs.map .int)] = some (.int (imax xs)) := max1_of rfl h
theorem min1_list {xs : List Int} (h : xs ≠ []) : biF .min1 [.list (xs.map .int)] = some (.int (imin xs)) := min1_of rfl h
theorem min1_tuple {xs : List Int} (h : xs ≠ []) : biF .min1 [.tuple (xs.map .int)] = some (.int (imin xs)) := min1_of rfl h
@[simp] theorem max1_cons (b : Int) (xs : List Int) : biF .max1 [.list (.int b :: xs.map .int)] = some (.int (mxf b xs)) := max1_of (xs := b :: xs) rfl (by simp)
theorem shp_ints (xs : List Int) : shp (.tuple (xs.map .int)) = true := by
  refine shp_of ?_ ?_
  · rw [PyData.canLay0]; exact canLay_all _ _ fun _ _ => rfl
  · rw [PyData.depth]; have := depth_leaf_all PyData.int xs (fun y hy => by simp [PyData.depth]); omega
theorem shp_intsL (xs : List Int) : shp (.list (xs.map .int)) = true := by
  refine shp_of ?_ ?_
  · rw [PyData.canLay0]; exact canLay_all _ _ fun _ _ => rfl
  · rw [PyData.depth]; have := depth_leaf_all PyData.int xs (fun y hy => by simp [PyData.depth]); omega
theorem eqvAll_ints (xs ys : List Int) : PyData.eqvAll (xs.map .int) (ys.map .int) = decide (xs = ys) := by
  induction xs generalizing ys with
  | nil => cases ys <;> simp [PyData.eqvAll]
  | cons a r ih => cases ys with
    | nil => simp [PyData.eqvAll]
    | cons b s =>
      simp only [List.map_cons, PyData.eqvAll, PyData.eqv, ih]
      by_cases h : a = b <;> by_cases h2 : r = s <;> simp [h, h2]
@[simp] theorem cmpF_eq_tup (xs ys : List Int) : cmpF .Eq (.tuple (xs.map .int)) (.tuple (ys.map .int)) = some (decide (xs = ys)) := by
  show gd (shp _ && shp _) (PyData.eqv _ _) = _
  rw [shp_ints, shp_ints, PyData.eqv, eqvAll_ints]; rfl
@[simp] theorem cmpF_eq_lst (xs ys : List Int) : cmpF .Eq (.list (xs.map .int)) (.list (ys.map .int)) = some (decide (xs = ys)) := by
  show gd (shp _ && shp _) (PyData.eqv _ _) = _
  rw [shp_intsL, shp_intsL, PyData.eqv, eqvAll_ints]; rfl
@[simp] theorem cmpF_ne_lst (xs ys : List Int) : cmpF .NotEq (.list (xs.map .int)) (.list (ys.map .int)) = some (!decide (xs = ys)) := by
  show gd (shp _ && shp _) (!PyData.eqv _ _) = _
  rw [shp_intsL, shp_intsL, PyData.eqv, eqvAll_ints]; rfl
@[simp] theorem cmpF_eq_tup0 (xs : List Int) : cmpF .Eq (.tuple (xs.map .int)) (.tuple []) = some (decide (xs = [])) := cmpF_eq_tup xs []
@[simp] theorem cmpF_eq_lst0 (xs : List Int) : cmpF .Eq (.list (xs.map .int)) (.list []) = some (decide (xs = [])) := cmpF_eq_lst xs []
@[simp] theorem cmpF_ne_lst0 (xs : List Int) : cmpF .NotEq (.list (xs.map .int)) (.list []) = some (!decide (xs = [])) := cmpF_ne_lst xs []
@[simp] theorem cmpF_ne_bool (a b : Bool) : cmpF .NotEq (.bool a) (.bool b) = some (a != b) := by
  cases a <;> cases b <;> rfl
@[simp] theorem cmpF_eq_bool (a b : Bool) : cmpF .Eq (.bool a) (.bool b) = some (a == b) := by
  cases a <;> cases b <;> rfl
theorem any_eqv_int (xs : List Int) (x : Int) : (xs.map PyData.int).any (fun y => PyData.eqv y (.int x)) = decide (x ∈ xs) := by
  induction xs with
  | nil => simp
  | cons a r ih =>
    rw [List.map_cons, List.any_cons, ih, PyData.eqv]
    by_cases h : a = x
    · simp [h]
    · by_cases h2 : x ∈ r
      · simp [h2]
      · simp [h, h2, Ne.symm h]
@[simp] theorem cmpF_in_lst (x : Int) (xs : List Int) : cmpF .In (.int x) (.list (xs.map .int)) = some (decide (x ∈ xs)) := by
  show gd (shp (.int x) && shp (.list (xs.map .int))) _ = _
  rw [shp_intsL, any_eqv_int]; rfl
@[simp] theorem cmpF_in_tup (x : Int) (xs : List Int) : cmpF .In (.int x) (.tuple (xs.map .int)) = some (decide (x ∈ xs)) := by
  show gd (shp (.int x) && shp (.tuple (xs.map .int))) _ = _
  rw [shp_ints, any_eqv_int]; rfl
theorem findIdx_int (xs : List Int) (x : Int) : ((xs.map PyData.int).findIdx? fun y => PyData.eqv y (.int x)) = xs.findIdx? fun y => y == x := by
  rw [List.findIdx?_map]
  congr 1
@[simp] theorem indexF_int (xs : List Int) (x : Int) : indexF (.list (xs.map .int)) (.int x) = (xs.findIdx? fun y => y == x).map fun k : Nat => PyData.int (k : Int) := by
  show (if shp (.int x) = true ∧ shp (.list (xs.map .int)) = true then _ else _) = _
  rw [if_pos ⟨rfl, shp_intsL xs⟩, findIdx_int]
  cases List.findIdx? (fun y => y == x) xs <;> rfl
theorem mem_range' {n k : Nat} : k ∈ List.range n ↔ k < n := List.mem_range
theorem snoc_ind {α : Type} {P : List α → Prop} (h0 : P []) (h1 : ∀ l a, P l → P (l ++ [a])) (l : List α) : P l := by
  have : ∀ r : List α, P r.reverse := fun r => by
    induction r with
    | nil => exact h0
    | cons a r ih => rw [List.reverse_cons]; exact h1 _ _ ih
  have := this l.reverse
  rwa [List.reverse_reverse] at this
/-- what goes through the indexes of a row goes through the row -/
theorem range_fm {α β : Type} {l : List α} {n : Nat} (hn : l.length = n) (p : Nat → Bool) (g : Nat → β) (p' : α → Bool) (g' : α → β) (h : ∀ (k : Nat) (x : α), l[k]? = some x → p k = p' x ∧ g k = g' x) : ((List.range n).filter p).map g = (l.filter p').map g' := by
  subst hn
  revert h
  refine snoc_ind (P := fun l => (∀ (k : Nat) (x : α), l[k]? = some x → p k = p' x ∧ g k = g' x) → ((List.range l.length).filter p).map g = (l.filter p').map g') (fun _ => rfl) (fun l a ih h => ?_) l
  · rw [List.length_append, List.length_singleton, List.range_succ, List.filter_append, List.map_append, List.filter_append, List.map_append]
    rw [ih fun k x hx => h k x (by
      have : k < l.length := by
        rcases Nat.lt_or_ge k l.length with z | z
        · exact z
        · rw [List.getElem?_eq_none z] at hx; cases hx
      rw [List.getElem?_append_left this]; exact hx)]
    obtain ⟨h1, h2⟩ := h l.length a (by simp)
    congr 1
    simp only [List.filter_cons, List.filter_nil, h1]
    by_cases q : p' a = true
    · simp [q, h2]
    · simp [q]
end BR
set_option Elab.async false
set_option linter.all false
set_option maxRecDepth 100000
set_option maxHeartbeats 4000000
/-! ENDs, chains -/
namespace BR
open PySem
section
variable {α : Type}
theorem mapR_range {l : List α} {n : Nat} (hn : l.length = n) {f : PyData → List Cell → Res (List PyData)} {C : List Cell} (p' : α → Bool) (g' : α → PyData) (h : ∀ (k : Nat) (x : α), l[k]? = some x → f (.int (k : Int)) C = .ok (if p' x = true then [g' x] else []) C) :
    mapR f ((List.range n).map fun k : Nat => PyData.int (k : Int)) C = .ok ((l.filter p').map g') C := by
  rw [mapR_filter (enc := fun k : Nat => PyData.int (k : Int)) (fun k => match l[k]? with | some x => p' x | none => false) (fun k => match l[k]? with | some x => g' x | none => .none) fun k hk => ?_]
  · rw [range_fm hn _ _ p' g' fun k x hx => by simp [hx]]
  · have hk2 : k < l.length := by rw [hn]; exact List.mem_range.mp hk
    rw [h k l[k] (List.getElem?_eq_getElem hk2), List.getElem?_eq_getElem hk2]
theorem mapR_rangeA {l : List α} {n : Nat} (hn : l.length = n) {f : PyData → List Cell → Res (List PyData)} {C : List Cell} (g' : α → PyData) (h : ∀ (k : Nat) (x : α), l[k]? = some x → f (.int (k : Int)) C = .ok [g' x] C) :
    mapR f ((List.range n).map fun k : Nat => PyData.int (k : Int)) C = .ok (l.map g') C := by
  rw [mapR_range hn (fun _ => true) g' fun k x hx => by rw [h k x hx]; rfl, List.filter_eq_self.mpr fun _ _ => rfl]
/-! ENDs in general: rel who stands in the way, bs the earliest START, tk the TAKES -/
section
variable (rel : α → α → Bool) (bs tk : α → Int)
def accV (acc : List (α × Int)) (p : α) : Int := mxf (bs p) ((acc.filter fun x => rel x.1 p).map (·.2)) + tk p
def accS (acc : List (α × Int)) (p : α) : List (α × Int) := acc ++ [(p, accV rel bs tk acc p)]
def accE (q : List α) : List (α × Int) := q.foldl (accS rel bs tk) []
theorem accE_snoc (q : List α) (p : α) : accE rel bs tk (q ++ [p]) = accE rel bs tk q ++ [(p, accV rel bs tk (accE rel bs tk q) p)] := by
  unfold accE
  rw [List.foldl_append]; rfl
theorem accE_fst (q : List α) : (accE rel bs tk q).map (·.1) = q := snoc_ind (P := fun q => (accE rel bs tk q).map (·.1) = q) rfl (fun l a ih => by rw [accE_snoc, List.map_append, ih]; rfl) q
theorem accE_len (q : List α) : (accE rel bs tk q).length = q.length := by
  have := congrArg List.length (accE_fst rel bs tk q)
  simpa using this
def endsG (q : List α) : List Int := (accE rel bs tk q).map (·.2)
theorem endsG_len (q : List α) : (endsG rel bs tk q).length = q.length := by
  unfold endsG
  rw [List.length_map, accE_len]
theorem endsG_snoc (q : List α) (p : α) : endsG rel bs tk (q ++ [p]) = endsG rel bs tk q ++ [accV rel bs tk (accE rel bs tk q) p] := by
  unfold endsG
  rw [accE_snoc, List.map_append]; rfl
/-- who is of a kind, alone -/
theorem accE_filter (c : α → Bool) (hc : ∀ x y, c y = true → rel x y = true → c x = true) (q : List α) : (accE rel bs tk q).filter (fun x => c x.1) = accE rel bs tk (q.filter c) := by
  refine snoc_ind (P := fun q => (accE rel bs tk q).filter (fun x => c x.1) = accE rel bs tk (q.filter c)) rfl (fun l a ih => ?_) q
  rw [accE_snoc, List.filter_append, List.filter_append, ih]
  by_cases h : c a = true
  · rw [List.filter_cons_of_pos (by simpa using h), List.filter_cons_of_pos h, List.filter_nil, List.filter_nil, accE_snoc]
    congr 2
    unfold accV
    rw [← ih, List.filter_filter]
    have : (accE rel bs tk l).filter (fun x => rel x.1 a) = (accE rel bs tk l).filter (fun x => rel x.1 a && c x.1) := by
      refine List.filter_congr fun x hx => ?_
      by_cases h2 : rel x.1 a = true
      · simp [h2, hc _ _ h h2]
      · simp [h2]
    rw [this]
  · rw [List.filter_cons_of_neg (by simpa using h), List.filter_cons_of_neg h, List.filter_nil, List.filter_nil, List.append_nil, List.append_nil]
theorem accE_map {β : Type} (f : β → α) (q : List β) : (accE (fun x y => rel (f x) (f y)) (fun x => bs (f x)) (fun x => tk (f x)) q).map (fun x => (f x.1, x.2)) = accE rel bs tk (q.map f) := by
  refine snoc_ind (P := fun q => (accE (fun x y => rel (f x) (f y)) (fun x => bs (f x)) (fun x => tk (f x)) q).map (fun x => (f x.1, x.2)) = accE rel bs tk (q.map f)) rfl (fun l a ih => ?_) q
  rw [accE_snoc, List.map_append, ih, List.map_append, List.map_cons, List.map_nil, List.map_cons, List.map_nil, accE_snoc]
  congr 2
  unfold accV
  rw [← ih, List.filter_map, List.map_map]
  rfl
/-- an END at its place -/
theorem accE_get (q : List α) (k : Nat) (p : α) (h : q[k]? = some p) : (accE rel bs tk q)[k]? = some (p, accV rel bs tk (accE rel bs tk (q.take k)) p) := by
  have hk : k < q.length := by
    rcases Nat.lt_or_ge k q.length with z | z
    · exact z
    · rw [List.getElem?_eq_none z] at h; cases h
  have hp : q = q.take k ++ p :: q.drop (k + 1) := by
    rw [List.getElem?_eq_getElem hk] at h
    cases h
    rw [← List.drop_eq_getElem_cons hk, List.take_append_drop]
  have pre : ∀ (a b : List α), ∃ c, accE rel bs tk (a ++ b) = accE rel bs tk a ++ c := fun a b => by
    refine snoc_ind (P := fun b => ∃ c, accE rel bs tk (a ++ b) = accE rel bs tk a ++ c) ⟨[], by simp⟩ (fun l x ih => ?_) b
    obtain ⟨c, hc⟩ := ih
    rw [← List.append_assoc, accE_snoc, hc, List.append_assoc]
    exact ⟨_, rfl⟩
  obtain ⟨c, hc⟩ := pre (q.take k ++ [p]) (q.drop (k + 1))
  rw [List.append_assoc, List.singleton_append, ← hp] at hc
  rw [hc, accE_snoc, List.append_assoc, List.getElem?_append_right (by rw [accE_len, List.length_take]; omega), accE_len, List.length_take, Nat.min_eq_left (Nat.le_of_lt hk), Nat.sub_self]
  rfl
theorem accE_take (q : List α) (k : Nat) : accE rel bs tk (q.take k) = (accE rel bs tk q).take k := by
  have pre : ∀ (a b : List α), ∃ c, accE rel bs tk (a ++ b) = accE rel bs tk a ++ c := fun a b => by
    refine snoc_ind (P := fun b => ∃ c, accE rel bs tk (a ++ b) = accE rel bs tk a ++ c) ⟨[], by simp⟩ (fun l x ih => ?_) b
    obtain ⟨c, hc⟩ := ih
    rw [← List.append_assoc, accE_snoc, hc, List.append_assoc]
    exact ⟨_, rfl⟩
  rcases Nat.lt_or_ge q.length k with hk | hk
  · rw [List.take_of_length_le (Nat.le_of_lt hk), List.take_of_length_le]
    rw [accE_len]; omega
  obtain ⟨c, hc⟩ := pre (q.take k) (q.drop k)
  rw [List.take_append_drop] at hc
  have hl : (accE rel bs tk (q.take k)).length = k := by rw [accE_len, List.length_take]; omega
  rw [hc, List.take_left' hl]
end
end
/-- of a queue -/
def relP (x y : Pas) : Bool := decide (x.row ≤ y.row)
abbrev endsP (q : List Pas) : List Int := endsG relP (fun _ => 0) Pas.takes q
def timeP (q : List Pas) : Int := mxf 0 (endsP q)
end BR
set_option Elab.async false
set_option linter.all false
set_option maxRecDepth 100000
set_option maxHeartbeats 4000000
/-! places, chains of places -/
namespace BR
open PySem
/-- all rising rows of places below n -/
def subsN : Nat → List (List Nat)
  | 0 => [[]]
  | n + 1 => subsN n ++ (subsN n).map (· ++ [n])
theorem subsN_len (n : Nat) : (subsN n).length = 2 ^ n := by
  induction n with
  | zero => rfl
  | succ n ih => simp [subsN, ih, Nat.pow_succ]; omega
theorem subsN_mono {k n : Nat} (h : k ≤ n) {s : List Nat} (hs : s ∈ subsN k) : s ∈ subsN n := by
  induction n with
  | zero => rw [Nat.le_zero.mp h] at hs; exact hs
  | succ n ih =>
    rcases Nat.lt_or_ge k (n + 1) with z | z
    · exact List.mem_append_left _ (ih (by omega))
    · rw [show k = n + 1 by omega] at hs; exact hs
theorem subsN_snoc {k n : Nat} (h : k < n) {s : List Nat} (hs : s ∈ subsN k) : s ++ [k] ∈ subsN n :=
  subsN_mono (k := k + 1) h (List.mem_append_right _ (List.mem_map.mpr ⟨s, hs, rfl⟩))
theorem subsN_lt {n : Nat} {s : List Nat} (hs : s ∈ subsN n) : s.Pairwise (· < ·) ∧ ∀ x ∈ s, x < n := by
  induction n generalizing s with
  | zero => simp [subsN] at hs; subst hs; simp
  | succ n ih =>
    rcases List.mem_append.mp hs with h | h
    · obtain ⟨h1, h2⟩ := ih h
      exact ⟨h1, fun x hx => by have := h2 x hx; omega⟩
    · obtain ⟨t, ht, rfl⟩ := List.mem_map.mp h
      obtain ⟨h1, h2⟩ := ih ht
      refine ⟨List.pairwise_append.mpr ⟨h1, by simp, fun a ha b hb => ?_⟩, fun x hx => ?_⟩
      · simp at hb; subst hb; exact h2 a ha
      · rcases List.mem_append.mp hx with z | z
        · have := h2 x z; omega
        · simp at z; omega
theorem subsN_mem {n : Nat} {s : List Nat} (h1 : s.Pairwise (· < ·)) (h2 : ∀ x ∈ s, x < n) : s ∈ subsN n := by
  revert n h1 h2
  refine snoc_ind (P := fun s => ∀ {n : Nat}, s.Pairwise (· < ·) → (∀ x ∈ s, x < n) → s ∈ subsN n) (fun {n} _ _ => subsN_mono (Nat.zero_le n) (by simp [subsN])) (fun l a ih {n} h1 h2 => ?_) s
  obtain ⟨p1, _, p3⟩ := List.pairwise_append.mp h1
  exact subsN_snoc (h2 a (by simp)) (ih p1 fun x hx => p3 x hx a (by simp))
theorem subsN_length {n : Nat} {s : List Nat} (hs : s ∈ subsN n) : s.length ≤ n := by
  induction n generalizing s with
  | zero => simp [subsN] at hs; subst hs; simp
  | succ n ih =>
    rcases List.mem_append.mp hs with h | h
    · have := ih h; omega
    · obtain ⟨t, ht, rfl⟩ := List.mem_map.mp h
      have := ih ht
      simp; omega
/-- each next one is so to the one before -/
def chainP (R : Nat → Nat → Bool) (s : List Nat) : Prop := ∀ (i a b : Nat), s[i]? = some a → s[i + 1]? = some b → R a b = true
theorem chainP_snoc {R : Nat → Nat → Bool} {s : List Nat} {n : Nat} : chainP R (s ++ [n]) ↔ chainP R s ∧ ∀ a, s.getLast? = some a → R a n = true := by
  constructor
  · intro h
    refine ⟨fun i a b h1 h2 => ?_, fun a ha => ?_⟩
    · have hi : i + 1 < s.length := by
        rcases Nat.lt_or_ge (i + 1) s.length with z | z
        · exact z
        · rw [List.getElem?_eq_none z] at h2; cases h2
      exact h i a b (by rw [List.getElem?_append_left (by omega)]; exact h1) (by rw [List.getElem?_append_left hi]; exact h2)
    · rw [List.getLast?_eq_getElem?] at ha
      have hl : s.length - 1 < s.length := by
        rcases Nat.lt_or_ge (s.length - 1) s.length with z | z
        · exact z
        · rw [List.getElem?_eq_none z] at ha; cases ha
      refine h (s.length - 1) a n (by rw [List.getElem?_append_left hl]; exact ha) ?_
      rw [show s.length - 1 + 1 = s.length by omega]
      simp
  · rintro ⟨h1, h2⟩ i a b ha hb
    rcases Nat.lt_or_ge (i + 1) s.length with z | z
    · rw [List.getElem?_append_left (by omega)] at ha
      rw [List.getElem?_append_left z] at hb
      exact h1 i a b ha hb
    · rw [List.getElem?_append_right z] at hb
      have : i + 1 - s.length = 0 := by
        rcases Nat.eq_zero_or_pos (i + 1 - s.length) with w | w
        · exact w
        · rw [List.getElem?_eq_none (by simp; omega)] at hb; cases hb
      rw [this] at hb
      cases hb
      rw [List.getElem?_append_left (by omega)] at ha
      refine h2 a ?_
      rw [List.getLast?_eq_getElem?, show s.length - 1 = i by omega]
      exact ha
/-- along places, no row below the one before -/
def rowR (q : List Pas) (i k : Nat) : Bool := match q[i]?, q[k]? with
  | some x, some y => decide (x.row ≤ y.row)
  | _, _ => false
/-- the sum along a row, with what its first one brings -/
def csum (b w : Nat → Int) (s : List Nat) : Int := match s.head? with
  | none => 0
  | some a => b a + (s.map w).sum
theorem csum_snoc (b w : Nat → Int) (s : List Nat) (n : Nat) (h : s ≠ []) : csum b w (s ++ [n]) = csum b w s + w n := by
  cases s with
  | nil => exact absurd rfl h
  | cons a r => simp [csum, List.sum_append]; omega
theorem csum_one (b w : Nat → Int) (n : Nat) : csum b w [n] = b n + w n := by simp [csum]
section
variable {E b w : Nat → Int} {R : Nat → Nat → Bool} {n : Nat}
theorem chain_le (hE : ∀ k, k < n → b k + w k ≤ E k ∧ ∀ i, i < k → R i k = true → E i + w k ≤ E k) :
    ∀ s : List Nat, s ∈ subsN n → chainP R s → ∀ k, s.getLast? = some k → csum b w s ≤ E k := by
  intro s
  refine snoc_ind (P := fun s => s ∈ subsN n → chainP R s → ∀ k, s.getLast? = some k → csum b w s ≤ E k) (fun _ _ k h => by simp at h) (fun l a ih hs hc k hk => ?_) s
  have hka : a = k := by simpa using hk
  subst hka
  obtain ⟨p1, p2⟩ := subsN_lt hs
  have han : a < n := p2 a (by simp)
  obtain ⟨c1, c2⟩ := chainP_snoc.mp hc
  obtain ⟨e1, e2⟩ := hE a han
  obtain ⟨q1, _, q3⟩ := List.pairwise_append.mp p1
  cases hl : l.getLast? with
  | none =>
    have : l = [] := by simpa using hl
    subst this
    rw [List.nil_append, csum_one]
    exact e1
  | some z =>
    have hne : l ≠ [] := by intro e; subst e; simp at hl
    have hz : z ∈ l := List.mem_of_getLast? hl
    rw [csum_snoc _ _ _ _ hne]
    have h1 := ih (subsN_mem q1 fun x hx => p2 x (by simp [hx])) c1 z hl
    have h2 := e2 z (q3 z hz a (by simp)) (c2 z hl)
    omega
theorem chain_ex (hE : ∀ k, k < n → E k = b k + w k ∨ ∃ i, i < k ∧ R i k = true ∧ E k = E i + w k) :
    ∀ k, k < n → ∃ s, s ∈ subsN (k + 1) ∧ chainP R s ∧ s.getLast? = some k ∧ csum b w s = E k := by
  intro k
  induction k using Nat.strongRecOn with
  | _ k ih =>
    intro hk
    rcases hE k hk with e | ⟨i, hi, hr, e⟩
    · refine ⟨[k], subsN_mem (by simp) (by simp), fun i a b h1 h2 => ?_, rfl, ?_⟩
      · simp at h2
      · rw [csum_one, e]
    · obtain ⟨s, s1, s2, s3, s4⟩ := ih i hi (by omega)
      have hne : s ≠ [] := by intro z; subst z; simp at s3
      refine ⟨s ++ [k], subsN_snoc (by omega) (subsN_mono (by omega) s1), chainP_snoc.mpr ⟨s2, fun a ha => ?_⟩, by simp, ?_⟩
      · rw [s3] at ha; cases ha; exact hr
      · rw [csum_snoc _ _ _ _ hne, s4, e]
end
/-! ENDs of a row keep this -/
section
variable {α : Type} (rel : α → α → Bool) (bs tk : α → Int) (q : List α)
theorem ends_rec {k : Nat} {p : α} {e : Int} (hp : q[k]? = some p) (he : (endsG rel bs tk q)[k]? = some e) :
    (bs p + tk p ≤ e) ∧ (∀ (i : Nat) (x : α) (ei : Int), i < k → q[i]? = some x → (endsG rel bs tk q)[i]? = some ei → rel x p = true → ei + tk p ≤ e) ∧
    (e = bs p + tk p ∨ ∃ (i : Nat) (x : α) (ei : Int), i < k ∧ q[i]? = some x ∧ (endsG rel bs tk q)[i]? = some ei ∧ rel x p = true ∧ e = ei + tk p) := by
  have hg := accE_get rel bs tk q k p hp
  have hee : e = accV rel bs tk (accE rel bs tk (q.take k)) p := by
    unfold endsG at he
    rw [List.getElem?_map, hg] at he
    exact (Option.some.inj he).symm
  subst hee
  have hin : ∀ (i : Nat) (x : α) (ei : Int), i < k → q[i]? = some x → (endsG rel bs tk q)[i]? = some ei → (x, ei) ∈ accE rel bs tk (q.take k) := by
    intro i x ei hi hx hei
    have h1 := accE_get rel bs tk q i x hx
    unfold endsG at hei
    rw [List.getElem?_map, h1] at hei
    rw [accE_take]
    have h2 : ((accE rel bs tk q).take k)[i]? = some (x, ei) := by
      rw [List.getElem?_take, if_pos hi, h1, ← Option.some.inj hei]
    exact List.mem_of_getElem? h2
  refine ⟨?_, fun i x ei hi hx hei hr => ?_, ?_⟩
  · have := le_mxf (b := bs p) (xs := ((accE rel bs tk (q.take k)).filter fun x => rel x.1 p).map (·.2))
    unfold accV
    omega
  · have hm := hin i x ei hi hx hei
    have := le_mxf_mem (b := bs p) (x := ei) (xs := ((accE rel bs tk (q.take k)).filter fun x => rel x.1 p).map (·.2)) (List.mem_map.mpr ⟨(x, ei), List.mem_filter.mpr ⟨hm, hr⟩, rfl⟩)
    unfold accV
    omega
  · rcases mxf_mem (b := bs p) (xs := ((accE rel bs tk (q.take k)).filter fun x => rel x.1 p).map (·.2)) with h | h
    · left; unfold accV; rw [h]
    · right
      obtain ⟨⟨x, ei⟩, hm, hx⟩ := List.mem_map.mp h
      obtain ⟨hm1, hm2⟩ := List.mem_filter.mp hm
      obtain ⟨i, hi, hxi⟩ := List.mem_iff_getElem.mp hm1
      have hik : i < k := by rw [accE_len, List.length_take] at hi; omega
      have h3 : (accE rel bs tk q)[i]? = some (x, ei) := by
        have : ((accE rel bs tk q).take k)[i]? = some (x, ei) := by rw [← accE_take, List.getElem?_eq_getElem hi, hxi]
        rw [List.getElem?_take, if_pos hik] at this
        exact this
      have h4 : q[i]? = some x := by
        have := congrArg (·[i]?) (accE_fst rel bs tk q)
        simp only [List.getElem?_map, h3, Option.map_some] at this
        exact this.symm
      have h5 : (endsG rel bs tk q)[i]? = some ei := by unfold endsG; rw [List.getElem?_map, h3]; rfl
      refine ⟨i, x, ei, hik, h4, h5, hm2, ?_⟩
      unfold accV
      rw [← hx]
end
theorem setI_sorted : ∀ {ns : List Int}, ns.Pairwise (· < ·) → setI ns = ns
  | [], _ => rfl
  | [x], _ => rfl
  | x :: y :: r, h => by
    have h2 := List.pairwise_cons.mp h
    show insI x (setI (y :: r)) = _
    rw [setI_sorted h2.2]
    show (if x < y then x :: y :: r else _) = _
    rw [if_pos (h2.1 y (by simp))]
/-- places as data -/
def natsI (s : List Nat) : List Int := s.map fun k : Nat => (k : Int)
def encS (s : List Nat) : PyData := .tuple ((natsI s).map .int)
theorem natsI_inj {s t : List Nat} (h : natsI s = natsI t) : s = t := by
  unfold natsI at h
  induction s generalizing t with
  | nil => cases t with
    | nil => rfl
    | cons b r => cases h
  | cons a l ih => cases t with
    | nil => cases h
    | cons b r =>
      simp only [List.map_cons, List.cons.injEq] at h
      rw [ih h.2, show a = b by omega]
theorem natsI_sorted {s : List Nat} (h : s.Pairwise (· < ·)) : (natsI s).Pairwise (· < ·) := by
  unfold natsI
  rw [List.pairwise_map]
  exact h.imp fun h => by omega
end BR
set_option Elab.async false
set_option linter.all false
set_option maxRecDepth 100000
set_option maxHeartbeats 4000000
/-! heights, aisles without waiting, first lines of fillings -/
namespace BR
open PySem
def atQ (q : List Pas) (f : Pas → Int) (k : Nat) : Int := match q[k]? with
  | some p => f p
  | none => 0
theorem lt_of_get {α : Type} {l : List α} {k : Nat} {x : α} (h : l[k]? = some x) : k < l.length := by
  rcases Nat.lt_or_ge k l.length with z | z
  · exact z
  · rw [List.getElem?_eq_none z] at h; cases h
section
variable (q : List Pas) (bs tk : Pas → Int)
theorem chains_up {s : List Nat} (hs : s ∈ subsN q.length) (hc : chainP (rowR q) s) {k : Nat} (hk : s.getLast? = some k) {e : Int} (he : (endsG relP bs tk q)[k]? = some e) : csum (atQ q bs) (atQ q tk) s ≤ e := by
  have := chain_le (E := fun k => ((endsG relP bs tk q)[k]?).getD 0) (b := atQ q bs) (w := atQ q tk) (R := rowR q) (n := q.length) (fun k hk => ?_) s hs hc k hk
  · simpa [he] using this
  · have hp : q[k]? = some q[k] := List.getElem?_eq_getElem hk
    have he : (endsG relP bs tk q)[k]? = some ((endsG relP bs tk q)[k]'(by rw [endsG_len]; exact hk)) := List.getElem?_eq_getElem _
    obtain ⟨h1, h2, _⟩ := ends_rec relP bs tk q hp he
    refine ⟨by simpa [atQ, hp, he] using h1, fun i hi hr => ?_⟩
    have hil : i < q.length := by omega
    have hpi : q[i]? = some q[i] := List.getElem?_eq_getElem hil
    have hei : (endsG relP bs tk q)[i]? = some ((endsG relP bs tk q)[i]'(by rw [endsG_len]; exact hil)) := List.getElem?_eq_getElem _
    have hr2 : relP q[i] q[k] = true := by simpa [rowR, hp, hpi, relP] using hr
    have := h2 i _ _ hi hpi hei hr2
    simpa [atQ, hp, he, hei] using this
theorem chains_at {k : Nat} {e : Int} (he : (endsG relP bs tk q)[k]? = some e) : ∃ s, s ∈ subsN q.length ∧ chainP (rowR q) s ∧ s.getLast? = some k ∧ csum (atQ q bs) (atQ q tk) s = e := by
  have hk : k < q.length := by have := lt_of_get he; rwa [endsG_len] at this
  have key := chain_ex (E := fun k => ((endsG relP bs tk q)[k]?).getD 0) (b := atQ q bs) (w := atQ q tk) (R := rowR q) (n := q.length) (fun k hk => ?_) k hk
  · obtain ⟨s, s1, s2, s3, s4⟩ := key
    exact ⟨s, subsN_mono hk s1, s2, s3, by rw [s4, he]; rfl⟩
  · have hp : q[k]? = some q[k] := List.getElem?_eq_getElem hk
    have he : (endsG relP bs tk q)[k]? = some ((endsG relP bs tk q)[k]'(by rw [endsG_len]; exact hk)) := List.getElem?_eq_getElem _
    obtain ⟨_, _, h3⟩ := ends_rec relP bs tk q hp he
    rcases h3 with h3 | ⟨i, x, ei, hi, hx, hei, hr, h3⟩
    · left; simpa [atQ, hp, he] using h3
    · right
      refine ⟨i, hi, by simpa [rowR, hp, hx, relP] using hr, ?_⟩
      simp [he, hei, atQ, hp, h3]
end
theorem csum_len (q : List Pas) (s : List Nat) (hs : ∀ k ∈ s, k < q.length) (hne : s ≠ []) : csum (atQ q fun _ => 0) (atQ q fun _ => 1) s = s.length := by
  have h1 : ∀ t : List Nat, (∀ k ∈ t, k < q.length) → (t.map (atQ q fun _ => 1)).sum = (t.length : Int) := fun t ht => by
    induction t with
    | nil => rfl
    | cons a r ih =>
      have ha := ht a (by simp)
      simp [ih fun k hk => ht k (by simp [hk]), atQ, List.getElem?_eq_getElem ha]
      omega
  cases s with
  | nil => exact absurd rfl hne
  | cons a r =>
    show atQ q (fun _ => 0) a + _ = _
    rw [h1 _ hs]
    have ha := hs a (by simp)
    simp [atQ, List.getElem?_eq_getElem ha]
/-- how long a chain that ends with each -/
abbrev hts (q : List Pas) : List Int := endsG relP (fun _ => 0) (fun _ => 1) q
noncomputable def chB (q : List Pas) (s : List Nat) : Bool := @decide (s ≠ [] ∧ chainP (rowR q) s) (Classical.propDecidable _)
theorem chB_iff {q : List Pas} {s : List Nat} : chB q s = true ↔ s ≠ [] ∧ chainP (rowR q) s := by
  unfold chB
  exact @decide_eq_true_iff _ (Classical.propDecidable _)
theorem hts_ge1 {q : List Pas} {k : Nat} {e : Int} (h : (hts q)[k]? = some e) : 1 ≤ e ∧ e ≤ k + 1 := by
  revert e
  induction k using Nat.strongRecOn with
  | _ k ih =>
    intro e h
    have hk : k < q.length := by have := lt_of_get h; rwa [endsG_len] at this
    obtain ⟨h1, _, h3⟩ := ends_rec relP (fun _ => 0) (fun _ => 1) q (List.getElem?_eq_getElem hk) h
    refine ⟨by simpa using h1, ?_⟩
    rcases h3 with rfl | ⟨i, x, ei, hi, _, hei, _, rfl⟩
    · simp; omega
    · have := (ih i hi hei).2
      omega
theorem longest_eq {q : List Pas} (hq : 1 ≤ q.length) {L : List (List Nat)} (hL : L.Perm (subsN q.length)) : imax ((L.filter (chB q)).map fun s => (s.length : Int)) = imax (hts q) := by
  have hne : hts q ≠ [] := fun e => by
    have h : (hts q).length = q.length := endsG_len _ _ _ _
    rw [e] at h
    have h0 : 0 = q.length := h
    omega
  refine imax_eq ?_ fun x hx => ?_
  · obtain ⟨k, hk, he⟩ := List.mem_iff_getElem.mp (imax_mem hne)
    obtain ⟨s, s1, s2, s3, s4⟩ := chains_at q (fun _ => 0) (fun _ => 1) (k := k) (e := imax (hts q)) (by rw [← he]; exact List.getElem?_eq_getElem hk)
    have hsn : s ≠ [] := by intro z; subst z; simp at s3
    rw [csum_len q s (subsN_lt s1).2 hsn] at s4
    exact List.mem_map.mpr ⟨s, List.mem_filter.mpr ⟨hL.mem_iff.mpr s1, chB_iff.mpr ⟨hsn, s2⟩⟩, s4⟩
  · obtain ⟨s, hs, rfl⟩ := List.mem_map.mp hx
    obtain ⟨h1, h2⟩ := List.mem_filter.mp hs
    obtain ⟨h3, h4⟩ := chB_iff.mp h2
    have hs2 := hL.mem_iff.mp h1
    obtain ⟨z, hz⟩ : ∃ z, s.getLast? = some z := by
      cases h : s.getLast? with
      | none => exact absurd (by simpa using h) h3
      | some z => exact ⟨z, rfl⟩
    have hzl := (subsN_lt hs2).2 z (List.mem_of_getLast? hz)
    have := chains_up q (fun _ => 0) (fun _ => 1) hs2 h4 hz (List.getElem?_eq_getElem (by rw [endsG_len]; exact hzl))
    rw [csum_len q s (subsN_lt hs2).2 h3] at this
    exact Int.le_trans this (le_imax (List.getElem_mem _))
theorem relP_trans {x y z : Pas} (h : relP x y = true) (h2 : relP y z = true) : relP x z = true := by
  unfold relP at *
  simp at *
  omega
/-- each lesser height stands ahead, too -/
theorem hts_down {q : List Pas} {k : Nat} {e : Int} {p : Pas} (hp : q[k]? = some p) (h : (hts q)[k]? = some e) (a : Int) (h1 : 1 ≤ a) (h2 : a ≤ e) : ∃ (i : Nat) (x : Pas), i ≤ k ∧ q[i]? = some x ∧ (hts q)[i]? = some a ∧ relP x p = true := by
  revert e p
  induction k using Nat.strongRecOn with
  | _ k ih =>
    intro e p hp h h2
    by_cases hae : a = e
    · subst hae; exact ⟨k, p, Nat.le_refl k, hp, h, by unfold relP; simp⟩
    · obtain ⟨_, _, h3⟩ := ends_rec relP (fun _ => 0) (fun _ => 1) q hp h
      rcases h3 with rfl | ⟨i, x, ei, hi, hx, hei, hr, rfl⟩
      · simp at h2 hae; omega
      · obtain ⟨j, y, j1, j2, j3, j4⟩ := ih i hi hx hei (by omega)
        exact ⟨j, y, by omega, j2, j3, relP_trans j4 hr⟩
/-- what is taken ahead, and what is free -/
theorem calm_free {q : List Pas} {k : Nat} {p : Pas} {e : Int} (hp : q[k]? = some p) (he : (hts q)[k]? = some e) (B : List Int)
    (hB : ∀ v, v ∈ B ↔ ∃ (i : Nat) (x : Pas) (ei : Int), i < k ∧ q[i]? = some x ∧ (hts q)[i]? = some ei ∧ relP x p = true ∧ v = ei - 1) :
    e - 1 ∉ B ∧ ∀ a : Int, 0 ≤ a → a < e - 1 → a ∈ B := by
  obtain ⟨_, h2, h3⟩ := ends_rec relP (fun _ => 0) (fun _ => 1) q hp he
  refine ⟨fun hm => ?_, fun a h0 h1 => ?_⟩
  · obtain ⟨i, x, ei, hi, hx, hei, hr, hv⟩ := (hB _).mp hm
    have := h2 i x ei hi hx hei hr
    omega
  · rcases h3 with rfl | ⟨i, x, ei, hi, hx, hei, hr, rfl⟩
    · simp at h1; omega
    · obtain ⟨j, y, j1, j2, j3, j4⟩ := hts_down hx hei (a + 1) (by omega) (by omega)
      exact (hB _).mpr ⟨j, y, a + 1, by omega, j2, j3, relP_trans j4 hr, by omega⟩
/-- the first free one -/
theorem free_first {n : Nat} {B : List Int} {a : Nat} (han : a < n) (h1 : (a : Int) ∉ B) (h2 : ∀ b : Nat, b < a → (b : Int) ∈ B) :
    ∃ r : List Nat, (List.range n).filter (fun k : Nat => decide (¬ (k : Int) ∈ B)) = a :: r ∧ ∀ x ∈ r, a < x := by
  have hsplit : List.range n = List.range a ++ (a :: (List.range' (a + 1) (n - a - 1))) := by
    rw [List.range_eq_range', List.range_eq_range', ← List.range'_succ, show n - a - 1 + 1 = n - a by omega]
    have := List.range'_append_1 (s := 0) (m := a) (n := n - a)
    rw [Nat.zero_add, show a + (n - a) = n by omega] at this
    exact this.symm
  rw [hsplit, List.filter_append, List.filter_eq_nil_iff.mpr, List.nil_append, List.filter_cons_of_pos]
  · refine ⟨_, rfl, fun x hx => ?_⟩
    have := (List.mem_filter.mp hx).1
    rw [List.mem_range'] at this
    obtain ⟨i, hi, rfl⟩ := this
    omega
  · simpa using h1
  · intro b hb
    simp [h2 b (List.mem_range.mp hb)]
/-! into a line -/
def insL : List Int → Int → List Int × List Int
  | [], x => ([x], [])
  | a :: r, x => if x < a then (x :: r, [a]) else (a :: (insL r x).1, (insL r x).2)
theorem insL_end {l : List Int} {x : Int} (h : ∀ a ∈ l, ¬ x < a) : insL l x = (l ++ [x], []) := by
  induction l with
  | nil => rfl
  | cons a r ih =>
    rw [insL, if_neg (h a (by simp)), ih fun b hb => h b (by simp [hb])]
    rfl
theorem insL_mid {pre post : List Int} {a x : Int} (h : ∀ b ∈ pre, ¬ x < b) (ha : x < a) : insL (pre ++ a :: post) x = (pre ++ x :: post, [a]) := by
  induction pre with
  | nil => show insL (a :: post) x = _; rw [insL, if_pos ha]; rfl
  | cons b r ih =>
    show insL (b :: (r ++ a :: post)) x = _
    rw [insL, if_neg (h b (by simp)), ih fun c hc => h c (by simp [hc])]
    rfl
theorem insL_cases (l : List Int) (x : Int) : (∀ a ∈ l, ¬ x < a) ∨ ∃ pre a post, l = pre ++ a :: post ∧ (∀ b ∈ pre, ¬ x < b) ∧ x < a := by
  induction l with
  | nil => left; simp
  | cons a r ih =>
    by_cases h : x < a
    · right; exact ⟨[], a, r, rfl, by simp, h⟩
    · rcases ih with h2 | ⟨pre, b, post, rfl, h3, h4⟩
      · left
        intro c hc
        rcases List.mem_cons.mp hc with rfl | hc
        · exact h
        · exact h2 c hc
      · right
        refine ⟨a :: pre, b, post, rfl, fun c hc => ?_, h4⟩
        rcases List.mem_cons.mp hc with rfl | hc
        · exact h
        · exact h3 c hc
def growL : List (List Int) → Int → List (List Int) × Nat
  | [], x => ([[x]], 0)
  | l :: ls, x => match (insL l x).2 with
    | [] => ((insL l x).1 :: ls, 0)
    | a :: _ => ((insL l x).1 :: (growL ls a).1, (growL ls a).2 + 1)
theorem growL_len (ls : List (List Int)) (x : Int) : (growL ls x).1.length = max ls.length ((growL ls x).2 + 1) ∧ (growL ls x).2 ≤ ls.length := by
  induction ls generalizing x with
  | nil => simp [growL]
  | cons l ls ih =>
    unfold growL
    cases h : (insL l x).2 with
    | nil => simp
    | cons a r =>
      have := ih a
      simp
      omega
def rskOf (q : List Pas) : List (List Int) := q.foldl (fun ls p => (growL ls p.row).1) []
def rsk1Of (q : List Pas) : List Int := q.foldl (fun l p => (insL l p.row).1) []
theorem lines_first (q : List Pas) : (rskOf q)[0]? = if q = [] then none else some (rsk1Of q) := by
  refine snoc_ind (P := fun q => (rskOf q)[0]? = if q = [] then none else some (rsk1Of q)) rfl (fun l p ih => ?_) q
  unfold rskOf rsk1Of at *
  rw [List.foldl_append, List.foldl_append, if_neg (by simp)]
  simp only [List.foldl_cons, List.foldl_nil]
  generalize hA : l.foldl (fun ls p => (growL ls p.row).1) [] = A at *
  cases A with
  | nil =>
    by_cases hl : l = []
    · subst hl; rfl
    · rw [if_neg hl] at ih; cases ih
  | cons a r =>
    by_cases hl : l = []
    · subst hl; cases hA
    · rw [if_neg hl] at ih
      have : a = l.foldl (fun l p => (insL l p.row).1) [] := by simpa using ih
      rw [← this, growL]
      cases h : (insL a p.row).2 with
      | nil => rfl
      | cons b s => rfl
theorem rskOf_len (q : List Pas) : (rskOf q).length ≤ q.length := by
  refine snoc_ind (P := fun q => (rskOf q).length ≤ q.length) (Nat.le_refl _) (fun l p ih => ?_) q
  unfold rskOf at *
  rw [List.foldl_append]
  simp only [List.foldl_cons, List.foldl_nil]
  have := growL_len (l.foldl (fun ls p => (growL ls p.row).1) []) p.row
  rw [List.length_append]
  simp <;> omega
theorem insL_len (l : List Int) (x : Int) : (insL l x).1.length ≤ l.length + 1 ∧ (insL l x).2.length ≤ 1 := by
  induction l with
  | nil => simp [insL]
  | cons a r ih =>
    unfold insL
    split
    · simp
    · simp; omega
theorem growL_each (ls : List (List Int)) (x : Int) (N : Nat) (h : ∀ l ∈ ls, l.length ≤ N) : ∀ l ∈ (growL ls x).1, l.length ≤ N + 1 := by
  induction ls generalizing x with
  | nil => intro l hl; simp [growL] at hl; subst hl; simp
  | cons a r ih =>
    have h1 := (insL_len a x).1
    have h2 := h a (by simp)
    unfold growL
    split
    · intro l hl
      rcases List.mem_cons.mp hl with rfl | z
      · omega
      · have := h l (by simp [z]); omega
    · intro l hl
      rcases List.mem_cons.mp hl with rfl | z
      · omega
      · exact ih _ (fun l hl => h l (by simp [hl])) l z
theorem rskOf_each (q : List Pas) : ∀ l ∈ rskOf q, l.length ≤ q.length := by
  refine snoc_ind (P := fun q => ∀ l ∈ rskOf q, l.length ≤ q.length) (fun l hl => by simp [rskOf] at hl) (fun l p ih => ?_) q
  unfold rskOf at *
  rw [List.foldl_append, List.length_append]
  exact growL_each _ _ _ ih
/-- the first line tells the heights -/
structure FirstI (q : List Pas) (r : List Int) : Prop where
  up : r.Pairwise (· ≤ ·)
  b : ∀ (i : Nat) (p : Pas) (h : Int), q[i]? = some p → (hts q)[i]? = some h → ∃ (t : Nat) (y : Int), (t : Int) + 1 = h ∧ r[t]? = some y ∧ y ≤ p.row
  c : ∀ (t : Nat) (y : Int), r[t]? = some y → ∃ (i : Nat) (p : Pas), q[i]? = some p ∧ (hts q)[i]? = some ((t : Int) + 1) ∧ p.row = y
theorem first_inv (q : List Pas) : FirstI q (rsk1Of q) := by
  refine snoc_ind (P := fun q => FirstI q (rsk1Of q)) ⟨List.Pairwise.nil, fun i p h h1 => by simp at h1, fun t y h => by simp [rsk1Of] at h⟩ (fun l p ih => ?_) q
  have hf : rsk1Of (l ++ [p]) = (insL (rsk1Of l) p.row).1 := by unfold rsk1Of; rw [List.foldl_append]; rfl
  rw [hf]
  generalize rsk1Of l = r at ih
  obtain ⟨hup, hb, hc⟩ := ih
  have hts_old : ∀ i, i < l.length → (hts (l ++ [p]))[i]? = (hts l)[i]? := fun i hi => by
    show (endsG relP (fun _ => 0) (fun _ => 1) (l ++ [p]))[i]? = _
    rw [endsG_snoc, List.getElem?_append_left (by rw [endsG_len]; exact hi)]
  have q_old : ∀ i, i < l.length → (l ++ [p])[i]? = l[i]? := fun i hi => List.getElem?_append_left hi
  have hnew : (hts (l ++ [p]))[l.length]? = some (accV relP (fun _ => 0) (fun _ => 1) (accE relP (fun _ => 0) (fun _ => 1) l) p) := by
    show (endsG relP (fun _ => 0) (fun _ => 1) (l ++ [p]))[l.length]? = _
    rw [endsG_snoc, List.getElem?_append_right (by rw [endsG_len]; omega), endsG_len, Nat.sub_self]
    rfl
  have pnew : (l ++ [p])[l.length]? = some p := by simp
  generalize accV relP (fun _ => 0) (fun _ => 1) (accE relP (fun _ => 0) (fun _ => 1) l) p = V at hnew
  obtain ⟨v1, v2, v3⟩ := ends_rec relP (fun _ => 0) (fun _ => 1) (l ++ [p]) pnew hnew
  -- the height of the new one by where it stands
  have hV : ∀ t : Nat, t ≤ r.length → (∀ u y, u < t → r[u]? = some y → y ≤ p.row) → (∀ u y, t ≤ u → r[u]? = some y → p.row < y) → V = (t : Int) + 1 := by
    intro t ht h1 h2
    apply Int.le_antisymm
    · rcases v3 with rfl | ⟨i, x, ei, hi, hx, hei, hr, rfl⟩
      · simp; omega
      · rw [q_old i hi] at hx
        rw [hts_old i hi] at hei
        obtain ⟨u, y, hu, hy, hle⟩ := hb i x ei hx hei
        have hrr : x.row ≤ p.row := by simpa [relP] using hr
        rcases Nat.lt_or_ge u t with z | z
        · omega
        · have := h2 u y z hy; omega
    · rcases Nat.eq_zero_or_pos t with z | z
      · subst z; simpa using v1
      · have hy : r[t - 1]? = some r[t - 1] := List.getElem?_eq_getElem (by omega)
        obtain ⟨i, x, hx, hei, hxr⟩ := hc (t - 1) _ hy
        have hi := lt_of_get hx
        have := v2 i x _ hi (by rw [q_old i hi]; exact hx) (by rw [hts_old i hi]; exact hei) (by
          have := h1 (t - 1) _ (by omega) hy
          simp [relP]
          omega)
        omega
  -- old ones and the new one
  have hold : ∀ (i : Nat) (p' : Pas) (h : Int), (l ++ [p])[i]? = some p' → (hts (l ++ [p]))[i]? = some h → (i < l.length ∧ l[i]? = some p' ∧ (hts l)[i]? = some h) ∨ (p' = p ∧ h = V) := by
    intro i p' h h1 h2
    rcases Nat.lt_or_ge i l.length with z | z
    · rw [q_old i z] at h1
      rw [hts_old i z] at h2
      exact .inl ⟨z, h1, h2⟩
    · have := lt_of_get h1
      simp at this
      have : i = l.length := by omega
      subst this
      rw [pnew] at h1
      rw [hnew] at h2
      exact .inr ⟨(Option.some.inj h1).symm, (Option.some.inj h2).symm⟩
  rcases insL_cases r p.row with h | ⟨pre, a, post, rfl, h1, h2⟩
  · rw [insL_end h]
    have hVe := hV r.length (Nat.le_refl _) (fun u y _ hy => Int.not_lt.mp (h y (List.mem_of_getElem? hy))) (fun u y hu hy => by have := lt_of_get hy; omega)
    refine ⟨List.pairwise_append.mpr ⟨hup, by simp, fun x hx y hy => ?_⟩, fun i p' hh g1 g2 => ?_, fun t y hy => ?_⟩
    · simp at hy; subst hy; exact Int.not_lt.mp (h x hx)
    · rcases hold i p' hh g1 g2 with ⟨z1, z2, z3⟩ | ⟨rfl, rfl⟩
      · obtain ⟨t, y, t1, t2, t3⟩ := hb i p' hh z2 z3
        exact ⟨t, y, t1, by rw [List.getElem?_append_left (lt_of_get t2)]; exact t2, t3⟩
      · exact ⟨r.length, p'.row, hVe.symm, by simp, Int.le_refl _⟩
    · rcases Nat.lt_or_ge t r.length with z | z
      · rw [List.getElem?_append_left z] at hy
        obtain ⟨i, x, hx, hei, hxr⟩ := hc t y hy
        have hi := lt_of_get hx
        exact ⟨i, x, by rw [q_old i hi]; exact hx, by rw [hts_old i hi]; exact hei, hxr⟩
      · have := lt_of_get hy
        simp at this
        have : t = r.length := by omega
        subst this
        simp at hy
        exact ⟨l.length, p, pnew, by rw [hnew, hVe], hy⟩
  · rw [insL_mid h1 h2]
    have ha : (pre ++ a :: post)[pre.length]? = some a := by simp
    obtain ⟨u1, u2, u3⟩ := List.pairwise_append.mp hup
    obtain ⟨w1, w2⟩ := List.pairwise_cons.mp u2
    have hVe := hV pre.length (by simp) (fun u y hu hy => by
      rw [List.getElem?_append_left hu] at hy
      exact Int.not_lt.mp (h1 y (List.mem_of_getElem? hy))) (fun u y hu hy => by
      rw [List.getElem?_append_right hu] at hy
      have := List.mem_of_getElem? hy
      rcases List.mem_cons.mp this with rfl | z
      · exact h2
      · have := w1 y z; omega)
    have hget : ∀ t, t ≠ pre.length → (pre ++ p.row :: post)[t]? = (pre ++ a :: post)[t]? := fun t ht => by
      rcases Nat.lt_or_ge t pre.length with z | z
      · rw [List.getElem?_append_left z, List.getElem?_append_left z]
      · rw [List.getElem?_append_right z, List.getElem?_append_right z]
        obtain ⟨m, hm⟩ : ∃ m, t - pre.length = m + 1 := ⟨t - pre.length - 1, by omega⟩
        rw [hm]; rfl
    refine ⟨List.pairwise_append.mpr ⟨u1, List.pairwise_cons.mpr ⟨fun x hx => by have := w1 x hx; omega, w2⟩, fun x hx y hy => ?_⟩, fun i p' hh g1 g2 => ?_, fun t y hy => ?_⟩
    · rcases List.mem_cons.mp hy with rfl | z
      · exact Int.not_lt.mp (h1 x hx)
      · exact u3 x hx y (by simp [z])
    · rcases hold i p' hh g1 g2 with ⟨z1, z2, z3⟩ | ⟨rfl, rfl⟩
      · obtain ⟨t, y, t1, t2, t3⟩ := hb i p' hh z2 z3
        by_cases ht : t = pre.length
        · subst ht
          rw [ha] at t2
          have hay := Option.some.inj t2
          exact ⟨pre.length, p.row, t1, by simp, by omega⟩
        · exact ⟨t, y, t1, by rw [hget t ht]; exact t2, t3⟩
      · exact ⟨pre.length, p'.row, hVe.symm, by simp, Int.le_refl _⟩
    · by_cases ht : t = pre.length
      · subst ht
        have : y = p.row := by simpa using hy.symm
        exact ⟨l.length, p, pnew, by rw [hnew, hVe], this.symm⟩
      · rw [hget t ht] at hy
        obtain ⟨i, x, hx, hei, hxr⟩ := hc t y hy
        have hi := lt_of_get hx
        exact ⟨i, x, by rw [q_old i hi]; exact hx, by rw [hts_old i hi]; exact hei, hxr⟩
theorem first_len {q : List Pas} (hq : 1 ≤ q.length) : ((rsk1Of q).length : Int) = imax (hts q) := by
  have I := first_inv q
  symm
  refine imax_eq ?_ fun x hx => ?_
  · have hpos : 0 < (rsk1Of q).length := by
      have h0 : (hts q)[0]? = some ((hts q)[0]'(by rw [endsG_len]; omega)) := List.getElem?_eq_getElem _
      obtain ⟨t, y, _, ht, _⟩ := I.b 0 q[0] _ (List.getElem?_eq_getElem (by omega)) h0
      have := lt_of_get ht
      omega
    obtain ⟨i, p, _, h2, _⟩ := I.c ((rsk1Of q).length - 1) _ (List.getElem?_eq_getElem (by omega))
    have := List.mem_of_getElem? h2
    rwa [show (((rsk1Of q).length - 1 : Nat) : Int) + 1 = (rsk1Of q).length by omega] at this
  · obtain ⟨i, hi, rfl⟩ := List.mem_iff_getElem.mp hx
    have hiq : i < q.length := by rwa [endsG_len] at hi
    obtain ⟨t, y, ht1, ht2, _⟩ := I.b i q[i] _ (List.getElem?_eq_getElem hiq) (List.getElem?_eq_getElem hi)
    have := lt_of_get ht2
    omega
theorem mem_setI {x : Int} {ns : List Int} : x ∈ setI ns ↔ x ∈ ns := by
  have ins : ∀ (k : Int) (l : List Int), x ∈ insI k l ↔ x = k ∨ x ∈ l := fun k l => by
    induction l with
    | nil => simp [insI]
    | cons a r ih =>
      unfold insI
      split
      · simp
      · split
        · rename_i h; subst h; simp
        · simp [ih]
          constructor
          · rintro (h | h | h) <;> simp [h]
          · rintro (h | h | h) <;> simp [h]
  induction ns with
  | nil => simp [setI]
  | cons a r ih =>
    show x ∈ insI a (setI r) ↔ x ∈ a :: r
    rw [ins]
    simp [ih]
theorem setI_up (ns : List Int) : (setI ns).Pairwise (· < ·) := by
  have mem : ∀ (x k : Int) (l : List Int), x ∈ insI k l → x = k ∨ x ∈ l := fun x k l => by
    induction l with
    | nil => simp [insI]
    | cons a r ih =>
      unfold insI
      split
      · simp
      · split
        · intro h; exact .inr h
        · intro h
          rcases List.mem_cons.mp h with h | h
          · exact .inr (by simp [h])
          · rcases ih h with h | h
            · exact .inl h
            · exact .inr (by simp [h])
  have ins : ∀ (k : Int) (l : List Int), l.Pairwise (· < ·) → (insI k l).Pairwise (· < ·) := fun k l => by
    induction l with
    | nil => intro _; simp [insI]
    | cons a r ih =>
      intro h
      obtain ⟨h1, h2⟩ := List.pairwise_cons.mp h
      unfold insI
      split
      · rename_i hk
        refine List.pairwise_cons.mpr ⟨fun x hx => ?_, h⟩
        rcases List.mem_cons.mp hx with rfl | z
        · exact hk
        · have := h1 x z; omega
      · split
        · exact h
        · refine List.pairwise_cons.mpr ⟨fun x hx => ?_, ih h2⟩
          rcases mem x k r hx with rfl | z
          · omega
          · exact h1 x z
  induction ns with
  | nil => exact List.Pairwise.nil
  | cons a r ih => exact ins a _ ih
/-- as many aisles as the greatest height -/
theorem calm_many {q : List Pas} (hq : 1 ≤ q.length) : ((setI ((hts q).map (· - 1))).length : Int) = imax (hts q) := by
  have hne : hts q ≠ [] := fun e => by
    have h : (hts q).length = q.length := endsG_len _ _ _ _
    rw [e] at h
    have h0 : 0 = q.length := h
    omega
  obtain ⟨k, hk, he⟩ := List.mem_iff_getElem.mp (imax_mem hne)
  have hkq : k < q.length := by rwa [endsG_len] at hk
  have hge := hts_ge1 (List.getElem?_eq_getElem hk)
  rw [he] at hge
  have hp : (setI ((hts q).map (· - 1))).Perm ((List.range (imax (hts q)).toNat).map fun k : Nat => (k : Int)) := by
    refine (List.perm_ext_iff_of_nodup ((setI_up _).imp fun h => by omega) ?_).mpr fun x => ?_
    · rw [List.Nodup, List.pairwise_map]
      exact List.nodup_range.imp fun h => by omega
    · rw [mem_setI]
      constructor
      · intro hx
        obtain ⟨h, hh, rfl⟩ := List.mem_map.mp hx
        obtain ⟨i, hi, rfl⟩ := List.mem_iff_getElem.mp hh
        have h1 := hts_ge1 (List.getElem?_eq_getElem hi)
        have h2 := le_imax hh
        refine List.mem_map.mpr ⟨((hts q)[i] - 1).toNat, List.mem_range.mpr (by omega), by omega⟩
      · intro hx
        obtain ⟨m, hm, rfl⟩ := List.mem_map.mp hx
        have := List.mem_range.mp hm
        obtain ⟨i, y, _, _, h3, _⟩ := hts_down (List.getElem?_eq_getElem hkq) (List.getElem?_eq_getElem hk) ((m : Int) + 1) (by omega) (by rw [he]; omega)
        exact List.mem_map.mpr ⟨_, List.mem_of_getElem? h3, by omega⟩
  rw [hp.length_eq, List.length_map, List.length_range]
  omega
end BR
set_option Elab.async false
set_option linter.all false
set_option maxRecDepth 100000
set_option maxHeartbeats 4000000
/-! aisles -/
namespace BR
open PySem
abbrev accH (q : List Pas) : List (Pas × Int) := accE relP (fun _ => 0) (fun _ => 1) q
def calmA (q : List Pas) : List Int := (hts q).map (· - 1)
theorem calmA_len (q : List Pas) : (calmA q).length = q.length := by
  unfold calmA; rw [List.length_map]; exact endsG_len _ _ _ _
def barA (q : List Pas) (k : Nat) (p : Pas) : List Int := ((accH (q.take k)).filter fun x => relP x.1 p).map fun x => x.2 - 1
theorem calm_step {q : List Pas} {k : Nat} {p : Pas} (hp : q[k]? = some p) : ∃ (a : Nat) (r : List Nat), (calmA q)[k]? = some (a : Int) ∧ (List.range (k + 1)).filter (fun i : Nat => decide (¬ (i : Int) ∈ barA q k p)) = a :: r ∧ ∀ x ∈ r, a < x := by
  have hk := lt_of_get hp
  have hkh : k < (hts q).length := by rw [endsG_len]; exact hk
  have he : (hts q)[k]? = some (hts q)[k] := List.getElem?_eq_getElem hkh
  have hge := hts_ge1 he
  obtain ⟨h1, h2⟩ := calm_free hp he (barA q k p) (fun v => by
    unfold barA
    rw [List.mem_map]
    constructor
    · rintro ⟨⟨x, ei⟩, hm, rfl⟩
      obtain ⟨hm1, hm2⟩ := List.mem_filter.mp hm
      obtain ⟨i, hi, hxi⟩ := List.mem_iff_getElem.mp hm1
      have hik : i < k := by rw [accE_len, List.length_take] at hi; omega
      have h3 : (accH q)[i]? = some (x, ei) := by
        have : ((accH q).take k)[i]? = some (x, ei) := by rw [← accE_take, List.getElem?_eq_getElem hi, hxi]
        rw [List.getElem?_take, if_pos hik] at this
        exact this
      refine ⟨i, x, ei, hik, ?_, ?_, hm2, rfl⟩
      · have := congrArg (·[i]?) (accE_fst relP (fun _ => 0) (fun _ => 1) q)
        simp only [List.getElem?_map] at this
        rw [show (accE relP (fun _ => 0) (fun _ => 1) q)[i]? = some (x, ei) from h3] at this
        exact this.symm
      · show ((accH q).map (·.2))[i]? = _
        rw [List.getElem?_map, h3]; rfl
    · rintro ⟨i, x, ei, hi, hx, hei, hr, rfl⟩
      refine ⟨(x, ei), List.mem_filter.mpr ⟨?_, hr⟩, rfl⟩
      have h1 := accE_get relP (fun _ => 0) (fun _ => 1) q i x hx
      have h2 : (hts q)[i]? = ((accE relP (fun _ => 0) (fun _ => 1) q)[i]?).map (·.2) := List.getElem?_map
      rw [hei, h1] at h2
      have h3 : ei = _ := Option.some.inj h2
      rw [h3]
      refine List.mem_of_getElem? (i := i) ?_
      rw [show accH (q.take k) = (accE relP (fun _ => 0) (fun _ => 1) q).take k from accE_take _ _ _ _ _, List.getElem?_take, if_pos hi, h1])
  obtain ⟨r, hr1, hr2⟩ := free_first (n := k + 1) (B := barA q k p) (a := ((hts q)[k] - 1).toNat) (by omega) (by rw [show ((((hts q)[k] - 1).toNat : Nat) : Int) = (hts q)[k] - 1 by omega]; exact h1) (fun b hb => h2 b (by omega) (by omega))
  refine ⟨((hts q)[k] - 1).toNat, r, ?_, hr1, hr2⟩
  unfold calmA
  rw [List.getElem?_map, he]
  show some ((hts q)[k] - 1) = _
  congr 1
  omega
theorem calmA_take (q : List Pas) (k : Nat) : calmA (q.take k) = (calmA q).take k := by
  unfold calmA
  rw [show hts (q.take k) = (accE relP (fun _ => 0) (fun _ => 1) (q.take k)).map (·.2) from rfl, accE_take, show hts q = (accE relP (fun _ => 0) (fun _ => 1) q).map (·.2) from rfl, List.map_take, List.map_take]
theorem calmA_succ {q : List Pas} {k : Nat} {a : Int} (h : (calmA q)[k]? = some a) : calmA (q.take (k + 1)) = calmA (q.take k) ++ [a] := by
  rw [calmA_take, calmA_take, List.take_succ, h]; rfl
theorem imin_nats {a : Nat} {r : List Nat} (h : ∀ x ∈ r, a < x) : imin ((a :: r).map fun k : Nat => (k : Int)) = a := by
  refine imin_eq (by simp) fun x hx => ?_
  obtain ⟨b, hb, rfl⟩ := List.mem_map.mp hx
  rcases List.mem_cons.mp hb with rfl | z
  · omega
  · have := h b z; omega
theorem pre_zipIdx {α : Type} {l : List α} {pre : List (α × Nat)} {x : α} {k : Nat} {post : List (α × Nat)} (h : pre ++ (x, k) :: post = l.zipIdx) : k = pre.length ∧ l[k]? = some x := by
  have h1 : l.zipIdx[pre.length]? = some (x, k) := by rw [← h]; simp
  rw [List.getElem?_zipIdx] at h1
  cases hl : l[pre.length]? with
  | none => rw [hl] at h1; cases h1
  | some y =>
    rw [hl] at h1
    simp at h1
    obtain ⟨rfl, rfl⟩ := h1
    exact ⟨rfl, hl⟩
/-! in aisles: passengers, each with the own aisle -/
def relA (x y : Pas × Int) : Bool := relP x.1 y.1 && x.2 == y.2
abbrev accA (z : List (Pas × Int)) : List ((Pas × Int) × Int) := accE relA (fun _ => 0) (fun x => x.1.takes) z
def timeA (z : List (Pas × Int)) : Int := mxf 0 ((accA z).map (·.2))
def inA (z : List (Pas × Int)) (a : Int) : List Pas := (z.filter fun x => x.2 == a).map (·.1)
theorem accA_in (z : List (Pas × Int)) (a : Int) : endsP (inA z a) = ((accA z).filter fun x => x.1.2 == a).map (·.2) := by
  have h1 := accE_filter relA (fun _ => 0) (fun x => x.1.takes) (fun x : Pas × Int => x.2 == a) (fun x y hy hr => by
    simp [relA] at *
    rw [hr.2, hy]) z
  have h2 : accE relA (fun _ => 0) (fun x : Pas × Int => x.1.takes) (z.filter fun x => x.2 == a) = accE (fun x y : Pas × Int => relP x.1 y.1) (fun _ => 0) (fun x => x.1.takes) (z.filter fun x => x.2 == a) := by
    have : ∀ l : List (Pas × Int), (∀ x ∈ l, x.2 = a) → accE relA (fun _ => 0) (fun x : Pas × Int => x.1.takes) l = accE (fun x y : Pas × Int => relP x.1 y.1) (fun _ => 0) (fun x => x.1.takes) l := fun l => by
      refine snoc_ind (P := fun l => (∀ x ∈ l, x.2 = a) → accE relA (fun _ => 0) (fun x : Pas × Int => x.1.takes) l = accE (fun x y : Pas × Int => relP x.1 y.1) (fun _ => 0) (fun x => x.1.takes) l) (fun _ => rfl) (fun l p ih h => ?_) l
      rw [accE_snoc, accE_snoc, ih fun x hx => h x (by simp [hx])]
      congr 3
      unfold accV
      congr 3
      refine List.filter_congr fun x hx => ?_
      have hx1 : x.1 ∈ l := by
        have := List.mem_map_of_mem (f := (·.1)) hx
        rwa [accE_fst] at this
      have := h x.1 (by simp [hx1])
      have := h p (by simp)
      simp [relA, *]
    exact this _ fun x hx => by simpa using (List.mem_filter.mp hx).2
  have h3 := accE_map relP (fun _ => 0) Pas.takes (fun x : Pas × Int => x.1) (z.filter fun x => x.2 == a)
  show (accE relP (fun _ => 0) Pas.takes (inA z a)).map (·.2) = _
  unfold inA
  rw [← h3, ← h2, ← h1, List.map_map]
  rfl
theorem timeA_le {z : List (Pas × Int)} {m : Int} (h0 : 0 ≤ m) : timeA z ≤ m ↔ ∀ a : Int, timeP (inA z a) ≤ m := by
  unfold timeA timeP
  rw [mxf_le]
  constructor
  · rintro ⟨_, h⟩ a
    rw [mxf_le]
    refine ⟨h0, fun x hx => ?_⟩
    rw [accA_in] at hx
    obtain ⟨y, hy, rfl⟩ := List.mem_map.mp hx
    exact h _ (List.mem_map.mpr ⟨y, (List.mem_filter.mp hy).1, rfl⟩)
  · intro h
    refine ⟨h0, fun x hx => ?_⟩
    obtain ⟨y, hy, rfl⟩ := List.mem_map.mp hx
    have := (mxf_le.mp (h y.1.2)).2 y.2
    refine this ?_
    rw [accA_in]
    exact List.mem_map.mpr ⟨y, List.mem_filter.mpr ⟨hy, by simp⟩, rfl⟩
/-- the greatest time of the aisles, aisle by aisle -/
theorem timeA_fold (z : List (Pas × Int)) (as : List Int) (h : ∀ x ∈ z, x.2 ∈ as) : as.foldl (fun m a => max m (timeP (inA z a))) 0 = timeA z := by
  have e : ∀ (b : Int) (l : List Int), l.foldl (fun m a => max m (timeP (inA z a))) b = mxf b (l.map fun a => timeP (inA z a)) := fun b l => by
    unfold mxf
    rw [List.foldl_map]
  rw [e]
  refine eq_of_le fun m => ?_
  rw [mxf_le]
  have hpos : 0 ≤ timeA z := le_mxf
  constructor
  · rintro ⟨h0, h1⟩
    refine (timeA_le h0).mpr fun a => ?_
    by_cases ha : a ∈ as
    · exact h1 _ (List.mem_map.mpr ⟨a, ha, rfl⟩)
    · have : inA z a = [] := by
        unfold inA
        rw [List.filter_eq_nil_iff.mpr]
        · rfl
        · intro x hx hxa
          have := h x hx
          rw [show x.2 = a by simpa using hxa] at this
          exact ha this
      rw [this]
      exact h0
  · intro h0
    have : 0 ≤ m := by omega
    refine ⟨this, fun x hx => ?_⟩
    obtain ⟨a, _, rfl⟩ := List.mem_map.mp hx
    exact (timeA_le this).mp h0 a
/-- in calm aisles nobody waits -/
theorem timeA_calm (q : List Pas) (hq : 1 ≤ q.length) (hok : ∀ p ∈ q, 1 ≤ p.takes) : timeA (q.zip (calmA q)) = imax (q.map (·.takes)) := by
  have hzl : (q.zip (calmA q)).length = q.length := by rw [List.length_zip, calmA_len, Nat.min_self]
  have key : ∀ (k : Nat) (x : Pas × Int) (e : Int), (q.zip (calmA q))[k]? = some x → (endsG relA (fun _ => 0) (fun x => x.1.takes) (q.zip (calmA q)))[k]? = some e → e = x.1.takes := by
    intro k
    intro x e hx he
    obtain ⟨_, _, h3⟩ := ends_rec relA (fun _ => 0) (fun x => x.1.takes) (q.zip (calmA q)) hx he
    rcases h3 with rfl | ⟨i, y, ei, hi, hy, _, hr, _⟩
    · simp
    · exfalso
      obtain ⟨hx1, hx2⟩ := List.getElem?_zip_eq_some.mp hx
      obtain ⟨hy1, hy2⟩ := List.getElem?_zip_eq_some.mp hy
      unfold calmA at hx2 hy2
      rw [List.getElem?_map] at hx2 hy2
      cases hx3 : (hts q)[k]? with
      | none => rw [hx3] at hx2; cases hx2
      | some a =>
        cases hy3 : (hts q)[i]? with
        | none => rw [hy3] at hy2; cases hy2
        | some b =>
          rw [hx3] at hx2
          rw [hy3] at hy2
          have e1 : a - 1 = x.2 := Option.some.inj hx2
          have e2 : b - 1 = y.2 := Option.some.inj hy2
          simp [relA] at hr
          have := (ends_rec relP (fun _ => 0) (fun _ => 1) q hx1 hx3).2.1 i y.1 b hi hy1 hy3 hr.1
          omega
  have hmap : (accA (q.zip (calmA q))).map (·.2) = q.map (·.takes) := by
    refine List.ext_getElem? fun k => ?_
    rw [List.getElem?_map (l := q)]
    cases hk : q[k]? with
    | none =>
      rw [List.getElem?_eq_none]
      · rfl
      · rw [List.length_map, accE_len, hzl]
        exact List.getElem?_eq_none_iff.mp hk
    | some p =>
      have hkl := lt_of_get hk
      have h1 : (endsG relA (fun _ => 0) (fun x => x.1.takes) (q.zip (calmA q)))[k]? = some ((endsG relA (fun _ => 0) (fun x => x.1.takes) (q.zip (calmA q)))[k]'(by rw [endsG_len, hzl]; exact hkl)) := List.getElem?_eq_getElem _
      have h2 : (q.zip (calmA q))[k]? = some (p, (calmA q)[k]'(by rw [calmA_len]; exact hkl)) := List.getElem?_zip_eq_some.mpr ⟨hk, List.getElem?_eq_getElem _⟩
      have := key k _ _ h2 h1
      show (endsG relA (fun _ => 0) (fun x => x.1.takes) (q.zip (calmA q)))[k]? = _
      rw [h1, this]
      rfl
  unfold timeA
  rw [hmap]
  have hne : q.map (·.takes) ≠ [] := by
    intro e
    have := congrArg List.length e
    rw [List.length_map] at this
    have : q.length = 0 := this
    omega
  refine eq_of_le fun m => ?_
  rw [mxf_le, imax_le hne]
  refine ⟨fun h => h.2, fun h => ⟨?_, h⟩⟩
  have h1 := h _ (imax_mem hne)
  obtain ⟨p, hp, e⟩ := List.mem_map.mp (imax_mem hne)
  have := hok p hp
  omega
end BR
set_option Elab.async false
set_option linter.all false
set_option maxRecDepth 100000
set_option maxHeartbeats 4000000
/-! the first one that is least; all aisles -/
namespace BR
open PySem
section
variable {β : Type}
/-- m is the first one in L with the least t -/
def FirstMin (t : β → Int) (L : List β) (m : β) : Prop := ∃ pre post, L = pre ++ m :: post ∧ (∀ u ∈ pre, t m < t u) ∧ ∀ u ∈ post, t m ≤ t u
theorem FirstMin.ex (t : β → Int) : ∀ {L : List β}, L ≠ [] → ∃ m, FirstMin t L m
  | [], h => absurd rfl h
  | [x], _ => ⟨x, [], [], rfl, by simp, by simp⟩
  | x :: y :: r, _ => by
    obtain ⟨m, pre, post, e, h1, h2⟩ := FirstMin.ex t (L := y :: r) (by simp)
    by_cases h : t x ≤ t m
    · refine ⟨x, [], y :: r, rfl, by simp, fun u hu => ?_⟩
      rw [e] at hu
      rcases List.mem_append.mp hu with z | z
      · have := h1 u z; omega
      · rcases List.mem_cons.mp z with rfl | z
        · exact h
        · have := h2 u z; omega
    · refine ⟨m, x :: pre, post, by rw [e]; rfl, fun u hu => ?_, h2⟩
      rcases List.mem_cons.mp hu with rfl | z
      · omega
      · exact h1 u z
theorem FirstMin.le {t : β → Int} {L : List β} {m : β} (h : FirstMin t L m) : ∀ u ∈ L, t m ≤ t u := by
  obtain ⟨pre, post, rfl, h1, h2⟩ := h
  intro u hu
  rcases List.mem_append.mp hu with z | z
  · have := h1 u z; omega
  · rcases List.mem_cons.mp z with rfl | z
    · exact Int.le_refl _
    · exact h2 u z
theorem FirstMin.mem {t : β → Int} {L : List β} {m : β} (h : FirstMin t L m) : m ∈ L := by
  obtain ⟨pre, post, rfl, _⟩ := h; simp
theorem FirstMin.imin {t : β → Int} {L : List β} {m : β} (h : FirstMin t L m) : imin (L.map t) = t m :=
  imin_eq (List.mem_map.mpr ⟨m, h.mem, rfl⟩) fun x hx => by
    obtain ⟨u, hu, rfl⟩ := List.mem_map.mp hx
    exact h.le u hu
theorem FirstMin.idx {t : β → Int} {L : List β} {m : β} (h : FirstMin t L m) : ∃ i, (L.map t).findIdx? (fun y => y == t m) = some i ∧ L[i]? = some m := by
  obtain ⟨pre, post, rfl, h1, h2⟩ := h
  refine ⟨pre.length, ?_, by simp⟩
  rw [List.map_append, List.findIdx?_append, List.findIdx?_eq_none_iff.mpr]
  · simp [List.findIdx?_cons]
  · intro x hx
    obtain ⟨u, hu, rfl⟩ := List.mem_map.mp hx
    have := h1 u hu
    simp
    omega
theorem FirstMin.filter {t : β → Int} {L : List β} {m : β} (h : FirstMin t L m) (P : β → Bool) (hP : P m = true) : FirstMin t (L.filter P) m := by
  obtain ⟨pre, post, rfl, h1, h2⟩ := h
  refine ⟨pre.filter P, post.filter P, ?_, fun u hu => h1 u (List.mem_filter.mp hu).1, fun u hu => h2 u (List.mem_filter.mp hu).1⟩
  rw [List.filter_append, List.filter_cons_of_pos hP]
/-- as a walk finds it -/
def argm (t : β → Int) (x : β) (l : List β) : β := l.foldl (fun m y => if t y < t m then y else m) x
theorem argm_keep {t : β → Int} {m : β} {l : List β} (h : ∀ u ∈ l, t m ≤ t u) : argm t m l = m := by
  induction l with
  | nil => rfl
  | cons a r ih =>
    show argm t (if t a < t m then a else m) r = m
    rw [if_neg (by have := h a (by simp); omega)]
    exact ih fun u hu => h u (by simp [hu])
theorem argm_first {t : β → Int} {x : β} {l : List β} {m : β} (h : FirstMin t (x :: l) m) : argm t x l = m := by
  obtain ⟨pre, post, e, h1, h2⟩ := h
  have go : ∀ (pre : List β) (x : β), t m < t x → (∀ u ∈ pre, t m < t u) → argm t x (pre ++ m :: post) = m := fun pre => by
    induction pre with
    | nil =>
      intro x hx _
      show argm t (if t m < t x then m else x) post = m
      rw [if_pos hx]
      exact argm_keep h2
    | cons a r ih =>
      intro x hx h
      show argm t (if t a < t x then a else x) (r ++ m :: post) = m
      split
      · exact ih a (h a (by simp)) fun u hu => h u (by simp [hu])
      · exact ih x hx fun u hu => h u (by simp [hu])
  cases pre with
  | nil => cases e; exact argm_keep h2
  | cons a r =>
    cases e
    exact go r x (h1 x (by simp)) fun u hu => h1 u (by simp [hu])
def encTA (t : β → Int) (a : β → List Int) (u : β) : PyData := .tuple [.int (t u), .tuple ((a u).map .int)]
theorem alike_ints : ∀ xs ys : List Int, W.alikeAll (xs.map PyData.int) (ys.map PyData.int) = true := fun xs => by
  induction xs with
  | nil => intro ys; cases ys <;> rfl
  | cons a r ih => intro ys; cases ys with
    | nil => rfl
    | cons b s => simp [W.alikeAll, W.alike, ih]
theorem dataLt_TA (t : β → Int) (a : β → List Int) (u v : β) : W.dataLt (encTA t a u) (encTA t a v) = decide (t u < t v ∨ (t u = t v ∧ a u < a v)) := by
  unfold encTA
  rw [W.dataLt_pair (by rfl) (by rw [W.alike]; exact alike_ints _ _), W.dataLt_int, W.dataLt_tuple]
  have h1 : PyData.eqv (.int (t u)) (.int (t v)) = decide (t u = t v) := by rw [PyData.eqv]; by_cases h : t u = t v <;> simp [h]
  have h2 : PyData.eqv (.tuple ((a u).map .int)) (.tuple ((a v).map .int)) = decide (a u = a v) := by rw [PyData.eqv, eqvAll_ints]
  have h3 : PyProof.Rows.lexLt PyProof.Rows.itemOrd (W.keyToksAll ((a u).map PyData.int)) (W.keyToksAll ((a v).map PyData.int)) = decide (a u < a v) := W.dataLt_ints _ _
  rw [h1, h2, h3]
  by_cases e1 : t u = t v
  · by_cases e2 : a u = a v
    · simp [e1, e2, List.lt_irrefl]
    · simp [e1, e2]
  · simp [e1]
theorem minD_first (t : β → Int) (a : β → List Int) : ∀ (l : List β) (x : β), (x :: l).Pairwise (fun u v => a u < a v) → W.minD (encTA t a x) (l.map (encTA t a)) = encTA t a (argm t x l)
  | [], x, _ => rfl
  | y :: r, x, h => by
    obtain ⟨h1, h2⟩ := List.pairwise_cons.mp h
    have hlt : W.dataLt (encTA t a y) (encTA t a x) = decide (t y < t x) := by
      rw [dataLt_TA]
      have hxy := h1 y (by simp)
      have : ¬ a y < a x := fun z => List.lt_irrefl _ (List.lt_trans hxy z)
      by_cases e : t y < t x
      · simp [e]
      · simp [e, this]
    show W.minD (if W.dataLt (encTA t a y) (encTA t a x) = true then encTA t a y else encTA t a x) (r.map (encTA t a)) = encTA t a (argm t (if t y < t x then y else x) r)
    rw [hlt]
    by_cases e : t y < t x
    · simp only [e, decide_true, if_true]
      exact minD_first t a r y h2
    · simp only [e, decide_false, if_false, Bool.false_eq_true]
      exact minD_first t a r x (List.pairwise_cons.mpr ⟨fun u hu => h1 u (by simp [hu]), (List.pairwise_cons.mp h2).2⟩)
theorem ordAll_TA (t : β → Int) (a : β → List Int) (L : List β) : ordAll (L.map (encTA t a)) = true := by
  unfold ordAll
  simp only [List.all_eq_true, Bool.and_eq_true]
  intro x hx
  obtain ⟨u, _, rfl⟩ := List.mem_map.mp hx
  refine ⟨⟨shp_of ?_ ?_, rfl⟩, fun y hy => ?_⟩
  · simp only [encTA, PyData.canLay0, PyData.canLayAll0, Bool.true_and, Bool.and_true]
    exact canLay_all _ _ fun _ _ => rfl
  · have := depth_leaf_all PyData.int (a u) (fun y hy => by simp [PyData.depth])
    simp only [encTA, PyData.depth, PyData.depthAll]
    omega
  · obtain ⟨v, _, rfl⟩ := List.mem_map.mp hy
    simp [encTA, W.alike, W.alikeAll, alike_ints]
/-- min of pairs of a number and a row, the rows ascending -/
theorem min1_first {t : β → Int} {a : β → List Int} {L : List β} {m : β} (hL : L.Pairwise fun u v => a u < a v) (hm : FirstMin t L m) : biF .min1 [.list (L.map (encTA t a))] = some (encTA t a m) := by
  show ((itemsOf (.list (L.map (encTA t a)))).bind fun xs => match xs with | [] => none | x :: r => gd (ordAll (x :: r)) (W.minD x r)) = _
  rw [itemsOf_list, Option.bind_some]
  cases L with
  | nil => exact absurd hm.mem (by simp)
  | cons x l =>
    show gd (ordAll ((x :: l).map (encTA t a))) (W.minD (encTA t a x) (l.map (encTA t a))) = _
    rw [ordAll_TA, minD_first t a l x hL, argm_first hm]; rfl
end
/-! all aisles that can be told -/
abbrev Acc := List ((Pas × Int) × Int)
abbrev stepA (acc : Acc) (p : Pas) (a : Nat) : Acc := accS relA (fun _ => 0) (fun x => x.1.takes) acc (p, (a : Int))
def startA (acc : Acc) (p : Pas) (a : Nat) : Int := mxf 0 ((acc.filter fun x => relA x.1 (p, (a : Int))).map (·.2))
theorem stepA_eq (acc : Acc) (p : Pas) (a : Nat) : stepA acc p a = acc ++ [((p, (a : Int)), startA acc p a + p.takes)] := rfl
def allA (N : Nat) (q : List Pas) : List Acc := q.foldl (fun L p => L.flatMap fun acc => (List.range N).map fun a => stepA acc p a) [[]]
theorem allA_snoc (N : Nat) (q : List Pas) (p : Pas) : allA N (q ++ [p]) = (allA N q).flatMap fun acc => (List.range N).map fun a => stepA acc p a := by
  unfold allA; rw [List.foldl_append]; rfl
def alA (acc : Acc) : List Int := acc.map (·.1.2)
def enA (acc : Acc) : List Int := acc.map (·.2)
def tmA (acc : Acc) : Int := mxf 0 (enA acc)
/-- of passengers q, aisles below N -/
structure OkA (N : Nat) (q : List Pas) (acc : Acc) : Prop where
  ps : acc.map (·.1.1) = q
  ai : ∀ x ∈ acc, ∃ a : Nat, a < N ∧ x.1.2 = (a : Int)
  is : acc = accA (q.zip (alA acc))
theorem OkA.len {N : Nat} {q : List Pas} {acc : Acc} (h : OkA N q acc) : acc.length = q.length := by rw [← h.ps, List.length_map]
theorem OkA.step {N : Nat} {q : List Pas} {acc : Acc} (h : OkA N q acc) (p : Pas) {a : Nat} (ha : a < N) : OkA N (q ++ [p]) (stepA acc p a) := by
  rw [stepA_eq]
  refine ⟨by rw [List.map_append, h.ps]; rfl, fun x hx => ?_, ?_⟩
  · rcases List.mem_append.mp hx with z | z
    · exact h.ai x z
    · simp at z; subst z; exact ⟨a, ha, rfl⟩
  · have : (q ++ [p]).zip (alA (acc ++ [((p, (a : Int)), startA acc p a + p.takes)])) = q.zip (alA acc) ++ [(p, (a : Int))] := by
      unfold alA
      rw [List.map_append, List.zip_append (by rw [List.length_map, h.len])]; rfl
    rw [this, show accA (q.zip (alA acc) ++ [(p, (a : Int))]) = _ from accE_snoc relA (fun _ => 0) (fun x => x.1.takes) _ _, show accE relA (fun _ => 0) (fun x : Pas × Int => x.1.takes) (q.zip (alA acc)) = acc from h.is.symm]; rfl
theorem allA_ok (N : Nat) (q : List Pas) : ∀ acc ∈ allA N q, OkA N q acc := by
  refine snoc_ind (P := fun q => ∀ acc ∈ allA N q, OkA N q acc) (fun acc h => by simp [allA] at h; subst h; exact ⟨rfl, fun x hx => by simp at hx, rfl⟩) (fun l p ih acc h => ?_) q
  rw [allA_snoc] at h
  obtain ⟨acc', h1, h2⟩ := List.mem_flatMap.mp h
  obtain ⟨a, ha, rfl⟩ := List.mem_map.mp h2
  exact (ih acc' h1).step p (List.mem_range.mp ha)
theorem allA_len (N : Nat) (q : List Pas) : (allA N q).length = N ^ q.length := by
  refine snoc_ind (P := fun q => (allA N q).length = N ^ q.length) rfl (fun l p ih => ?_) q
  rw [allA_snoc, List.length_flatMap]
  simp only [List.length_map, List.length_range]
  rw [List.map_const', List.sum_replicate_nat, ih, List.length_append, Nat.pow_add]
  simp
/-- the rows of aisles -/
def tupsN (N : Nat) : Nat → List (List Int)
  | 0 => [[]]
  | n + 1 => (tupsN N n).flatMap fun r => (List.range N).map fun a : Nat => r ++ [(a : Int)]
theorem allA_al (N : Nat) (q : List Pas) : (allA N q).map alA = tupsN N q.length := by
  refine snoc_ind (P := fun q => (allA N q).map alA = tupsN N q.length) rfl (fun l p ih => ?_) q
  rw [allA_snoc, List.map_flatMap, List.length_append]
  show _ = tupsN N (l.length + 1)
  rw [tupsN, ← ih, List.flatMap_map]
  congr 1
  funext acc
  rw [List.map_map]
  refine List.map_congr_left fun a _ => ?_
  show alA (stepA acc p a) = _
  rw [stepA_eq]
  unfold alA
  rw [List.map_append]; rfl
theorem tupsN_len {N n : Nat} : ∀ r ∈ tupsN N n, r.length = n := by
  induction n with
  | zero => intro r hr; simp [tupsN] at hr; subst hr; rfl
  | succ n ih =>
    intro r hr
    obtain ⟨s, hs, h2⟩ := List.mem_flatMap.mp hr
    obtain ⟨a, _, rfl⟩ := List.mem_map.mp h2
    rw [List.length_append, ih s hs]; rfl
theorem lt_append {r s : List Int} (hl : r.length = s.length) (h : r < s) (u v : List Int) : r ++ u < s ++ v := by
  induction r generalizing s with
  | nil => cases s with
    | nil => exact absurd h (List.lt_irrefl _)
    | cons b s => simp at hl
  | cons a r ih => cases s with
    | nil => simp at hl
    | cons b s =>
      rw [List.cons_append, List.cons_append]
      rcases List.cons_lt_cons_iff.mp h with z | ⟨rfl, z⟩
      · exact List.cons_lt_cons_iff.mpr (.inl z)
      · exact List.cons_lt_cons_iff.mpr (.inr ⟨rfl, ih (by simpa using hl) z⟩)
theorem lt_append_left {r u v : List Int} (h : u < v) : r ++ u < r ++ v := by
  induction r with
  | nil => exact h
  | cons a r ih => exact List.cons_lt_cons_iff.mpr (.inr ⟨rfl, ih⟩)
theorem tupsN_up (N n : Nat) : (tupsN N n).Pairwise (· < ·) := by
  induction n with
  | zero => simp [tupsN]
  | succ n ih =>
    show ((tupsN N n).flatMap fun r => (List.range N).map fun a : Nat => r ++ [(a : Int)]).Pairwise (· < ·)
    rw [List.pairwise_flatMap]
    refine ⟨fun r _ => ?_, ?_⟩
    · rw [List.pairwise_map]
      refine List.pairwise_lt_range.imp fun {a b} h => lt_append_left ?_
      exact List.cons_lt_cons_iff.mpr (.inl (by omega))
    · refine List.Pairwise.imp_of_mem (fun {r s} hr hs h x hx y hy => ?_) ih
      obtain ⟨a, _, rfl⟩ := List.mem_map.mp hx
      obtain ⟨b, _, rfl⟩ := List.mem_map.mp hy
      exact lt_append (by rw [tupsN_len r hr, tupsN_len s hs]) h _ _
theorem allA_up (N : Nat) (q : List Pas) : (allA N q).Pairwise fun u v => alA u < alA v := by
  have := tupsN_up N q.length
  rw [← allA_al, List.pairwise_map] at this
  exact this
theorem timeA_acc {N : Nat} {q : List Pas} {acc : Acc} (h : OkA N q acc) : timeA (q.zip (alA acc)) = tmA acc := by
  unfold timeA tmA enA
  rw [← h.is]
theorem OkA.pos {N : Nat} {q : List Pas} {acc : Acc} (h : OkA N q acc) (hq : ∀ p ∈ q, 1 ≤ p.takes) : ∀ e ∈ enA acc, 1 ≤ e := by
  intro e he
  unfold enA at he
  obtain ⟨x, hx, rfl⟩ := List.mem_map.mp he
  obtain ⟨k, hk, hxk⟩ := List.mem_iff_getElem.mp hx
  have hz := h.is
  have hg : acc[k]? = some x := by rw [← hxk]; exact List.getElem?_eq_getElem hk
  have h1 : (q.zip (alA acc))[k]? = some x.1 := by
    have := accE_fst relA (fun _ => 0) (fun x : Pas × Int => x.1.takes) (q.zip (alA acc))
    rw [show accE relA (fun _ => 0) (fun x : Pas × Int => x.1.takes) (q.zip (alA acc)) = acc from hz.symm] at this
    rw [← this, List.getElem?_map, hg]; rfl
  have h2 : (endsG relA (fun _ => 0) (fun x : Pas × Int => x.1.takes) (q.zip (alA acc)))[k]? = some x.2 := by
    unfold endsG
    rw [show accE relA (fun _ => 0) (fun x : Pas × Int => x.1.takes) (q.zip (alA acc)) = acc from hz.symm, List.getElem?_map, hg]; rfl
  obtain ⟨h3, _, _⟩ := ends_rec relA (fun _ => 0) (fun x : Pas × Int => x.1.takes) (q.zip (alA acc)) h1 h2
  have h4 : x.1.1 ∈ q := by rw [← h.ps]; exact List.mem_map.mpr ⟨x, hx, rfl⟩
  have := hq _ h4
  simp at h3
  omega
theorem tmA_imax {N : Nat} {q : List Pas} {acc : Acc} (h : OkA N q acc) (hq : ∀ p ∈ q, 1 ≤ p.takes) (hl : 1 ≤ q.length) : enA acc ≠ [] ∧ imax (enA acc) = tmA acc := by
  have hne : enA acc ≠ [] := by
    intro e
    have h2 : (enA acc).length = q.length := by unfold enA; rw [List.length_map, h.len]
    rw [e] at h2
    have : 0 = q.length := h2
    omega
  refine ⟨hne, eq_of_le fun m => ?_⟩
  unfold tmA
  rw [imax_le hne, mxf_le]
  refine ⟨fun h2 => ⟨?_, h2⟩, fun h2 => h2.2⟩
  have h3 := h2 _ (imax_mem hne)
  have := h.pos hq _ (imax_mem hne)
  omega
/-- those that are not above a time -/
def lowA (m : Int) (acc : Acc) : Bool := (enA acc).all fun e => decide (e ≤ m)
theorem lowA_iff {m : Int} (hm : 0 ≤ m) {acc : Acc} : lowA m acc = true ↔ tmA acc ≤ m := by
  unfold lowA tmA
  rw [mxf_le, List.all_eq_true]
  constructor
  · intro h; exact ⟨hm, fun x hx => by simpa using h x hx⟩
  · rintro ⟨_, h⟩ x hx; simpa using h x hx
theorem lowA_step (m : Int) (acc : Acc) (p : Pas) (a : Nat) : lowA m (stepA acc p a) = (lowA m acc && decide (startA acc p a + p.takes ≤ m)) := by
  rw [stepA_eq]
  unfold lowA enA
  rw [List.map_append, List.all_append]
  simp
/-- so many starts: one for each aisle -/
def startsA (N : Nat) (acc : Acc) (p : Pas) : List Int := (List.range N).map fun a => startA acc p a
theorem startsA_snoc_no {N : Nat} {acc : Acc} {x : (Pas × Int) × Int} {p : Pas} (h : ¬ x.1.1.row ≤ p.row) : startsA N (acc ++ [x]) p = startsA N acc p := by
  unfold startsA
  refine List.map_congr_left fun a _ => ?_
  unfold startA
  rw [List.filter_append, List.filter_cons_of_neg (by simp [relA, relP, h])]
  simp
theorem startsA_snoc_yes {N : Nat} {acc : Acc} {x : (Pas × Int) × Int} {p : Pas} {a : Nat} (ha : x.1.2 = (a : Int)) (hN : a < N) (h : x.1.1.row ≤ p.row) : startsA N (acc ++ [x]) p = (startsA N acc p).set a (max (startA acc p a) x.2) := by
  unfold startsA
  refine List.ext_getElem? fun i => ?_
  rw [List.getElem?_map, List.getElem?_set, List.length_map, List.length_range]
  by_cases hi : i < N
  · rw [List.getElem?_range hi]
    by_cases e : a = i
    · subst e
      rw [if_pos rfl, if_pos hi]
      show some (startA (acc ++ [x]) p a) = _
      congr 1
      unfold startA
      rw [List.filter_append, List.filter_cons_of_pos (by simp [relA, relP, h, ha]), List.map_append]
      unfold mxf
      rw [List.foldl_append]; rfl
    · rw [if_neg e, List.getElem?_map, List.getElem?_range hi]
      show some (startA (acc ++ [x]) p i) = some (startA acc p i)
      congr 1
      unfold startA
      rw [List.filter_append, List.filter_cons_of_neg (by simp [relA, ha]; intro _; omega)]
      simp
  · rw [List.getElem?_eq_none (by simpa using hi)]
    by_cases e : a = i
    · subst e; exact absurd hN hi
    · rw [if_neg e, List.getElem?_eq_none (by simpa using hi)]; rfl
end BR
set_option Elab.async false
set_option linter.all false
set_option maxRecDepth 100000
set_option maxHeartbeats 4000000
/-! data as text: what is the same has the same text -/
namespace BR
open PySem PySem.PyData
theorem strOk_ofString (s : String) : PyData.strOk (Str.ofString s) = true := by
  rw [Str.ofString_eq_toList]
  unfold PyData.strOk
  rw [← Array.all_toList]
  refine List.all_eq_true.mpr fun c hc => ?_
  obtain ⟨a, _, rfl⟩ := List.mem_map.mp (show c ∈ s.toList.map Char.toNat from hc)
  have h := a.valid
  simp only [UInt32.isValidChar, Nat.isValidChar] at h
  have e : a.toNat = a.val.toNat := rfl
  simp only [decide_eq_true_eq]
  omega
theorem strOk_append {x y : Str} (hx : PyData.strOk x = true) (hy : PyData.strOk y = true) : PyData.strOk (x ++ y) = true := by
  unfold PyData.strOk at *
  rw [← Array.all_toList] at *
  rw [strOf_len, List.all_append, hx, hy]; rfl
theorem strOk_from : ∀ (ts : List Str) (k : Nat) (acc : Str), PyData.strOk acc = true → (∀ t ∈ ts, PyData.strOk t = true) → PyData.strOk (textFrom k acc ts) = true
  | [], _, _, h, _ => h
  | t :: r, k, acc, h, ht => by
    refine strOk_from r (k + 1) _ ?_ fun u hu => ht u (by simp [hu])
    exact strOk_append (strOk_append h (strOk_ofString _)) (ht t (by simp))
theorem strOk_join : ∀ ts : List Str, (∀ t ∈ ts, PyData.strOk t = true) → PyData.strOk (Str.join ", " ts) = true
  | [], _ => by
    show PyData.strOk Str.empty = true
    simp [PyData.strOk, Str.empty]
  | [x], h => h x (by simp)
  | x :: y :: r, h => by
    show PyData.strOk (x ++ Str.ofString ", " ++ Str.join ", " (y :: r)) = true
    exact strOk_append (strOk_append (h x (by simp)) (strOk_ofString _)) (strOk_join (y :: r) fun t ht => h t (by simp [ht]))
structure Nice (d : PyData) (W D : Nat) : Prop where
  lay : d.canLay0 = true
  shw : d.showable = true
  ish : d.intsShort 13 = true
  wt : d.weight ≤ W
  dp : d.depth ≤ D
  ok : PyData.strOk d.shown = true
theorem nice_none : Nice .none 0 1 := ⟨rfl, rfl, rfl, by decide, by simp [PyData.depth], strOk_ofString _⟩
theorem nice_bool (b : Bool) : Nice (.bool b) 0 1 := by
  cases b <;> exact ⟨rfl, rfl, rfl, by simp [PyData.weight], by simp [PyData.depth], strOk_ofString _⟩
theorem nice_int {i : Int} (h : i.natAbs < 10 ^ 12) : Nice (.int i) 40 1 := by
  have hl : i.natAbs ≠ 0 → i.natAbs.log2 < 40 := fun h0 => (Nat.log2_lt h0).mpr (Nat.lt_of_lt_of_le h (by decide))
  refine ⟨rfl, ?_, ?_, ?_, by simp [PyData.depth], strOk_ofString _⟩
  · simp only [showable, decide_eq_true_eq]
    by_cases h0 : i.natAbs = 0
    · rw [h0]; decide
    · have := hl h0; omega
  · simp only [intsShort, decide_eq_true_eq]
    exact shown_int_le h
  · simp only [PyData.weight]
    split
    · omega
    · rename_i hn
      have := hl (fun z => hn (by simp; omega))
      omega
theorem nice_all {W D : Nat} : ∀ {xs : List PyData}, (∀ x ∈ xs, Nice x W D) → canLayAll0 xs = true ∧ showableAll xs = true ∧ intsShortAll 13 xs = true ∧ weightAll xs ≤ xs.length * (W + 1) ∧ PyData.depthAll xs ≤ D ∧ ∀ t ∈ shownAll xs, PyData.strOk t = true
  | [], _ => ⟨rfl, rfl, rfl, by simp [weightAll], by simp [PyData.depthAll], fun t h => by simp [shownAll] at h⟩
  | x :: r, h => by
    obtain ⟨h1, h2, h3, h4, h5, h6⟩ := nice_all (xs := r) fun y hy => h y (by simp [hy])
    have n := h x (by simp)
    refine ⟨by simp [canLayAll0, n.lay, h1], by simp [showableAll, n.shw, h2], by simp [intsShortAll, n.ish, h3], ?_, ?_, fun t ht => ?_⟩
    · have := n.wt
      simp only [weightAll, List.length_cons, Nat.succ_mul]
      omega
    · have := n.dp
      simp only [PyData.depthAll]
      omega
    · simp only [shownAll, List.mem_cons] at ht
      rcases ht with rfl | ht
      · exact n.ok
      · exact h6 t ht
theorem nice_tup {W D : Nat} {xs : List PyData} (h : ∀ x ∈ xs, Nice x W D) : Nice (.tuple xs) (xs.length * (W + 1)) (D + 1) := by
  obtain ⟨h1, h2, h3, h4, h5, h6⟩ := nice_all h
  refine ⟨by rw [canLay0]; exact h1, by rw [showable]; exact h2, by rw [intsShort]; exact h3, by rw [weight]; exact h4, by rw [PyData.depth]; omega, ?_⟩
  show PyData.strOk (tupleText (shownAll xs)) = true
  exact strOk_append (strOk_append (strOk_ofString _) (strOk_join _ h6)) (strOk_ofString _)
theorem nice_lst {W D : Nat} {xs : List PyData} (h : ∀ x ∈ xs, Nice x W D) : Nice (.list xs) (xs.length * (W + 1)) (D + 1) := by
  obtain ⟨h1, h2, h3, h4, h5, h6⟩ := nice_all h
  refine ⟨by rw [canLay0]; exact h1, by rw [showable]; exact h2, by rw [intsShort]; exact h3, by rw [weight]; exact h4, by rw [PyData.depth]; omega, ?_⟩
  show PyData.strOk (listText (shownAll xs)) = true
  exact strOk_append (strOk_from _ _ _ (strOk_ofString _) h6) (strOk_ofString _)
theorem Nice.mono {d : PyData} {W D W' D' : Nat} (h : Nice d W D) (h1 : W ≤ W') (h2 : D ≤ D') : Nice d W' D' := ⟨h.lay, h.shw, h.ish, Nat.le_trans h.wt h1, Nat.le_trans h.dp h2, h.ok⟩
theorem nice_ints {xs : List Int} (h : ∀ x ∈ xs, x.natAbs < 10 ^ 12) : Nice (.tuple (xs.map .int)) (xs.length * 41) 2 := by
  have := nice_tup (W := 40) (D := 1) (xs := xs.map .int) fun x hx => by
    obtain ⟨i, hi, rfl⟩ := List.mem_map.mp hx
    exact nice_int (h i hi)
  rw [List.length_map] at this
  exact this
theorem repr_nice {d : PyData} {W D : Nat} (h : Nice d W D) (hw : W ≤ 2 ^ 20) (hd : D ≤ 60) : biF .repr [d] = some (.str d.shown) := by
  have hl : layable0 d = true := by
    unfold layable0
    rw [h.lay, decide_eq_true (show d.depth ≤ 64 by have := h.dp; omega), decide_eq_true (show d.weight ≤ 2 ^ 20 by have := h.wt; omega)]
    rfl
  have hb := shown_le_of_layable0 hl h.ish
  have hs : shp d = true := shp_of h.lay (by have := h.dp; omega)
  show gd (d.showable && shp d && decide (d.shown.length ≤ big)) (PyData.str d.shown) = _
  rw [h.shw, hs, decide_eq_true (show d.shown.length ≤ big by simp only [big]; omega)]
  rfl
@[simp] theorem lenC_repr (C : List Cell) (d : PyData) : lenC C .repr [d] = biF .repr [d] := Eq.trans rfl rfl
theorem ne_shown {d : PyData} {W D : Nat} (h : Nice d W D) : cmpF .NotEq (.str d.shown) (.str d.shown) = some false := by
  show gd (shp (.str d.shown) && shp (.str d.shown)) (!PyData.eqv (.str d.shown) (.str d.shown)) = _
  have hs : shp (.str d.shown) = true := shp_of (by rw [canLay0]; exact h.ok) (by simp [PyData.depth])
  rw [hs, eqv_str]
  simp
end BR
set_option Elab.async false
set_option linter.all false
set_option maxRecDepth 100000
set_option maxHeartbeats 1000000
/-! names with a letter that tells the turn -/
namespace BR
open PySem
theorem slS_take {x : Str} {k : Nat} (h : x.length ≤ big) : slF (.str x) none (some (k : Int)) = some (.str ⟨(x.cps.toList.take k).toArray⟩) := by
  show (if x.length ≤ big then some (PyData.str ⟨(cutL x.cps.toList none (some (k : Int))).toArray⟩) else none) = _
  rw [if_pos h]
  unfold cutL HT.sIx
  have h0 : ¬ ((k : Int) < 0) := by omega
  simp [h0, List.take_eq_take_iff]
theorem slS_drop {x : Str} {k : Nat} (h : x.length ≤ big) : slF (.str x) (some (k : Int)) none = some (.str ⟨(x.cps.toList.drop k).toArray⟩) := by
  show (if x.length ≤ big then some (PyData.str ⟨(cutL x.cps.toList (some (k : Int)) none).toArray⟩) else none) = _
  rw [if_pos h]
  unfold cutL HT.sIx
  have h0 : ¬ ((k : Int) < 0) := by omega
  simp [h0]
  have e : x.cps.size = x.cps.toList.length := by simp
  rw [e]
  rcases Nat.lt_or_ge x.cps.toList.length k with z | z
  · rw [Nat.min_eq_right (Nat.le_of_lt z), List.drop_of_length_le (Nat.le_refl _), List.drop_of_length_le (Nat.le_of_lt z)]; simp
  · rw [Nat.min_eq_left z, List.take_of_length_le (by simp)]
theorem words_noq : ∀ y ∈ wordsL, 2 ≤ y.cps.toList.length ∧ 113 ∉ y.cps.toList.drop 1 := by decide +kernel
/-- a turn's name: some letters, the letter of the turn, a q behind it if there are others -/
theorem turnName {k : Nat} (hk : k < 26) {nm : List Nat} {at' : Nat} (hl : nm.length ≤ 6) (ha : at' ≤ nm.length) (hlo : ∀ c ∈ nm, 97 ≤ c ∧ c ≤ 122) {x : Str}
    (hx : x.cps.toList = nm.take at' ++ (97 + k) :: (if nm.length = 0 then [] else [113]) ++ nm.drop at') : OkName x ∧ 97 + k ∈ x.cps.toList := by
  refine ⟨⟨?_, ?_, ?_, ?_⟩, ?_⟩
  · rw [hx]; simp
  · rw [hx]
    intro c hc
    simp only [List.mem_append, List.mem_cons] at hc
    rcases hc with (h | h | h) | h
    · exact hlo c (List.mem_of_mem_take h)
    · omega
    · split at h
      · simp at h
      · simp at h; omega
    · exact hlo c (List.mem_of_mem_drop h)
  · rw [hx]
    simp only [List.length_append, List.length_cons, List.length_take, List.length_drop]
    split <;> simp <;> omega
  · intro hw
    obtain ⟨h2, hq⟩ := words_noq x hw
    rw [hx] at h2 hq
    by_cases h0 : nm.length = 0
    · have : nm = [] := List.length_eq_zero_iff.mp h0
      subst this
      simp at h2
    · rw [if_neg h0] at hq
      refine hq ?_
      cases ht : nm.take at' with
      | nil => simp
      | cons a r => simp
  · rw [hx]; simp
theorem sevenName {k : Nat} (hk : k < 16) {x : Str} (hx : x.cps.toList = List.replicate 7 (97 + k) ++ [113]) : OkName x ∧ 97 + k ∈ x.cps.toList ∧ ∀ c ∈ x.cps.toList, c = 97 + k ∨ c = 113 := by
  have h3 : ∀ c ∈ x.cps.toList, c = 97 + k ∨ c = 113 := by
    rw [hx]
    intro c hc
    rcases List.mem_append.mp hc with h | h
    · exact .inl (List.eq_of_mem_replicate h)
    · exact .inr (by simpa using h)
  refine ⟨⟨?_, ?_, ?_, ?_⟩, ?_, h3⟩
  · rw [hx]; simp
  · intro c hc
    rcases h3 c hc with h | h <;> omega
  · rw [hx]; simp
  · intro hw
    obtain ⟨h2, hq⟩ := words_noq x hw
    rw [hx] at hq
    exact hq (by simp [List.replicate_succ])
  · rw [hx]; simp [List.replicate_succ]
theorem lenC_sliced {x : Str} : (⟨(x.cps.toList).toArray⟩ : Str).cps.toList = x.cps.toList := by simp
end BR
set_option Elab.async false
set_option linter.all false
set_option maxRecDepth 100000
set_option maxHeartbeats 4000000
/-! sets of places in order, the first of them; who comes late -/
namespace BR
open PySem
theorem dataLt_tupI (xs ys : List Int) : W.dataLt (.tuple (xs.map .int)) (.tuple (ys.map .int)) = decide (xs < ys) := by
  rw [W.dataLt_tuple]
  exact W.dataLt_ints _ _
theorem ordAll_tupI {β : Type} (a : β → List Int) (L : List β) : ordAll (L.map fun u => PyData.tuple ((a u).map .int)) = true := by
  unfold ordAll
  simp only [List.all_eq_true, Bool.and_eq_true]
  intro x hx
  obtain ⟨u, _, rfl⟩ := List.mem_map.mp hx
  refine ⟨⟨shp_of ?_ ?_, rfl⟩, fun y hy => ?_⟩
  · simp only [PyData.canLay0]
    exact canLay_all _ _ fun _ _ => rfl
  · have := depth_leaf_all PyData.int (a u) (fun y hy => by simp [PyData.depth])
    simp only [PyData.depth]
    omega
  · obtain ⟨v, _, rfl⟩ := List.mem_map.mp hy
    simp [W.alike, alike_ints]
theorem lt_or_le (x y : List Int) : x < y ∨ ¬ x < y := Classical.em _
theorem lt_of_nlt {x y z : List Int} (h : ¬ y < x) (h2 : y < z) : x < z := by
  have h1 : x ≤ y := List.not_lt.mp h
  exact List.lt_of_le_of_lt h1 h2
theorem minL {β : Type} (a : β → List Int) : ∀ (l : List β) (x : β), ∃ m ∈ x :: l, W.minD (.tuple ((a x).map .int)) (l.map fun u => .tuple ((a u).map .int)) = .tuple ((a m).map .int) ∧ ∀ u ∈ x :: l, ¬ a u < a m
  | [], x => ⟨x, by simp, rfl, fun u hu => by simp at hu; subst hu; exact List.lt_irrefl _⟩
  | y :: r, x => by
    have hs : W.minD (.tuple ((a x).map .int)) ((y :: r).map fun u => .tuple ((a u).map .int)) = W.minD (if W.dataLt (.tuple ((a y).map .int)) (.tuple ((a x).map .int)) = true then .tuple ((a y).map .int) else .tuple ((a x).map .int)) (r.map fun u => .tuple ((a u).map .int)) := rfl
    rw [hs, dataLt_tupI]
    by_cases h : a y < a x
    · obtain ⟨m, hm, e, h2⟩ := minL a r y
      refine ⟨m, by simp at hm ⊢; exact .inr hm, by simp only [h, decide_true, if_true]; exact e, fun u hu => ?_⟩
      rcases List.mem_cons.mp hu with rfl | hu
      · exact fun z => h2 y (by simp) (List.lt_trans h z)
      · exact h2 u hu
    · obtain ⟨m, hm, e, h2⟩ := minL a r x
      refine ⟨m, by simp at hm ⊢; rcases hm with h | h <;> simp [h], by simp only [h, decide_false, if_false, Bool.false_eq_true]; exact e, fun u hu => ?_⟩
      rcases List.mem_cons.mp hu with rfl | hu
      · exact h2 u (by simp)
      · rcases List.mem_cons.mp hu with rfl | hu
        · exact fun z => h2 x (by simp) (lt_of_nlt h z)
        · exact h2 u (by simp [hu])
theorem min1_tups {β : Type} (a : β → List Int) {L : List β} (h : L ≠ []) : ∃ m ∈ L, biF .min1 [.list (L.map fun u => .tuple ((a u).map .int))] = some (.tuple ((a m).map .int)) ∧ ∀ u ∈ L, ¬ a u < a m := by
  cases L with
  | nil => exact absurd rfl h
  | cons x l =>
    obtain ⟨m, hm, e, h2⟩ := minL a l x
    refine ⟨m, hm, ?_, h2⟩
    show gd (ordAll ((x :: l).map fun u => PyData.tuple ((a u).map .int))) (W.minD (.tuple ((a x).map .int)) (l.map fun u => .tuple ((a u).map .int))) = _
    rw [ordAll_tupI, e]; rfl
/-- sets in order -/
def sortS (L : List (List Nat)) : List (List Nat) := L.mergeSort fun a b => decide (¬ natsI b < natsI a)
theorem sortS_perm (L : List (List Nat)) : (sortS L).Perm L := List.mergeSort_perm _ _
theorem sortS_up (L : List (List Nat)) : (sortS L).Pairwise fun a b => ¬ natsI b < natsI a := by
  have h := List.pairwise_mergeSort (le := fun a b : List Nat => decide (¬ natsI b < natsI a)) (fun a b c h1 h2 => ?_) (fun a b => ?_) L
  · exact h.imp fun h => of_decide_eq_true h
  · have h1 := of_decide_eq_true h1
    have h2 := of_decide_eq_true h2
    exact decide_eq_true fun h => h1 (lt_of_nlt h2 h)
  · simp only [Bool.or_eq_true, decide_eq_true_eq]
    by_cases h : natsI b < natsI a
    · exact .inr fun z => List.lt_irrefl _ (List.lt_trans h z)
    · exact .inl h
theorem sortedS {C : List Cell} {L : List (List Nat)} (hl : L.length ≤ big) : biF .sorted [.list (L.map encS)] = some (.list ((sortS L).map encS)) := by
  show (some (L.map encS)).bind (fun xs => gd (sortable xs && decide (xs.length ≤ big)) (PyData.list (sortD xs))) = _
  have hso : sortable (L.map encS) = true := by
    unfold sortable
    rw [Bool.and_eq_true]
    refine ⟨ordAll_tupI natsI L, ?_⟩
    simp only [Bool.or_eq_true, List.all_eq_true]
    refine .inl fun x hx => ?_
    obtain ⟨s, hs, rfl⟩ := List.mem_map.mp hx
    rfl
  rw [Option.bind_some, hso, sortD_map]
  have hle : (fun a b : List Nat => W.dataLe false id (encS a) (encS b)) = fun a b => decide (¬ natsI b < natsI a) := by
    funext a b
    have h : W.dataLe false id (encS a) (encS b) = !W.dataLt (encS b) (encS a) := rfl
    have h2 : W.dataLt (encS b) (encS a) = decide (natsI b < natsI a) := dataLt_tupI _ _
    rw [h, h2, ← decide_not]
  rw [hle]
  simp [hl]
  rfl
/-- the first in order of some of them is the least of these -/
theorem first_least {L : List (List Nat)} {P : List Nat → Bool} (h : ∃ s ∈ L, P s = true) : ∃ (m : List Nat) (r : List (List Nat)), (sortS L).filter P = m :: r ∧ biF .min1 [.list ((L.filter P).map encS)] = some (encS m) := by
  obtain ⟨s, hs, hP⟩ := h
  have hne : L.filter P ≠ [] := fun e => by
    have : s ∈ L.filter P := List.mem_filter.mpr ⟨hs, hP⟩
    rw [e] at this
    simp at this
  obtain ⟨m, hm, e, h2⟩ := min1_tups natsI hne
  have hp := (sortS_perm L).filter P
  have hup : ((sortS L).filter P).Pairwise fun a b => ¬ natsI b < natsI a := (sortS_up L).filter P
  cases hS : (sortS L).filter P with
  | nil =>
    rw [hS] at hp
    exact absurd hp.symm.eq_nil hne
  | cons m' r =>
    rw [hS] at hp hup
    have hmm : m ∈ m' :: r := hp.mem_iff.mpr hm
    have : m = m' := by
      rcases List.mem_cons.mp hmm with z | z
      · exact z
      · have h3 := (List.pairwise_cons.mp hup).1 m z
        have h4 := h2 m' (hp.mem_iff.mp (by simp))
        exact natsI_inj (List.le_antisymm (List.not_lt.mp h4) (List.not_lt.mp h3))
    subst this
    exact ⟨m, r, rfl, e⟩
theorem neg1_tup {xs : List PyData} : idxF (.tuple xs) (.int (-1)) = xs.getLast? := by
  show L2.atI xs (-1) = _
  unfold L2.atI L2.ixN
  cases xs with
  | nil => rfl
  | cons a r =>
    rw [if_neg (by omega), if_pos (by simp only [List.length_cons]; omega), List.getLast?_eq_getElem?]
    have : (-1 + ((a :: r).length : Int)).toNat = (a :: r).length - 1 := by simp only [List.length_cons]; omega
    rw [Option.bind_some, this]
theorem neg1_lst {xs : List PyData} : idxF (.list xs) (.int (-1)) = xs.getLast? := by
  show L2.atI xs (-1) = _
  exact (show L2.atI xs (-1) = _ from neg1_tup (xs := xs))
theorem cmpF_ne_tup (xs ys : List Int) : cmpF .NotEq (.tuple (xs.map .int)) (.tuple (ys.map .int)) = some (!decide (xs = ys)) := by
  show gd (shp (.tuple (xs.map .int)) && shp (.tuple (ys.map .int))) (!PyData.eqv (.tuple (xs.map .int)) (.tuple (ys.map .int))) = _
  rw [shp_ints, shp_ints, PyData.eqv, eqvAll_ints]; rfl
theorem cmpF_ne_tup0 (xs : List Int) : cmpF .NotEq (.tuple (xs.map .int)) (.tuple []) = some (!decide (xs = [])) := cmpF_ne_tup xs []
theorem natsI_nil {s : List Nat} : natsI s = [] ↔ s = [] := by unfold natsI; simp
theorem cmpF_ne_set0 (s : List Nat) : cmpF .NotEq (encS s) (.tuple []) = some (!decide (s = [])) := by
  unfold encS
  rw [cmpF_ne_tup0]
  simp [natsI_nil]
/-! along any row of elements -/
section
variable {α : Type}
def atG (q : List α) (f : α → Int) (k : Nat) : Int := match q[k]? with
  | some p => f p
  | none => 0
variable (q : List α) (rel : α → α → Bool) (bs tk : α → Int) (R : Nat → Nat → Bool) (hR : ∀ (i k : Nat) (x y : α), q[i]? = some x → q[k]? = some y → R i k = rel x y)
include hR
theorem chainsG_up {s : List Nat} (hs : s ∈ subsN q.length) (hc : chainP R s) {k : Nat} (hk : s.getLast? = some k) {e : Int} (he : (endsG rel bs tk q)[k]? = some e) : csum (atG q bs) (atG q tk) s ≤ e := by
  have := chain_le (E := fun k => ((endsG rel bs tk q)[k]?).getD 0) (b := atG q bs) (w := atG q tk) (R := R) (n := q.length) (fun k hk => ?_) s hs hc k hk
  · simpa [he] using this
  · have hp : q[k]? = some q[k] := List.getElem?_eq_getElem hk
    have he : (endsG rel bs tk q)[k]? = some ((endsG rel bs tk q)[k]'(by rw [endsG_len]; exact hk)) := List.getElem?_eq_getElem _
    obtain ⟨h1, h2, _⟩ := ends_rec rel bs tk q hp he
    refine ⟨by simpa [atG, hp, he] using h1, fun i hi hr => ?_⟩
    have hil : i < q.length := by omega
    have hpi : q[i]? = some q[i] := List.getElem?_eq_getElem hil
    have hei : (endsG rel bs tk q)[i]? = some ((endsG rel bs tk q)[i]'(by rw [endsG_len]; exact hil)) := List.getElem?_eq_getElem _
    have hr2 : rel q[i] q[k] = true := by rw [← hR i k _ _ hpi hp]; exact hr
    have := h2 i _ _ hi hpi hei hr2
    simpa [atG, hp, he, hei] using this
theorem chainsG_at {k : Nat} {e : Int} (he : (endsG rel bs tk q)[k]? = some e) : ∃ s, s ∈ subsN q.length ∧ chainP R s ∧ s.getLast? = some k ∧ csum (atG q bs) (atG q tk) s = e := by
  have hk : k < q.length := by have := lt_of_get he; rwa [endsG_len] at this
  have key := chain_ex (E := fun k => ((endsG rel bs tk q)[k]?).getD 0) (b := atG q bs) (w := atG q tk) (R := R) (n := q.length) (fun k hk => ?_) k hk
  · obtain ⟨s, s1, s2, s3, s4⟩ := key
    exact ⟨s, subsN_mono hk s1, s2, s3, by rw [s4, he]; rfl⟩
  · have hp : q[k]? = some q[k] := List.getElem?_eq_getElem hk
    have he : (endsG rel bs tk q)[k]? = some ((endsG rel bs tk q)[k]'(by rw [endsG_len]; exact hk)) := List.getElem?_eq_getElem _
    obtain ⟨_, _, h3⟩ := ends_rec rel bs tk q hp he
    rcases h3 with h3 | ⟨i, x, ei, hi, hx, hei, hr, h3⟩
    · left; simpa [atG, hp, he] using h3
    · right
      refine ⟨i, hi, by rw [hR i k _ _ hx hp]; exact hr, ?_⟩
      simp [he, hei, atG, hp, h3]
omit hR
/-- later starts, later ENDs, and no later than that -/
theorem ends_later {bs' : α → Int} {d : Int} (hb : ∀ x ∈ q, bs x ≤ bs' x ∧ bs' x ≤ bs x + d) : ∀ (k : Nat) (e e' : Int), (endsG rel bs tk q)[k]? = some e → (endsG rel bs' tk q)[k]? = some e' → e ≤ e' ∧ e' ≤ e + d := by
  intro k
  induction k using Nat.strongRecOn with
  | _ k ih =>
    intro e e' he he'
    have hk : k < q.length := by have := lt_of_get he; rwa [endsG_len] at this
    have hp : q[k]? = some q[k] := List.getElem?_eq_getElem hk
    obtain ⟨a1, a2, a3⟩ := ends_rec rel bs tk q hp he
    obtain ⟨b1, b2, b3⟩ := ends_rec rel bs' tk q hp he'
    obtain ⟨c1, c2⟩ := hb _ (List.getElem_mem hk)
    constructor
    · rcases a3 with a3 | ⟨i, x, ei, hi, hx, hei, hr, a3⟩
      · omega
      · have hil : i < q.length := by omega
        have hei' : (endsG rel bs' tk q)[i]? = some ((endsG rel bs' tk q)[i]'(by rw [endsG_len]; exact hil)) := List.getElem?_eq_getElem _
        have := b2 i x _ hi hx hei' hr
        have := (ih i hi ei _ hei hei').1
        omega
    · rcases b3 with b3 | ⟨i, x, ei, hi, hx, hei, hr, b3⟩
      · omega
      · have hil : i < q.length := by omega
        have hei' : (endsG rel bs tk q)[i]? = some ((endsG rel bs tk q)[i]'(by rw [endsG_len]; exact hil)) := List.getElem?_eq_getElem _
        have := a2 i x _ hi hx hei' hr
        have := (ih i hi _ ei hei' hei).2
        omega
end
theorem zip_pre {α β γ : Type} (f : α → β) (g : α → γ) : ∀ (l : List α) (q : List γ), l.map g = q.take l.length → (l.map f).zip q = l.map fun x => (f x, g x)
  | [], q, _ => by simp
  | a :: l, [], h => by simp at h
  | a :: l, y :: q, h => by
    simp only [List.map_cons, List.length_cons, List.take_succ_cons, List.cons.injEq] at h
    simp only [List.map_cons, List.zip_cons_cons, h.1]
    rw [zip_pre f g l q h.2]
/-! comes -/
structure OkC (cs : List Int) (n : Nat) : Prop where
  len : cs.length = n
  lo : ∀ c ∈ cs, 0 ≤ c
  hi : ∀ c ∈ cs, c ≤ 999
  up : cs.Pairwise (· ≤ ·)
abbrev PC := Pas × Int
def relC (x y : PC) : Bool := relP x.1 y.1
abbrev accC (z : List PC) : List (PC × Int) := accE relC (fun x => x.2) (fun x => x.1.takes) z
abbrev endsC (z : List PC) : List Int := endsG relC (fun x => x.2) (fun x => x.1.takes) z
def startsC (z : List PC) : List Int := (accC z).map fun x => x.2 - x.1.1.takes
theorem startsC_len (z : List PC) : (startsC z).length = z.length := by unfold startsC; rw [List.length_map, accE_len]
theorem startsC_snoc (z : List PC) (x : PC) : startsC (z ++ [x]) = startsC z ++ [mxf x.2 (((accC z).filter fun y => relC y.1 x).map (·.2))] := by
  unfold startsC accC
  rw [accE_snoc, List.map_append]
  simp [accV]
end BR
set_option Elab.async false
set_option linter.all false
set_option maxRecDepth 100000
set_option maxHeartbeats 4000000
/-! who may take longer: the greatest ones of a chain's slows -/
namespace BR
open PySem
def sortI (xs : List Int) : List Int := xs.mergeSort fun a b => decide (a ≤ b)
theorem sortI_perm (xs : List Int) : (sortI xs).Perm xs := List.mergeSort_perm _ _
theorem sortI_up (xs : List Int) : (sortI xs).Pairwise (· ≤ ·) := by
  have h := List.pairwise_mergeSort (le := fun a b : Int => decide (a ≤ b)) (fun a b c h1 h2 => ?_) (fun a b => ?_) xs
  · exact h.imp fun h => of_decide_eq_true h
  · have h1 := of_decide_eq_true h1
    have h2 := of_decide_eq_true h2
    exact decide_eq_true (by omega)
  · simp only [Bool.or_eq_true, decide_eq_true_eq]
    omega
theorem sortedI {xs : List Int} (hl : xs.length ≤ big) : biF .sorted [.list (xs.map .int)] = some (.list ((sortI xs).map .int)) := by
  show (some (xs.map PyData.int)).bind (fun xs => gd (sortable xs && decide (xs.length ≤ big)) (PyData.list (sortD xs))) = _
  have hso : sortable (xs.map PyData.int) = true := by
    unfold sortable
    rw [Bool.and_eq_true]
    refine ⟨ordAll_ints xs, ?_⟩
    simp only [Bool.or_eq_true, List.all_eq_true]
    refine .inr fun x hx => ?_
    obtain ⟨s, hs, rfl⟩ := List.mem_map.mp hx
    rfl
  rw [Option.bind_some, hso, sortD_map]
  have hle : (fun a b : Int => W.dataLe false id (.int a) (.int b)) = fun a b => decide (a ≤ b) := by
    funext a b
    have h : W.dataLe false id (.int a) (.int b) = !W.dataLt (.int b) (.int a) := rfl
    rw [h, W.dataLt_int, ← decide_not]
    congr 1
    exact propext Int.not_lt
  rw [hle]
  simp [hl]
  rfl
/-- the sum of so many greatest ones -/
def topR (r : Nat) (xs : List Int) : Int := ((sortI xs).reverse.take r).sum
theorem sum_sublist {α : Type} (f : α → Int) {ys xs : List α} (h : ys.Sublist xs) : (∀ x ∈ xs, 0 ≤ f x) → (ys.map f).sum ≤ (xs.map f).sum := by
  induction h with
  | slnil => intro _; exact Int.le_refl _
  | cons a _ ih =>
    intro h0
    have := ih fun x hx => h0 x (by simp [hx])
    have := h0 a (by simp)
    simp only [List.map_cons, List.sum_cons]
    omega
  | cons_cons a _ ih =>
    intro h0
    have := ih fun x hx => h0 x (by simp [hx])
    simp only [List.map_cons, List.sum_cons]
    omega
theorem sum_perm {α : Type} (f : α → Int) {ys xs : List α} (h : ys.Perm xs) : (ys.map f).sum = (xs.map f).sum := by
  induction h with
  | nil => rfl
  | cons x _ ih => simp only [List.map_cons, List.sum_cons]; omega
  | swap x y l => simp only [List.map_cons, List.sum_cons]; omega
  | trans _ _ ih1 ih2 => omega
theorem sum_over (t : Int) : ∀ ys : List Int, ys.sum ≤ (ys.map fun y => max (y - t) 0).sum + (ys.length : Int) * t
  | [] => by simp
  | y :: r => by
    have := sum_over t r
    simp only [List.sum_cons, List.map_cons, List.length_cons]
    have e : (((r.length + 1 : Nat) : Int)) * t = (r.length : Int) * t + t := by rw [Int.natCast_add, Int.add_mul]; simp
    rw [e]
    omega
theorem sum_above (t : Int) : ∀ ys : List Int, (∀ y ∈ ys, t ≤ y) → (ys.map fun y => max (y - t) 0).sum + (ys.length : Int) * t = ys.sum
  | [], _ => by simp
  | y :: r, h => by
    have := sum_above t r fun z hz => h z (by simp [hz])
    have hy := h y (by simp)
    simp only [List.sum_cons, List.map_cons, List.length_cons]
    have e : (((r.length + 1 : Nat) : Int)) * t = (r.length : Int) * t + t := by rw [Int.natCast_add, Int.add_mul]; simp
    rw [e]
    omega
theorem sum_below (t : Int) : ∀ ys : List Int, (∀ y ∈ ys, y ≤ t) → (ys.map fun y => max (y - t) 0).sum = 0
  | [], _ => by simp
  | y :: r, h => by
    have := sum_below t r fun z hz => h z (by simp [hz])
    have hy := h y (by simp)
    simp only [List.sum_cons, List.map_cons]
    omega
theorem top_sub {xs ys : List Int} (h : ys.Sublist xs) (h0 : ∀ x ∈ xs, 0 ≤ x) {r : Nat} (hr : ys.length ≤ r) : ys.sum ≤ topR r xs := by
  unfold topR
  have hp : (sortI xs).reverse.Perm xs := (List.reverse_perm _).trans (sortI_perm xs)
  have hup : (sortI xs).reverse.Pairwise (fun a b => b ≤ a) := List.pairwise_reverse.mpr (sortI_up xs)
  generalize (sortI xs).reverse = zs at *
  have hz0 : ∀ x ∈ zs, 0 ≤ x := fun x hx => h0 x (hp.mem_iff.mp hx)
  have idm : ∀ l : List Int, (l.map fun x => x).sum = l.sum := fun l => by rw [List.map_id']
  by_cases hz : zs.length ≤ r
  · rw [List.take_of_length_le hz]
    have h1 := sum_sublist (fun x => x) h h0
    have h2 := sum_perm (fun x => x) hp
    rw [idm, idm] at h1 h2
    omega
  · rcases Nat.eq_zero_or_pos r with z | z
    · subst z
      have : ys = [] := List.length_eq_zero_iff.mp (by omega)
      subst this
      simp
    · have hrl : r - 1 < zs.length := by omega
      obtain ⟨t, ht⟩ : ∃ t, t = zs[r - 1] := ⟨_, rfl⟩
      have ht0 : 0 ≤ t := by rw [ht]; exact hz0 _ (List.getElem_mem _)
      have hA : ∀ y ∈ zs.take r, t ≤ y := fun y hy => by
        obtain ⟨i, hi, rfl⟩ := List.mem_iff_getElem.mp hy
        rw [List.length_take] at hi
        rw [List.getElem_take, ht]
        rcases Nat.lt_or_ge i (r - 1) with q | q
        · exact List.pairwise_iff_getElem.mp hup i (r - 1) (by omega) hrl q
        · have : i = r - 1 := by omega
          subst this
          exact Int.le_refl _
      have hB : ∀ y ∈ zs.drop r, y ≤ t := fun y hy => by
        obtain ⟨i, hi, rfl⟩ := List.mem_iff_getElem.mp hy
        rw [List.length_drop] at hi
        rw [List.getElem_drop, ht]
        exact List.pairwise_iff_getElem.mp hup (r - 1) (r + i) hrl (by omega) (by omega)
      have e1 := sum_over t ys
      have e2 := sum_sublist (fun y => max (y - t) 0) h (fun x _ => by omega)
      have e3 := sum_perm (fun y => max (y - t) 0) hp
      have e4 : (zs.map fun y => max (y - t) 0).sum = ((zs.take r).map fun y => max (y - t) 0).sum + ((zs.drop r).map fun y => max (y - t) 0).sum := by
        rw [← List.sum_append, ← List.map_append, List.take_append_drop]
      have e5 := sum_above t _ hA
      have e6 := sum_below t _ hB
      have e7 : (ys.length : Int) * t ≤ (r : Int) * t := Int.mul_le_mul_of_nonneg_right (by omega) ht0
      have e8 : (zs.take r).length = r := by rw [List.length_take]; omega
      rw [e8] at e5
      omega
theorem sum_if {α : Type} (P : α → Bool) (f : α → Int) : ∀ c : List α, (c.map fun k => if P k = true then f k else 0).sum = ((c.filter P).map f).sum
  | [] => rfl
  | a :: r => by
    have := sum_if P f r
    by_cases h : P a = true
    · rw [List.filter_cons_of_pos h]
      simp only [List.map_cons, List.sum_cons, h, if_true]
      omega
    · rw [List.filter_cons_of_neg h]
      simp only [List.map_cons, List.sum_cons, h, if_false]
      simp
      exact this
theorem nodup_len : ∀ (l s : List Nat), l.Nodup → (∀ x ∈ l, x ∈ s) → l.length ≤ s.length
  | [], _, _, _ => by simp
  | a :: t, s, hn, h => by
    obtain ⟨h1, h2⟩ := List.nodup_cons.mp hn
    have ha := h a (by simp)
    have := nodup_len t (s.erase a) h2 fun x hx => (List.mem_erase_of_ne (show x ≠ a from fun e => h1 (by rw [← e]; exact hx))).mpr (h x (by simp [hx]))
    rw [List.length_erase_of_mem ha] at this
    have : 0 < s.length := List.length_pos_of_mem ha
    simp only [List.length_cons]
    omega
/-- of a row of places, so many greatest ones can be told -/
theorem top_at (c : List Nat) (hc : c.Nodup) (σ : Nat → Int) (r : Nat) : ∃ s : List Nat, s.Sublist c ∧ s.length ≤ r ∧ ((c.filter fun k => decide (k ∈ s)).map σ).sum = topR r (c.map σ) := by
  obtain ⟨c', hc'⟩ : ∃ c', c' = (c.mergeSort fun a b => decide (σ a ≤ σ b)).reverse := ⟨_, rfl⟩
  have hp : c'.Perm c := by rw [hc']; exact (List.reverse_perm _).trans (List.mergeSort_perm _ _)
  have hm : (sortI (c.map σ)).reverse = c'.map σ := by
    rw [hc', List.map_reverse]
    unfold sortI
    rw [List.map_mergeSort]
    intro a _ b _
    rfl
  have hn : c'.Nodup := hp.nodup_iff.mpr hc
  have hA : c'.filter (fun k => decide (k ∈ c'.take r)) = c'.take r := by
    have key : (c'.take r ++ c'.drop r).filter (fun k => decide (k ∈ c'.take r)) = c'.take r := by
      rw [List.filter_append, List.filter_eq_self.mpr fun a ha => decide_eq_true ha, List.filter_eq_nil_iff.mpr, List.append_nil]
      intro a ha hd
      have h1 := of_decide_eq_true hd
      rw [← List.take_append_drop r c'] at hn
      exact (List.nodup_append.mp hn).2.2 a h1 a ha rfl
    rw [List.take_append_drop] at key
    exact key
  refine ⟨c.filter fun k => decide (k ∈ c'.take r), List.filter_sublist, ?_, ?_⟩
  · have h1 := (hp.filter fun k => decide (k ∈ c'.take r)).length_eq
    rw [hA, List.length_take] at h1
    omega
  · unfold topR
    rw [hm, ← List.map_take]
    have h2 : c.filter (fun k => decide (k ∈ c.filter fun k => decide (k ∈ c'.take r))) = c.filter fun k => decide (k ∈ c'.take r) := by
      refine List.filter_congr fun k hk => ?_
      by_cases h : k ∈ c'.take r
      · have : k ∈ c.filter fun k => decide (k ∈ c'.take r) := List.mem_filter.mpr ⟨hk, decide_eq_true h⟩
        simp [this, h]
      · have : ¬ k ∈ c.filter fun k => decide (k ∈ c'.take r) := fun z => h (of_decide_eq_true (List.mem_filter.mp z).2)
        simp [this, h]
    have h3 := sum_perm σ (hp.filter fun k => decide (k ∈ c'.take r))
    rw [hA] at h3
    rw [h2]
    exact h3.symm
end BR
set_option Elab.async false
set_option linter.all false
set_option maxRecDepth 100000
set_option maxHeartbeats 4000000
/-! the time with some slow ones, by chains -/
namespace BR
open PySem
/-- the time by chains -/
theorem timeP_up {q : List Pas} {s : List Nat} (hs : s ∈ subsN q.length) (hc : chB q s = true) : (s.map (atQ q (·.takes))).sum ≤ timeP q := by
  obtain ⟨h1, h2⟩ := chB_iff.mp hc
  obtain ⟨z, hz⟩ : ∃ z, s.getLast? = some z := by
    cases h : s.getLast? with
    | none => exact absurd (by simpa using h) h1
    | some z => exact ⟨z, rfl⟩
  have hzl := (subsN_lt hs).2 z (List.mem_of_getLast? hz)
  have h3 := chains_up q (fun _ => 0) Pas.takes hs h2 hz (List.getElem?_eq_getElem (by rw [endsG_len]; exact hzl))
  have h4 : csum (atQ q fun _ => 0) (atQ q Pas.takes) s = (s.map (atQ q (·.takes))).sum := by
    cases s with
    | nil => exact absurd rfl h1
    | cons a r =>
      show atQ q (fun _ => 0) a + _ = _
      have : atQ q (fun _ => 0) a = 0 := by unfold atQ; cases q[a]? <;> rfl
      rw [this, Int.zero_add]
  rw [h4] at h3
  exact Int.le_trans h3 (le_mxf_mem (List.getElem_mem _))
theorem timeP_at {q : List Pas} (hq : 1 ≤ q.length) (ht : ∀ p ∈ q, 1 ≤ p.takes) : ∃ s ∈ subsN q.length, chB q s = true ∧ (s.map (atQ q (·.takes))).sum = timeP q := by
  have hin : timeP q ∈ endsP q := by
    rcases mxf_mem (b := 0) (xs := endsP q) with h | h
    · have hp : q[0]? = some q[0] := List.getElem?_eq_getElem hq
      have he : (endsP q)[0]? = some ((endsP q)[0]'(by rw [endsG_len]; exact hq)) := List.getElem?_eq_getElem _
      obtain ⟨h1, _, _⟩ := ends_rec relP (fun _ => 0) Pas.takes q hp he
      have h2 := ht _ (List.getElem_mem hq)
      have h3 := le_mxf_mem (b := 0) (List.mem_of_getElem? he)
      rw [h] at h3
      omega
    · exact h
  obtain ⟨k, hk, he⟩ := List.mem_iff_getElem.mp hin
  obtain ⟨s, s1, s2, s3, s4⟩ := chains_at q (fun _ => 0) Pas.takes (k := k) (e := timeP q) (by rw [← he]; exact List.getElem?_eq_getElem hk)
  have hsn : s ≠ [] := by intro z; subst z; simp at s3
  refine ⟨s, s1, chB_iff.mpr ⟨hsn, s2⟩, ?_⟩
  rw [← s4]
  cases s with
  | nil => exact absurd rfl hsn
  | cons a r =>
    show _ = atQ q (fun _ => 0) a + _
    have : atQ q (fun _ => 0) a = 0 := by unfold atQ; cases q[a]? <;> rfl
    rw [this, Int.zero_add]
/-- the queue with some slow ones -/
def slowQ (q : List Pas) (σ : List Int) (s : List Nat) : List Pas := q.zipIdx.map fun p => { p.1 with takes := p.1.takes + if p.2 ∈ s then σ.getD p.2 0 else 0 }
theorem slowQ_len (q : List Pas) (σ : List Int) (s : List Nat) : (slowQ q σ s).length = q.length := by unfold slowQ; rw [List.length_map, List.length_zipIdx]
theorem slowQ_get {q : List Pas} {σ : List Int} {s : List Nat} {k : Nat} : (slowQ q σ s)[k]? = q[k]?.map fun p => { p with takes := p.takes + if k ∈ s then σ.getD k 0 else 0 } := by
  unfold slowQ
  rw [List.getElem?_map, List.getElem?_zipIdx]
  cases q[k]? <;> simp
theorem slowQ_row (q : List Pas) (σ : List Int) (s : List Nat) : rowR (slowQ q σ s) = rowR q := by
  funext i k
  unfold rowR
  rw [slowQ_get, slowQ_get]
  cases q[i]? <;> cases q[k]? <;> rfl
theorem slowQ_chB (q : List Pas) (σ : List Int) (s : List Nat) : chB (slowQ q σ s) = chB q := by
  funext c
  rw [Bool.eq_iff_iff, chB_iff, chB_iff, slowQ_row]
theorem slowQ_at {q : List Pas} {σ : List Int} {s : List Nat} {k : Nat} (hk : k < q.length) : atQ (slowQ q σ s) (·.takes) k = atQ q (·.takes) k + if k ∈ s then σ.getD k 0 else 0 := by
  unfold atQ
  rw [slowQ_get, List.getElem?_eq_getElem hk]; rfl
def tS (q : List Pas) (σ : List Int) (s : List Nat) : Int := timeP (slowQ q σ s)
def slowS (q : List Pas) (σ : List Int) (r : Nat) (c : List Nat) : Int := (c.map (atQ q (·.takes))).sum + topR r (c.map fun k => σ.getD k 0)
noncomputable def gS (q : List Pas) (σ : List Int) (r : Nat) : Int := imax (((subsN q.length).filter (chB q)).map (slowS q σ r))
theorem sum_plus {α : Type} (f g : α → Int) : ∀ c : List α, (c.map fun k => f k + g k).sum = (c.map f).sum + (c.map g).sum
  | [] => rfl
  | a :: r => by
    have := sum_plus f g r
    simp only [List.map_cons, List.sum_cons]
    omega
theorem slow_chain {q : List Pas} {σ : List Int} {s c : List Nat} (hc : ∀ k ∈ c, k < q.length) : (c.map (atQ (slowQ q σ s) (·.takes))).sum = (c.map (atQ q (·.takes))).sum + ((c.filter fun k => decide (k ∈ s)).map fun k => σ.getD k 0).sum := by
  rw [← sum_if, ← sum_plus]
  congr 1
  refine List.map_congr_left fun k hk => ?_
  rw [slowQ_at (hc k hk)]
  simp
structure OkS (σ : List Int) (n : Nat) : Prop where
  len : σ.length = n
  lo : ∀ c ∈ σ, 0 ≤ c
  hi : ∀ c ∈ σ, c ≤ 9
theorem OkS.nn {σ : List Int} {n : Nat} (h : OkS σ n) (k : Nat) : 0 ≤ σ.getD k 0 := by
  rw [List.getD_eq_getElem?_getD]
  cases e : σ[k]? with
  | none => simp
  | some x => exact h.lo x (List.mem_of_getElem? e)
theorem OkS.le9 {σ : List Int} {n : Nat} (h : OkS σ n) (k : Nat) : σ.getD k 0 ≤ 9 := by
  rw [List.getD_eq_getElem?_getD]
  cases e : σ[k]? with
  | none => simp
  | some x => exact h.hi x (List.mem_of_getElem? e)
section
variable {q : List Pas} {σ : List Int}
theorem chains_ne (hq : 1 ≤ q.length) (ht : ∀ p ∈ q, 1 ≤ p.takes) : (subsN q.length).filter (chB q) ≠ [] := fun e => by
  obtain ⟨s, h1, h2, _⟩ := timeP_at hq ht
  have : s ∈ (subsN q.length).filter (chB q) := List.mem_filter.mpr ⟨h1, h2⟩
  rw [e] at this
  simp at this
theorem slowQ_takes (hs : OkS σ q.length) (ht : ∀ p ∈ q, 1 ≤ p.takes) (s : List Nat) : ∀ p ∈ slowQ q σ s, 1 ≤ p.takes := fun p hp => by
  obtain ⟨⟨x, k⟩, hx, rfl⟩ := List.mem_map.mp hp
  have h1 := ht x (List.fst_mem_of_mem_zipIdx hx)
  have h2 := hs.nn k
  show 1 ≤ x.takes + if k ∈ s then σ.getD k 0 else 0
  split <;> omega
theorem subsN_nodup {n : Nat} {s : List Nat} (hs : s ∈ subsN n) : s.Nodup := (subsN_lt hs).1.imp fun h => Nat.ne_of_lt h
theorem tS_le (hq : 1 ≤ q.length) (ht : ∀ p ∈ q, 1 ≤ p.takes) (hs : OkS σ q.length) {s : List Nat} {r : Nat} (hr : s.length ≤ r) : tS q σ s ≤ gS q σ r := by
  obtain ⟨c, c1, c2, c3⟩ := timeP_at (q := slowQ q σ s) (by rw [slowQ_len]; exact hq) (slowQ_takes hs ht s)
  rw [slowQ_len] at c1
  rw [slowQ_chB] at c2
  have hcl := (subsN_lt c1).2
  rw [slow_chain hcl] at c3
  have h1 : ((c.filter fun k => decide (k ∈ s)).map fun k => σ.getD k 0).sum ≤ topR r (c.map fun k => σ.getD k 0) := by
    refine top_sub (List.Sublist.map _ List.filter_sublist) (fun x hx => ?_) ?_
    · obtain ⟨k, _, rfl⟩ := List.mem_map.mp hx
      exact hs.nn k
    · rw [List.length_map]
      refine Nat.le_trans (nodup_len _ s ((subsN_nodup c1).filter _) fun x hx => of_decide_eq_true (List.mem_filter.mp hx).2) hr
  have h2 : slowS q σ r c ≤ gS q σ r := le_imax (List.mem_map.mpr ⟨c, List.mem_filter.mpr ⟨c1, c2⟩, rfl⟩)
  unfold tS
  rw [← c3]
  unfold slowS at h2
  omega
theorem tS_ex (hq : 1 ≤ q.length) (ht : ∀ p ∈ q, 1 ≤ p.takes) (hs : OkS σ q.length) (r : Nat) : ∃ s ∈ subsN q.length, s.length ≤ r ∧ tS q σ s = gS q σ r := by
  have hne : (((subsN q.length).filter (chB q)).map (slowS q σ r)) ≠ [] := by
    have := chains_ne hq ht
    simpa using this
  obtain ⟨c, hc, he⟩ := List.mem_map.mp (imax_mem hne)
  obtain ⟨c1, c2⟩ := List.mem_filter.mp hc
  obtain ⟨l1, l2⟩ := subsN_lt c1
  obtain ⟨s, s1, s2, s3⟩ := top_at c (subsN_nodup c1) (fun k => σ.getD k 0) r
  have hss : s ∈ subsN q.length := subsN_mem (l1.sublist s1) fun x hx => l2 x (s1.subset hx)
  refine ⟨s, hss, s2, Int.le_antisymm (tS_le hq ht hs s2) ?_⟩
  have h1 := timeP_up (q := slowQ q σ s) (s := c) (by rw [slowQ_len]; exact c1) (by rw [slowQ_chB]; exact c2)
  rw [slow_chain l2, s3] at h1
  have h2 : slowS q σ r c = gS q σ r := he
  unfold slowS at h2
  unfold tS
  omega
/-- the greatest time with so many slow ones, of all sets -/
theorem gS_imax (hq : 1 ≤ q.length) (ht : ∀ p ∈ q, 1 ≤ p.takes) (hs : OkS σ q.length) (r : Nat) : imax (((subsN q.length).filter fun s => decide ((s.length : Int) ≤ (r : Int))).map (tS q σ)) = gS q σ r := by
  obtain ⟨s, s1, s2, s3⟩ := tS_ex hq ht hs r
  refine imax_eq (List.mem_map.mpr ⟨s, List.mem_filter.mpr ⟨s1, decide_eq_true (by omega)⟩, s3⟩) fun x hx => ?_
  obtain ⟨t, ht', rfl⟩ := List.mem_map.mp hx
  have := of_decide_eq_true (List.mem_filter.mp ht').2
  exact tS_le hq ht hs (by omega)
theorem gS_perm {L : List (List Nat)} (h : L.Perm ((subsN q.length).filter (chB q))) (hq : 1 ≤ q.length) (ht : ∀ p ∈ q, 1 ≤ p.takes) (r : Nat) : imax (L.map (slowS q σ r)) = gS q σ r := by
  have hne : (((subsN q.length).filter (chB q)).map (slowS q σ r)) ≠ [] := by
    have := chains_ne hq ht
    simpa using this
  have hp := h.map (slowS q σ r)
  exact imax_eq (hp.mem_iff.mpr (imax_mem hne)) fun x hx => le_imax (hp.mem_iff.mp hx)
/-- the fewest slow ones -/
noncomputable def fewS (q : List Pas) (σ : List Int) (t : Int) : Option Nat := (List.range (q.length + 1)).find? fun r => decide (t < gS q σ r)
theorem fewS_eq (hq : 1 ≤ q.length) (ht : ∀ p ∈ q, 1 ≤ p.takes) (hs : OkS σ q.length) (t : Int) : ((subsN q.length).filter fun s => decide (t < tS q σ s)) = [] ∧ fewS q σ t = none ∨ ((subsN q.length).filter fun s => decide (t < tS q σ s)) ≠ [] ∧ ∃ r : Nat, fewS q σ t = some r ∧ r ≤ q.length ∧ imin (((subsN q.length).filter fun s => decide (t < tS q σ s)).map fun s => (s.length : Int)) = (r : Int) := by
  by_cases h : ((subsN q.length).filter fun s => decide (t < tS q σ s)) = []
  · left
    refine ⟨h, ?_⟩
    unfold fewS
    rw [List.find?_eq_none]
    intro r hr hd
    have hd := of_decide_eq_true hd
    obtain ⟨s, s1, s2, s3⟩ := tS_ex hq ht hs r
    have : s ∈ (subsN q.length).filter fun s => decide (t < tS q σ s) := List.mem_filter.mpr ⟨s1, decide_eq_true (by omega)⟩
    rw [h] at this
    simp at this
  · right
    refine ⟨h, ?_⟩
    have hne : (((subsN q.length).filter fun s => decide (t < tS q σ s)).map fun s => (s.length : Int)) ≠ [] := by simpa using h
    obtain ⟨s0, h0, e0⟩ := List.mem_map.mp (imin_mem hne)
    obtain ⟨g1, g2⟩ := List.mem_filter.mp h0
    have g2 := of_decide_eq_true g2
    have hg := tS_le hq ht hs (Nat.le_refl s0.length)
    have hl := subsN_length g1
    cases hf : fewS q σ t with
    | none =>
      unfold fewS at hf
      rw [List.find?_eq_none] at hf
      exact absurd (decide_eq_true (show t < gS q σ s0.length by omega)) (hf s0.length (List.mem_range.mpr (by omega)))
    | some r =>
      unfold fewS at hf
      obtain ⟨hp, as, bs, hab, hno⟩ := List.find?_eq_some_iff_append.mp hf
      have hp := of_decide_eq_true hp
      obtain ⟨hr, hrn⟩ := pre_range hab.symm
      refine ⟨r, rfl, by omega, ?_⟩
      obtain ⟨s, s1, s2, s3⟩ := tS_ex hq ht hs r
      have h1 : imin (((subsN q.length).filter fun s => decide (t < tS q σ s)).map fun s => (s.length : Int)) ≤ (s.length : Int) := imin_le (List.mem_map.mpr ⟨s, List.mem_filter.mpr ⟨s1, decide_eq_true (by omega)⟩, rfl⟩)
      have h2 : r ≤ s0.length := by
        rcases Nat.lt_or_ge s0.length r with z | z
        · have hm : s0.length ∈ as := by
            have : (as ++ r :: bs)[s0.length]? = some s0.length := by rw [← hab]; exact List.getElem?_range (by omega)
            rw [List.getElem?_append_left (by omega)] at this
            exact List.mem_of_getElem? this
          have := hno _ hm
          simp at this
          omega
        · exact z
      omega
end
end BR
namespace BR
open PySem
abbrev accP (q : List Pas) : List (Pas × Int) := accE relP (fun _ => 0) Pas.takes q
def startsP (q : List Pas) : List Int := (accP q).map fun x => x.2 - x.1.takes
theorem startsP_len (q : List Pas) : (startsP q).length = q.length := by unfold startsP; rw [List.length_map, accE_len]
theorem startsP_snoc (q : List Pas) (p : Pas) : startsP (q ++ [p]) = startsP q ++ [mxf 0 (((accP q).filter fun y => relP y.1 p).map (·.2))] := by
  unfold startsP accP
  rw [accE_snoc, List.map_append]
  simp [accV]
end BR
namespace BR
open PySem
theorem idx_getD {cs : List Int} {k : Nat} (hk : k < cs.length) : idxF (.tuple (cs.map .int)) (.int (k : Int)) = some (.int (cs.getD k 0)) := by
  rw [idxF_tuple_nat, List.getElem?_map, List.getElem?_eq_getElem hk]
  simp [List.getElem?_eq_getElem hk]
theorem mem_natsI {k : Nat} {s : List Nat} : ((k : Int) ∈ natsI s) ↔ k ∈ s := by
  unfold natsI
  rw [List.mem_map]
  constructor
  · rintro ⟨a, h, e⟩
    have : a = k := by omega
    exact this ▸ h
  · intro h; exact ⟨k, h, rfl⟩
theorem in_set {k : Nat} {s : List Nat} : cmpF .In (.int (k : Int)) (encS s) = some (decide (k ∈ s)) := by
  unfold encS
  rw [cmpF_in_tup]
  congr 1
  simp [mem_natsI]
theorem zip_range {α : Type} (q : List α) : q.zip (List.range q.length) = q.zipIdx := by
  apply List.ext_getElem?
  intro i
  rw [List.getElem?_zipIdx, List.zip, List.getElem?_zipWith]
  rcases Nat.lt_or_ge i q.length with h | h
  · rw [List.getElem?_eq_getElem h, List.getElem?_range h]; simp
  · rw [List.getElem?_eq_none h]; simp
end BR
set_option Elab.async false
set_option linter.all false
set_option maxRecDepth 100000
set_option maxHeartbeats 4000000
/-! who can be last, who sits surely ahead: by TAKES of 1 and 9; times of parts of a queue -/
namespace BR
open PySem
theorem rowR_trans (q : List Pas) {a b c : Nat} (h1 : rowR q a b = true) (h2 : rowR q b c = true) : rowR q a c = true := by
  unfold rowR at *
  cases ha : q[a]? <;> cases hb : q[b]? <;> cases hc : q[c]? <;> simp_all
  omega
theorem chain_pair {R : Nat → Nat → Bool} (ht : ∀ a b c, R a b = true → R b c = true → R a c = true) {s : List Nat} (h : chainP R s) : ∀ (d i a b : Nat), s[i]? = some a → s[i + d + 1]? = some b → R a b = true := by
  intro d
  induction d with
  | zero => intro i a b ha hb; exact h i a b ha hb
  | succ d ih =>
    intro i a b ha hb
    have hl := lt_of_get hb
    have hm : s[i + d + 1]? = some s[i + d + 1] := List.getElem?_eq_getElem (by omega)
    exact ht _ _ _ (ih i a _ ha hm) (h (i + d + 1) _ b hm hb)
/-- a queue with other TAKES -/
def withT (q : List Pas) (ts : List Int) : List Pas := (q.zip ts).map fun x => { x.1 with takes := x.2 }
theorem withT_len {q : List Pas} {ts : List Int} (h : ts.length = q.length) : (withT q ts).length = q.length := by
  unfold withT
  rw [List.length_map, List.length_zip]
  omega
theorem withT_get {q : List Pas} {ts : List Int} {k : Nat} {p : Pas} {t : Int} (hp : q[k]? = some p) (ht : ts[k]? = some t) : (withT q ts)[k]? = some { p with takes := t } := by
  unfold withT
  rw [List.getElem?_map, List.zip, List.getElem?_zipWith, hp, ht]
  rfl
theorem withT_row {q : List Pas} {ts : List Int} (h : ts.length = q.length) : rowR (withT q ts) = rowR q := by
  have hg : ∀ k : Nat, (withT q ts)[k]?.map (·.row) = q[k]?.map (·.row) := fun k => by
    rcases Nat.lt_or_ge k q.length with z | z
    · rw [withT_get (List.getElem?_eq_getElem z) (List.getElem?_eq_getElem (by omega)), List.getElem?_eq_getElem z]; rfl
    · rw [List.getElem?_eq_none (by rw [withT_len h]; exact z), List.getElem?_eq_none z]
  funext i k
  have h1 := hg i
  have h2 := hg k
  unfold rowR
  cases a : (withT q ts)[i]? <;> cases b : (withT q ts)[k]? <;> cases c : q[i]? <;> cases d : q[k]? <;> simp_all
abbrev endW (q : List Pas) (ts : List Int) : List Int := endsP (withT q ts)
theorem endW_len {q : List Pas} {ts : List Int} (h : ts.length = q.length) : (endW q ts).length = q.length := by rw [endsG_len, withT_len h]
/-- surely ahead -/
def sureB (q : List Pas) (i k : Nat) : Bool := decide (i < k) && rowR q i k
theorem sure_lt {q : List Pas} {ts : List Int} (h : ts.length = q.length) (h1 : ∀ t ∈ ts, 1 ≤ t) {i k : Nat} {ei ek : Int} (hs : sureB q i k = true) (hi : (endW q ts)[i]? = some ei) (hk : (endW q ts)[k]? = some ek) : ei < ek := by
  unfold sureB at hs
  rw [Bool.and_eq_true] at hs
  have hik := of_decide_eq_true hs.1
  have hr := hs.2
  rw [← withT_row h] at hr
  have lk : k < (withT q ts).length := by have := lt_of_get hk; rwa [endsG_len] at this
  have li : i < (withT q ts).length := by omega
  have pk := List.getElem?_eq_getElem lk
  have pi := List.getElem?_eq_getElem li
  obtain ⟨_, h2, _⟩ := ends_rec relP (fun _ => 0) Pas.takes (withT q ts) pk hk
  have hrel : relP (withT q ts)[i] (withT q ts)[k] = true := by
    unfold rowR at hr
    rw [pi, pk] at hr
    exact hr
  have h3 := h2 i _ _ hik pi hi hrel
  have htk : 1 ≤ (withT q ts)[k].takes := by
    have hq : k < q.length := by rw [withT_len h] at lk; exact lk
    have := withT_get (q := q) (ts := ts) (List.getElem?_eq_getElem hq) (List.getElem?_eq_getElem (show k < ts.length by omega))
    rw [pk] at this
    rw [Option.some.inj this]
    exact h1 _ (List.getElem_mem _)
  omega
/-- 9 at one place, 1 elsewhere -/
def heavyT (n i : Nat) : List Int := (List.range n).map fun k => if k = i then 9 else 1
theorem heavy_len (n i : Nat) : (heavyT n i).length = n := by unfold heavyT; rw [List.length_map, List.length_range]
theorem heavy_get {n i k : Nat} (h : k < n) : (heavyT n i)[k]? = some (if k = i then 9 else 1) := by
  unfold heavyT
  rw [List.getElem?_map, List.getElem?_range h]; rfl
theorem heavy_ge (n i : Nat) : ∀ t ∈ heavyT n i, t = 1 ∨ t = 9 := fun t h => by
  obtain ⟨k, _, rfl⟩ := List.mem_map.mp h
  split <;> simp
theorem heavy_wins {q : List Pas} (h9 : q.length ≤ 9) {i k : Nat} (hne : i ≠ k) (hs : sureB q i k = false) {ei ek : Int} (hi : (endW q (heavyT q.length i))[i]? = some ei) (hk : (endW q (heavyT q.length i))[k]? = some ek) : ek < ei := by
  have h : (heavyT q.length i).length = q.length := heavy_len _ _
  have lk : k < q.length := by have := lt_of_get hk; rwa [endW_len h] at this
  have li : i < q.length := by have := lt_of_get hi; rwa [endW_len h] at this
  have p9 : 9 ≤ ei := by
    have pi := withT_get (q := q) (List.getElem?_eq_getElem li) (heavy_get (i := i) li)
    rw [if_pos rfl] at pi
    obtain ⟨h2, _, _⟩ := ends_rec relP (fun _ => 0) Pas.takes _ pi hi
    simpa using h2
  obtain ⟨s, s1, s2, s3, s4⟩ := chains_at (withT q (heavyT q.length i)) (fun _ => 0) Pas.takes hk
  rw [withT_len h] at s1
  rw [withT_row h] at s2
  obtain ⟨l1, l2⟩ := subsN_lt s1
  have hnot : i ∉ s := fun hm => by
    obtain ⟨a, ha, hia⟩ := List.mem_iff_getElem.mp hm
    have hlast : s[s.length - 1]? = some k := by rw [← List.getLast?_eq_getElem?]; exact s3
    have hal : a ≠ s.length - 1 := fun e => by
      subst e
      rw [List.getElem?_eq_getElem ha] at hlast
      exact hne (hia.symm.trans (Option.some.inj hlast))
    obtain ⟨d, hd⟩ : ∃ d, s.length - 1 = a + d + 1 := ⟨s.length - 1 - a - 1, by omega⟩
    rw [hd] at hlast
    have hR := chain_pair (R := rowR q) (fun _ _ _ h1 h2 => rowR_trans q h1 h2) s2 d a i k (by rw [List.getElem?_eq_getElem ha, hia]) hlast
    have hlt : i < k := by
      have := List.pairwise_iff_getElem.mp l1 a (a + d + 1) ha (lt_of_get hlast) (by omega)
      rw [List.getElem?_eq_getElem (lt_of_get hlast)] at hlast
      rw [Option.some.inj hlast, hia] at this
      exact this
    unfold sureB at hs
    rw [hR, decide_eq_true hlt] at hs
    cases hs
  have hsn : s ≠ [] := by intro z; subst z; simp at s3
  have hsum : csum (atQ (withT q (heavyT q.length i)) fun _ => 0) (atQ (withT q (heavyT q.length i)) Pas.takes) s = (s.length : Int) := by
    have hone : s.map (atQ (withT q (heavyT q.length i)) Pas.takes) = s.map fun _ => (1 : Int) := List.map_congr_left fun k hk => by
      have hkl := l2 k hk
      unfold atQ
      rw [withT_get (q := q) (List.getElem?_eq_getElem hkl) (heavy_get (i := i) hkl), if_neg fun (e : k = i) => hnot (e ▸ hk)]
    have hz : ∀ a, atQ (withT q (heavyT q.length i)) (fun _ => 0) a = 0 := fun a => by unfold atQ; cases (withT q (heavyT q.length i))[a]? <;> rfl
    have hs1 : ∀ l : List Nat, (l.map fun _ => (1 : Int)).sum = (l.length : Int) := fun l => by
      induction l with
      | nil => rfl
      | cons a r ih => simp only [List.map_cons, List.sum_cons, ih, List.length_cons]; omega
    cases s with
    | nil => exact absurd rfl hsn
    | cons a r =>
      show atQ (withT q (heavyT q.length i)) (fun _ => 0) a + _ = _
      rw [hz, hone, hs1]
      omega
  rw [hsum] at s4
  have hlen : (i :: s).length ≤ (List.range q.length).length := nodup_len _ _ (List.nodup_cons.mpr ⟨hnot, subsN_nodup s1⟩) fun x hx => by
    rw [List.mem_range]
    rcases List.mem_cons.mp hx with rfl | hx
    · exact li
    · exact l2 x hx
  rw [List.length_range, List.length_cons] at hlen
  omega
end BR
namespace BR
open PySem
/-- all rows of so many things -/
def tupsO (ths : List Int) : Nat → List (List Int)
  | 0 => [[]]
  | n + 1 => (tupsO ths n).flatMap fun r => ths.map fun e => r ++ [e]
theorem flat_len {ths : List Int} : ∀ L : List (List Int), (L.flatMap fun r => ths.map fun e => r ++ [e]).length = L.length * ths.length
  | [] => by simp
  | a :: r => by
    rw [List.flatMap_cons, List.length_append, flat_len r, List.length_map, List.length_cons, Nat.add_mul]
    omega
theorem tupsO_len (ths : List Int) (n : Nat) : (tupsO ths n).length = ths.length ^ n := by
  induction n with
  | zero => rfl
  | succ n ih => rw [tupsO, flat_len, ih, Nat.pow_succ]
theorem tupsO_mem {ths : List Int} {n : Nat} {r : List Int} : r ∈ tupsO ths n ↔ r.length = n ∧ ∀ t ∈ r, t ∈ ths := by
  induction n generalizing r with
  | zero =>
    rw [tupsO, List.mem_singleton]
    constructor
    · rintro rfl; exact ⟨rfl, fun t h => by simp at h⟩
    · rintro ⟨h, _⟩; exact List.length_eq_zero_iff.mp h
  | succ n ih =>
    rw [tupsO, List.mem_flatMap]
    constructor
    · rintro ⟨s, hs, hr⟩
      obtain ⟨e, he, rfl⟩ := List.mem_map.mp hr
      obtain ⟨h1, h2⟩ := ih.mp hs
      refine ⟨by simp [h1], fun t ht => ?_⟩
      rcases List.mem_append.mp ht with z | z
      · exact h2 t z
      · simp at z; subst z; exact he
    · rintro ⟨h1, h2⟩
      rcases List.eq_nil_or_concat r with rfl | ⟨s, e, rfl⟩
      · simp at h1
      · rw [List.concat_eq_append] at h1 h2 ⊢
        refine ⟨s, ih.mpr ⟨by simp at h1; exact h1, fun t ht => h2 t (by simp [ht])⟩, List.mem_map.mpr ⟨e, h2 e (by simp), rfl⟩⟩
end BR
set_option Elab.async false
set_option linter.all false
set_option maxRecDepth 100000
set_option maxHeartbeats 4000000
/-! the time by parts of a queue whose rows never fall -/
namespace BR
open PySem
theorem sub_one {α : Type} {l : List α} {p : α} (h : l.Sublist [p]) : l = [] ∨ l = [p] := by
  cases l with
  | nil => exact .inl rfl
  | cons a r =>
    right
    have hl := h.length_le
    simp only [List.length_cons, List.length_nil] at hl
    have hr : r = [] := List.length_eq_zero_iff.mp (by omega)
    subst hr
    have hm := h.subset (List.mem_singleton.mpr (rfl : a = a))
    rw [List.mem_singleton.mp hm]
theorem part_up (q : List Pas) : ∀ (s : List Pas) (x : Pas), (s ++ [x]).Sublist q → (s ++ [x]).Pairwise (fun a b => relP a b = true) → ∃ e, (x, e) ∈ accP q ∧ ((s ++ [x]).map (·.takes)).sum ≤ e := by
  refine snoc_ind (P := fun q => ∀ (s : List Pas) (x : Pas), (s ++ [x]).Sublist q → (s ++ [x]).Pairwise (fun a b => relP a b = true) → ∃ e, (x, e) ∈ accP q ∧ ((s ++ [x]).map (·.takes)).sum ≤ e) (fun s x h => ?_) (fun l p ih s x h hp => ?_) q
  · have := h.length_le
    simp at this
  · show ∃ e, (x, e) ∈ accE relP (fun _ => 0) Pas.takes (l ++ [p]) ∧ _
    rw [accE_snoc]
    obtain ⟨l1, l2, e12, h1, h2⟩ := List.sublist_append_iff.mp h
    have h2' := sub_one h2
    rcases h2' with rfl | rfl
    · rw [List.append_nil] at e12
      rw [← e12] at h1
      obtain ⟨e, he, hs⟩ := ih s x h1 hp
      exact ⟨e, List.mem_append_left _ he, hs⟩
    · have e3 : s = l1 ∧ [x] = [p] := List.append_inj' e12 rfl
      obtain ⟨rfl, e4⟩ := e3
      cases e4
      refine ⟨accV relP (fun _ => 0) Pas.takes (accP l) p, List.mem_append_right _ (by simp), ?_⟩
      rcases List.eq_nil_or_concat s with rfl | ⟨s', y, rfl⟩
      · have := le_mxf (b := 0) (xs := ((accP l).filter fun z => relP z.1 p).map (·.2))
        unfold accV
        simp
        omega
      · rw [List.concat_eq_append] at h1 hp ⊢
        obtain ⟨e, he, hs⟩ := ih s' y h1 (List.pairwise_append.mp hp).1
        have hr : relP y p = true := (List.pairwise_append.mp hp).2.2 y (by simp) p (by simp)
        have := le_mxf_mem (b := 0) (x := e) (xs := ((accP l).filter fun z => relP z.1 p).map (·.2)) (List.mem_map.mpr ⟨(y, e), List.mem_filter.mpr ⟨he, hr⟩, rfl⟩)
        unfold accV
        rw [List.map_append, List.sum_append]
        simp only [List.map_cons, List.map_nil, List.sum_cons, List.sum_nil]
        omega
theorem part_at (q : List Pas) : ∀ (x : Pas) (e : Int), (x, e) ∈ accP q → ∃ s : List Pas, (s ++ [x]).Sublist q ∧ (s ++ [x]).Pairwise (fun a b => relP a b = true) ∧ ((s ++ [x]).map (·.takes)).sum = e := by
  refine snoc_ind (P := fun q => ∀ (x : Pas) (e : Int), (x, e) ∈ accP q → ∃ s : List Pas, (s ++ [x]).Sublist q ∧ (s ++ [x]).Pairwise (fun a b => relP a b = true) ∧ ((s ++ [x]).map (·.takes)).sum = e) (fun x e h => ?_) (fun l p ih x e h => ?_) q
  · simp [accP, accE] at h
  · have h : (x, e) ∈ accE relP (fun _ => 0) Pas.takes (l ++ [p]) := h
    rw [accE_snoc] at h
    rcases List.mem_append.mp h with h | h
    · obtain ⟨s, h1, h2, h3⟩ := ih x e h
      exact ⟨s, h1.trans (List.sublist_append_left _ _), h2, h3⟩
    · simp only [List.mem_singleton, Prod.mk.injEq] at h
      obtain ⟨rfl, rfl⟩ := h
      rcases mxf_mem (b := 0) (xs := ((accP l).filter fun z => relP z.1 x).map (·.2)) with hm | hm
      · refine ⟨[], by simp, by simp, ?_⟩
        unfold accV
        rw [hm]
        simp
      · obtain ⟨⟨y, e⟩, hy, he⟩ := List.mem_map.mp hm
        obtain ⟨hy1, hy2⟩ := List.mem_filter.mp hy
        obtain ⟨s, h1, h2, h3⟩ := ih y e hy1
        refine ⟨s ++ [y], ?_, ?_, ?_⟩
        · exact h1.append (List.Sublist.refl _)
        · rw [List.pairwise_append]
          refine ⟨h2, by simp, fun a ha b hb => ?_⟩
          simp at hb
          subst hb
          rcases List.mem_append.mp ha with z | z
          · exact relP_trans ((List.pairwise_append.mp h2).2.2 a z y (by simp)) hy2
          · simp at z; subst z; exact hy2
        · unfold accV
          rw [← he, List.map_append, List.sum_append, h3]
          simp
theorem time_up {q s : List Pas} (h : s.Sublist q) (hp : s.Pairwise fun a b => relP a b = true) : (s.map (·.takes)).sum ≤ timeP q := by
  rcases List.eq_nil_or_concat s with rfl | ⟨s', y, rfl⟩
  · exact le_mxf
  · rw [List.concat_eq_append] at h hp ⊢
    obtain ⟨e, he, hs⟩ := part_up q s' y h hp
    exact Int.le_trans hs (le_mxf_mem (List.mem_map.mpr ⟨(y, e), he, rfl⟩))
theorem time_at (q : List Pas) : ∃ s : List Pas, s.Sublist q ∧ (s.Pairwise fun a b => relP a b = true) ∧ (s.map (·.takes)).sum = timeP q := by
  rcases mxf_mem (b := 0) (xs := endsP q) with h | h
  · exact ⟨[], List.nil_sublist _, List.Pairwise.nil, h.symm⟩
  · obtain ⟨⟨x, e⟩, hx, he⟩ := List.mem_map.mp h
    obtain ⟨s, h1, h2, h3⟩ := part_at q x e hx
    exact ⟨s ++ [x], h1, h2, by rw [h3]; exact he⟩
/-- a part of a queue never takes longer -/
theorem time_part {q q' : List Pas} (h : q'.Sublist q) : timeP q' ≤ timeP q := by
  obtain ⟨s, h1, h2, h3⟩ := time_at q'
  rw [← h3]
  exact time_up (h1.trans h) h2
/-! two doors -/
def frontQ (q : List Pas) (cut : Int) : List Pas := q.filter fun p => decide (p.row ≤ cut)
def backQ (q : List Pas) (last cut : Int) : List Pas := (q.filter fun p => decide (cut < p.row)).map fun p => { p with row := last - p.row + 1 }
theorem front_mono (q : List Pas) {c d : Int} (h : c ≤ d) : timeP (frontQ q c) ≤ timeP (frontQ q d) := by
  refine time_part ?_
  have : frontQ q c = (frontQ q d).filter fun p => decide (p.row ≤ c) := by
    unfold frontQ
    rw [List.filter_filter]
    refine List.filter_congr fun p _ => ?_
    by_cases h1 : p.row ≤ c
    · simp [h1, show p.row ≤ d by omega]
    · simp [h1]
  rw [this]
  exact List.filter_sublist
theorem back_mono (q : List Pas) (last : Int) {c d : Int} (h : c ≤ d) : timeP (backQ q last d) ≤ timeP (backQ q last c) := by
  refine time_part ?_
  unfold backQ
  refine List.Sublist.map _ ?_
  have : (q.filter fun p => decide (d < p.row)) = (q.filter fun p => decide (c < p.row)).filter fun p => decide (d < p.row) := by
    rw [List.filter_filter]
    refine List.filter_congr fun p _ => ?_
    by_cases h1 : d < p.row
    · simp [h1, show c < p.row by omega]
    · simp [h1]
  rw [this]
  exact List.filter_sublist
end BR
namespace BR
open PySem
theorem front_len (q : List Pas) (c : Int) : (frontQ q c).length ≤ q.length := List.length_filter_le _ _
theorem back_len (q : List Pas) (l c : Int) : (backQ q l c).length ≤ q.length := by unfold backQ; rw [List.length_map]; exact List.length_filter_le _ _
def doorT (q : List Pas) (last cut : Int) : Int × Int := (timeP (frontQ q cut), timeP (backQ q last cut))
def worstT (q : List Pas) (last cut : Int) : Int := max (doorT q last cut).1 (doorT q last cut).2
def encD (d : Int × Int) : PyData := .tuple [.int d.1, .int d.2]
/-- the first least one, by pairs -/
theorem first_cut (t : Nat → Int) {N : Nat} (hN : 1 ≤ N) : ∃ m : Nat, m < N ∧ biF .min1 [.list ((List.range N).map fun k => .tuple [.int (t k), .int (k : Int)])] = some (.tuple [.int (t m), .int (m : Int)]) ∧ imin ((List.range N).map t) = t m ∧ ((List.range N).map t).findIdx? (fun y => y == t m) = some m := by
  have hne : List.range N ≠ [] := fun e => by
    have := congrArg List.length e
    rw [List.length_range] at this
    simp at this
    omega
  obtain ⟨m, hm, e, h⟩ := min1_tups (fun k : Nat => [t k, (k : Int)]) hne
  have hmN := List.mem_range.mp hm
  have hle : ∀ k, k < N → t m < t k ∨ (t m = t k ∧ m ≤ k) := fun k hk => by
    have h2 := h k (List.mem_range.mpr hk)
    rcases Int.lt_trichotomy (t k) (t m) with z | z | z
    · exact absurd (List.cons_lt_cons_iff.mpr (.inl z)) h2
    · refine .inr ⟨z.symm, ?_⟩
      rcases Nat.lt_or_ge k m with w | w
      · refine absurd (List.cons_lt_cons_iff.mpr (.inr ⟨z, List.cons_lt_cons_iff.mpr (.inl (by omega))⟩)) h2
      · exact w
    · exact .inl z
  refine ⟨m, hmN, by simpa using e, imin_eq (List.mem_map.mpr ⟨m, hm, rfl⟩) fun x hx => ?_, ?_⟩
  · obtain ⟨k, hk, rfl⟩ := List.mem_map.mp hx
    rcases hle k (List.mem_range.mp hk) with z | z <;> omega
  · rw [List.findIdx?_eq_some_iff_getElem]
    refine ⟨by rw [List.length_map, List.length_range]; exact hmN, by simp, fun j hj => ?_⟩
    have hjN : j < N := by omega
    simp
    rcases hle j hjN with z | z
    · omega
    · omega
end BR
set_option Elab.async false
set_option linter.all false
set_option maxRecDepth 100000
set_option maxHeartbeats 4000000
/-! merges of two queues; the first least one by data -/
namespace BR
open PySem
/-! the order of data -/
theorem dle_trans {a b c : PyData} (h1 : W.dataLt b a = false) (h2 : W.dataLt c b = false) : W.dataLt c a = false := by
  cases h : W.dataLt c a with
  | false => rfl
  | true =>
    rcases PyProof.Rows.lex_negTrans (O := PyProof.Rows.itemOrd) (W.keyToks c) (W.keyToks b) (W.keyToks a) h with z | z
    · exact absurd (show W.dataLt c b = true from z) (by rw [h2]; simp)
    · exact absurd (show W.dataLt b a = true from z) (by rw [h1]; simp)
theorem dlt_asymm {a b : PyData} (h : W.dataLt a b = true) : W.dataLt b a = false := by
  cases h2 : W.dataLt b a with
  | false => rfl
  | true =>
    have := PyProof.Rows.lex_trans (O := PyProof.Rows.itemOrd) (W.keyToks a) (W.keyToks b) (W.keyToks a) h h2
    rw [PyProof.Rows.lex_irrefl] at this
    cases this
theorem dlt_self (a : PyData) : W.dataLt a a = false := PyProof.Rows.lex_irrefl _
theorem minD_least : ∀ (xs : List PyData) (x : PyData), W.minD x xs ∈ x :: xs ∧ ∀ y ∈ x :: xs, W.dataLt y (W.minD x xs) = false
  | [], x => ⟨by simp [W.minD], fun y hy => by simp at hy; subst hy; exact dlt_self _⟩
  | z :: r, x => by
    have e : W.minD x (z :: r) = W.minD (if W.dataLt z x = true then z else x) r := rfl
    rw [e]
    cases h : W.dataLt z x with
    | true =>
      simp only [if_true]
      obtain ⟨h1, h2⟩ := minD_least r z
      refine ⟨List.mem_cons_of_mem _ h1, fun y hy => ?_⟩
      rcases List.mem_cons.mp hy with rfl | hy
      · exact dle_trans (h2 z (by simp)) (dlt_asymm h)
      · exact h2 y hy
    | false =>
      simp only [Bool.false_eq_true, if_false]
      obtain ⟨h1, h2⟩ := minD_least r x
      refine ⟨?_, fun y hy => ?_⟩
      · rcases List.mem_cons.mp h1 with z1 | z1
        · rw [z1]; simp
        · exact List.mem_cons_of_mem _ (List.mem_cons_of_mem _ z1)
      · rcases List.mem_cons.mp hy with rfl | hy
        · exact h2 y (by simp)
        · rcases List.mem_cons.mp hy with rfl | hy
          · exact dle_trans (h2 x (by simp)) h
          · exact h2 y (by simp [hy])
/-- names of the same number: neither is ahead of the other one: they are the same -/
theorem strs_same : ∀ (xs ys : List Str), xs.length = ys.length → W.rowLt (xs.map .str) (ys.map .str) = false → W.rowLt (ys.map .str) (xs.map .str) = false → xs = ys
  | [], [], _, _, _ => rfl
  | [], _ :: _, h, _, _ => by simp at h
  | _ :: _, [], h, _, _ => by simp at h
  | x :: xs, y :: ys, h, h1, h2 => by
    have e1 : W.rowLt ((x :: xs).map .str) ((y :: ys).map .str) = _ := W.dataLt_cons (by simp [W.alike]) (xs.map .str) (ys.map .str)
    have e2 : W.rowLt ((y :: ys).map .str) ((x :: xs).map .str) = _ := W.dataLt_cons (by simp [W.alike]) (ys.map .str) (xs.map .str)
    rw [e1, eqv_str, W.dataLt_str] at h1
    rw [e2, eqv_str, W.dataLt_str] at h2
    by_cases e : x = y
    · subst e
      simp only [decide_true, if_true] at h1 h2
      rw [strs_same xs ys (by simpa using h) h1 h2]
    · have e' : ¬ y = x := fun z => e z.symm
      simp only [e, e', decide_false, Bool.false_eq_true, if_false, decide_eq_false_iff_not] at h1 h2
      refine absurd ?_ e
      cases x; cases y
      congr 1
      exact Array.toList_inj.mp (List.le_antisymm (List.not_lt.mp h2) (List.not_lt.mp h1))
/-! merges -/
inductive Mg {α : Type} : List α → List α → List α → Prop
  | nil : Mg [] [] []
  | l {x : α} {a b w : List α} : Mg a b w → Mg (x :: a) b (x :: w)
  | r {x : α} {a b w : List α} : Mg a b w → Mg a (x :: b) (x :: w)
/-- all merges, the first one's head first -/
def mg {α : Type} : List α → List α → List (List α)
  | [], b => [b]
  | a, [] => [a]
  | x :: a, y :: b => (mg a (y :: b)).map (x :: ·) ++ (mg (x :: a) b).map (y :: ·)
termination_by a b => a.length + b.length
section
variable {α : Type}
theorem mg_nil (b : List α) : mg [] b = [b] := by rw [mg]
theorem mg_nil2 (a : List α) : mg a [] = [a] := by
  cases a with
  | nil => rw [mg]
  | cons x a => rw [mg]; simp
theorem mg_cons (x y : α) (a b : List α) : mg (x :: a) (y :: b) = (mg a (y :: b)).map (x :: ·) ++ (mg (x :: a) b).map (y :: ·) := by rw [mg]
theorem Mg.onlyR : ∀ b : List α, Mg [] b b
  | [] => .nil
  | y :: b => .r (Mg.onlyR b)
theorem Mg.onlyL : ∀ a : List α, Mg a [] a
  | [] => .nil
  | y :: b => .l (Mg.onlyL b)
theorem mg_l {x : α} {a b w : List α} (h : w ∈ mg a b) : x :: w ∈ mg (x :: a) b := by
  cases b with
  | nil => rw [mg_nil2] at *; simp at h; subst h; simp
  | cons y b => rw [mg_cons]; exact List.mem_append_left _ (List.mem_map.mpr ⟨w, h, rfl⟩)
theorem mg_r {x : α} {a b w : List α} (h : w ∈ mg a b) : x :: w ∈ mg a (x :: b) := by
  cases a with
  | nil => rw [mg_nil] at *; simp at h; subst h; simp
  | cons y a => rw [mg_cons]; exact List.mem_append_right _ (List.mem_map.mpr ⟨w, h, rfl⟩)
theorem mg_of {a b w : List α} (h : Mg a b w) : w ∈ mg a b := by
  induction h with
  | nil => rw [mg_nil]; simp
  | l _ ih => exact mg_l ih
  | r _ ih => exact mg_r ih
theorem of_mg : ∀ (n : Nat) (a b w : List α), a.length + b.length ≤ n → w ∈ mg a b → Mg a b w := by
  intro n
  induction n with
  | zero =>
    intro a b w hn h
    have ha : a = [] := List.length_eq_zero_iff.mp (by omega)
    have hb : b = [] := List.length_eq_zero_iff.mp (by omega)
    subst ha; subst hb
    rw [mg_nil] at h
    simp at h; subst h
    exact .nil
  | succ n ih =>
    intro a b w hn h
    cases a with
    | nil => rw [mg_nil] at h; simp at h; subst h; exact .onlyR _
    | cons x a =>
      cases b with
      | nil => rw [mg_nil2] at h; simp at h; subst h; exact .onlyL _
      | cons y b =>
        simp only [List.length_cons] at hn
        rw [mg_cons] at h
        rcases List.mem_append.mp h with h | h
        · obtain ⟨v, hv, rfl⟩ := List.mem_map.mp h
          exact .l (ih a (y :: b) v (by simp only [List.length_cons]; omega) hv)
        · obtain ⟨v, hv, rfl⟩ := List.mem_map.mp h
          exact .r (ih (x :: a) b v (by simp only [List.length_cons]; omega) hv)
theorem mem_mg {a b w : List α} : w ∈ mg a b ↔ Mg a b w := ⟨of_mg _ a b w (Nat.le_refl _), mg_of⟩
theorem Mg.subL {a b w : List α} (h : Mg a b w) : a.Sublist w := by
  induction h with
  | nil => exact .slnil
  | l _ ih => exact ih.cons₂ _
  | r _ ih => exact ih.cons _
theorem Mg.subR {a b w : List α} (h : Mg a b w) : b.Sublist w := by
  induction h with
  | nil => exact .slnil
  | l _ ih => exact ih.cons _
  | r _ ih => exact ih.cons₂ _
theorem Mg.perm {a b w : List α} (h : Mg a b w) : w.Perm (a ++ b) := by
  induction h with
  | nil => exact .refl _
  | l _ ih => exact ih.cons _
  | r _ ih => exact (ih.cons _).trans List.perm_middle.symm
theorem Mg.part {a b w : List α} (h : Mg a b w) : ∀ s : List α, s.Sublist w → ∃ sa sb, sa.Sublist a ∧ sb.Sublist b ∧ Mg sa sb s := by
  induction h with
  | nil => intro s hs; cases hs; exact ⟨[], [], .slnil, .slnil, .nil⟩
  | @l x a b w _ ih =>
    intro s hs
    cases hs with
    | cons _ hs =>
      obtain ⟨sa, sb, h1, h2, h3⟩ := ih _ hs
      exact ⟨sa, sb, h1.cons _, h2, h3⟩
    | cons_cons _ hs =>
      obtain ⟨sa, sb, h1, h2, h3⟩ := ih _ hs
      exact ⟨x :: sa, sb, h1.cons₂ _, h2, .l h3⟩
  | @r x a b w _ ih =>
    intro s hs
    cases hs with
    | cons _ hs =>
      obtain ⟨sa, sb, h1, h2, h3⟩ := ih _ hs
      exact ⟨sa, sb, h1, h2.cons _, h3⟩
    | cons_cons _ hs =>
      obtain ⟨sa, sb, h1, h2, h3⟩ := ih _ hs
      exact ⟨sa, x :: sb, h1, h2.cons₂ _, .r h3⟩
theorem Mg.app : ∀ (a b : List α), Mg a b (a ++ b)
  | [], b => .onlyR b
  | x :: a, b => .l (Mg.app a b)
theorem Mg.preL {a b w : List α} (h : Mg a b w) : ∀ p : List α, Mg (p ++ a) b (p ++ w)
  | [] => h
  | x :: p => .l (Mg.preL h p)
theorem Mg.preR {a b w : List α} (h : Mg a b w) : ∀ p : List α, Mg a (p ++ b) (p ++ w)
  | [] => h
  | x :: p => .r (Mg.preR h p)
/-- parts that are merged lie in a merge of the whole -/
theorem Mg.lift {sa sb s : List α} (h : Mg sa sb s) : ∀ {a b : List α}, sa.Sublist a → sb.Sublist b → ∃ w, Mg a b w ∧ s.Sublist w := by
  induction h with
  | nil => intro a b _ _; exact ⟨a ++ b, .app a b, List.nil_sublist _⟩
  | l _ ih =>
    intro a b ha hb
    obtain ⟨r1, r2, rfl, hx, h2⟩ := List.cons_sublist_iff.mp ha
    obtain ⟨w, h3, h4⟩ := ih h2 hb
    exact ⟨r1 ++ w, h3.preL r1, List.Sublist.append (List.singleton_sublist.mpr hx) h4⟩
  | r _ ih =>
    intro a b ha hb
    obtain ⟨r1, r2, rfl, hx, h2⟩ := List.cons_sublist_iff.mp hb
    obtain ⟨w, h3, h4⟩ := ih ha h2
    exact ⟨r1 ++ w, h3.preR r1, List.Sublist.append (List.singleton_sublist.mpr hx) h4⟩
theorem Mg.sorted {R : α → α → Prop} (tot : ∀ x y, R x y ∨ R y x) (tr : ∀ x y z, R x y → R y z → R x z) : ∀ (n : Nat) (a b : List α), a.length + b.length ≤ n → a.Pairwise R → b.Pairwise R → ∃ s, Mg a b s ∧ s.Pairwise R := by
  intro n
  induction n with
  | zero =>
    intro a b hn _ _
    have ha : a = [] := List.length_eq_zero_iff.mp (by omega)
    have hb : b = [] := List.length_eq_zero_iff.mp (by omega)
    subst ha; subst hb
    exact ⟨[], .nil, .nil⟩
  | succ n ih =>
    intro a b hn ha hb
    cases a with
    | nil => exact ⟨b, .onlyR b, hb⟩
    | cons x a =>
      cases b with
      | nil => exact ⟨x :: a, .onlyL _, ha⟩
      | cons y b =>
        simp only [List.length_cons] at hn
        obtain ⟨a1, a2⟩ := List.pairwise_cons.mp ha
        obtain ⟨b1, b2⟩ := List.pairwise_cons.mp hb
        rcases tot x y with hr | hr
        · obtain ⟨s, h1, h2⟩ := ih a (y :: b) (by simp only [List.length_cons]; omega) a2 hb
          refine ⟨x :: s, .l h1, List.pairwise_cons.mpr ⟨fun z hz => ?_, h2⟩⟩
          rcases List.mem_append.mp (h1.perm.mem_iff.mp hz) with hz | hz
          · exact a1 z hz
          · rcases List.mem_cons.mp hz with rfl | hz
            · exact hr
            · exact tr _ _ _ hr (b1 z hz)
        · obtain ⟨s, h1, h2⟩ := ih (x :: a) b (by simp only [List.length_cons]; omega) ha b2
          refine ⟨y :: s, .r h1, List.pairwise_cons.mpr ⟨fun z hz => ?_, h2⟩⟩
          rcases List.mem_append.mp (h1.perm.mem_iff.mp hz) with hz | hz
          · rcases List.mem_cons.mp hz with rfl | hz
            · exact hr
            · exact tr _ _ _ hr (a1 z hz)
          · exact b1 z hz
def fct : Nat → Nat
  | 0 => 1
  | n + 1 => (n + 1) * fct n
theorem fct_pos : ∀ n, 0 < fct n
  | 0 => by decide
  | n + 1 => Nat.mul_pos (by omega) (fct_pos n)
theorem mg_len : ∀ (n : Nat) (a b : List α), a.length + b.length ≤ n → (mg a b).length * (fct a.length * fct b.length) = fct (a.length + b.length) := by
  intro n
  induction n with
  | zero =>
    intro a b hn
    have ha : a = [] := List.length_eq_zero_iff.mp (by omega)
    have hb : b = [] := List.length_eq_zero_iff.mp (by omega)
    subst ha; subst hb
    rw [mg_nil]; rfl
  | succ n ih =>
    intro a b hn
    cases a with
    | nil => rw [mg_nil]; simp [fct]
    | cons x a =>
      cases b with
      | nil => rw [mg_nil2]; simp [fct]
      | cons y b =>
        simp only [List.length_cons] at hn
        have h1 := ih a (y :: b) (by simp only [List.length_cons]; omega)
        have h2 := ih (x :: a) b (by simp only [List.length_cons]; omega)
        rw [mg_cons, List.length_append, List.length_map, List.length_map]
        simp only [List.length_cons] at h1 h2 ⊢
        generalize (mg a (y :: b)).length = A at *
        generalize (mg (x :: a) b).length = B at *
        generalize a.length = p at *
        generalize b.length = q at *
        have e1 : p + (q + 1) = p + q + 1 := by omega
        have e2 : p + 1 + q = p + q + 1 := by omega
        have e3 : p + 1 + (q + 1) = (p + q + 1) + 1 := by omega
        rw [e1] at h1
        rw [e2] at h2
        rw [e3]
        have f1 : fct (p + 1) = (p + 1) * fct p := rfl
        have f2 : fct (q + 1) = (q + 1) * fct q := rfl
        have f3 : fct (p + q + 1 + 1) = (p + q + 1 + 1) * fct (p + q + 1) := rfl
        rw [f3]
        have g1 : A * (fct (p + 1) * fct (q + 1)) = (p + 1) * fct (p + q + 1) := by
          rw [f1, ← h1]
          simp only [Nat.mul_comm, Nat.mul_left_comm, Nat.mul_assoc]
        have g2 : B * (fct (p + 1) * fct (q + 1)) = (q + 1) * fct (p + q + 1) := by
          rw [f2, ← h2]
          simp only [Nat.mul_comm, Nat.mul_left_comm, Nat.mul_assoc]
        rw [Nat.add_mul, g1, g2, ← Nat.add_mul]
        congr 1
        all_goals omega
/-! one further step of a merge that is begun -/
def compM (t : List α × List α × List α) : List (List α) := (mg t.2.1 t.2.2).map (t.1 ++ ·)
def mStA (t : List α × List α × List α) : List (List α × List α × List α) := match t.2.1 with
  | [] => []
  | x :: a => [(t.1 ++ [x], a, t.2.2)]
def mStB (t : List α × List α × List α) : List (List α × List α × List α) := match t.2.2 with
  | [] => []
  | y :: b => [(t.1 ++ [y], t.2.1, b)]
theorem comp_step {t : List α × List α × List α} (h : t.2.1 ≠ [] ∨ t.2.2 ≠ []) : (mStA t).flatMap compM ++ (mStB t).flatMap compM = compM t := by
  obtain ⟨row, a, b⟩ := t
  cases a with
  | nil =>
    cases b with
    | nil => simp at h
    | cons y b => simp [mStA, mStB, compM, mg_nil]
  | cons x a =>
    cases b with
    | nil => simp [mStA, mStB, compM, mg_nil2]
    | cons y b => simp [mStA, mStB, compM, mg_cons, Function.comp_def]
theorem flat_congr {β γ : Type} {f g : β → List γ} : ∀ {l : List β}, (∀ x ∈ l, f x = g x) → l.flatMap f = l.flatMap g
  | [], _ => rfl
  | x :: r, h => by
    rw [List.flatMap_cons, List.flatMap_cons, h x (by simp), flat_congr fun y hy => h y (by simp [hy])]
theorem flat_perm {β : Type} (f g : α → List β) : ∀ l : List α, (l.flatMap fun x => f x ++ g x).Perm (l.flatMap f ++ l.flatMap g)
  | [] => by simp
  | x :: r => by
    simp only [List.flatMap_cons]
    have h1 := (flat_perm f g r).append_left (f x ++ g x)
    refine h1.trans ?_
    rw [List.append_assoc, List.append_assoc]
    refine List.Perm.append_left _ ?_
    rw [← List.append_assoc, ← List.append_assoc]
    exact List.Perm.append_right _ List.perm_append_comm
/-- the program's way -/
def itP (a b : List α) : Nat → List (List α × List α × List α)
  | 0 => [([], a, b)]
  | t + 1 => (itP a b t).flatMap mStA ++ (itP a b t).flatMap mStB
theorem itP_len (a b : List α) : ∀ t s, s ∈ itP a b t → s.1.length = t ∧ s.2.1.length + s.2.2.length + t = a.length + b.length
  | 0, s, h => by simp [itP] at h; subst h; simp
  | t + 1, s, h => by
    rcases List.mem_append.mp h with h | h
    · obtain ⟨⟨row, x, y⟩, h1, h2⟩ := List.mem_flatMap.mp h
      obtain ⟨i1, i2⟩ := itP_len a b t _ h1
      cases x with
      | nil => simp [mStA] at h2
      | cons z x => simp [mStA] at h2; subst h2; simp at *; omega
    · obtain ⟨⟨row, x, y⟩, h1, h2⟩ := List.mem_flatMap.mp h
      obtain ⟨i1, i2⟩ := itP_len a b t _ h1
      cases y with
      | nil => simp [mStB] at h2
      | cons z y => simp [mStB] at h2; subst h2; simp at *; omega
theorem itP_comp (a b : List α) : ∀ t, t ≤ a.length + b.length → ((itP a b t).flatMap compM).Perm (mg a b)
  | 0, _ => by simp [itP, compM]
  | t + 1, h => by
    have ih := itP_comp a b t (by omega)
    refine List.Perm.trans ?_ ih
    show (((itP a b t).flatMap mStA ++ (itP a b t).flatMap mStB).flatMap compM).Perm _
    rw [List.flatMap_append, List.flatMap_assoc, List.flatMap_assoc]
    refine (flat_perm _ _ _).symm.trans (List.Perm.of_eq ?_)
    refine flat_congr fun s hs => comp_step ?_
    have := (itP_len a b t s hs).2
    by_cases e : s.2.1 = []
    · by_cases e2 : s.2.2 = []
      · rw [e, e2] at this; simp at this; omega
      · exact .inr e2
    · exact .inl e
theorem itP_end (a b : List α) : ((itP a b (a.length + b.length)).map (·.1)).Perm (mg a b) := by
  refine List.Perm.trans (List.Perm.of_eq ?_) (itP_comp a b _ (Nat.le_refl _))
  rw [List.map_eq_flatMap]
  refine flat_congr fun s hs => ?_
  have := (itP_len a b _ s hs).2
  have e1 : s.2.1 = [] := List.length_eq_zero_iff.mp (by omega)
  have e2 : s.2.2 = [] := List.length_eq_zero_iff.mp (by omega)
  unfold compM
  rw [e1, e2, mg_nil]
  simp
theorem itP_many (a b : List α) : ∀ t, (itP a b t).length ≤ 2 ^ t
  | 0 => by simp [itP]
  | t + 1 => by
    have ih := itP_many a b t
    have h1 : ∀ l : List (List α × List α × List α), (l.flatMap mStA).length ≤ l.length ∧ (l.flatMap mStB).length ≤ l.length := fun l => by
      induction l with
      | nil => simp
      | cons s r ihr =>
        obtain ⟨row, x, y⟩ := s
        simp only [List.flatMap_cons, List.length_append, List.length_cons]
        have : (mStA (row, x, y)).length ≤ 1 := by cases x <;> simp [mStA]
        have : (mStB (row, x, y)).length ≤ 1 := by cases y <;> simp [mStB]
        omega
    have := h1 (itP a b t)
    rw [Nat.pow_succ]
    show ((itP a b t).flatMap mStA ++ (itP a b t).flatMap mStB).length ≤ _
    rw [List.length_append]
    omega
/-- the law's way: places in both -/
def mStK (a b : List α) (s : List α × Nat × Nat) : List (List α × Nat × Nat) := (match a[s.2.1]? with
  | some x => [(s.1 ++ [x], s.2.1 + 1, s.2.2)]
  | none => []) ++ (match b[s.2.2]? with
  | some y => [(s.1 ++ [y], s.2.1, s.2.2 + 1)]
  | none => [])
def itK (a b : List α) : Nat → List (List α × Nat × Nat)
  | 0 => [([], 0, 0)]
  | t + 1 => (itK a b t).flatMap (mStK a b)
def asM (a b : List α) (s : List α × Nat × Nat) : List α × List α × List α := (s.1, a.drop s.2.1, b.drop s.2.2)
theorem mStK_comp (a b : List α) (s : List α × Nat × Nat) : (mStK a b s).flatMap (fun s => compM (asM a b s)) = (mStA (asM a b s)).flatMap compM ++ (mStB (asM a b s)).flatMap compM := by
  obtain ⟨row, k, j⟩ := s
  unfold mStK asM
  rw [List.flatMap_append]
  congr 1
  · simp only
    cases h : a[k]? with
    | none => rw [List.drop_of_length_le (by rcases Nat.lt_or_ge k a.length with z | z; rw [List.getElem?_eq_getElem z] at h; cases h; exact z)]; simp [mStA]
    | some x =>
      have hk := lt_of_get h
      rw [List.getElem?_eq_getElem hk] at h
      cases h
      rw [List.drop_eq_getElem_cons hk]
      simp [mStA]
  · simp only
    cases h : b[j]? with
    | none => rw [List.drop_of_length_le (l := b) (by rcases Nat.lt_or_ge j b.length with z | z; rw [List.getElem?_eq_getElem z] at h; cases h; exact z)]; simp [mStB]
    | some x =>
      have hk := lt_of_get h
      rw [List.getElem?_eq_getElem hk] at h
      cases h
      rw [List.drop_eq_getElem_cons hk]
      simp [mStB]
theorem itK_len (a b : List α) : ∀ t s, s ∈ itK a b t → s.1.length = t ∧ s.2.1 + s.2.2 = t ∧ s.2.1 ≤ a.length ∧ s.2.2 ≤ b.length
  | 0, s, h => by simp [itK] at h; subst h; simp
  | t + 1, s, h => by
    obtain ⟨⟨row, k, j⟩, h1, h2⟩ := List.mem_flatMap.mp h
    obtain ⟨i1, i2, i3, i4⟩ := itK_len a b t _ h1
    unfold mStK at h2
    simp only at h2 i1 i2 i3 i4
    rcases List.mem_append.mp h2 with h2 | h2
    · cases e : a[k]? with
      | none => rw [e] at h2; simp at h2
      | some x =>
        have := lt_of_get e
        rw [e] at h2
        simp at h2
        subst h2
        simp; omega
    · cases e : b[j]? with
      | none => rw [e] at h2; simp at h2
      | some x =>
        have := lt_of_get e
        rw [e] at h2
        simp at h2
        subst h2
        simp; omega
theorem itK_comp (a b : List α) : ∀ t, t ≤ a.length + b.length → (itK a b t).flatMap (fun s => compM (asM a b s)) = mg a b
  | 0, _ => by simp [itK, compM, asM]
  | t + 1, h => by
    have ih := itK_comp a b t (by omega)
    rw [← ih]
    show ((itK a b t).flatMap (mStK a b)).flatMap _ = _
    rw [List.flatMap_assoc]
    refine flat_congr fun s hs => ?_
    rw [mStK_comp]
    refine comp_step ?_
    obtain ⟨_, h2, h3, h4⟩ := itK_len a b t s hs
    unfold asM
    rcases Nat.lt_or_ge s.2.1 a.length with z | z
    · exact .inl fun e => by have := congrArg List.length e; simp at this; omega
    · exact .inr fun e => by have := congrArg List.length e; simp at this; omega
theorem itK_end (a b : List α) : (itK a b (a.length + b.length)).map (·.1) = mg a b := by
  rw [← itK_comp a b _ (Nat.le_refl _), List.map_eq_flatMap]
  refine flat_congr fun s hs => ?_
  obtain ⟨_, h2, h3, h4⟩ := itK_len a b _ s hs
  unfold compM asM
  rw [List.drop_of_length_le (by omega), List.drop_of_length_le (l := b) (by omega), mg_nil]
  simp
theorem itK_many (a b : List α) : ∀ t, (itK a b t).length ≤ 2 ^ t
  | 0 => by simp [itK]
  | t + 1 => by
    have ih := itK_many a b t
    have h1 : ∀ l : List (List α × Nat × Nat), (l.flatMap (mStK a b)).length ≤ l.length * 2 := fun l => by
      induction l with
      | nil => simp
      | cons s r ihr =>
        simp only [List.flatMap_cons, List.length_append, List.length_cons]
        have : (mStK a b s).length ≤ 2 := by
          unfold mStK
          cases a[s.2.1]? <;> cases b[s.2.2]? <;> simp
        omega
    have := h1 (itK a b t)
    rw [Nat.pow_succ]
    show ((itK a b t).flatMap (mStK a b)).length ≤ _
    omega
end
/-! times of merges -/
theorem mg_le {a b w : List Pas} (h : Mg a b w) : timeP w ≤ timeP a + timeP b := by
  obtain ⟨s, h1, h2, h3⟩ := time_at w
  obtain ⟨sa, sb, g1, g2, g3⟩ := h.part s h1
  have e := sum_perm (·.takes) g3.perm
  rw [List.map_append, List.sum_append] at e
  have t1 := time_up g1 (h2.sublist g3.subL)
  have t2 := time_up g2 (h2.sublist g3.subR)
  omega
theorem mg_ge (a b : List Pas) : ∃ w, Mg a b w ∧ timeP w = timeP a + timeP b := by
  obtain ⟨sa, a1, a2, a3⟩ := time_at a
  obtain ⟨sb, b1, b2, b3⟩ := time_at b
  obtain ⟨s, h1, h2⟩ := Mg.sorted (R := fun x y => relP x y = true) (fun x y => by unfold relP; simp only [decide_eq_true_eq]; omega) (fun x y z h1 h2 => relP_trans h1 h2) _ sa sb (Nat.le_refl _) a2 b2
  obtain ⟨w, g1, g2⟩ := h1.lift a1 b1
  refine ⟨w, g1, Int.le_antisymm (mg_le g1) ?_⟩
  have t := time_up g2 h2
  have e := sum_perm (·.takes) h1.perm
  rw [List.map_append, List.sum_append] at e
  omega
theorem names_inj {Q : List Pas} (hn : (Q.map (·.name)).Nodup) : ∀ {w v : List Pas}, (∀ x ∈ w, x ∈ Q) → (∀ x ∈ v, x ∈ Q) → w.map (·.name) = v.map (·.name) → w = v := by
  have inj : ∀ x ∈ Q, ∀ y ∈ Q, x.name = y.name → x = y := by
    induction Q with
    | nil => simp
    | cons z r ih =>
      rw [List.map_cons, List.nodup_cons] at hn
      intro x hx y hy e
      rcases List.mem_cons.mp hx with h1 | h1 <;> rcases List.mem_cons.mp hy with h2 | h2
      · rw [h1, h2]
      · exact (hn.1 (List.mem_map.mpr ⟨y, h2, by rw [← e, h1]⟩)).elim
      · exact (hn.1 (List.mem_map.mpr ⟨x, h1, by rw [e, h2]⟩)).elim
      · exact ih hn.2 x h1 y h2 e
  intro w
  induction w with
  | nil => intro v _ _ e; cases v with
    | nil => rfl
    | cons _ _ => simp at e
  | cons x w ih =>
    intro v hw hv e
    cases v with
    | nil => simp at e
    | cons y v =>
      simp only [List.map_cons, List.cons.injEq] at e
      rw [inj x (hw x (by simp)) y (hv y (by simp)) e.1, ih (fun z hz => hw z (by simp [hz])) (fun z hz => hv z (by simp [hz])) e.2]
end BR
set_option Elab.async false
set_option linter.all false
set_option maxRecDepth 100000
set_option maxHeartbeats 4000000
/-! texts as shown; queues as shown -/
namespace BR
open PySem PySem.PyData PySem.Builtin PySem.Builtin.Str
theorem rep_char : ∀ k : _root_.Fin 127, 32 ≤ k.val → k.val ≠ 39 → k.val ≠ 92 → reprChar 39 k.val = [k.val] := by decide +kernel
theorem rep_fold : ∀ (l : List Nat) (acc : Array Nat), (∀ c ∈ l, 32 ≤ c ∧ c ≤ 126 ∧ c ≠ 39 ∧ c ≠ 92) → l.foldl (fun out c => out ++ (reprChar 39 c).toArray) acc = acc ++ l.toArray
  | [], acc, _ => by simp
  | c :: r, acc, h => by
    obtain ⟨h1, h2, h3, h4⟩ := h c (by simp)
    rw [List.foldl_cons, rep_char ⟨c, by omega⟩ h1 h3 h4, rep_fold r _ fun d hd => h d (by simp [hd])]
    simp
theorem nice_str {x : Str} (h : ∀ c ∈ x.cps.toList, 32 ≤ c ∧ c ≤ 126 ∧ c ≠ 39 ∧ c ≠ 92) : Nice (.str x) x.cps.toList.length 1 := by
  have hq : reprQuote x = 39 := by
    unfold reprQuote
    have : x.cps.contains 39 = false := by
      rw [← Bool.not_eq_true, Array.contains_iff_mem, Array.mem_def]
      exact fun z => (h 39 z).2.2.1 rfl
    rw [this]
    rfl
  have ok0 : PyData.strOk x = true := by
    unfold PyData.strOk
    rw [← Array.all_toList]
    exact List.all_eq_true.mpr fun c hc => by have := h c hc; simp; omega
  have ok : PyData.strOk (reprText x) = true := by
    unfold reprText
    rw [hq, ← Array.foldl_toList, rep_fold _ _ h]
    unfold PyData.strOk
    rw [← Array.all_toList]
    refine List.all_eq_true.mpr fun c hc => ?_
    simp at hc
    rcases hc with rfl | hc | rfl
    · decide
    · have := h c (by simpa using hc); simp; omega
    · decide
  exact ⟨by rw [canLay0]; exact ok0, rfl, rfl, by simp [weight], by simp [PyData.depth], ok⟩
theorem nice_name {x : Str} (h : OkName x) : Nice (.str x) 40 1 := by
  refine (nice_str fun c hc => ?_).mono ?_ (Nat.le_refl _)
  · have := h.lo c hc; omega
  · have := h.len; omega
theorem nice_pas {p : Pas} (h : OkPas p) : Nice (encP p) 123 2 := by
  have := nice_tup (W := 40) (D := 1) (xs := [.str p.name, .int p.row, .int p.takes]) fun x hx => by
    simp at hx
    rcases hx with rfl | rfl | rfl
    · exact nice_name h.nm
    · exact nice_int (by have := h.r1; have := h.r9; omega)
    · exact nice_int (by have := h.t1; have := h.t9; omega)
  exact this
theorem nice_queue {q : List Pas} (h : ∀ p ∈ q, OkPas p) : Nice (encQ q) (q.length * 124) 3 := by
  have := nice_tup (W := 123) (D := 2) (xs := q.map encP) fun x hx => by
    obtain ⟨p, hp, rfl⟩ := List.mem_map.mp hx
    exact nice_pas (h p hp)
  rw [List.length_map] at this
  exact this
end BR
set_option Elab.async false
set_option linter.all false
set_option maxRecDepth 100000
set_option maxHeartbeats 4000000
/-! min by a key, plainly; merges by time and names -/
namespace BR
open PySem
theorem lessF_ok {a b : PyData} (h1 : W.alike a b = true) (h2 : shp a = true) (h3 : shp b = true) (h4 : tup1 a = true) : lessF a b = some (W.dataLt a b) := by
  unfold lessF
  rw [h1, h2, h3]
  cases a <;> first | rfl | (cases h4; done)
theorem minK_run {α : Type} (enc key : α → PyData) (f : List PyData → List Cell → Res PyData) (C : List Cell) : ∀ (L : List α) (x : α), (∀ w ∈ x :: L, f [enc w] C = .ok (key w) C) → (∀ w ∈ x :: L, ∀ v ∈ x :: L, lessF (key w) (key v) = some (W.dataLt (key w) (key v))) →
    ∃ m ∈ x :: L, minK f (L.map enc) (enc x) (key x) C = .ok (enc m) C ∧ ∀ w ∈ x :: L, W.dataLt (key w) (key m) = false
  | [], x, _, _ => ⟨x, by simp, rfl, fun w hw => by simp at hw; subst hw; exact dlt_self _⟩
  | y :: r, x, hf, hk => by
    have e : minK f ((y :: r).map enc) (enc x) (key x) C = (f [enc y] C).bind fun k' C => (opt (lessF k' (key x)) C).bind fun b C => if b = true then minK f (r.map enc) (enc y) k' C else minK f (r.map enc) (enc x) (key x) C := rfl
    rw [e, hf y (by simp)]
    simp only [b_ok]
    rw [hk y (by simp) x (by simp)]
    simp only [o_some, b_ok]
    cases h : W.dataLt (key y) (key x) with
    | true =>
      simp only [if_true]
      obtain ⟨m, h1, h2, h3⟩ := minK_run enc key f C r y (fun w hw => hf w (List.mem_cons_of_mem _ hw)) (fun w hw v hv => hk w (List.mem_cons_of_mem _ hw) v (List.mem_cons_of_mem _ hv))
      refine ⟨m, List.mem_cons_of_mem _ h1, h2, fun w hw => ?_⟩
      rcases List.mem_cons.mp hw with rfl | hw
      · exact dle_trans (h3 y (by simp)) (dlt_asymm h)
      · exact h3 w hw
    | false =>
      simp only [Bool.false_eq_true, if_false]
      have sub : ∀ w ∈ x :: r, w ∈ x :: y :: r := fun w hw => by
        rcases List.mem_cons.mp hw with rfl | hw
        · simp
        · simp [hw]
      obtain ⟨m, h1, h2, h3⟩ := minK_run enc key f C r x (fun w hw => hf w (sub w hw)) (fun w hw v hv => hk w (sub w hw) v (sub v hv))
      refine ⟨m, sub m h1, h2, fun w hw => ?_⟩
      rcases List.mem_cons.mp hw with rfl | hw
      · exact h3 w (by simp)
      · rcases List.mem_cons.mp hw with rfl | hw
        · exact dle_trans (h3 x (by simp)) h
        · exact h3 w (by simp [hw])
theorem minkey_run {α : Type} (enc key : α → PyData) (Φ : Oracle) (k : Nat) (C : List Cell) {L : List α} (hL : L ≠ []) (hf : ∀ w ∈ L, Φ k [enc w] C = .ok (key w) C) (hs : ∀ w ∈ L, shp (key w) = true) (hk : ∀ w ∈ L, ∀ v ∈ L, lessF (key w) (key v) = some (W.dataLt (key w) (key v))) :
    ∃ m ∈ L, minkeyR Φ (.list (L.map enc)) (hnf k) C = .ok (enc m) C ∧ ∀ w ∈ L, W.dataLt (key w) (key m) = false := by
  cases L with
  | nil => exact absurd rfl hL
  | cons x r =>
    obtain ⟨m, h1, h2, h3⟩ := minK_run enc key (Φ k) C r x hf hk
    refine ⟨m, h1, ?_, h3⟩
    show (if (0 : Int) ≤ (k : Int) then (Φ (k : Int).toNat [enc x] C).bind fun kx C => if shp kx = true then minK (Φ (k : Int).toNat) (r.map enc) (enc x) kx C else .stuck else .stuck) = _
    rw [if_pos (Int.natCast_nonneg k), Int.toNat_natCast, hf x (by simp)]
    simp only [b_ok]
    rw [if_pos (hs x (by simp))]
    exact h2
theorem alike_all {α β : Type} (f : α → PyData) (g : β → PyData) (h : ∀ x y, W.alike (f x) (g y) = true) : ∀ (xs : List α) (ys : List β), W.alikeAll (xs.map f) (ys.map g) = true
  | [], _ => by simp [W.alikeAll]
  | _ :: _, [] => by simp [W.alikeAll]
  | x :: xs, y :: ys => by
    rw [List.map_cons, List.map_cons, W.alikeAll, h x y, alike_all f g h xs ys]; rfl
theorem alike_encP (p r : Pas) : W.alike (encP p) (encP r) = true := by simp [encP, W.alike, W.alikeAll]
theorem alike_encN (xs ys : List Str) : W.alike (encN xs) (encN ys) = true := by
  unfold encN
  rw [W.alike]
  exact alike_all _ _ (fun x y => by simp [W.alike]) xs ys
theorem alike_encQ (p r : List Pas) : W.alike (encQ p) (encQ r) = true := by
  unfold encQ
  rw [W.alike]
  exact alike_all _ _ alike_encP p r
theorem eqv_encN (xs ys : List Str) : PyData.eqv (encN xs) (encN ys) = decide (xs = ys) := by
  unfold encN
  rw [PyData.eqv]
  induction xs generalizing ys with
  | nil => cases ys <;> simp [PyData.eqvAll]
  | cons x xs ih =>
    cases ys with
    | nil => simp [PyData.eqvAll]
    | cons y ys =>
      rw [List.map_cons, List.map_cons, PyData.eqvAll, ih, eqv_str]
      by_cases h1 : x = y <;> by_cases h2 : xs = ys <;> simp [h1, h2]
def keyD (w : List Pas) : PyData := .tuple [.int (timeP w), encN (w.map (·.name))]
def rowD (w : List Pas) : PyData := .tuple [.int (timeP w), encN (w.map (·.name)), encQ w]
theorem alike_keyD (w v : List Pas) : W.alike (keyD w) (keyD v) = true := by
  unfold keyD
  simp [W.alike, W.alikeAll, alike_encN]
theorem alike_rowD (w v : List Pas) : W.alike (rowD w) (rowD v) = true := by
  unfold rowD
  simp [W.alike, W.alikeAll, alike_encN, alike_all _ _ alike_encP]
theorem shp_encN {xs : List Str} (h : ∀ y ∈ xs, ∀ c ∈ y.cps.toList, c ≤ 122) : (encN xs).canLay0 = true ∧ (encN xs).depth ≤ 2 := by
  unfold encN
  refine ⟨by rw [PyData.canLay0]; exact canLay_all _ _ fun y hy => by rw [PyData.canLay0]; exact strOk_name (h y hy), ?_⟩
  rw [PyData.depth]
  have := depth_leaf_all PyData.str xs (fun y hy => by simp [PyData.depth])
  omega
theorem lay_encQ {q : List Pas} (h : ∀ p ∈ q, OkPas p) : (encQ q).canLay0 = true ∧ (encQ q).depth ≤ 3 := by
  refine ⟨?_, ?_⟩
  · rw [PyData.canLay0]
    refine canLay_all _ _ fun p hp => ?_
    simp [encP, PyData.canLay0, PyData.canLayAll0, strOk_name (h p hp).nm.hi]
  · rw [PyData.depth]
    have : PyData.depthAll (q.map encP) ≤ 2 := by
      clear h
      induction q with
      | nil => simp [PyData.depthAll]
      | cons a r ih =>
        simp only [List.map_cons, PyData.depthAll, encP, PyData.depth]
        omega
    omega
theorem names_hi {w : List Pas} (h : ∀ p ∈ w, OkPas p) : ∀ y ∈ w.map (·.name), ∀ c ∈ y.cps.toList, c ≤ 122 := fun y hy => by
  obtain ⟨p, hp, rfl⟩ := List.mem_map.mp hy
  exact (h p hp).nm.hi
theorem shp_keyD {w : List Pas} (h : ∀ p ∈ w, OkPas p) : shp (keyD w) = true := by
  obtain ⟨h1, h2⟩ := shp_encN (names_hi h)
  refine shp_of ?_ ?_
  · simp [keyD, PyData.canLay0, PyData.canLayAll0, h1]
  · simp only [keyD, PyData.depth, PyData.depthAll]
    omega
theorem shp_rowD {w : List Pas} (h : ∀ p ∈ w, OkPas p) : shp (rowD w) = true := by
  obtain ⟨h1, h2⟩ := shp_encN (names_hi h)
  obtain ⟨h3, h4⟩ := lay_encQ h
  refine shp_of ?_ ?_
  · rw [PyData.canLay0] at h3
    simp [rowD, PyData.canLay0, PyData.canLayAll0, h1, h3]
  · simp only [rowD, PyData.depth, PyData.depthAll]
    simp only [PyData.depth] at h2 h4
    omega
theorem less_keyD {w v : List Pas} (hw : ∀ p ∈ w, OkPas p) (hv : ∀ p ∈ v, OkPas p) : lessF (keyD w) (keyD v) = some (W.dataLt (keyD w) (keyD v)) := lessF_ok (alike_keyD w v) (shp_keyD hw) (shp_keyD hv) rfl
theorem lt_int_cons (i j : Int) (xs ys : List PyData) : W.dataLt (.tuple (.int i :: xs)) (.tuple (.int j :: ys)) = if i = j then W.rowLt xs ys else decide (i < j) := by
  rw [W.dataLt_tuple, W.dataLt_cons (by simp [W.alike]), W.dataLt_int]
  by_cases h : i = j
  · simp [h, PyData.eqv, W.rowLt]
  · simp [h, PyData.eqv]
theorem lt_names_cons (a b : List Str) (xs ys : List PyData) : W.rowLt (encN a :: xs) (encN b :: ys) = if a = b then W.rowLt xs ys else W.rowLt (a.map .str) (b.map .str) := by
  unfold W.rowLt
  rw [W.dataLt_cons (alike_encN a b), eqv_encN]
  by_cases h : a = b
  · simp [h]
  · simp [h, encN, W.dataLt_tuple]
theorem best_same {a b w v : List Pas} (hn : ((a ++ b).map (·.name)).Nodup) (hw : Mg a b w) (hv : Mg a b v) (h1 : W.dataLt (rowD w) (rowD v) = false) (h2 : W.dataLt (keyD v) (keyD w) = false) : w = v := by
  have inj : w.map (·.name) = v.map (·.name) → w = v := names_inj hn (fun x hx => hw.perm.mem_iff.mp hx) (fun x hx => hv.perm.mem_iff.mp hx)
  unfold rowD at h1
  unfold keyD at h2
  rw [lt_int_cons] at h1 h2
  by_cases ht : timeP w = timeP v
  · rw [if_pos ht, lt_names_cons] at h1
    rw [if_pos ht.symm, lt_names_cons] at h2
    by_cases hnm : w.map (·.name) = v.map (·.name)
    · exact inj hnm
    · rw [if_neg hnm] at h1
      rw [if_neg fun z => hnm z.symm] at h2
      refine inj (strs_same _ _ ?_ h1 h2)
      rw [List.length_map, List.length_map, hw.perm.length_eq, hv.perm.length_eq]
  · rw [if_neg ht, decide_eq_false_iff_not] at h1
    rw [if_neg (fun z => ht z.symm), decide_eq_false_iff_not] at h2
    omega
theorem row_time {w v : List Pas} (h : W.dataLt (rowD w) (rowD v) = false) : timeP v ≤ timeP w := by
  unfold rowD at h
  rw [lt_int_cons] at h
  by_cases ht : timeP w = timeP v
  · omega
  · rw [if_neg ht, decide_eq_false_iff_not] at h
    omega
theorem min1_rows {L : List (List Pas)} (hL : L ≠ []) (h : ∀ w ∈ L, ∀ p ∈ w, OkPas p) : ∃ m ∈ L, biF .min1 [.list (L.map rowD)] = some (rowD m) ∧ ∀ w ∈ L, W.dataLt (rowD w) (rowD m) = false := by
  cases L with
  | nil => exact absurd rfl hL
  | cons x r =>
    obtain ⟨h1, h2⟩ := minD_least (r.map rowD) (rowD x)
    rw [← List.map_cons] at h1 h2
    obtain ⟨m, hm, e⟩ := List.mem_map.mp h1
    refine ⟨m, hm, ?_, fun w hw => by rw [e]; exact h2 _ (List.mem_map.mpr ⟨w, hw, rfl⟩)⟩
    show gd (ordAll ((x :: r).map rowD)) (W.minD (rowD x) (r.map rowD)) = _
    have ho : ordAll ((x :: r).map rowD) = true := by
      unfold ordAll
      simp only [List.all_eq_true, Bool.and_eq_true]
      intro y hy
      obtain ⟨w, hw, rfl⟩ := List.mem_map.mp hy
      refine ⟨⟨shp_rowD (h w hw), rfl⟩, fun z hz => ?_⟩
      obtain ⟨v, hv, rfl⟩ := List.mem_map.mp hz
      exact alike_rowD w v
    rw [ho, e]; rfl
end BR
set_option Elab.async false
set_option linter.all false
set_option maxRecDepth 100000
set_option maxHeartbeats 0
/-! the defs of a law, in the evaluator's syntax (printed) -/
namespace LW_k74
open PySem BR
def k_is_whole : Nat := 0
def k_is_number : Nat := 1
def k_factorial_of : Nat := 2
def k_is_tuple_of : Nat := 3
def k_wrong_at : Nat := 4
def k_wrong_from_one : Nat := 5
def k_is_word : Nat := 6
def k_is_name : Nat := 7
def k_is_passenger : Nat := 8
def k_is_new : Nat := 9
def k_wrong_queue : Nat := 10
def k_names_in : Nat := 11
def k_takes_in : Nat := 12
def k_starts_in : Nat := 13
def k_ends_in : Nat := 14
def k_time_in : Nat := 15
def k_check_queue : Nat := 16
def k_check_merged : Nat := 17
def k_merges_of : Nat := 18
def k_merge_number : Nat := 19
def k_merged_greatest : Nat := 20
def k_merged_least : Nat := 21
def k_best_merge : Nat := 22
def k__law_urn : Nat := 23
def k__law_take : Nat := 24
def k__law_of : Nat := 25
def k__law_names : Nat := 26
def k__law_queue : Nat := 27
def k__law_ends : Nat := 28
def k__law_time : Nat := 29
def k__law_merges : Nat := 30
def k__law_right : Nat := 31
def k_law : Nat := 32
def k_best_merge__lam0 : Nat := 33
def b_is_whole : Ss := (.cons (.ret (.and (.isi .int (.var 0)) (.cons (.nt (.isi .bool (.var 0))) .nil)))
    .nil)
def d_is_whole : Def := { np := 1, ns := 1, body := b_is_whole }
def b_is_number : Ss := (.cons (.iff (.or (.nt (.call (PySem.Str.ofString "is_whole") k_is_whole (.cons (.var 0) .nil))) (.cons (.and (.cmp .IsNot (.var 1) .non) (.cons (.cmp .Lt (.var 0) (.var 1)) .nil)) .nil)) (.cons (.ret (.bl false))
    .nil) .nil)
    (.cons (.ret (.or (.cmp .Is (.var 2) .non) (.cons (.cmp .LtE (.var 0) (.var 2)) .nil)))
    .nil))
def d_is_number : Def := { np := 3, ns := 3, body := b_is_number }
def l_factorial_of_0 : Ss := (.cons (.asg false (.nm 1) (.bin .Mult (.var 1) (.var 2)))
    .nil)
def b_factorial_of : Ss := (.cons (.asg false (.nm 1) (.int 1))
    (.cons (.loop false (.nm 2) (.rg2 (.int 2) (.bin .Add (.var 0) (.int 1))) l_factorial_of_0)
    (.cons (.ret (.var 1))
    .nil)))
def d_factorial_of : Def := { np := 1, ns := 3, body := b_factorial_of }
def b_is_tuple_of : Ss := (.cons (.ret (.and (.isi .tuple (.var 0)) (.cons (.cmp .Eq (.bi .len (.cons (.var 0) .nil)) (.var 1)) .nil)))
    .nil)
def d_is_tuple_of : Def := { np := 2, ns := 2, body := b_is_tuple_of }
def l_wrong_at_0 : Ss := (.cons (.iff (.or (.and (.cmp .IsNot (.var 1) .non) (.cons (.cmp .GtE (.var 3) (.var 1)) .nil)) (.cons (.nt (.callv 2 (.cons (.var 4) (.cons (.sl (.var 0) .none (.some (.var 3))) .nil)))) .nil)) (.cons (.ret (.lst (.cons (.var 3) .nil)))
    .nil) .nil)
    .nil)
def b_wrong_at : Ss := (.cons (.iff (.nt (.isi .tuple (.var 0))) (.cons (.ret (.lst (.cons .non .nil)))
    .nil) .nil)
    (.cons (.loop false (.tp (.nm 3 (.nm 4 .nil))) (.enum (.var 0)) l_wrong_at_0)
    (.cons (.ret (.lst .nil))
    .nil)))
def d_wrong_at : Def := { np := 3, ns := 5, body := b_wrong_at }
def b_wrong_from_one : Ss := (.cons (.ret (.ite (.and (.isi .tuple (.var 0)) (.cons (.cmp .Eq (.var 0) (.tup .nil)) .nil)) (.lst (.cons .non .nil)) (.call (PySem.Str.ofString "wrong_at") k_wrong_at (.cons (.var 0) (.cons (.var 1) (.cons (.var 2) .nil))))))
    .nil)
def d_wrong_from_one : Def := { np := 3, ns := 3, body := b_wrong_from_one }
def b_is_word : Ss := (.cons (.ret (.and (.isi .str (.var 0)) (.cons (.cmp .NotEq (.var 0) (.str (PySem.Str.ofString ""))) (.cons (.bi .all (.cons (.lc [((PySem.Str.ofString "letter"), 1)] (.nm 1) (.chars (.var 0)) .none (.cmp .In (.var 1) (.glo (PySem.Str.ofString "LETTERS")))) .nil)) .nil))))
    .nil)
def d_is_word : Def := { np := 1, ns := 2, body := b_is_word }
def b_is_name : Ss := (.cons (.ret (.and (.call (PySem.Str.ofString "is_word") k_is_word (.cons (.var 0) .nil)) (.cons (.cmp .LtE (.bi .len (.cons (.var 0) .nil)) (.glo (PySem.Str.ofString "MOST_IN_NAME"))) (.cons (.cmp .NotIn (.var 0) (.glo (PySem.Str.ofString "WORDS"))) .nil))))
    .nil)
def d_is_name : Def := { np := 1, ns := 1, body := b_is_name }
def b_is_passenger : Ss := (.cons (.iff (.or (.nt (.call (PySem.Str.ofString "is_tuple_of") k_is_tuple_of (.cons (.var 0) (.cons (.int 3) .nil)))) (.cons (.nt (.call (PySem.Str.ofString "is_name") k_is_name (.cons (.idx (.var 0) (.int 0)) .nil))) .nil)) (.cons (.ret (.bl false))
    .nil) .nil)
    (.cons (.ret (.and (.call (PySem.Str.ofString "is_number") k_is_number (.cons (.idx (.var 0) (.int 1)) (.cons (.int 1) (.cons (.glo (PySem.Str.ofString "MOST_ROW")) .nil)))) (.cons (.call (PySem.Str.ofString "is_number") k_is_number (.cons (.idx (.var 0) (.int 2)) (.cons (.int 1) (.cons (.glo (PySem.Str.ofString "MOST_TAKES")) .nil)))) .nil)))
    .nil))
def d_is_passenger : Def := { np := 1, ns := 1, body := b_is_passenger }
def b_is_new : Ss := (.cons (.ret (.and (.call (PySem.Str.ofString "is_passenger") k_is_passenger (.cons (.var 0) .nil)) (.cons (.cmp .NotIn (.idx (.var 0) (.int 0)) (.call (PySem.Str.ofString "names_in") k_names_in (.cons (.var 1) .nil))) .nil)))
    .nil)
def d_is_new : Def := { np := 2, ns := 2, body := b_is_new }
def b_wrong_queue : Ss := (.cons (.ret (.call (PySem.Str.ofString "wrong_from_one") k_wrong_from_one (.cons (.var 0) (.cons (.glo (PySem.Str.ofString "MOST_IN_QUEUE")) (.cons (.fnv (PySem.Str.ofString "is_new") k_is_new) .nil)))))
    .nil)
def d_wrong_queue : Def := { np := 1, ns := 1, body := b_wrong_queue }
def b_names_in : Ss := (.cons (.ret (.bi .tuple (.cons (.lc [((PySem.Str.ofString "name"), 1), ((PySem.Str.ofString "_"), 2)] (.tp (.nm 1 (.nm 2 (.nm 2 .nil)))) (.seq (.var 0)) .none (.var 1)) .nil)))
    .nil)
def d_names_in : Def := { np := 1, ns := 3, body := b_names_in }
def b_takes_in : Ss := (.cons (.ret (.lc [((PySem.Str.ofString "_"), 1), ((PySem.Str.ofString "takes"), 2)] (.tp (.nm 1 (.nm 1 (.nm 2 .nil)))) (.seq (.var 0)) .none (.var 2)))
    .nil)
def d_takes_in : Def := { np := 1, ns := 3, body := b_takes_in }
def l_starts_in_0 : Ss := (.cons (.app true 1 (.bi .max1 (.cons (.bin .Add (.lst (.cons (.int 0) .nil)) (.lc [((PySem.Str.ofString "end"), 6), ((PySem.Str.ofString "_"), 3), ((PySem.Str.ofString "other"), 7)] (.tp (.nm 6 (.tp (.nm 3 (.nm 7 (.nm 3 .nil))) .nil))) (.zip (.var 2) (.var 0)) (.some (.cmp .LtE (.var 7) (.var 4))) (.var 6))) .nil)))
    (.cons (.app true 2 (.bin .Add (.idx (.var 1) (.neg (.int 1))) (.var 5)))
    .nil))
def b_starts_in : Ss := (.cons (.parn [(true, true, 1), (true, true, 2)] (.cons (.lst .nil) (.cons (.lst .nil) .nil)))
    (.cons (.loop false (.tp (.nm 3 (.nm 4 (.nm 5 .nil)))) (.seq (.var 0)) l_starts_in_0)
    (.cons (.ret (.var 1))
    .nil)))
def d_starts_in : Def := { np := 1, ns := 8, body := b_starts_in }
def b_ends_in : Ss := (.cons (.ret (.lc [((PySem.Str.ofString "start"), 1), ((PySem.Str.ofString "takes"), 2)] (.tp (.nm 1 (.nm 2 .nil))) (.zip (.call (PySem.Str.ofString "starts_in") k_starts_in (.cons (.var 0) .nil)) (.call (PySem.Str.ofString "takes_in") k_takes_in (.cons (.var 0) .nil))) .none (.bin .Add (.var 1) (.var 2))))
    .nil)
def d_ends_in : Def := { np := 1, ns := 3, body := b_ends_in }
def b_time_in : Ss := (.cons (.ret (.bi .max1 (.cons (.bin .Add (.lst (.cons (.int 0) .nil)) (.call (PySem.Str.ofString "ends_in") k_ends_in (.cons (.var 0) .nil))) .nil)))
    .nil)
def d_time_in : Def := { np := 1, ns := 1, body := b_time_in }
def l_check_queue_0 : Ss := (.cons .never
    .nil)
def b_check_queue : Ss := (.cons (.loop false (.nm 1) (.seq (.call (PySem.Str.ofString "wrong_queue") k_wrong_queue (.cons (.var 0) .nil))) l_check_queue_0)
    .nil)
def d_check_queue : Def := { np := 1, ns := 2, body := b_check_queue }
def l_check_merged_0 : Ss := (.cons .never
    .nil)
def b_check_merged : Ss := (.cons (.expr (.call (PySem.Str.ofString "check_queue") k_check_queue (.cons (.var 0) .nil)))
    (.cons (.expr (.call (PySem.Str.ofString "check_queue") k_check_queue (.cons (.var 1) .nil)))
    (.cons (.loop false (.nm 2) (.seq (.sl (.lc [((PySem.Str.ofString "name"), 2)] (.nm 2) (.seq (.call (PySem.Str.ofString "names_in") k_names_in (.cons (.var 0) .nil))) (.some (.cmp .In (.var 2) (.call (PySem.Str.ofString "names_in") k_names_in (.cons (.var 1) .nil)))) (.var 2)) .none (.some (.int 1)))) l_check_merged_0)
    (.cons (.iff (.cmp .Gt (.bin .Add (.bi .len (.cons (.var 0) .nil)) (.bi .len (.cons (.var 1) .nil))) (.glo (PySem.Str.ofString "MOST_IN_QUEUE"))) (.cons .never
    .nil) .nil)
    .nil))))
def d_check_merged : Def := { np := 2, ns := 3, body := b_check_merged }
def l_merges_of_0 : Ss := (.cons (.ownN 4 (.lc [((PySem.Str.ofString "whole"), 5), ((PySem.Str.ofString "one"), 6), ((PySem.Str.ofString "two"), 7)] (.tp (.nm 5 (.nm 6 (.nm 7 .nil)))) (.seq (.var 2)) (.some (.cmp .NotEq (.var 6) (.tup .nil))) (.tup (.cons (.bin .Add (.var 5) (.sl (.var 6) .none (.some (.int 1)))) (.cons (.sl (.var 6) (.some (.int 1)) .none) (.cons (.var 7) .nil))))))
    (.cons (.ext false 4 (.lc [((PySem.Str.ofString "whole"), 5), ((PySem.Str.ofString "one"), 6), ((PySem.Str.ofString "two"), 7)] (.tp (.nm 5 (.nm 6 (.nm 7 .nil)))) (.seq (.var 2)) (.some (.cmp .NotEq (.var 7) (.tup .nil))) (.tup (.cons (.bin .Add (.var 5) (.sl (.var 7) .none (.some (.int 1)))) (.cons (.var 6) (.cons (.sl (.var 7) (.some (.int 1)) .none) .nil))))))
    (.cons (.frz 4)
    (.cons (.asg false (.nm 2) (.var 4))
    .nil))))
def b_merges_of : Ss := (.cons (.asg false (.nm 2) (.lst (.cons (.tup (.cons (.tup .nil) (.cons (.var 0) (.cons (.var 1) .nil)))) .nil)))
    (.cons (.loop false (.nm 3) (.rg1 (.bin .Add (.bi .len (.cons (.var 0) .nil)) (.bi .len (.cons (.var 1) .nil)))) l_merges_of_0)
    (.cons (.ret (.lc [((PySem.Str.ofString "whole"), 5), ((PySem.Str.ofString "_"), 3)] (.tp (.nm 5 (.nm 3 (.nm 3 .nil)))) (.seq (.var 2)) .none (.var 5)))
    .nil)))
def d_merges_of : Def := { np := 2, ns := 8, body := b_merges_of }
def b_merge_number : Ss := (.cons (.expr (.call (PySem.Str.ofString "check_merged") k_check_merged (.cons (.var 0) (.cons (.var 1) .nil))))
    (.cons (.parn [(false, false, 2), (false, false, 3)] (.cons (.bi .len (.cons (.var 0) .nil)) (.cons (.bi .len (.cons (.var 1) .nil)) .nil)))
    (.cons (.ret (.bin .FloorDiv (.call (PySem.Str.ofString "factorial_of") k_factorial_of (.cons (.bin .Add (.var 2) (.var 3)) .nil)) (.bin .Mult (.call (PySem.Str.ofString "factorial_of") k_factorial_of (.cons (.var 2) .nil)) (.call (PySem.Str.ofString "factorial_of") k_factorial_of (.cons (.var 3) .nil)))))
    .nil)))
def d_merge_number : Def := { np := 2, ns := 4, body := b_merge_number }
def b_merged_greatest : Ss := (.cons (.expr (.call (PySem.Str.ofString "check_merged") k_check_merged (.cons (.var 0) (.cons (.var 1) .nil))))
    (.cons (.ret (.bin .Add (.call (PySem.Str.ofString "time_in") k_time_in (.cons (.var 0) .nil)) (.call (PySem.Str.ofString "time_in") k_time_in (.cons (.var 1) .nil))))
    .nil))
def d_merged_greatest : Def := { np := 2, ns := 2, body := b_merged_greatest }
def b_merged_least : Ss := (.cons (.expr (.call (PySem.Str.ofString "check_merged") k_check_merged (.cons (.var 0) (.cons (.var 1) .nil))))
    (.cons (.ret (.bi .min1 (.cons (.lc [((PySem.Str.ofString "merge"), 2)] (.nm 2) (.seq (.call (PySem.Str.ofString "merges_of") k_merges_of (.cons (.var 0) (.cons (.var 1) .nil)))) .none (.call (PySem.Str.ofString "time_in") k_time_in (.cons (.var 2) .nil))) .nil)))
    .nil))
def d_merged_least : Def := { np := 2, ns := 3, body := b_merged_least }
def b_best_merge : Ss := (.cons (.expr (.call (PySem.Str.ofString "check_merged") k_check_merged (.cons (.var 0) (.cons (.var 1) .nil))))
    (.cons (.ret (.minkey (.call (PySem.Str.ofString "merges_of") k_merges_of (.cons (.var 0) (.cons (.var 1) .nil))) (.lam k_best_merge__lam0)))
    .nil))
def d_best_merge : Def := { np := 2, ns := 2, body := b_best_merge }
def l__law_urn_0 : Ss := (.cons (.asg false (.nm 2) (.bin .Mod (.bi .int (.cons (.bin .Add (.bin .Add (.bin .Mult (.var 2) (.int 50021)) (.bin .Mult (.bin .Mod (.bi .int (.cons (.var 3) .nil)) (.int 2147483477)) (.int 13))) (.int 41)) .nil)) (.int 2147483629)))
    .nil)
def b__law_urn : Ss := (.cons (.asg false (.nm 2) (.bin .Add (.int 747053) (.bin .Mult (.int 8111) (.var 1))))
    (.cons (.loop false (.nm 3) (.seq (.sl (.var 0) .none (.some (.int 9)))) l__law_urn_0)
    (.cons (.asg false (.nm 4) (.ite (.cmp .Lt (.var 1) (.bi .len (.cons (.var 0) .nil))) (.bi .int (.cons (.idx (.var 0) (.var 1)) .nil)) (.int 0)))
    (.cons (.asg false (.nm 2) (.bin .Mod (.bi .int (.cons (.bin .Add (.bin .Add (.bin .Mult (.var 2) (.int 59)) (.bin .Mult (.bin .Mod (.bi .int (.cons (.var 4) .nil)) (.int 2147483477)) (.int 30029))) (.int 5)) .nil)) (.int 2147483629)))
    (.cons (.ret (.newl (.cons (.ite (.or (.cmp .Lt (.var 4) (.int 0)) (.cons (.cmp .GtE (.var 4) (.bin .Pow (.int 10) (.int 15))) .nil)) (.bi .abs (.cons (.var 4) .nil)) (.int 0)) (.cons (.var 2) (.cons (.int 0) .nil)))))
    .nil)))))
def d__law_urn : Def := { np := 2, ns := 5, body := b__law_urn }
def b__law_take : Ss := (.cons (.iff (.cmp .Gt (.idx (.var 0) (.int 0)) (.int 0)) (.cons (.cset2 (.var 0) (.int 0) 2 (.bi .divmod (.cons (.idx (.var 0) (.int 0)) (.cons (.var 1) .nil))))
    (.cons (.ret (.var 2))
    .nil)) .nil)
    (.cons (.cset (.var 0) (.int 2) (.bin .Add (.idx (.var 0) (.int 2)) (.int 1)))
    (.cons (.asg false (.nm 3) (.bin .Mod (.bi .int (.cons (.bin .Add (.bin .Mult (.idx (.var 0) (.int 1)) (.int 40009)) (.bin .Mult (.int 15013) (.idx (.var 0) (.int 2)))) .nil)) (.int 2147483629)))
    (.cons (.cset (.var 0) (.int 1) (.bin .Mod (.bi .int (.cons (.bin .Add (.bin .Mult (.var 3) (.bin .Add (.bin .Mod (.bi .int (.cons (.var 3) .nil)) (.int 5003)) (.int 30011))) (.bin .Mult (.int 3) (.idx (.var 0) (.int 2)))) .nil)) (.int 2147483629)))
    (.cons (.ret (.bin .Mod (.bi .int (.cons (.bin .FloorDiv (.idx (.var 0) (.int 1)) (.int 907)) .nil)) (.var 1)))
    .nil)))))
def d__law_take : Def := { np := 2, ns := 4, body := b__law_take }
def b__law_of : Ss := (.cons (.ret (.idx (.var 1) (.call (PySem.Str.ofString "_law_take") k__law_take (.cons (.var 0) (.cons (.bi .len (.cons (.var 1) .nil)) .nil)))))
    .nil)
def d__law_of : Def := { np := 2, ns := 2, body := b__law_of }
def l__law_names_0 : Ss := (.cons (.asg false (.nm 6) (.bin .Add (.var 6) (.call (PySem.Str.ofString "_law_of") k__law_of (.cons (.var 0) (.cons (.var 3) .nil)))))
    .nil)
def l__law_names_1 : Ss := (.cons (.parn [(false, false, 5), (false, false, 6)] (.cons (.call (PySem.Str.ofString "_law_of") k__law_of (.cons (.var 0) (.cons (.lst (.cons (.int 0) (.cons (.int 0) (.cons (.int 1) (.cons (.int 3) (.cons (.int 6) .nil)))))) .nil))) (.cons (.str (PySem.Str.ofString "")) .nil)))
    (.cons (.loop false (.nm 7) (.rg1 (.var 5)) l__law_names_0)
    (.cons (.asg false (.nm 8) (.call (PySem.Str.ofString "_law_take") k__law_take (.cons (.var 0) (.cons (.bin .Add (.var 5) (.int 1)) .nil))))
    (.cons (.asg false (.nm 6) (.bin .Add (.bin .Add (.bin .Add (.sl (.var 6) .none (.some (.var 8))) (.idx (.var 3) (.var 4))) (.sl (.str (PySem.Str.ofString "q")) .none (.some (.var 5)))) (.sl (.var 6) (.some (.var 8)) .none)))
    (.cons (.app true 2 (.ite (.cmp .NotIn (.var 6) (.var 2)) (.var 6) (.bin .Add (.bin .Mult (.idx (.var 3) (.var 4)) (.int 7)) (.str (PySem.Str.ofString "q")))))
    .nil)))))
def b__law_names : Ss := (.cons (.parn [(true, true, 2), (false, false, 3)] (.cons (.lst .nil) (.cons (.str (PySem.Str.ofString "abcdefghijklmnopqrstuvwxyz")) .nil)))
    (.cons (.loop false (.nm 4) (.rg1 (.var 1)) l__law_names_1)
    (.cons (.ret (.var 2))
    .nil)))
def d__law_names : Def := { np := 2, ns := 9, body := b__law_names }
def l__law_queue_0 : Ss := (.cons (.asg false (.nm 4) (.bin .Add (.var 4) (.tup (.cons (.tup (.cons (.var 5) (.cons (.bin .Add (.int 1) (.call (PySem.Str.ofString "_law_take") k__law_take (.cons (.var 0) (.cons (.var 2) .nil)))) (.cons (.bin .Add (.int 1) (.call (PySem.Str.ofString "_law_take") k__law_take (.cons (.var 0) (.cons (.var 3) .nil)))) .nil)))) .nil))))
    .nil)
def b__law_queue : Ss := (.cons (.asg false (.nm 4) (.tup .nil))
    (.cons (.loop false (.nm 5) (.seq (.call (PySem.Str.ofString "_law_names") k__law_names (.cons (.var 0) (.cons (.var 1) .nil)))) l__law_queue_0)
    (.cons (.ret (.var 4))
    .nil)))
def d__law_queue : Def := { np := 4, ns := 6, body := b__law_queue }
def l__law_ends_0 : Ss := (.cons (.asgN 3 (.lc [((PySem.Str.ofString "j"), 4)] (.nm 4) (.rg1 (.var 2)) (.some (.cmp .LtE (.idx (.idx (.var 0) (.var 4)) (.int 1)) (.idx (.idx (.var 0) (.var 2)) (.int 1)))) (.idx (.var 1) (.var 4))))
    (.cons (.app false 1 (.bin .Add (.bi .max1 (.cons (.bin .Add (.lst (.cons (.int 0) .nil)) (.var 3)) .nil)) (.idx (.idx (.var 0) (.var 2)) (.int 2))))
    .nil))
def b__law_ends : Ss := (.cons (.own 1 (.lst .nil))
    (.cons (.loop false (.nm 2) (.rg1 (.bi .len (.cons (.var 0) .nil))) l__law_ends_0)
    (.cons (.ret (.bi .tuple (.cons (.var 1) .nil)))
    .nil)))
def d__law_ends : Def := { np := 1, ns := 5, body := b__law_ends }
def b__law_time : Ss := (.cons (.ret (.bi .max1 (.cons (.bin .Add (.tup (.cons (.int 0) .nil)) (.call (PySem.Str.ofString "_law_ends") k__law_ends (.cons (.var 0) .nil))) .nil)))
    .nil)
def d__law_time : Def := { np := 1, ns := 1, body := b__law_time }
def l__law_merges_0 : Ss := (.cons (.iff (.cmp .Lt (.var 6) (.bi .len (.cons (.var 0) .nil))) (.cons (.app false 4 (.tup (.cons (.bin .Add (.var 5) (.tup (.cons (.idx (.var 0) (.var 6)) .nil))) (.cons (.bin .Add (.var 6) (.int 1)) (.cons (.var 7) .nil)))))
    .nil) .nil)
    (.cons (.iff (.cmp .Lt (.var 7) (.bi .len (.cons (.var 1) .nil))) (.cons (.app false 4 (.tup (.cons (.bin .Add (.var 5) (.tup (.cons (.idx (.var 1) (.var 7)) .nil))) (.cons (.var 6) (.cons (.bin .Add (.var 7) (.int 1)) .nil)))))
    .nil) .nil)
    .nil))
def l__law_merges_1 : Ss := (.cons (.own 4 (.lst .nil))
    (.cons (.loop false (.tp (.nm 5 (.nm 6 (.nm 7 .nil)))) (.seq (.var 2)) l__law_merges_0)
    (.cons (.frz 4)
    (.cons (.asg false (.nm 2) (.var 4))
    .nil))))
def b__law_merges : Ss := (.cons (.asg false (.nm 2) (.lst (.cons (.tup (.cons (.tup .nil) (.cons (.int 0) (.cons (.int 0) .nil)))) .nil)))
    (.cons (.loop false (.nm 3) (.rg1 (.bin .Add (.bi .len (.cons (.var 0) .nil)) (.bi .len (.cons (.var 1) .nil)))) l__law_merges_1)
    (.cons (.ret (.lc [((PySem.Str.ofString "row"), 5), ((PySem.Str.ofString "k"), 6), ((PySem.Str.ofString "j"), 7)] (.tp (.nm 5 (.nm 6 (.nm 7 .nil)))) (.seq (.var 2)) .none (.var 5)))
    .nil)))
def d__law_merges : Def := { np := 2, ns := 8, body := b__law_merges }
def l__law_right_0 : Ss := (.cons (.asg false (.nm 2) (.call (PySem.Str.ofString "_law_queue") k__law_queue (.cons (.var 0) (.cons (.call (PySem.Str.ofString "_law_of") k__law_of (.cons (.var 0) (.cons (.lst (.cons (.int 2) (.cons (.int 4) (.cons (.int 6) (.cons (.int 8) .nil))))) .nil))) (.cons (.call (PySem.Str.ofString "_law_of") k__law_of (.cons (.var 0) (.cons (.lst (.cons (.int 2) (.cons (.int 4) (.cons (.int 9) (.cons (.int 99) .nil))))) .nil))) (.cons (.call (PySem.Str.ofString "_law_of") k__law_of (.cons (.var 0) (.cons (.lst (.cons (.int 1) (.cons (.int 3) (.cons (.int 9) .nil)))) .nil))) .nil))))))
    (.cons (.asg false (.nm 3) (.bin .Add (.int 1) (.call (PySem.Str.ofString "_law_take") k__law_take (.cons (.var 0) (.cons (.bin .Sub (.bi .len (.cons (.var 2) .nil)) (.int 1)) .nil)))))
    (.cons (.parn [(false, false, 4), (false, false, 5)] (.cons (.sl (.var 2) .none (.some (.var 3))) (.cons (.sl (.var 2) (.some (.var 3)) .none) .nil)))
    (.cons (.asg false (.nm 6) (.lc [((PySem.Str.ofString "row"), 8)] (.nm 8) (.seq (.call (PySem.Str.ofString "_law_merges") k__law_merges (.cons (.var 4) (.cons (.var 5) .nil)))) .none (.tup (.cons (.call (PySem.Str.ofString "_law_time") k__law_time (.cons (.var 8) .nil)) (.cons (.bi .tuple (.cons (.lc [((PySem.Str.ofString "each"), 7)] (.nm 7) (.seq (.var 8)) .none (.idx (.var 7) (.int 0))) .nil)) (.cons (.var 8) .nil))))))
    (.cons (.parn [(false, false, 9), (false, false, 10), (false, false, 11)] (.cons (.idx (.bi .min1 (.cons (.var 6) .nil)) (.int 0)) (.cons (.bi .max1 (.cons (.lc [((PySem.Str.ofString "row"), 8)] (.nm 8) (.seq (.var 6)) .none (.idx (.var 8) (.int 0))) .nil)) (.cons (.idx (.bi .min1 (.cons (.var 6) .nil)) (.int 2)) .nil))))
    (.cons (.iff (.or (.cmp .NotEq (.var 10) (.bin .Add (.call (PySem.Str.ofString "_law_time") k__law_time (.cons (.var 4) .nil)) (.call (PySem.Str.ofString "_law_time") k__law_time (.cons (.var 5) .nil)))) (.cons (.cmp .Lt (.var 9) (.bi .max2 (.cons (.call (PySem.Str.ofString "_law_time") k__law_time (.cons (.var 4) .nil)) (.cons (.call (PySem.Str.ofString "_law_time") k__law_time (.cons (.var 5) .nil)) .nil)))) .nil)) (.cons (.ret (.bl false))
    .nil) .nil)
    (.cons (.asg false (.nm 12) (.lst (.cons (.call (PySem.Str.ofString "merge_number") k_merge_number (.cons (.var 4) (.cons (.var 5) .nil))) (.cons (.callk (PySem.Str.ofString "merge_number") k_merge_number .nil [(PySem.Str.ofString "queue2"), (PySem.Str.ofString "queue")] [1, 0] (.cons (.var 5) (.cons (.var 4) .nil))) .nil))))
    (.cons (.asg false (.nm 12) (.bin .Add (.var 12) (.lst (.cons (.call (PySem.Str.ofString "merged_greatest") k_merged_greatest (.cons (.var 4) (.cons (.var 5) .nil))) (.cons (.callk (PySem.Str.ofString "merged_greatest") k_merged_greatest .nil [(PySem.Str.ofString "queue2"), (PySem.Str.ofString "queue")] [1, 0] (.cons (.var 5) (.cons (.var 4) .nil))) .nil)))))
    (.cons (.asg false (.nm 12) (.bin .Add (.var 12) (.lst (.cons (.call (PySem.Str.ofString "merged_least") k_merged_least (.cons (.var 4) (.cons (.var 5) .nil))) (.cons (.callk (PySem.Str.ofString "merged_least") k_merged_least .nil [(PySem.Str.ofString "queue2"), (PySem.Str.ofString "queue")] [1, 0] (.cons (.var 5) (.cons (.var 4) .nil))) .nil)))))
    (.cons (.iff (.cmp .NotEq (.bi .repr (.cons (.var 12) .nil)) (.bi .repr (.cons (.bin .Add (.bin .Add (.bin .Mult (.lst (.cons (.bi .len (.cons (.var 6) .nil)) .nil)) (.int 2)) (.bin .Mult (.lst (.cons (.var 10) .nil)) (.int 2))) (.bin .Mult (.lst (.cons (.var 9) .nil)) (.int 2))) .nil))) (.cons (.ret (.bl false))
    .nil) .nil)
    (.cons (.iff (.cmp .NotEq (.bi .repr (.cons (.lst (.cons (.call (PySem.Str.ofString "best_merge") k_best_merge (.cons (.var 4) (.cons (.var 5) .nil))) (.cons (.callk (PySem.Str.ofString "best_merge") k_best_merge .nil [(PySem.Str.ofString "queue2"), (PySem.Str.ofString "queue")] [1, 0] (.cons (.var 5) (.cons (.var 4) .nil))) .nil))) .nil)) (.bi .repr (.cons (.lst (.cons (.var 11) (.cons (.var 11) .nil))) .nil))) (.cons (.ret (.bl false))
    .nil) .nil)
    .nil)))))))))))
def b__law_right : Ss := (.cons (.loop false (.nm 1) (.rg1 (.int 2)) l__law_right_0)
    (.cons (.ret (.bl true))
    .nil))
def d__law_right : Def := { np := 1, ns := 13, body := b__law_right }
def b_law : Ss := (.cons (.ret (.bi .all (.cons (.lc [((PySem.Str.ofString "lap"), 1)] (.nm 1) (.rg1 (.bi .max2 (.cons (.int 1) (.cons (.bi .min2 (.cons (.bi .len (.cons (.var 0) .nil)) (.cons (.int 2) .nil))) .nil)))) .none (.call (PySem.Str.ofString "_law_right") k__law_right (.cons (.call (PySem.Str.ofString "_law_urn") k__law_urn (.cons (.var 0) (.cons (.var 1) .nil))) .nil))) .nil)))
    .nil)
def d_law : Def := { np := 1, ns := 2, body := b_law }
def b_best_merge__lam0 : Ss := (.cons (.ret (.tup (.cons (.call (PySem.Str.ofString "time_in") k_time_in (.cons (.var 0) .nil)) (.cons (.call (PySem.Str.ofString "names_in") k_names_in (.cons (.var 0) .nil)) .nil)))) .nil)
def d_best_merge__lam0 : Def := { np := 1, ns := 1, body := b_best_merge__lam0 }
def T : List Def := [d_is_whole, d_is_number, d_factorial_of, d_is_tuple_of, d_wrong_at, d_wrong_from_one, d_is_word, d_is_name, d_is_passenger, d_is_new, d_wrong_queue, d_names_in, d_takes_in, d_starts_in, d_ends_in, d_time_in, d_check_queue, d_check_merged, d_merges_of, d_merge_number, d_merged_greatest, d_merged_least, d_best_merge, d__law_urn, d__law_take, d__law_of, d__law_names, d__law_queue, d__law_ends, d__law_time, d__law_merges, d__law_right, d_law, d_best_merge__lam0]
def gs : List (Str × GlD) := [((PySem.Str.ofString "LETTERS"), .str (PySem.Str.ofString "abcdefghijklmnopqrstuvwxyz")), ((PySem.Str.ofString "MOST_IN_NAME"), .int 8), ((PySem.Str.ofString "WORDS"), .tup [(PySem.Str.ofString "all"), (PySem.Str.ofString "at"), (PySem.Str.ofString "beat"), (PySem.Str.ofString "board"), (PySem.Str.ofString "by"), (PySem.Str.ofString "chain"), (PySem.Str.ofString "door"), (PySem.Str.ofString "ends"), (PySem.Str.ofString "enter"), (PySem.Str.ofString "for"), (PySem.Str.ofString "from"), (PySem.Str.ofString "go"), (PySem.Str.ofString "group"), (PySem.Str.ofString "in"), (PySem.Str.ofString "inside"), (PySem.Str.ofString "join"), (PySem.Str.ofString "leave"), (PySem.Str.ofString "left"), (PySem.Str.ofString "lot"), (PySem.Str.ofString "none"), (PySem.Str.ofString "of"), (PySem.Str.ofString "queue"), (PySem.Str.ofString "row"), (PySem.Str.ofString "swap"), (PySem.Str.ofString "takes"), (PySem.Str.ofString "time"), (PySem.Str.ofString "to"), (PySem.Str.ofString "undo"), (PySem.Str.ofString "wait"), (PySem.Str.ofString "zone")]), ((PySem.Str.ofString "MOST_IN_QUEUE"), .int 9), ((PySem.Str.ofString "MOST_ROW"), .int 99), ((PySem.Str.ofString "MOST_TAKES"), .int 9)]
abbrev G : Str → Option PyData := gTab gs
def ru (n : Nat) : Oracle := runD T (gTab gs) 200 n
theorem r_is_whole (n : Nat) (a0 : PyData) (C : List Cell) : ru (n + 1) k_is_whole [a0] C = ended (evSs (ru n) G 200 b_is_whole [.val a0] C) := rfl
theorem r_is_number (n : Nat) (a0 a1 a2 : PyData) (C : List Cell) : ru (n + 1) k_is_number [a0, a1, a2] C = ended (evSs (ru n) G 200 b_is_number [.val a0, .val a1, .val a2] C) := rfl
theorem r_factorial_of (n : Nat) (a0 : PyData) (C : List Cell) : ru (n + 1) k_factorial_of [a0] C = ended (evSs (ru n) G 200 b_factorial_of [.val a0, .no, .no] C) := rfl
theorem r_is_tuple_of (n : Nat) (a0 a1 : PyData) (C : List Cell) : ru (n + 1) k_is_tuple_of [a0, a1] C = ended (evSs (ru n) G 200 b_is_tuple_of [.val a0, .val a1] C) := rfl
theorem r_wrong_at (n : Nat) (a0 a1 a2 : PyData) (C : List Cell) : ru (n + 1) k_wrong_at [a0, a1, a2] C = ended (evSs (ru n) G 200 b_wrong_at [.val a0, .val a1, .val a2, .no, .no] C) := rfl
theorem r_wrong_from_one (n : Nat) (a0 a1 a2 : PyData) (C : List Cell) : ru (n + 1) k_wrong_from_one [a0, a1, a2] C = ended (evSs (ru n) G 200 b_wrong_from_one [.val a0, .val a1, .val a2] C) := rfl
theorem r_is_word (n : Nat) (a0 : PyData) (C : List Cell) : ru (n + 1) k_is_word [a0] C = ended (evSs (ru n) G 200 b_is_word [.val a0, .no] C) := rfl
theorem r_is_name (n : Nat) (a0 : PyData) (C : List Cell) : ru (n + 1) k_is_name [a0] C = ended (evSs (ru n) G 200 b_is_name [.val a0] C) := rfl
theorem r_is_passenger (n : Nat) (a0 : PyData) (C : List Cell) : ru (n + 1) k_is_passenger [a0] C = ended (evSs (ru n) G 200 b_is_passenger [.val a0] C) := rfl
theorem r_is_new (n : Nat) (a0 a1 : PyData) (C : List Cell) : ru (n + 1) k_is_new [a0, a1] C = ended (evSs (ru n) G 200 b_is_new [.val a0, .val a1] C) := rfl
theorem r_wrong_queue (n : Nat) (a0 : PyData) (C : List Cell) : ru (n + 1) k_wrong_queue [a0] C = ended (evSs (ru n) G 200 b_wrong_queue [.val a0] C) := rfl
theorem r_names_in (n : Nat) (a0 : PyData) (C : List Cell) : ru (n + 1) k_names_in [a0] C = ended (evSs (ru n) G 200 b_names_in [.val a0, .no, .no] C) := rfl
theorem r_takes_in (n : Nat) (a0 : PyData) (C : List Cell) : ru (n + 1) k_takes_in [a0] C = ended (evSs (ru n) G 200 b_takes_in [.val a0, .no, .no] C) := rfl
theorem r_starts_in (n : Nat) (a0 : PyData) (C : List Cell) : ru (n + 1) k_starts_in [a0] C = ended (evSs (ru n) G 200 b_starts_in [.val a0, .no, .no, .no, .no, .no, .no, .no] C) := rfl
theorem r_ends_in (n : Nat) (a0 : PyData) (C : List Cell) : ru (n + 1) k_ends_in [a0] C = ended (evSs (ru n) G 200 b_ends_in [.val a0, .no, .no] C) := rfl
theorem r_time_in (n : Nat) (a0 : PyData) (C : List Cell) : ru (n + 1) k_time_in [a0] C = ended (evSs (ru n) G 200 b_time_in [.val a0] C) := rfl
theorem r_check_queue (n : Nat) (a0 : PyData) (C : List Cell) : ru (n + 1) k_check_queue [a0] C = ended (evSs (ru n) G 200 b_check_queue [.val a0, .no] C) := rfl
theorem r_check_merged (n : Nat) (a0 a1 : PyData) (C : List Cell) : ru (n + 1) k_check_merged [a0, a1] C = ended (evSs (ru n) G 200 b_check_merged [.val a0, .val a1, .no] C) := rfl
theorem r_merges_of (n : Nat) (a0 a1 : PyData) (C : List Cell) : ru (n + 1) k_merges_of [a0, a1] C = ended (evSs (ru n) G 200 b_merges_of [.val a0, .val a1, .no, .no, .no, .no, .no, .no] C) := rfl
theorem r_merge_number (n : Nat) (a0 a1 : PyData) (C : List Cell) : ru (n + 1) k_merge_number [a0, a1] C = ended (evSs (ru n) G 200 b_merge_number [.val a0, .val a1, .no, .no] C) := rfl
theorem r_merged_greatest (n : Nat) (a0 a1 : PyData) (C : List Cell) : ru (n + 1) k_merged_greatest [a0, a1] C = ended (evSs (ru n) G 200 b_merged_greatest [.val a0, .val a1] C) := rfl
theorem r_merged_least (n : Nat) (a0 a1 : PyData) (C : List Cell) : ru (n + 1) k_merged_least [a0, a1] C = ended (evSs (ru n) G 200 b_merged_least [.val a0, .val a1, .no] C) := rfl
theorem r_best_merge (n : Nat) (a0 a1 : PyData) (C : List Cell) : ru (n + 1) k_best_merge [a0, a1] C = ended (evSs (ru n) G 200 b_best_merge [.val a0, .val a1] C) := rfl
theorem r__law_urn (n : Nat) (a0 a1 : PyData) (C : List Cell) : ru (n + 1) k__law_urn [a0, a1] C = ended (evSs (ru n) G 200 b__law_urn [.val a0, .val a1, .no, .no, .no] C) := rfl
theorem r__law_take (n : Nat) (a0 a1 : PyData) (C : List Cell) : ru (n + 1) k__law_take [a0, a1] C = ended (evSs (ru n) G 200 b__law_take [.val a0, .val a1, .no, .no] C) := rfl
theorem r__law_of (n : Nat) (a0 a1 : PyData) (C : List Cell) : ru (n + 1) k__law_of [a0, a1] C = ended (evSs (ru n) G 200 b__law_of [.val a0, .val a1] C) := rfl
theorem r__law_names (n : Nat) (a0 a1 : PyData) (C : List Cell) : ru (n + 1) k__law_names [a0, a1] C = ended (evSs (ru n) G 200 b__law_names [.val a0, .val a1, .no, .no, .no, .no, .no, .no, .no] C) := rfl
theorem r__law_queue (n : Nat) (a0 a1 a2 a3 : PyData) (C : List Cell) : ru (n + 1) k__law_queue [a0, a1, a2, a3] C = ended (evSs (ru n) G 200 b__law_queue [.val a0, .val a1, .val a2, .val a3, .no, .no] C) := rfl
theorem r__law_ends (n : Nat) (a0 : PyData) (C : List Cell) : ru (n + 1) k__law_ends [a0] C = ended (evSs (ru n) G 200 b__law_ends [.val a0, .no, .no, .no, .no] C) := rfl
theorem r__law_time (n : Nat) (a0 : PyData) (C : List Cell) : ru (n + 1) k__law_time [a0] C = ended (evSs (ru n) G 200 b__law_time [.val a0] C) := rfl
theorem r__law_merges (n : Nat) (a0 a1 : PyData) (C : List Cell) : ru (n + 1) k__law_merges [a0, a1] C = ended (evSs (ru n) G 200 b__law_merges [.val a0, .val a1, .no, .no, .no, .no, .no, .no] C) := rfl
theorem r__law_right (n : Nat) (a0 : PyData) (C : List Cell) : ru (n + 1) k__law_right [a0] C = ended (evSs (ru n) G 200 b__law_right [.val a0, .no, .no, .no, .no, .no, .no, .no, .no, .no, .no, .no, .no] C) := rfl
theorem r_law (n : Nat) (a0 : PyData) (C : List Cell) : ru (n + 1) k_law [a0] C = ended (evSs (ru n) G 200 b_law [.val a0, .no] C) := rfl
theorem r_best_merge__lam0 (n : Nat) (a0 : PyData) (C : List Cell) : ru (n + 1) k_best_merge__lam0 [a0] C = ended (evSs (ru n) G 200 b_best_merge__lam0 [.val a0] C) := rfl
theorem g_LETTERS : G (PySem.Str.ofString "LETTERS") = some (glD (.str (PySem.Str.ofString "abcdefghijklmnopqrstuvwxyz"))) := by kernel_rfl
theorem g_MOST_IN_NAME : G (PySem.Str.ofString "MOST_IN_NAME") = some (glD (.int 8)) := by kernel_rfl
theorem g_WORDS : G (PySem.Str.ofString "WORDS") = some (glD (.tup [(PySem.Str.ofString "all"), (PySem.Str.ofString "at"), (PySem.Str.ofString "beat"), (PySem.Str.ofString "board"), (PySem.Str.ofString "by"), (PySem.Str.ofString "chain"), (PySem.Str.ofString "door"), (PySem.Str.ofString "ends"), (PySem.Str.ofString "enter"), (PySem.Str.ofString "for"), (PySem.Str.ofString "from"), (PySem.Str.ofString "go"), (PySem.Str.ofString "group"), (PySem.Str.ofString "in"), (PySem.Str.ofString "inside"), (PySem.Str.ofString "join"), (PySem.Str.ofString "leave"), (PySem.Str.ofString "left"), (PySem.Str.ofString "lot"), (PySem.Str.ofString "none"), (PySem.Str.ofString "of"), (PySem.Str.ofString "queue"), (PySem.Str.ofString "row"), (PySem.Str.ofString "swap"), (PySem.Str.ofString "takes"), (PySem.Str.ofString "time"), (PySem.Str.ofString "to"), (PySem.Str.ofString "undo"), (PySem.Str.ofString "wait"), (PySem.Str.ofString "zone")])) := by kernel_rfl
theorem g_MOST_IN_QUEUE : G (PySem.Str.ofString "MOST_IN_QUEUE") = some (glD (.int 9)) := by kernel_rfl
theorem g_MOST_ROW : G (PySem.Str.ofString "MOST_ROW") = some (glD (.int 99)) := by kernel_rfl
theorem g_MOST_TAKES : G (PySem.Str.ofString "MOST_TAKES") = some (glD (.int 9)) := by kernel_rfl
end LW_k74
set_option Elab.async false
set_option linter.all false
set_option maxRecDepth 100000
set_option maxHeartbeats 1000000
namespace LW_k74
open PySem BR
/-! the checks of a right queue -/
theorem t_is_whole {n : Nat} (hn : 1 ≤ n) (i : Int) (C : List Cell) : ru n k_is_whole [.int i] C = .ok (.bool true) C := by
  obtain ⟨m, rfl⟩ := Nat.exists_eq_add_of_le' hn
  rw [r_is_whole]; unfold b_is_whole
  simp
theorem t_is_number {n : Nat} (hn : 2 ≤ n) {i lo hi : Int} (h1 : lo ≤ i) (h2 : i ≤ hi) (C : List Cell) : ru n k_is_number [.int i, .int lo, .int hi] C = .ok (.bool true) C := by
  obtain ⟨m, rfl⟩ := Nat.exists_eq_add_of_le' hn
  rw [r_is_number]; unfold b_is_number
  simp [t_is_whole (show 1 ≤ m + 1 by omega), h1, h2, Int.not_lt.mpr h1]
theorem t_is_tuple_of {n : Nat} (hn : 1 ≤ n) (xs : List PyData) (k : Int) (C : List Cell) : ru n k_is_tuple_of [.tuple xs, .int k] C = .ok (.bool (decide ((xs.length : Int) = k))) C := by
  obtain ⟨m, rfl⟩ := Nat.exists_eq_add_of_le' hn
  rw [r_is_tuple_of]; unfold b_is_tuple_of
  simp
theorem t_is_word {n : Nat} (hn : 1 ≤ n) {x : Str} (h : OkName x) (C : List Cell) : ru n k_is_word [.str x] C = .ok (.bool true) C := by
  obtain ⟨m, rfl⟩ := Nat.exists_eq_add_of_le' hn
  rw [r_is_word]; unfold b_is_word
  have e0 : x ≠ Str.ofString "" := fun e => h.ne (by rw [e]; decide +kernel)
  have e1 : x.cps.toList.length ≤ big := by have := h.len; simp only [big]; omega
  have e2 : x.cps.size ≤ big := e1
  simp [cmpF_ne_str h.hi (show ∀ c ∈ (Str.ofString "").cps.toList, c ≤ 122 by decide +kernel), e0]
  rw [mapR_map (fun _ => .bool true) fun c hc => ?_]
  · simp [e1, e2, boolsOf_map (fun _ => true)]
  · unfold lcStep
    simp [inF_char, g_LETTERS, glD]
    exact (by simpa [lettersS] using mem_letters.mpr (h.lo c hc))
theorem t_is_name {n : Nat} (hn : 2 ≤ n) {x : Str} (h : OkName x) (C : List Cell) : ru n k_is_name [.str x] C = .ok (.bool true) C := by
  obtain ⟨m, rfl⟩ := Nat.exists_eq_add_of_le' hn
  rw [r_is_name]; unfold b_is_name
  have e1 : x.length ≤ 8 := h.len
  have e2 := cmpF_in_strs h.hi words_lo
  rw [decide_eq_false h.nw] at e2
  have e3 : G (Str.ofString "WORDS") = some (encN wordsL) := g_WORDS
  simp [t_is_word (show 1 ≤ m + 1 by omega) h, lenC_len_str (show x.length ≤ big by simp only [big]; omega), g_MOST_IN_NAME, glD, e3, e2, show (x.length : Int) ≤ 8 by omega]
theorem t_is_passenger {n : Nat} (hn : 3 ≤ n) {p : Pas} (h : OkPas p) (C : List Cell) : ru n k_is_passenger [encP p] C = .ok (.bool true) C := by
  obtain ⟨m, rfl⟩ := Nat.exists_eq_add_of_le' hn
  rw [r_is_passenger]; unfold b_is_passenger
  simp [encP, t_is_tuple_of (show 1 ≤ m + 2 by omega), t_is_name (show 2 ≤ m + 2 by omega) h.nm, g_MOST_ROW, g_MOST_TAKES, glD, t_is_number (show 2 ≤ m + 2 by omega) h.r1 h.r9, t_is_number (show 2 ≤ m + 2 by omega) h.t1 h.t9]
theorem t_names_in {n : Nat} (hn : 1 ≤ n) {q : List Pas} (hq : q.length ≤ big) (C : List Cell) : ru n k_names_in [encQ q] C = .ok (encN (q.map (·.name))) C := by
  obtain ⟨m, rfl⟩ := Nat.exists_eq_add_of_le' hn
  rw [r_names_in]; unfold b_names_in
  simp [encQ]
  rw [mapR_map (fun p => .str p.name) fun p hp => by unfold lcStep; simp [encP]]
  simp [hq, encN]
theorem t_is_new {n : Nat} (hn : 4 ≤ n) {p : Pas} {q : List Pas} (hp : OkPas p) (hq : ∀ x ∈ q, OkPas x) (hl : q.length ≤ 9) (hnew : p.name ∉ q.map (·.name)) (C : List Cell) : ru n k_is_new [encP p, encQ q] C = .ok (.bool true) C := by
  obtain ⟨m, rfl⟩ := Nat.exists_eq_add_of_le' hn
  rw [r_is_new]; unfold b_is_new
  have e2 := cmpF_in_strs (xs := q.map (·.name)) hp.nm.hi (fun y hy => by obtain ⟨x, hx, rfl⟩ := List.mem_map.mp hy; exact (hq x hx).nm.hi)
  rw [decide_eq_false hnew] at e2
  have e3 : idxC C (encP p) (.int 0) = some (.str p.name) := rfl
  simp [t_is_passenger (show 3 ≤ m + 3 by omega) hp, t_names_in (show 1 ≤ m + 3 by omega) (show q.length ≤ big by simp only [big]; omega), e3, e2]
/-- all are right, by any test -/
theorem t_wrong_at {α : Type} {n : Nat} {e : α → PyData} {xs : List α} {M : Int} {k : Nat} {C : List Cell} (hM : (xs.length : Int) ≤ M) (H : ∀ (i : Nat) (x : α), xs[i]? = some x → ru n k [e x, .tuple ((xs.take i).map e)] C = .ok (.bool true) C) :
    ru (n + 1) k_wrong_at [.tuple (xs.map e), .int M, hfn k] C = .ok (.list []) C := by
  rw [r_wrong_at]; unfold b_wrong_at
  simp
  have key := loopS_inv (f := loStep (ru n) G 200 (.tp (.nm 3 (.nm 4 .nil))) l_wrong_at_0)
    (enc := fun p : α × Nat => PyData.tuple [.int (p.2 : Nat), e p.1]) (C := C) (fun _ ρ => ∃ s t, ρ = [.val (.tuple (xs.map e)), .val (.int M), .val (hfn k), s, t]) (xs := xs.zipIdx) (pre := []) (ρ := [.val (.tuple (xs.map e)), .val (.int M), .val (hfn k), .no, .no]) ⟨_, _, rfl⟩ ?_
  · obtain ⟨ρ', h1, s, t, rfl⟩ := key
    rw [h1]
    simp
  · rintro pre' ⟨x, i⟩ post ρ hp ⟨s, t, rfl⟩
    have hi : xs[i]? = some x := by
      have : (x, i) ∈ xs.zipIdx := by rw [← List.nil_append xs.zipIdx, ← hp]; simp
      have := List.mem_zipIdx this
      simp at this
      obtain ⟨h1, h2⟩ := this
      rw [List.getElem?_eq_getElem h1, h2]
    have hlt : i < xs.length := by
      rcases Nat.lt_or_ge i xs.length with z | z
      · exact z
      · rw [List.getElem?_eq_none z] at hi; cases hi
    have hM2 : ¬ M ≤ (i : Int) := by omega
    refine ⟨[.val (.tuple (xs.map e)), .val (.int M), .val (hfn k), .val (.int i), .val (e x)], ?_, _, _, rfl⟩
    unfold loStep l_wrong_at_0
    have hH := H i x hi
    rw [List.map_take] at hH
    simp [hM2, slF_take, hH]
theorem t_wrong_queue {n : Nat} (hn : 7 ≤ n) {q : List Pas} (h : OkQ q) (C : List Cell) : ru n k_wrong_queue [encQ q] C = .ok (.list []) C := by
  obtain ⟨m, rfl⟩ := Nat.exists_eq_add_of_le' hn
  rw [r_wrong_queue]; unfold b_wrong_queue
  have key : ru (m + 6) k_wrong_from_one [encQ q, .int 9, hfn k_is_new] C = .ok (.list []) C := by
    rw [r_wrong_from_one]; unfold b_wrong_from_one
    have ne := cmpF_eq_encQ_nil h
    have hw := t_wrong_at (n := m + 4) (e := encP) (xs := q) (M := 9) (k := k_is_new) (C := C) (by have := h.hi; omega) fun i x hi => by
      refine t_is_new (by omega) (h.ps x (List.mem_of_getElem? hi)) (fun y hy => h.ps y (List.mem_of_mem_take hy)) (by have := h.hi; have := List.length_take_le' i q; omega) ?_ C
      intro hmem
      have hnd := h.nd
      rw [← List.take_append_drop i q, List.map_append] at hnd
      have := (List.nodup_append.mp hnd).2.2 _ hmem
      have hlt : i < q.length := by
        rcases Nat.lt_or_ge i q.length with z | z
        · exact z
        · rw [List.getElem?_eq_none z] at hi; cases hi
      have hd : x ∈ q.drop i := by
        rw [List.getElem?_eq_getElem hlt] at hi
        cases hi
        rw [List.drop_eq_getElem_cons hlt]; exact List.mem_cons_self
      exact this x.name (List.mem_map.mpr ⟨x, hd, rfl⟩) rfl
    simp [ne, hw]
  simp [g_MOST_IN_QUEUE, glD, key]
theorem t_check_queue {n : Nat} (hn : 8 ≤ n) {q : List Pas} (h : OkQ q) (C : List Cell) : ru n k_check_queue [encQ q] C = .ok .none C := by
  obtain ⟨m, rfl⟩ := Nat.exists_eq_add_of_le' hn
  rw [r_check_queue]; unfold b_check_queue
  simp [t_wrong_queue (show 7 ≤ m + 7 by omega) h]
end LW_k74
set_option Elab.async false
set_option linter.all false
set_option maxRecDepth 100000
set_option maxHeartbeats 1000000
namespace LW_k74
open PySem BR
/-! urns, draws, names with a letter that tells the turn, queues -/
theorem t_urn {n lap : Nat} {C : List Cell} {ns : List Int} (hn : 1 ≤ n) : wp (ru n k__law_urn [hscr (ns.map .int), .int (lap : Int)] C) fun d C' => d = hcell C.length ∧ ∃ a b c, C' = C ++ [W3 a b c] := by
  obtain ⟨m, rfl⟩ := Nat.exists_eq_add_of_le' hn
  rw [r__law_urn]; unfold b__law_urn
  refine wp_hide fun Q hQ => ?_
  have e9 : slF (hscr (ns.map PyData.int)) none (some 9) = some (.list ((ns.take 9).map PyData.int)) := by
    rw [List.map_take]; exact slF_scr (xs := ns.map PyData.int) (k := 9)
  simp [binF_mul_r, binF_mul_l, e9, -List.map_take]
  have key : ∀ v0 : Int, ∃ (v : Int) (s : Slot), loopS (loStep (ru m) G 200 (.nm 3) l__law_urn_0) ((ns.take 9).map PyData.int) [.val (hscr (ns.map .int)), .val (.int lap), .val (.int v0), .no, .no] C = .ok (.nx [.val (hscr (ns.map .int)), .val (.int lap), .val (.int v), s, .no]) C := fun v0 => by
    have key := loopS_inv (f := loStep (ru m) G 200 (.nm 3) l__law_urn_0) (enc := PyData.int) (C := C) (fun _ ρ => ∃ (v : Int) (s : Slot), ρ = [.val (hscr (ns.map .int)), .val (.int lap), .val (.int v), s, .no]) (xs := ns.take 9) (pre := []) (ρ := [.val (hscr (ns.map .int)), .val (.int lap), .val (.int v0), .no, .no]) ⟨_, _, rfl⟩ ?_
    · obtain ⟨ρ', e, v, s, rfl⟩ := key
      exact ⟨v, s, e⟩
    · rintro pre x post ρ - ⟨v, s, rfl⟩
      unfold loStep l__law_urn_0
      simp [binF_mul_r, binF_mul_l, binF_mod]
  generalize hL : loopS _ _ _ _ = L
  obtain ⟨v, s, rfl⟩ : ∃ v s, L = .ok (.nx [.val (hscr (ns.map .int)), .val (.int lap), .val (.int v), s, .no]) C := by rw [← hL]; exact key _
  clear hL key
  have hb : 3 ≤ big := by decide
  by_cases hl : lap < ns.length
  · generalize hw : ns[lap] = w
    have hg : (ns.map PyData.int)[lap]? = some (.int w) := by simp [hl, hw]
    by_cases h0 : w < 0
    · simp [hl, hw, binF_mul_r, binF_mul_l, binF_mod, pow_lit, h0, hb]
      exact wp_ok (hQ _ _ ⟨rfl, _, _, _, rfl⟩)
    · by_cases h1 : (1000000000000000 : Int) ≤ w
      · simp [hl, hw, binF_mul_r, binF_mul_l, binF_mod, pow_lit, h0, h1, hb]
        exact wp_ok (hQ _ _ ⟨rfl, _, _, _, rfl⟩)
      · simp [hl, hw, binF_mul_r, binF_mul_l, binF_mod, pow_lit, h0, h1, hb]
        exact wp_ok (hQ _ _ ⟨rfl, _, _, _, rfl⟩)
  · simp [hl, binF_mul_r, binF_mul_l, binF_mod, pow_lit, hb]
    exact wp_ok (hQ _ _ ⟨rfl, _, _, _, rfl⟩)
theorem t_take {n j : Nat} {C : List Cell} {limit : Int} (hn : 1 ≤ n) (h : IsW C j) (h1 : 1 ≤ limit) (h2 : limit < 2 ^ 29) :
    wp (ru n k__law_take [hcell j, .int limit] C) fun d C' => Nx j C C' ∧ ∃ v, d = .int v ∧ 0 ≤ v ∧ v < limit := by
  obtain ⟨m, rfl⟩ := Nat.exists_eq_add_of_le' hn
  have hl := h.lt
  obtain ⟨a, b, c, hC⟩ := h
  rw [r__law_take]; unfold b__law_take
  have h29 : limit < 536870912 := h2
  have hpos : 0 < limit := by omega
  by_cases ha : 0 < a
  · simp [idxW0 hC, ha, hpos, h29, cset2W0 hC]
    refine wp_ok ?_
    exact ⟨Nx.set hl _ _ _, _, rfl, Int.emod_nonneg _ (by omega), Int.emod_lt_of_pos _ hpos⟩
  · simp [idxW0 hC, idxW1 hC, idxW2 hC, ha, csetW2 hC, idxW1 (getW hl _), idxW2 (getW hl _), csetW1 (getW hl _), binF_mul_r, binF_mul_l, binF_mul_m, binF_mod, binF_div, hpos]
    refine wp_ok ?_
    exact ⟨Nx.set hl _ _ _, _, rfl, Int.emod_nonneg _ (by omega), Int.emod_lt_of_pos _ hpos⟩
theorem t_ofl {n j : Nat} {C : List Cell} {xs : List PyData} (hn : 2 ≤ n) (h : IsW C j) (h1 : 1 ≤ xs.length) (h2 : xs.length ≤ 1000) :
    wp (ru n k__law_of [hcell j, .list xs] C) fun d C' => Nx j C C' ∧ d ∈ xs := by
  obtain ⟨m, rfl⟩ := Nat.exists_eq_add_of_le' hn
  rw [r__law_of]; unfold b__law_of
  obtain ⟨d, C1, e1, hN, v, rfl, hv0, hv1⟩ := t_take (n := m + 1) (C := C) (j := j) (limit := (xs.length : Int)) (by omega) h (by omega) (by omega)
  simp [e1]
  obtain ⟨k, rfl⟩ := Int.eq_ofNat_of_zero_le hv0
  have hk : k < xs.length := by omega
  simp [List.getElem?_eq_getElem hk]
  refine wp_ok ?_
  exact ⟨hN, List.getElem_mem _⟩
/-- one of some numbers -/
theorem t_ofi {n j : Nat} {C : List Cell} {xs : List Int} (hn : 2 ≤ n) (h : IsW C j) (h1 : 1 ≤ xs.length) (h2 : xs.length ≤ 1000) :
    wp (ru n k__law_of [hcell j, .list (xs.map .int)] C) fun d C' => Nx j C C' ∧ ∃ v ∈ xs, d = .int v := by
  refine wp_mono (t_ofl hn h (by simpa using h1) (by simpa using h2)) fun d C' ⟨hN, hd⟩ => ⟨hN, ?_⟩
  obtain ⟨v, hv, rfl⟩ := List.mem_map.mp hd
  exact ⟨v, hv, rfl⟩
theorem t_ofS {n j : Nat} {C : List Cell} {x : Str} (hn : 2 ≤ n) (h : IsW C j) (h1 : 1 ≤ x.length) (h2 : x.length ≤ 1000) :
    wp (ru n k__law_of [hcell j, .str x] C) fun d C' => Nx j C C' ∧ ∃ c ∈ x.cps.toList, d = .str ⟨#[c]⟩ := by
  obtain ⟨m, rfl⟩ := Nat.exists_eq_add_of_le' hn
  rw [r__law_of]; unfold b__law_of
  obtain ⟨d, C1, e1, hN, v, rfl, hv0, hv1⟩ := t_take (n := m + 1) (C := C) (j := j) (limit := (x.length : Int)) (by omega) h (by omega) (by omega)
  have hb : x.length ≤ big := by simp only [big]; omega
  simp [lenC_len_str hb, e1]
  obtain ⟨k, rfl⟩ := Int.eq_ofNat_of_zero_le hv0
  have hk : k < x.cps.toList.length := by have : x.length = x.cps.toList.length := rfl; omega
  have e2 : idxF (.str x) (.int (k : Int)) = some (.str ⟨#[x.cps.toList[k]]⟩) := by
    show (if x.length ≤ big then (L2.atI x.cps.toList (k : Int)).map (fun c => PyData.str ⟨#[c]⟩) else none) = _
    rw [if_pos hb, atI_nat (by omega), Int.toNat_natCast, List.getElem?_eq_getElem hk]
    rfl
  rw [e2]
  exact wp_ok ⟨hN, _, by simp, rfl⟩
theorem t_names {n j many : Nat} {C : List Cell} (hn : 3 ≤ n) (h : IsW C j) (h9 : many ≤ 9) :
    wp (ru n k__law_names [hcell j, .int (many : Int)] C) fun d C' => Nx j C C' ∧ ∃ xs : List Str, d = .list (xs.map .str) ∧ xs.length = many ∧ xs.Nodup ∧ ∀ x ∈ xs, OkName x := by
  obtain ⟨m, rfl⟩ := Nat.exists_eq_add_of_le' hn
  rw [r__law_names]; unfold b__law_names
  have hb0 : 0 ≤ big := by decide
  refine wp_hide fun Q hQ => ?_
  simp [hb0, smallI_nat (show many ≤ 1000000 by omega)]
  have key := loopS_wp (f := loStep (ru (m + 2)) G 200 (.nm 4) l__law_names_1) (enc := fun k : Nat => PyData.int (k : Int))
    (fun pre ρ C' => Nx j C C' ∧ ∃ (xs : List Str) (s4 s5 s6 s7 s8 : Slot), ρ = [.val (hcell j), .val (.int (many : Int)), .own (xs.map .str), .val (.str (Str.ofString "abcdefghijklmnopqrstuvwxyz")), s4, s5, s6, s7, s8] ∧ xs.length = pre.length ∧ xs.Nodup ∧ ∀ (i : Nat) (x : Str), xs[i]? = some x → OkName x ∧ 97 + i ∈ x.cps.toList)
    (xs := List.range many) (pre := []) (ρ := [.val (hcell j), .val (.int (many : Int)), .own [], .val (.str (Str.ofString "abcdefghijklmnopqrstuvwxyz")), .no, .no, .no, .no, .no]) (C := C)
    ⟨h.refl, [], .no, .no, .no, .no, .no, rfl, rfl, List.nodup_nil, fun i x hx => by simp at hx⟩ ?_
  · obtain ⟨o, C1, e1, ρ', rfl, hN, xs, s4, s5, s6, s7, s8, rfl, hl, hnd, hx⟩ := key
    rw [e1]
    have hok : ∀ x ∈ xs, OkName x := fun x hm => by
      obtain ⟨i, hi, rfl⟩ := List.mem_iff_getElem.mp hm
      exact (hx i _ (List.getElem?_eq_getElem hi)).1
    simp at hl
    simp
    exact wp_ok (hQ _ _ ⟨hN, xs, rfl, hl, hnd, hok⟩)
  · rintro pre' k post ρ C' hp ⟨hN, xs, s4, s5, s6, s7, s8, rfl, hl, hnd, hx⟩
    obtain ⟨hk, hkm⟩ := pre_range hp
    unfold loStep l__law_names_1
    refine wp_hide fun Q2 hQ2 => ?_
    obtain ⟨d, C1, e1, hN1, hd⟩ := t_ofl (n := m + 2) (C := C') (j := j) (xs := [.int 0, .int 0, .int 1, .int 3, .int 6]) (by omega) hN.isW (by simp) (by simp)
    have hb5 : 5 ≤ big := by decide
    have hs : ∃ s : Nat, d = .int (s : Int) ∧ s ≤ 6 := by
      simp at hd
      rcases hd with rfl | rfl | rfl | rfl
      · exact ⟨0, rfl, by omega⟩
      · exact ⟨1, rfl, by omega⟩
      · exact ⟨3, rfl, by omega⟩
      · exact ⟨6, rfl, by omega⟩
    obtain ⟨s, rfl, hs6⟩ := hs
    simp [hb5, e1, smallI_nat (show s ≤ 1000000 by omega)]
    have key := loopS_wp (f := loStep (ru (m + 2)) G 200 (.nm 7) l__law_names_0) (enc := fun k : Nat => PyData.int (k : Int))
      (fun pre ρ C'' => Nx j C1 C'' ∧ ∃ (nm : Str) (s7 : Slot), ρ = [.val (hcell j), .val (.int (many : Int)), .own (xs.map .str), .val (.str (Str.ofString "abcdefghijklmnopqrstuvwxyz")), .val (.int (k : Int)), .val (.int (s : Int)), .val (.str nm), s7, s8] ∧ nm.cps.toList.length = pre.length ∧ ∀ c ∈ nm.cps.toList, 97 ≤ c ∧ c ≤ 122)
      (xs := List.range s) (pre := []) (ρ := [.val (hcell j), .val (.int (many : Int)), .own (xs.map .str), .val (.str (Str.ofString "abcdefghijklmnopqrstuvwxyz")), .val (.int (k : Int)), .val (.int (s : Int)), .val (.str (Str.ofString "")), s7, s8]) (C := C1)
      ⟨hN1.isW.refl, _, _, rfl, rfl, fun c hc => by revert hc; show c ∈ [] → _; simp⟩ ?_
    · obtain ⟨o, C2, e2, ρ', rfl, hN2, nm, s7', rfl, hln, hlo⟩ := key
      rw [e2]
      obtain ⟨d, C3, e3, hN3, v, rfl, hv0, hv1⟩ := t_take (n := m + 2) (C := C2) (j := j) (limit := (s : Int) + 1) (by omega) hN2.isW (by omega) (by omega)
      obtain ⟨at', rfl⟩ := Int.eq_ofNat_of_zero_le hv0
      have hls : nm.cps.toList.length = s := by simpa using hln
      have hln2 : nm.length = s := hls
      have hat : at' ≤ nm.cps.toList.length := by omega
      have hnb : nm.length ≤ big := by simp only [big]; omega
      have q1 := slS_take (x := nm) (k := at') hnb
      have q2 := slS_drop (x := nm) (k := at') hnb
      have q3 := slS_take (x := Str.ofString "q") (k := s) (by decide)
      have hq : (Str.ofString "q").cps.toList = [113] := by decide +kernel
      rw [hq] at q3
      obtain ⟨A, hA⟩ : ∃ A : Str, A = ⟨(nm.cps.toList.take at').toArray⟩ := ⟨_, rfl⟩
      obtain ⟨B, hB⟩ : ∃ B : Str, B = ⟨(nm.cps.toList.drop at').toArray⟩ := ⟨_, rfl⟩
      obtain ⟨D, hD⟩ : ∃ D : Str, D = ⟨([113].take s).toArray⟩ := ⟨_, rfl⟩
      rw [← hA] at q1
      rw [← hB] at q2
      rw [← hD] at q3
      have lenL : ∀ x : Str, x.length = x.cps.toList.length := fun x => rfl
      have y1 : A.cps.toList = nm.cps.toList.take at' := by rw [hA]
      have y2 : B.cps.toList = nm.cps.toList.drop at' := by rw [hB]
      have y3 : D.cps.toList = [113].take s := by rw [hD]
      have z1 : A.length = at' := by rw [lenL, y1, List.length_take]; omega
      have z2 : B.length = s - at' := by rw [lenL, y2, List.length_drop]; omega
      have z3 : D.length ≤ 1 := by rw [lenL, y3, List.length_take, List.length_singleton]; omega
      have z4 : (⟨#[97 + k]⟩ : Str).length = 1 := rfl
      have app : ∀ x y : Str, (x ++ y).length = x.length + y.length := fun x y => by rw [lenL, strOf_len, List.length_append]; rfl
      have a1 : binF .Add (.str A) (.str ⟨#[97 + k]⟩) = _ := binF_str (by rw [z1, z4]; simp only [big]; omega)
      have a2 : binF .Add (.str (A ++ ⟨#[97 + k]⟩)) (.str D) = _ := binF_str (by rw [app, z1, z4]; simp only [big]; omega)
      have a3 : binF .Add (.str (A ++ ⟨#[97 + k]⟩ ++ D)) (.str B) = _ := binF_str (by rw [app, app, z1, z2, z4]; simp only [big]; omega)
      obtain ⟨x, hxd⟩ : ∃ x, x = (A ++ ⟨#[97 + k]⟩ ++ D ++ B : Str) := ⟨_, rfl⟩
      rw [← hxd] at a3
      have hxo : OkName x ∧ 97 + k ∈ x.cps.toList := by
        refine turnName (k := k) (nm := nm.cps.toList) (at' := at') (by omega) (by omega) hat hlo ?_
        rw [hxd, strOf_len, strOf_len, strOf_len, y1, y2, y3]
        rcases Nat.eq_zero_or_pos s with z | z
        · rw [if_pos (by omega), z]; simp
        · rw [if_neg (by omega), List.take_of_length_le (l := [113]) (by rw [List.length_singleton]; omega)]; simp
      have hin := cmpF_in_strsL (x := x) (xs := xs) hxo.1.hi (fun y hy => by
        obtain ⟨i, hi, rfl⟩ := List.mem_iff_getElem.mp hy
        exact (hx i _ (List.getElem?_eq_getElem hi)).1.hi)
      have mu : binF .Mult (.str ⟨#[97 + k]⟩) (.int 7) = some (.str ⟨(List.replicate 7 (97 + k)).toArray⟩) := rfl
      obtain ⟨F, hF⟩ : ∃ F : Str, F = ⟨(List.replicate 7 (97 + k)).toArray⟩ := ⟨_, rfl⟩
      rw [← hF] at mu
      have y7 : F.cps.toList = List.replicate 7 (97 + k) := by rw [hF]
      have z7 : F.length = 7 := by rw [lenL, y7, List.length_replicate]
      have hq1 : (Str.ofString "q").length = 1 := by decide +kernel
      have a7 : binF .Add (.str F) (.str (Str.ofString "q")) = _ := binF_str (by rw [z7, hq1]; decide)
      obtain ⟨y, hyd⟩ : ∃ y, y = (F ++ Str.ofString "q" : Str) := ⟨_, rfl⟩
      rw [← hyd] at a7
      have hyo := sevenName (k := k) (x := y) (by omega) (by rw [hyd, strOf_len, hq, y7])
      have hxl : xs.length < big := by simp only [big]; omega
      have fin : ∀ (z : Str), OkName z → 97 + k ∈ z.cps.toList → z ∉ xs → ∀ (s4 s5 s6 s7 s8 : Slot), (fun (o : Out) (C' : List Cell) => ∃ ρ', o = Out.nx ρ' ∧ Nx j C C' ∧ ∃ (xs : List Str) (s4 s5 s6 s7 s8 : Slot), ρ' = [.val (hcell j), .val (.int (many : Int)), .own (xs.map .str), .val (.str (Str.ofString "abcdefghijklmnopqrstuvwxyz")), s4, s5, s6, s7, s8] ∧ xs.length = (pre' ++ [k]).length ∧ xs.Nodup ∧ ∀ (i : Nat) (x : Str), xs[i]? = some x → OkName x ∧ 97 + i ∈ x.cps.toList) (.nx [.val (hcell j), .val (.int (many : Int)), .own (xs.map .str ++ [.str z]), .val (.str (Str.ofString "abcdefghijklmnopqrstuvwxyz")), s4, s5, s6, s7, s8]) C3 := by
        intro z hz hz2 hz3 t4 t5 t6 t7 t8
        refine ⟨_, rfl, ((hN.trans hN1).trans hN2).trans hN3, xs ++ [z], t4, t5, t6, t7, t8, by simp, by simp [hl], ?_, fun i x hi => ?_⟩
        · rw [List.nodup_append]
          refine ⟨hnd, by simp, fun a ha b hb e => ?_⟩
          simp at hb
          subst hb
          exact hz3 (e ▸ ha)
        rcases Nat.lt_or_ge i xs.length with q | q
        · rw [List.getElem?_append_left q] at hi
          exact hx i x hi
        · rw [List.getElem?_append_right q] at hi
          have : i - xs.length = 0 := by
            rcases Nat.eq_zero_or_pos (i - xs.length) with z | z
            · exact z
            · rw [List.getElem?_eq_none (by simp; omega)] at hi; cases hi
          rw [this] at hi
          cases hi
          have : i = k := by omega
          rw [this]
          exact ⟨hz, hz2⟩
      clear hxd hyd
      by_cases hw : x ∈ xs
      · rw [decide_eq_true hw] at hin
        refine wp_of (hQ2 _ _ (fin y hyo.1 hyo.2.1 (fun hy => ?_) (.val (.int (k : Int))) (.val (.int (s : Int))) (.val (.str x)) s7' (.val (.int (at' : Int))))) ?_
        · obtain ⟨i, hi, e⟩ := List.mem_iff_getElem.mp hy
          have := (hx i _ (List.getElem?_eq_getElem hi)).2
          rw [e] at this
          rcases hyo.2.2 _ this with z | z <;> omega
        · simp [e3, q1, q2, q3, idx_letters (show k < 26 by omega), a1, a2, a3, hin, mu, a7, hxl]
      · rw [decide_eq_false hw] at hin
        refine wp_of (hQ2 _ _ (fin x hxo.1 hxo.2 hw (.val (.int (k : Int))) (.val (.int (s : Int))) (.val (.str x)) s7' (.val (.int (at' : Int))))) ?_
        simp [e3, q1, q2, q3, idx_letters (show k < 26 by omega), a1, a2, a3, hin, mu, a7, hxl]
    · rintro pre2 k2 post2 ρ2 C2 hp2 ⟨hN2, nm, s7', rfl, hln, hlo⟩
      unfold loStep l__law_names_0
      refine wp_hide fun Q hQ => ?_
      obtain ⟨d, C3, e3, hN3, c, hc, rfl⟩ := t_ofS (n := m + 2) (C := C2) (j := j) (x := Str.ofString "abcdefghijklmnopqrstuvwxyz") (by omega) hN2.isW (by decide +kernel) (by decide +kernel)
      have hk2 := (pre_range hp2)
      have hc' := mem_letters.mp hc
      have ha2 : nm.length + (⟨#[c]⟩ : Str).length ≤ big := by
        have : nm.length = pre2.length := hln
        show nm.length + 1 ≤ _
        simp only [big]; omega
      simp [e3, binF_str ha2]
      refine wp_ok (hQ _ _ ⟨_, rfl, hN2.trans hN3, nm ++ (⟨#[c]⟩ : Str), _, rfl, ?_, fun c' hc2 => ?_⟩)
      · rw [strOf_len, List.length_append, hln, List.length_append]; rfl
      · rw [strOf_len] at hc2
        simp at hc2
        rcases hc2 with z | rfl
        · exact hlo c' (by simpa using z)
        · exact hc'
theorem t_queue {n j many : Nat} {rows takes : Int} {C : List Cell} (hn : 4 ≤ n) (h : IsW C j) (h1 : 1 ≤ many) (h9 : many ≤ 9) (hr : 1 ≤ rows) (hr9 : rows ≤ 99) (ht : 1 ≤ takes) (ht9 : takes ≤ 9) :
    wp (ru n k__law_queue [hcell j, .int (many : Int), .int rows, .int takes] C) fun d C' => Nx j C C' ∧ ∃ q : List Pas, d = encQ q ∧ OkQ q ∧ q.length = many := by
  obtain ⟨m, rfl⟩ := Nat.exists_eq_add_of_le' hn
  rw [r__law_queue]; unfold b__law_queue
  refine wp_hide fun Q hQ => ?_
  obtain ⟨d, C3, e3, hN3, ys, rfl, hxl, hxn, hxo⟩ := t_names (n := m + 3) (C := C) (j := j) (many := many) (by omega) h (by omega)
  have hb0 : 0 ≤ big := by decide
  have hb1 : 1 ≤ big := by decide
  have hb3 : 3 ≤ big := by decide
  simp [e3, hb0]
  have key := loopS_wp (f := loStep (ru (m + 3)) G 200 (.nm 5) l__law_queue_0) (enc := PyData.str)
    (fun pre ρ C' => Nx j C C' ∧ ∃ (q : List Pas) (s5 : Slot), ρ = [.val (hcell j), .val (.int (many : Int)), .val (.int rows), .val (.int takes), .val (encQ q), s5] ∧ q.map (·.name) = pre ∧ ∀ p ∈ q, OkPas p)
    (xs := ys) (pre := []) (ρ := [.val (hcell j), .val (.int (many : Int)), .val (.int rows), .val (.int takes), .val (.tuple []), .no]) (C := C3)
    ⟨hN3, [], _, rfl, rfl, fun p hp => by simp at hp⟩ ?_
  · obtain ⟨o, C5, e5, ρ', rfl, hN, q, s5, rfl, hq, hok⟩ := key
    rw [e5]
    simp
    have hl : q.length = many := by
      have := congrArg List.length hq
      simp at this
      rw [this, hxl]
    refine wp_ok (hQ _ _ ⟨hN, q, rfl, ⟨hok, ?_, by omega, by omega⟩, hl⟩)
    rw [hq]
    exact hxn
  · rintro pre' nm post ρ C' hpp ⟨hN, q, s5, rfl, hq, hok⟩
    refine wp_hide fun Q2 hQ2 => ?_
    unfold loStep l__law_queue_0
    obtain ⟨d, C5, e5, hN5, v, rfl, hv0, hv1⟩ := t_take (n := m + 3) (C := C') (j := j) (limit := rows) (by omega) hN.isW (by omega) (by omega)
    obtain ⟨d, C7, e7, hN7, v2, rfl, hv20, hv21⟩ := t_take (n := m + 3) (C := C5) (j := j) (limit := takes) (by omega) hN5.isW (by omega) (by omega)
    have hym : nm ∈ ys := by rw [← List.nil_append ys, ← hpp]; simp
    have hql : q.length ≤ 1000 := by
      have h1 := congrArg List.length hq
      have h2 := congrArg List.length hpp
      simp at h1 h2
      omega
    have hbt : binF .Add (encQ q) (.tuple [.tuple [.str nm, .int (1 + v), .int (1 + v2)]]) = some (encQ (q ++ [⟨nm, 1 + v, 1 + v2⟩])) := by
      unfold encQ
      rw [binF_tup (by simp only [big, List.length_map, List.length_cons, List.length_nil]; omega), List.map_append]; rfl
    simp [e5, e7, hb1, hb3, hbt]
    refine wp_ok (hQ2 _ _ ⟨_, rfl, (hN.trans hN5).trans hN7, q ++ [⟨nm, 1 + v, 1 + v2⟩], _, rfl, by simp [hq], fun p hpm => ?_⟩)
    rcases List.mem_append.mp hpm with z | z
    · exact hok p z
    · simp at z
      subst z
      exact ⟨hxo nm hym, by simp; omega, by simp; omega, by simp; omega, by simp; omega⟩
/-- the law, by what is asked of an urn -/
theorem t_law {m : Nat} {ns : List Int} (hm : 1 ≤ m) (hr : ∀ (C : List Cell) (j : Nat), IsW C j → wp (ru m k__law_right [hcell j] C) fun d C' => d = .bool true) : ∃ C', ru (m + 1) k_law [hscr (ns.map .int)] [] = .ok (.bool true) C' := by
  suffices H : wp (ru (m + 1) k_law [hscr (ns.map .int)] []) fun d _ => d = .bool true by
    obtain ⟨d, C', e, rfl⟩ := H
    exact ⟨C', e⟩
  rw [r_law]; unfold b_law
  refine wp_hide fun Q hQ => ?_
  obtain ⟨N, hN, hN3⟩ : ∃ N : Nat, max 1 (min (ns.length : Int) 2) = (N : Int) ∧ N ≤ 2 := ⟨(max 1 (min (ns.length : Int) 2)).toNat, by omega, by omega⟩
  simp [hN, smallI_nat (show N ≤ 1000000 by omega)]
  have key := mapR_wp (f := lcStep (ru m) G (.nm 1) .none (.call (PySem.Str.ofString "_law_right") k__law_right (.cons (.call (PySem.Str.ofString "_law_urn") k__law_urn (.cons (.var 0) (.cons (.var 1) .nil))) .nil)) [some (hscr (ns.map PyData.int)), none])
    (enc := fun k : Nat => PyData.int (k : Int)) (fun pre got C => got = pre.map fun _ => .bool true) (xs := List.range N) (pre := []) (got := []) (C := []) rfl ?_
  · obtain ⟨ds, C3, e3, hd⟩ := key
    subst hd
    rw [e3]
    have hb : N ≤ big := by simp only [big]; omega
    have hbo : boolsOf ((List.range N).map fun _ => PyData.bool true) = some ((List.range N).map fun _ => true) := boolsOf_map (fun _ => true) (List.range N)
    simp [hb, hbo]
    exact wp_ok (hQ _ _ (by simp))
  · rintro pre' k post got C hp rfl
    refine wp_hide fun Q2 hQ2 => ?_
    unfold lcStep
    obtain ⟨d, C1, e1, rfl, a, b, c, rfl⟩ := t_urn (n := m) (lap := k) (C := C) (ns := ns) (by omega)
    obtain ⟨d, C2, e2, rfl⟩ := hr (C ++ [W3 a b c]) C.length ⟨a, b, c, by simp⟩
    simp [e1, e2]
    exact wp_ok (hQ2 _ _ (by simp))
end LW_k74
set_option Elab.async false
set_option linter.all false
set_option maxRecDepth 100000
set_option maxHeartbeats 1000000
namespace LW_k74
open PySem BR
/-! TAKES of a queue -/
theorem t_takes_in {n : Nat} (hn : 1 ≤ n) {q : List Pas} (hq : q.length ≤ big) (C : List Cell) : ru n k_takes_in [encQ q] C = .ok (.list ((q.map (·.takes)).map .int)) C := by
  obtain ⟨m, rfl⟩ := Nat.exists_eq_add_of_le' hn
  rw [r_takes_in]; unfold b_takes_in
  simp
  rw [mapR_map (fun p => .int p.takes) fun p hp => by unfold lcStep; simp [encP]]
  simp [hq]
/-! ENDs of the law's own: a tuple -/
theorem t_lends {n : Nat} (hn : 1 ≤ n) {q : List Pas} (hq : q.length ≤ 1000) (C : List Cell) : ru n k__law_ends [encQ q] C = .ok (.tuple ((endsP q).map .int)) C := by
  obtain ⟨m, rfl⟩ := Nat.exists_eq_add_of_le' hn
  rw [r__law_ends]; unfold b__law_ends
  have hb0 : 0 ≤ big := by decide
  simp [hb0, smallI_nat (show q.length ≤ 1000000 by omega)]
  have key := loopS_inv (f := loStep (ru m) G 200 (.nm 2) l__law_ends_0) (enc := fun k : Nat => PyData.int (k : Int)) (C := C)
    (fun pre ρ => ∃ s2 s3, ρ = [.val (encQ q), .own ((endsP (q.take pre.length)).map .int), s2, s3, .no]) (xs := List.range q.length) (pre := []) (ρ := [.val (encQ q), .own [], .no, .no, .no]) ⟨_, _, rfl⟩ ?_
  · obtain ⟨ρ', e, s2, s3, hρ⟩ := key
    rw [e]
    subst hρ
    simp
  · rintro pre k post ρ hp ⟨s2, s3, rfl⟩
    obtain ⟨hk, hkn⟩ := pre_range hp
    rw [← hk]
    unfold loStep l__law_ends_0
    have hg : q[k]? = some q[k] := List.getElem?_eq_getElem hkn
    have ht : q.take (k + 1) = q.take k ++ [q[k]] := by rw [List.take_succ, hg]; rfl
    have hl : (endsP (q.take k)).length < big := by rw [endsG_len, List.length_take]; simp only [big]; omega
    have hal : (accE relP (fun _ => 0) Pas.takes (q.take k)).length = k := by rw [accE_len, List.length_take]; omega
    have hfl : ∀ xs : List Int, flats (xs.map PyData.int) = true := fun xs => flats_map _ _ fun _ _ => rfl
    have hfil : ∀ p : Pas × Int → Bool, ((accE relP (fun _ => 0) Pas.takes (q.take k)).filter p).length ≤ 1000 := fun p => by
      have := List.length_filter_le p (accE relP (fun _ => 0) Pas.takes (q.take k))
      omega
    refine ⟨[.val (encQ q), .own ((endsP (q.take (pre ++ [k]).length)).map .int), .val (.int k), .val (.list (((((accE relP (fun _ => 0) Pas.takes (q.take k)).filter fun x => relP x.1 q[k]).map (·.2))).map .int)), .no], ?_, _, _, rfl⟩
    simp [smallI_nat (show k ≤ 1000000 by omega), hg, encP]
    rw [mapR_range (l := accE relP (fun _ => 0) Pas.takes (q.take k)) hal (fun x => relP x.1 q[k]) (fun x => .int x.2) fun i x hx => ?h]
    case h =>
      have hi : i < k := by
        rcases Nat.lt_or_ge i (accE relP (fun _ => 0) Pas.takes (q.take k)).length with z | z
        · omega
        · rw [List.getElem?_eq_none z] at hx; cases hx
      have h1 : q[i]? = some x.1 := by
        have := congrArg (·[i]?) (accE_fst relP (fun _ => 0) Pas.takes (q.take k))
        simp only [List.getElem?_map, hx, Option.map_some] at this
        rw [List.getElem?_take, if_pos hi] at this
        exact this.symm
      have h2 : (endsP (q.take k))[i]? = some x.2 := by
        show ((accE relP (fun _ => 0) Pas.takes (q.take k)).map (·.2))[i]? = _
        rw [List.getElem?_map, hx]; rfl
      unfold lcStep
      by_cases hr : x.1.row ≤ q[k].row
      · simp [h1, hg, h2, encP, hr, relP]
      · simp [h1, hg, h2, encP, hr, relP]
    have hfb : ((accE relP (fun _ => 0) Pas.takes (q.take k)).filter fun x => relP x.1 q[k]).length ≤ big := by have := hfil fun x => relP x.1 q[k]; simp only [big]; omega
    have e1 : ((accE relP (fun _ => 0) Pas.takes (q.take k)).filter fun x => relP x.1 q[k]).map (fun x => PyData.int x.2) = (((accE relP (fun _ => 0) Pas.takes (q.take k)).filter fun x => relP x.1 q[k]).map (·.2)).map .int := by rw [List.map_map]; rfl
    have hfb2 : 1 + ((accE relP (fun _ => 0) Pas.takes (q.take k)).filter fun x => relP x.1 q[k]).length ≤ big := by have := hfil fun x => relP x.1 q[k]; simp only [big]; omega
    have e3 : (pre ++ [k]).length = k + 1 := by rw [List.length_append, ← hk]; rfl
    have e4 : binF .Add (.list [.int 0]) (.list ((((accE relP (fun _ => 0) Pas.takes (q.take k)).filter fun x => relP x.1 q[k]).map (·.2)).map .int)) = some (.list (.int 0 :: (((accE relP (fun _ => 0) Pas.takes (q.take k)).filter fun x => relP x.1 q[k]).map (·.2)).map .int)) := by
      rw [binF_lst (by simpa using hfb2)]; rfl
    have e5 : endsP (q.take (k + 1)) = endsP (q.take k) ++ [accV relP (fun _ => 0) Pas.takes (accE relP (fun _ => 0) Pas.takes (q.take k)) q[k]] := by rw [ht]; exact endsG_snoc _ _ _ _ _
    have hb1 : 1 ≤ big := by decide
    rw [e1]
    simp [hfb, hfl, hb1, e4, hg, hl, -List.map_map, -List.take_append_getElem]
    refine ⟨?_, by rw [List.map_map]⟩
    rw [← hk, e5, List.map_append]
    rfl
theorem t_ltime {n : Nat} (hn : 2 ≤ n) {q : List Pas} (hq : q.length ≤ 1000) (C : List Cell) : ru n k__law_time [encQ q] C = .ok (.int (timeP q)) C := by
  obtain ⟨m, rfl⟩ := Nat.exists_eq_add_of_le' hn
  rw [r__law_time]; unfold b__law_time
  have hb1 : 1 ≤ big := by decide
  have e4 : binF .Add (.tuple [.int 0]) (.tuple ((endsP q).map .int)) = some (.tuple ((0 :: endsP q).map .int)) := by
    rw [binF_tup (by rw [List.length_map, endsG_len]; simp only [big, List.length_cons, List.length_nil]; omega)]; rfl
  have e5 : biF .max1 [.tuple ((0 :: endsP q).map .int)] = some (.int (timeP q)) := max1_tuple (xs := 0 :: endsP q) (by simp)
  have h1 := t_lends (show 1 ≤ m + 1 by omega) hq C
  generalize endsP q = EE at *
  simp only [List.map_cons] at e4 e5
  simp [h1, hb1, e4, e5]
/-! the time of a queue -/
theorem t_starts_in {n : Nat} (hn : 1 ≤ n) {q : List Pas} (hq : q.length ≤ 1000) (C : List Cell) : ru n k_starts_in [encQ q] C = .ok (.list ((startsP q).map .int)) C := by
  obtain ⟨m, rfl⟩ := Nat.exists_eq_add_of_le' hn
  rw [r_starts_in]; unfold b_starts_in
  have hb0 : 0 ≤ big := by decide
  have hb1 : 1 ≤ big := by decide
  simp [hb0]
  have key := loopS_inv (f := loStep (ru m) G 200 (.tp (.nm 3 (.nm 4 (.nm 5 .nil)))) l_starts_in_0) (enc := encP) (C := C)
    (fun pre ρ => ∃ s3 s4 s5 s6 s7, ρ = [.val (encQ q), .own ((startsP pre).map .int), .own ((endsP pre).map .int), s3, s4, s5, s6, s7]) (xs := q) (pre := []) (ρ := [.val (encQ q), .own [], .own [], .no, .no, .no, .no, .no]) ⟨_, _, _, _, _, rfl⟩ ?_
  · obtain ⟨ρ', e, s3, s4, s5, s6, s7, hρ⟩ := key
    rw [e]
    subst hρ
    simp
  · rintro pre p post ρ hp ⟨s3, s4, s5, s6, s7, rfl⟩
    simp only [List.nil_append] at hp
    unfold loStep l_starts_in_0
    have hpl : pre.length < 1000 := by
      have := congrArg List.length hp
      rw [List.length_append, List.length_cons] at this
      omega
    have hpre : pre = q.take pre.length := by rw [← hp, List.take_left']; rfl
    have hacc : (accP pre).map (fun x => x.1) = q.take (accP pre).length := by
      rw [accE_len, ← hpre]
      exact accE_fst relP (fun _ => 0) Pas.takes pre
    have hzip : zipD ((endsP pre).map .int) (q.map encP) = (accP pre).map fun x => PyData.tuple [.int x.2, encP x.1] := by
      rw [zipD_map]
      unfold endsP endsG
      rw [zip_pre (fun x : Pas × Int => x.2) (fun x => x.1) _ _ hacc, List.map_map]; rfl
    have hal : (accP pre).length ≤ 1000 := by rw [accE_len]; omega
    have hfl : ∀ xs : List Int, flats (xs.map PyData.int) = true := fun xs => flats_map _ _ fun _ _ => rfl
    refine ⟨[.val (encQ q), .own ((startsP (pre ++ [p])).map .int), .own ((endsP (pre ++ [p])).map .int), .val (.str p.name), .val (.int p.row), .val (.int p.takes), s6, s7], ?_, _, _, _, _, _, rfl⟩
    have hfil := List.length_filter_le (fun y : Pas × Int => relP y.1 p) (accP pre)
    obtain ⟨M, hM⟩ : ∃ M, M = mxf 0 (((accP pre).filter fun y => relP y.1 p).map (·.2)) := ⟨_, rfl⟩
    have hs : startsP (pre ++ [p]) = startsP pre ++ [M] := by rw [startsP_snoc, hM]
    have he : endsP (pre ++ [p]) = endsP pre ++ [M + p.takes] := by rw [hM]; exact endsG_snoc _ _ _ _ _
    have hcomp : ∀ (δ : VEnv), δ[4]?.join = some (.int p.row) → δ.length = 8 → mapR (lcStep (ru m) G (.tp (.nm 6 (.tp (.nm 3 (.nm 7 (.nm 3 .nil))) .nil))) (.some (.cmp .LtE (.var 7) (.var 4))) (.var 6) δ) ((accP pre).map fun x => PyData.tuple [.int x.2, encP x.1]) C = .ok ((((accP pre).filter fun y => relP y.1 p).map (·.2)).map .int) C := by
      intro δ h4 h8
      obtain ⟨d0, d1, d2, d3, d4, d5, d6, d7, rfl⟩ : ∃ d0 d1 d2 d3 d4 d5 d6 d7, δ = [d0, d1, d2, d3, d4, d5, d6, d7] := by
        match δ, h8 with
        | [d0, d1, d2, d3, d4, d5, d6, d7], _ => exact ⟨d0, d1, d2, d3, d4, d5, d6, d7, rfl⟩
      simp at h4
      subst h4
      rw [mapR_filter (fun y : Pas × Int => relP y.1 p) (fun x => .int x.2) ?hx, List.map_map]
      · rfl
      case hx =>
        rintro ⟨x, e⟩ -
        unfold lcStep
        by_cases hr : x.row ≤ p.row <;> simp [encP, hr, relP]
    have hM1 : biF .max1 [.list (.int 0 :: (((accP pre).filter fun y => relP y.1 p).map (·.2)).map .int)] = some (.int M) := by rw [hM]; exact max1_cons _ _
    generalize hF : (((accP pre).filter fun y => relP y.1 p).map (·.2)) = F at *
    have hFl : F.length ≤ 1000 := by rw [← hF, List.length_map]; omega
    have e4 : binF .Add (.list [.int 0]) (.list (F.map .int)) = some (.list (.int 0 :: F.map .int)) := by
      rw [binF_lst (by simp only [List.length_map, List.length_cons, List.length_nil, big]; omega)]; rfl
    have hFb : F.length ≤ big := by simp only [big]; omega
    have hsl : (startsP pre).length < big := by rw [startsP_len]; simp only [big]; omega
    have hel : (endsP pre).length < big := by rw [endsG_len]; simp only [big]; omega
    have e5 : idxF (.list ((startsP pre).map PyData.int ++ [.int M])) (.int (-1)) = some (.int M) := by rw [neg1_lst]; simp
    rw [hs, he]
    generalize startsP pre = SS at *
    generalize endsP pre = EE at *
    have hco := hcomp [some (encQ q), some (.list (SS.map .int)), some (.list (EE.map .int)), none, some (.int p.row), some (.int p.takes), none, none] rfl rfl
    have ep : encP p = .tuple [.str p.name, .int p.row, .int p.takes] := rfl
    simp [ep, hzip, hb1, hfl, hco, hFb, e4, hM1, hsl, hel, e5]
theorem t_ends_in {n : Nat} (hn : 2 ≤ n) {q : List Pas} (hq : q.length ≤ 1000) (C : List Cell) : ru n k_ends_in [encQ q] C = .ok (.list ((endsP q).map .int)) C := by
  obtain ⟨m, rfl⟩ := Nat.exists_eq_add_of_le' hn
  rw [r_ends_in]; unfold b_ends_in
  have h1 := t_starts_in (show 1 ≤ m + 1 by omega) hq C
  have h2 := t_takes_in (show 1 ≤ m + 1 by omega) (q := q) (by simp only [big]; omega) C
  have hacc : (accP q).map (fun x => x.1.takes) = (q.map (·.takes)).take (accP q).length := by
    have := congrArg (List.map (·.takes)) (accE_fst relP (fun _ => 0) Pas.takes q)
    rw [List.map_map] at this
    rw [accE_len, List.take_of_length_le (by rw [List.length_map]; exact Nat.le_refl _)]
    exact this
  have hz : zipD ((startsP q).map .int) ((q.map (·.takes)).map .int) = (accP q).map fun x => PyData.tuple [.int (x.2 - x.1.takes), .int x.1.takes] := by
    rw [zipD_map]
    unfold startsP
    rw [zip_pre (fun x : Pas × Int => x.2 - x.1.takes) (fun x => x.1.takes) _ _ hacc, List.map_map]; rfl
  have hal : (accP q).length = q.length := by rw [accE_len]
  have he : (endsP q).map PyData.int = (accP q).map fun x => PyData.int x.2 := by unfold endsP endsG; rw [List.map_map]; rfl
  rw [he]
  generalize startsP q = SS at *
  generalize accP q = AA at *
  generalize q.map (·.takes) = TT at *
  have hA : AA.length ≤ big := by simp only [big]; omega
  simp only [zipD_map] at hz
  simp [h1, h2, hz]
  rw [mapR_map (fun x : Pas × Int => .int x.2) ?hx]
  case hx =>
    rintro ⟨p, e⟩ -
    unfold lcStep
    simp
  simp [hA]
theorem t_time_in {n : Nat} (hn : 3 ≤ n) {q : List Pas} (hq : q.length ≤ 1000) (C : List Cell) : ru n k_time_in [encQ q] C = .ok (.int (timeP q)) C := by
  obtain ⟨m, rfl⟩ := Nat.exists_eq_add_of_le' hn
  rw [r_time_in]; unfold b_time_in
  have hb1 : 1 ≤ big := by decide
  have e4 : binF .Add (.list [.int 0]) (.list ((endsP q).map .int)) = some (.list (.int 0 :: (endsP q).map .int)) := by
    rw [binF_lst (by rw [List.length_map, endsG_len]; simp only [big, List.length_cons, List.length_nil]; omega)]; rfl
  have h1 := t_ends_in (show 2 ≤ m + 2 by omega) hq C
  simp [h1, hb1, e4]
  rfl
end LW_k74
set_option Elab.async false
set_option linter.all false
set_option maxRecDepth 100000
set_option maxHeartbeats 1000000
namespace LW_k74
open PySem BR
/-! merges: the program's -/
def encM (s : List Pas × List Pas × List Pas) : PyData := .tuple [encQ s.1, encQ s.2.1, encQ s.2.2]
theorem flat_encQ (q : List Pas) : flat (encQ q) = true := by
  show flats (q.map encP) = true
  exact flats_map _ _ fun _ _ => rfl
theorem flat_encM (s : List Pas × List Pas × List Pas) : flat (encM s) = true := by
  show (flat (encQ s.1) && (flat (encQ s.2.1) && (flat (encQ s.2.2) && true))) = true
  rw [flat_encQ, flat_encQ, flat_encQ]; rfl
theorem cmpF_ne_queue {q : List Pas} (h : ∀ p ∈ q, OkPas p) : cmpF .NotEq (encQ q) (.tuple []) = some (!decide (q = [])) := by
  show gd (shp (encQ q) && shp (.tuple [])) (!PyData.eqv (encQ q) (.tuple [])) = _
  rw [shp_encQ h, show shp (.tuple []) = true from rfl]
  cases q with
  | nil => simp [PyData.eqv, PyData.eqvAll]
  | cons a r => simp [PyData.eqv, PyData.eqvAll]
theorem itP_sub (a b : List Pas) : ∀ t s, s ∈ itP a b t → (∀ p ∈ s.2.1, p ∈ a) ∧ ∀ p ∈ s.2.2, p ∈ b
  | 0, s, h => by simp [itP] at h; subst h; simp
  | t + 1, s, h => by
    rcases List.mem_append.mp h with h | h
    · obtain ⟨⟨row, x, y⟩, h1, h2⟩ := List.mem_flatMap.mp h
      obtain ⟨i1, i2⟩ := itP_sub a b t _ h1
      cases x with
      | nil => simp [mStA] at h2
      | cons z x => simp [mStA] at h2; subst h2; exact ⟨fun p hp => i1 p (by simp; exact .inr hp), i2⟩
    · obtain ⟨⟨row, x, y⟩, h1, h2⟩ := List.mem_flatMap.mp h
      obtain ⟨i1, i2⟩ := itP_sub a b t _ h1
      cases y with
      | nil => simp [mStB] at h2
      | cons z y => simp [mStB] at h2; subst h2; exact ⟨i1, fun p hp => i2 p (by simp; exact .inr hp)⟩
theorem slF_hd {x : PyData} {xs : List PyData} : slF (.tuple (x :: xs)) none (some 1) = some (.tuple [x]) := by
  have := slF_take (xs := x :: xs) (k := 1)
  simpa using this
theorem slF_tl {x : PyData} {xs : List PyData} : slF (.tuple (x :: xs)) (some 1) none = some (.tuple xs) := by
  have := slF_dropT (xs := x :: xs) (k := 1)
  simpa using this
theorem slQ_hd {z : Pas} {x : List Pas} : slF (encQ (z :: x)) none (some 1) = some (.tuple [encP z]) := slF_hd
theorem slQ_tl {z : Pas} {x : List Pas} : slF (encQ (z :: x)) (some 1) none = some (encQ x) := slF_tl
theorem t_merges_of {n : Nat} (hn : 1 ≤ n) {a b : List Pas} (ha : ∀ p ∈ a, OkPas p) (hb : ∀ p ∈ b, OkPas p) (hl : a.length + b.length ≤ 9) (C : List Cell) : ru n k_merges_of [encQ a, encQ b] C = .ok (.list (((itP a b (a.length + b.length)).map (·.1)).map encQ)) C := by
  obtain ⟨m, rfl⟩ := Nat.exists_eq_add_of_le' hn
  rw [r_merges_of]; unfold b_merges_of
  have hb0 : 0 ≤ big := by decide
  have hb1 : 1 ≤ big := by decide
  have hb3 : 3 ≤ big := by decide
  have hL : ((a.length : Int) + (b.length : Int)) = ((a.length + b.length : Nat) : Int) := by omega
  have hsz : ∀ t, t ≤ 9 → (itP a b t).length ≤ 512 := fun t ht => Nat.le_trans (itP_many a b t) (Nat.le_trans (Nat.pow_le_pow_right (by omega) ht) (by decide))
  have step : ∀ (t : Nat) (s3 s4 : Slot), t < a.length + b.length → ∃ s4', loStep (ru m) G 200 (.nm 3) l_merges_of_0 (.int (t : Int)) [.val (encQ a), .val (encQ b), .val (.list ((itP a b t).map encM)), s3, s4, .no, .no, .no] C
      = .ok (.nx [.val (encQ a), .val (encQ b), .val (.list ((itP a b (t + 1)).map encM)), .val (.int (t : Int)), s4', .no, .no, .no]) C := by
    intro t s3 s4 ht
    have h1 := hsz t (by omega)
    have h2 := hsz (t + 1) (by omega)
    have hsub := fun s hs => itP_sub a b t s hs
    have hlen := fun s hs => itP_len a b t s hs
    have e1 : itP a b (t + 1) = (itP a b t).flatMap mStA ++ (itP a b t).flatMap mStB := rfl
    rw [e1] at h2 ⊢
    rw [List.length_append] at h2
    refine ⟨.val (.list (((itP a b t).flatMap mStA ++ (itP a b t).flatMap mStB).map encM)), ?_⟩
    generalize itP a b t = L at *
    unfold loStep l_merges_of_0
    simp
    rw [mapR_flat (enc := encM) (fun s => (mStA s).map encM) ?hx]
    case hx =>
      rintro ⟨row, x, y⟩ hs
      have h3 := (hsub _ hs).1
      have h4 := (hlen _ hs).1
      have h5 := cmpF_ne_queue (q := x) fun p hp => ha p (h3 p hp)
      unfold lcStep
      cases x with
      | nil => simp [encM, h5, mStA]
      | cons z x =>
        have hrl : row.length + 1 ≤ big := by simp only [big]; simp only at h4; omega
        have ad : binF .Add (encQ row) (.tuple [encP z]) = some (encQ (row ++ [z])) := by
          unfold encQ
          rw [binF_tup (by rw [List.length_map]; exact hrl), List.map_append]; rfl
        simp [encM, h5, slQ_hd, slQ_tl, ad, hb3, mStA]
    have eA : ((L.flatMap fun s => (mStA s).map encM)) = (L.flatMap mStA).map encM := by rw [List.map_flatMap]
    rw [eA]
    have hbA : (L.flatMap mStA).length ≤ big := by simp only [big]; omega
    have hfA : flats ((L.flatMap mStA).map encM) = true := flats_map _ _ fun s _ => flat_encM s
    have nA : newD (.list ((L.flatMap mStA).map encM)) = some ((L.flatMap mStA).map encM) := by
      show (if flats ((L.flatMap mStA).map encM) = true then _ else none) = _
      rw [if_pos hfA]
    generalize hAA : L.flatMap mStA = AA at *
    simp [hbA, nA]
    rw [mapR_flat (enc := encM) (fun s => (mStB s).map encM) ?hy]
    case hy =>
      rintro ⟨row, x, y⟩ hs
      have h3 := (hsub _ hs).2
      have h4 := (hlen _ hs).1
      have h5 := cmpF_ne_queue (q := y) fun p hp => hb p (h3 p hp)
      unfold lcStep
      cases y with
      | nil => simp [encM, h5, mStB]
      | cons z y =>
        have hrl : row.length + 1 ≤ big := by simp only [big]; simp only at h4; omega
        have ad : binF .Add (encQ row) (.tuple [encP z]) = some (encQ (row ++ [z])) := by
          unfold encQ
          rw [binF_tup (by rw [List.length_map]; exact hrl), List.map_append]; rfl
        simp [encM, h5, slQ_hd, slQ_tl, ad, hb3, mStB]
    have eB : ((L.flatMap fun s => (mStB s).map encM)) = (L.flatMap mStB).map encM := by rw [List.map_flatMap]
    rw [eB]
    have hbB : (L.flatMap mStB).length ≤ big := by simp only [big]; omega
    have hfB : flats ((L.flatMap mStB).map encM) = true := flats_map _ _ fun s _ => flat_encM s
    have nB : newD (.list ((L.flatMap mStB).map encM)) = some ((L.flatMap mStB).map encM) := by
      show (if flats ((L.flatMap mStB).map encM) = true then _ else none) = _
      rw [if_pos hfB]
    generalize hBB : L.flatMap mStB = BB at *
    have hab : AA.length + BB.length ≤ big := by simp only [big]; omega
    simp [hbB, nB, hab]
  simp [hb0, hb1, hb3, hL, smallI_nat (show a.length + b.length ≤ 1000000 by omega), -Int.natCast_add]
  have key := loopS_inv (f := loStep (ru m) G 200 (.nm 3) l_merges_of_0) (enc := fun k : Nat => PyData.int (k : Int)) (C := C)
    (fun pre ρ => ∃ s3 s4, ρ = [.val (encQ a), .val (encQ b), .val (.list ((itP a b pre.length).map encM)), s3, s4, .no, .no, .no]) (xs := List.range (a.length + b.length)) (pre := []) (ρ := [.val (encQ a), .val (encQ b), .val (.list [.tuple [.tuple [], encQ a, encQ b]]), .no, .no, .no, .no, .no]) ⟨_, _, rfl⟩ ?_
  · obtain ⟨ρ', e, s3, s4, hρ⟩ := key
    rw [e]
    subst hρ
    have hlen := fun s hs => itP_len a b (a.length + b.length) s hs
    have h1 := hsz (a.length + b.length) hl
    simp only [List.nil_append, List.length_range]
    generalize itP a b (a.length + b.length) = L at *
    simp
    rw [mapR_map (enc := encM) (fun s => encQ s.1) ?hz]
    case hz =>
      rintro ⟨row, x, y⟩ hs
      unfold lcStep
      simp [encM]
    have hb' : L.length ≤ big := by simp only [big]; omega
    simp [hb', List.map_map]
  · rintro pre k post ρ hp ⟨s3, s4, rfl⟩
    obtain ⟨hk, hkn⟩ := pre_range hp
    rw [← hk]
    obtain ⟨s4', e⟩ := step k s3 s4 hkn
    exact ⟨_, e, .val (.int (k : Int)), s4', by rw [List.length_append, ← hk]; rfl⟩
end LW_k74
set_option Elab.async false
set_option linter.all false
set_option maxRecDepth 100000
set_option maxHeartbeats 1000000
namespace LW_k74
open PySem BR
/-! merges: the law's own -/
def encK (s : List Pas × Nat × Nat) : PyData := .tuple [encQ s.1, .int (s.2.1 : Int), .int (s.2.2 : Int)]
theorem add_one (row : List Pas) (p : Pas) (h : row.length ≤ 1000) : binF .Add (encQ row) (.tuple [encP p]) = some (encQ (row ++ [p])) := by
  unfold encQ
  rw [binF_tup (by rw [List.length_map]; simp only [big, List.length_cons, List.length_nil]; omega), List.map_append]; rfl
theorem t_lm0 {n : Nat} {a b : List Pas} (ha : a.length ≤ 9) (hb : b.length ≤ 9) {s : List Pas × Nat × Nat} (hs1 : s.1.length ≤ 9) {L : List (List Pas × Nat × Nat)} (hL : L.length ≤ 2000) (C : List Cell) (s2 s3 s5 s6 s7 : Slot) :
    loStep (ru n) G 200 (.tp (.nm 5 (.nm 6 (.nm 7 .nil)))) l__law_merges_0 (encK s) [.val (encQ a), .val (encQ b), s2, s3, .own (L.map encK), s5, s6, s7] C
      = .ok (.nx [.val (encQ a), .val (encQ b), s2, s3, .own ((L ++ mStK a b s).map encK), .val (encQ s.1), .val (.int (s.2.1 : Int)), .val (.int (s.2.2 : Int))]) C := by
  obtain ⟨row, k, j⟩ := s
  have hb1 : 1 ≤ big := by decide
  have hb3 : 3 ≤ big := by decide
  have hLb : L.length < big := by simp only [big]; omega
  have hLb2 : L.length + 1 < big := by simp only [big]; omega
  have ad := fun p => add_one row p (by simp only at hs1; omega)
  have put : putT (.tp (.nm 5 (.nm 6 (.nm 7 .nil)))) (encK (row, k, j)) [.val (encQ a), .val (encQ b), s2, s3, .own (L.map encK), s5, s6, s7] = some [.val (encQ a), .val (encQ b), s2, s3, .own (L.map encK), .val (encQ row), .val (.int (k : Int)), .val (.int (j : Int))] := rfl
  unfold loStep l__law_merges_0 mStK
  rw [put]
  by_cases hk : k < a.length
  · have e1 : a[k]? = some a[k] := List.getElem?_eq_getElem hk
    by_cases hj : j < b.length
    · have e2 : b[j]? = some b[j] := List.getElem?_eq_getElem hj
      simp [hk, hj, e1, e2, hb1, hb3, ad, hLb, hLb2, encK]
    · have e2 : b[j]? = none := List.getElem?_eq_none (by omega)
      simp [hk, hj, e1, e2, hb1, hb3, ad, hLb, encK]
  · have e1 : a[k]? = none := List.getElem?_eq_none (by omega)
    by_cases hj : j < b.length
    · have e2 : b[j]? = some b[j] := List.getElem?_eq_getElem hj
      simp [hk, hj, e1, e2, hb1, hb3, ad, hLb, encK]
    · have e2 : b[j]? = none := List.getElem?_eq_none (by omega)
      simp [hk, hj, e1, e2]
theorem mStK_len (a b : List Pas) (l : List (List Pas × Nat × Nat)) : (l.flatMap (mStK a b)).length ≤ l.length * 2 := by
  induction l with
  | nil => simp
  | cons s r ih =>
    simp only [List.flatMap_cons, List.length_append, List.length_cons]
    have : (mStK a b s).length ≤ 2 := by
      unfold mStK
      cases a[s.2.1]? <;> cases b[s.2.2]? <;> simp
    omega
theorem t_lmerges {n : Nat} (hn : 1 ≤ n) {a b : List Pas} (hl : a.length + b.length ≤ 9) (C : List Cell) : ru n k__law_merges [encQ a, encQ b] C = .ok (.list ((mg a b).map encQ)) C := by
  obtain ⟨m, rfl⟩ := Nat.exists_eq_add_of_le' hn
  rw [r__law_merges]; unfold b__law_merges
  have hb0 : 0 ≤ big := by decide
  have hb1 : 1 ≤ big := by decide
  have hb3 : 3 ≤ big := by decide
  have hL : ((a.length : Int) + (b.length : Int)) = ((a.length + b.length : Nat) : Int) := by omega
  have hsz : ∀ t, t ≤ 9 → (itK a b t).length ≤ 512 := fun t ht => Nat.le_trans (itK_many a b t) (Nat.le_trans (Nat.pow_le_pow_right (by omega) ht) (by decide))
  have step : ∀ (t : Nat) (s3 s4 s5 s6 s7 : Slot), t < a.length + b.length → ∃ s4' s5' s6' s7', loStep (ru m) G 200 (.nm 3) l__law_merges_1 (.int (t : Int)) [.val (encQ a), .val (encQ b), .val (.list ((itK a b t).map encK)), s3, s4, s5, s6, s7] C
      = .ok (.nx [.val (encQ a), .val (encQ b), .val (.list ((itK a b (t + 1)).map encK)), .val (.int (t : Int)), s4', s5', s6', s7']) C := by
    intro t s3 s4 s5 s6 s7 ht
    have h1 := hsz t (by omega)
    have hlen := fun s hs => itK_len a b t s hs
    have e1 : itK a b (t + 1) = (itK a b t).flatMap (mStK a b) := rfl
    rw [e1]
    generalize itK a b t = L at *
    have key := loopS_inv (f := loStep (ru m) G 200 (.tp (.nm 5 (.nm 6 (.nm 7 .nil)))) l__law_merges_0) (enc := encK) (C := C)
      (fun pre ρ => ∃ s5 s6 s7, ρ = [.val (encQ a), .val (encQ b), .val (.list (L.map encK)), .val (.int (t : Int)), .own ((pre.flatMap (mStK a b)).map encK), s5, s6, s7]) (xs := L) (pre := []) (ρ := [.val (encQ a), .val (encQ b), .val (.list (L.map encK)), .val (.int (t : Int)), .own [], s5, s6, s7]) ⟨_, _, _, rfl⟩ ?_
    · obtain ⟨ρ', e, t5, t6, t7, hρ⟩ := key
      subst hρ
      rw [List.nil_append] at e
      refine ⟨.val (.list ((L.flatMap (mStK a b)).map encK)), t5, t6, t7, ?_⟩
      unfold loStep l__law_merges_1
      generalize L.flatMap (mStK a b) = M at *
      simp [hb0, e]
    · rintro pre s post ρ hp ⟨s5, s6, s7, rfl⟩
      rw [List.nil_append] at hp
      have hm : s ∈ L := by rw [← hp]; simp
      have hpl : pre.length ≤ 512 := by have := congrArg List.length hp; simp at this; omega
      have hfl := mStK_len a b pre
      refine ⟨_, t_lm0 (by omega) (by omega) (by have := (hlen s hm).1; omega) (by omega) C _ _ _ _ _, .val (encQ s.1), .val (.int (s.2.1 : Int)), .val (.int (s.2.2 : Int)), ?_⟩
      rw [List.flatMap_append]
      simp
  simp [hb0, hb3, hb1, hL, smallI_nat (show a.length + b.length ≤ 1000000 by omega), -Int.natCast_add]
  have key := loopS_inv (f := loStep (ru m) G 200 (.nm 3) l__law_merges_1) (enc := fun k : Nat => PyData.int (k : Int)) (C := C)
    (fun pre ρ => ∃ s3 s4 s5 s6 s7, ρ = [.val (encQ a), .val (encQ b), .val (.list ((itK a b pre.length).map encK)), s3, s4, s5, s6, s7]) (xs := List.range (a.length + b.length)) (pre := []) (ρ := [.val (encQ a), .val (encQ b), .val (.list [.tuple [.tuple [], .int 0, .int 0]]), .no, .no, .no, .no, .no]) ⟨_, _, _, _, _, rfl⟩ ?_
  · obtain ⟨ρ', e, s3, s4, s5, s6, s7, hρ⟩ := key
    rw [e]
    subst hρ
    have h1 := hsz (a.length + b.length) hl
    rw [← itK_end a b]
    simp only [List.nil_append, List.length_range]
    generalize itK a b (a.length + b.length) = L at *
    simp
    rw [mapR_map (enc := encK) (fun s => encQ s.1) ?hz]
    case hz =>
      rintro ⟨row, x, y⟩ hs
      unfold lcStep
      simp [encK]
    have hb' : L.length ≤ big := by simp only [big]; omega
    simp [hb', List.map_map]
  · rintro pre k post ρ hp ⟨s3, s4, s5, s6, s7, rfl⟩
    obtain ⟨hk, hkn⟩ := pre_range hp
    rw [← hk]
    obtain ⟨s4', s5', s6', s7', e⟩ := step k s3 s4 s5 s6 s7 hkn
    exact ⟨_, e, .val (.int (k : Int)), s4', s5', s6', s7', by rw [List.length_append, ← hk]; rfl⟩
/-! what is asked of two queues -/
theorem t_check_merged {n : Nat} (hn : 9 ≤ n) {a b : List Pas} (ha : OkQ a) (hb : OkQ b) (hl : a.length + b.length ≤ 9) (hd : ∀ x ∈ a.map (·.name), x ∉ b.map (·.name)) (C : List Cell) : ru n k_check_merged [encQ a, encQ b] C = .ok .none C := by
  obtain ⟨m, rfl⟩ := Nat.exists_eq_add_of_le' hn
  rw [r_check_merged]; unfold b_check_merged
  have hb0 : 0 ≤ big := by decide
  have c1 := t_check_queue (show 8 ≤ m + 8 by omega) ha C
  have c2 := t_check_queue (show 8 ≤ m + 8 by omega) hb C
  have n1 := t_names_in (show 1 ≤ m + 8 by omega) (q := a) (by simp only [big]; omega) C
  have n2 := t_names_in (show 1 ≤ m + 8 by omega) (q := b) (by simp only [big]; omega) C
  have hlo : ∀ (q : List Pas), OkQ q → ∀ x ∈ q.map (·.name), ∀ c ∈ x.cps.toList, c ≤ 122 := fun q h x hx => by obtain ⟨p, hp, rfl⟩ := List.mem_map.mp hx; exact (h.ps p hp).nm.hi
  have h1 := hlo a ha
  have h2 := hlo b hb
  have hnl : ¬ (9 < (a.length : Int) + (b.length : Int)) := by omega
  generalize a.map (·.name) = NA at *
  generalize b.map (·.name) = NB at *
  have it : itemsOf (encN NA) = some (NA.map PyData.str) := rfl
  simp [c1, c2, n1, it]
  rw [mapR_filter (enc := PyData.str) (fun x => decide (x ∈ NB)) PyData.str ?hx]
  case hx =>
    intro x hx
    have e := cmpF_in_strs (h1 x hx) h2
    unfold lcStep
    have hnx := hd x hx
    simp [n2, e, hnx]
  have hf : NA.filter (fun x => decide (x ∈ NB)) = [] := List.filter_eq_nil_iff.mpr fun x hx => by simp [hd x hx]
  rw [hf]
  have sl0 : slF (.list []) none (some 1) = some (.list []) := by
    have := slF_takeL (xs := []) (k := 1)
    simpa using this
  simp [hb0, sl0, g_MOST_IN_QUEUE, glD, hnl]
theorem rangeD_two (n : Nat) : rangeD 2 ((n : Int) + 1) = (List.range (n - 1)).map fun k : Nat => .int ((k : Int) + 2) := by
  unfold rangeD
  have : ((n : Int) + 1 - 2).toNat = n - 1 := by omega
  rw [this]
  refine List.map_congr_left fun k _ => ?_
  rw [Int.add_comm]
theorem t_factorial {n : Nat} (hn : 1 ≤ n) {N : Nat} (hN : N ≤ 1000) (C : List Cell) : ru n k_factorial_of [.int (N : Int)] C = .ok (.int (fct N : Int)) C := by
  obtain ⟨m, rfl⟩ := Nat.exists_eq_add_of_le' hn
  rw [r_factorial_of]; unfold b_factorial_of
  have hs2 : smallI 2 = true := rfl
  have hsN : smallI ((N : Int) + 1) = true := by
    have := smallI_nat (n := N + 1) (by omega)
    simpa using this
  simp [hs2, hsN, rangeD_two]
  have key := loopS_inv (f := loStep (ru m) G 200 (.nm 2) l_factorial_of_0) (enc := fun k : Nat => PyData.int ((k : Int) + 2)) (C := C)
    (fun pre ρ => ∃ s2, ρ = [.val (.int (N : Int)), .val (.int (fct (pre.length + 1) : Int)), s2]) (xs := List.range (N - 1)) (pre := []) (ρ := [.val (.int (N : Int)), .val (.int 1), .no]) ⟨_, rfl⟩ ?_
  · obtain ⟨ρ', e, s2, hρ⟩ := key
    rw [e]
    subst hρ
    simp
    rcases Nat.eq_zero_or_pos N with z | z
    · subst z; rfl
    · rw [Nat.sub_add_cancel z]
  · rintro pre k post ρ hp ⟨s2, rfl⟩
    obtain ⟨hk, hkn⟩ := pre_range hp
    refine ⟨[.val (.int (N : Int)), .val (.int (fct ((pre ++ [k]).length + 1) : Int)), .val (.int ((k : Int) + 2))], ?_, _, rfl⟩
    have ef : fct ((pre ++ [k]).length + 1) = (k + 2) * fct (k + 1) := by
      rw [List.length_append, ← hk]
      rfl
    rw [ef, ← hk]
    unfold loStep l_factorial_of_0
    have hmul : binF .Mult (.int (fct (k + 1) : Int)) (.int ((k : Int) + 2)) = some (.int ((((k + 2) * fct (k + 1) : Nat)) : Int)) := by
      have e : ((fct (k + 1) : Nat) : Int) * ((k : Int) + 2) = (((k + 2) * fct (k + 1) : Nat) : Int) := by
        rw [Int.natCast_mul, Int.mul_comm]; rfl
      rw [binF_mul_r (by omega), e]
    simp [hmul]
theorem t_merge_number {n : Nat} (hn : 10 ≤ n) {a b : List Pas} (ha : OkQ a) (hb : OkQ b) (hl : a.length + b.length ≤ 9) (hd : ∀ x ∈ a.map (·.name), x ∉ b.map (·.name)) (C : List Cell) : ru n k_merge_number [encQ a, encQ b] C = .ok (.int ((mg a b).length : Int)) C := by
  obtain ⟨m, rfl⟩ := Nat.exists_eq_add_of_le' hn
  rw [r_merge_number]; unfold b_merge_number
  have hL : ((a.length : Int) + (b.length : Int)) = ((a.length + b.length : Nat) : Int) := by omega
  have f1 := t_factorial (show 1 ≤ m + 9 by omega) (show a.length + b.length ≤ 1000 by omega) C
  have f2 := t_factorial (show 1 ≤ m + 9 by omega) (show a.length ≤ 1000 by omega) C
  have f3 := t_factorial (show 1 ≤ m + 9 by omega) (show b.length ≤ 1000 by omega) C
  have hm := mg_len _ a b (Nat.le_refl _)
  have hf9 : ∀ k, k ≤ 9 → fct k ≤ 362880 := fun k hk => by
    have : ∀ k : Fin 10, fct k.val ≤ 362880 := by decide
    exact this ⟨k, by omega⟩
  have h9 := hf9 _ hl
  have hpos : 0 < (mg a b).length := by
    rcases Nat.eq_zero_or_pos (mg a b).length with z | z
    · rw [z] at hm
      have := fct_pos (a.length + b.length)
      omega
    · exact z
  have hpp := Nat.mul_pos (fct_pos a.length) (fct_pos b.length)
  have hle : fct a.length * fct b.length ≤ 362880 := by
    refine Nat.le_trans ?_ h9
    rw [← hm]
    exact Nat.le_mul_of_pos_left _ hpos
  have mul1 : binF .Mult (.int (fct a.length : Int)) (.int (fct b.length : Int)) = some (.int ((fct a.length * fct b.length : Nat) : Int)) := by
    rw [binF_mul_r (by have := hf9 b.length (by omega); omega), Int.natCast_mul]
  have div1 : binF .FloorDiv (.int (fct (a.length + b.length) : Int)) (.int ((fct a.length * fct b.length : Nat) : Int)) = some (.int ((mg a b).length : Int)) := by
    show gd (decide (0 < ((fct a.length * fct b.length : Nat) : Int)) && decide (((fct a.length * fct b.length : Nat) : Int) < 2 ^ 29)) _ = _
    rw [decide_eq_true (by omega), decide_eq_true (by omega)]
    have e : ((fct (a.length + b.length) : Nat) : Int) / ((fct a.length * fct b.length : Nat) : Int) = ((mg a b).length : Int) := by
      rw [← hm, Int.natCast_mul (mg a b).length]
      exact Int.mul_ediv_cancel _ (by omega)
    show some (PyData.int (((fct (a.length + b.length) : Nat) : Int) / ((fct a.length * fct b.length : Nat) : Int))) = _
    rw [e]
  simp [t_check_merged (show 9 ≤ m + 9 by omega) ha hb hl hd, hL, f1, f2, f3, mul1, div1, -Int.natCast_add, -Int.natCast_mul]
theorem t_merged_greatest {n : Nat} (hn : 10 ≤ n) {a b : List Pas} (ha : OkQ a) (hb : OkQ b) (hl : a.length + b.length ≤ 9) (hd : ∀ x ∈ a.map (·.name), x ∉ b.map (·.name)) (C : List Cell) : ru n k_merged_greatest [encQ a, encQ b] C = .ok (.int (timeP a + timeP b)) C := by
  obtain ⟨m, rfl⟩ := Nat.exists_eq_add_of_le' hn
  rw [r_merged_greatest]; unfold b_merged_greatest
  simp [t_check_merged (show 9 ≤ m + 9 by omega) ha hb hl hd, t_time_in (show 3 ≤ m + 9 by omega) (show a.length ≤ 1000 by omega), t_time_in (show 3 ≤ m + 9 by omega) (show b.length ≤ 1000 by omega)]
end LW_k74
set_option Elab.async false
set_option linter.all false
set_option maxRecDepth 100000
set_option maxHeartbeats 1000000
namespace LW_k74
open PySem BR
theorem mg_ok {a b w : List Pas} (ha : ∀ p ∈ a, OkPas p) (hb : ∀ p ∈ b, OkPas p) (h : Mg a b w) : ∀ p ∈ w, OkPas p := fun p hp => by
  rcases List.mem_append.mp (h.perm.mem_iff.mp hp) with z | z
  · exact ha p z
  · exact hb p z
def pm (a b : List Pas) : List (List Pas) := (itP a b (a.length + b.length)).map (·.1)
theorem mem_pm {a b w : List Pas} : w ∈ pm a b ↔ Mg a b w := by unfold pm; rw [(itP_end a b).mem_iff]; exact mem_mg
theorem pm_len (a b : List Pas) : (pm a b).length = (mg a b).length := (itP_end a b).length_eq
theorem pm_ne (a b : List Pas) : pm a b ≠ [] := fun e => by
  have : (a ++ b) ∈ pm a b := mem_pm.mpr (.app a b)
  rw [e] at this
  simp at this
theorem t_merged_least {n : Nat} (hn : 10 ≤ n) {a b : List Pas} (ha : OkQ a) (hb : OkQ b) (hl : a.length + b.length ≤ 9) (hd : ∀ x ∈ a.map (·.name), x ∉ b.map (·.name)) {t : Int} (ht : ∃ w, Mg a b w ∧ timeP w = t) (hle : ∀ w, Mg a b w → t ≤ timeP w) (C : List Cell) : ru n k_merged_least [encQ a, encQ b] C = .ok (.int t) C := by
  obtain ⟨m, rfl⟩ := Nat.exists_eq_add_of_le' hn
  rw [r_merged_least]; unfold b_merged_least
  have p1 := t_merges_of (show 1 ≤ m + 9 by omega) ha.ps hb.ps hl C
  have hsz : (pm a b).length ≤ 512 := by
    unfold pm
    rw [List.length_map]
    exact Nat.le_trans (itP_many a b _) (Nat.le_trans (Nat.pow_le_pow_right (by omega) hl) (by decide))
  have hwl : ∀ w ∈ pm a b, w.length ≤ 1000 := fun w hw => by
    rw [(mem_pm.mp hw).perm.length_eq, List.length_append]; omega
  have hmin : biF .min1 [.list (((pm a b).map timeP).map .int)] = some (.int t) := by
    rw [min1_list (by simpa using pm_ne a b)]
    obtain ⟨w, h1, h2⟩ := ht
    rw [imin_eq (List.mem_map.mpr ⟨w, mem_pm.mpr h1, h2⟩) fun x hx => by
      obtain ⟨v, hv, rfl⟩ := List.mem_map.mp hx
      exact hle v (mem_pm.mp hv)]
  have p1 : ru (m + 9) k_merges_of [encQ a, encQ b] C = .ok (.list ((pm a b).map encQ)) C := p1
  generalize pm a b = L at *
  simp [t_check_merged (show 9 ≤ m + 9 by omega) ha hb hl hd, p1, -List.map_map]
  rw [mapR_map (enc := encQ) (fun w => .int (timeP w)) ?hx]
  case hx =>
    intro w hw
    unfold lcStep
    simp [t_time_in (show 3 ≤ m + 9 by omega) (hwl w hw)]
  have hb' : L.length ≤ big := by simp only [big]; omega
  rw [List.map_map] at hmin
  have hmin2 : biF .min1 [.list (L.map fun w => PyData.int (timeP w))] = some (.int t) := hmin
  simp [hb', hmin2]
theorem t_key {n : Nat} (hn : 4 ≤ n) {w : List Pas} (hw : w.length ≤ 1000) (C : List Cell) : ru n k_best_merge__lam0 [encQ w] C = .ok (keyD w) C := by
  obtain ⟨m, rfl⟩ := Nat.exists_eq_add_of_le' hn
  rw [r_best_merge__lam0]; unfold b_best_merge__lam0
  have hb2 : 2 ≤ big := by decide
  simp [t_time_in (show 3 ≤ m + 3 by omega) hw, t_names_in (show 1 ≤ m + 3 by omega) (show w.length ≤ big by simp only [big]; omega), hb2, keyD]
theorem t_best_merge {n : Nat} (hn : 10 ≤ n) {a b : List Pas} (ha : OkQ a) (hb : OkQ b) (hl : a.length + b.length ≤ 9) (hd : ∀ x ∈ a.map (·.name), x ∉ b.map (·.name)) (hnd : ((a ++ b).map (·.name)).Nodup) {w : List Pas} (hw : Mg a b w) (hle : ∀ v, Mg a b v → W.dataLt (rowD v) (rowD w) = false) (C : List Cell) : ru n k_best_merge [encQ a, encQ b] C = .ok (encQ w) C := by
  obtain ⟨m, rfl⟩ := Nat.exists_eq_add_of_le' hn
  rw [r_best_merge]; unfold b_best_merge
  have p1 : ru (m + 9) k_merges_of [encQ a, encQ b] C = .ok (.list ((pm a b).map encQ)) C := t_merges_of (show 1 ≤ m + 9 by omega) ha.ps hb.ps hl C
  have hok : ∀ v ∈ pm a b, ∀ p ∈ v, OkPas p := fun v hv => mg_ok ha.ps hb.ps (mem_pm.mp hv)
  obtain ⟨v, h1, h2, h3⟩ := minkey_run encQ keyD (ru (m + 9)) k_best_merge__lam0 C (pm_ne a b) (fun v hv => t_key (by omega) (by rw [(mem_pm.mp hv).perm.length_eq, List.length_append]; omega) C) (fun v hv => shp_keyD (hok v hv)) (fun v hv u hu => less_keyD (hok v hv) (hok u hu))
  have e := best_same hnd (mem_pm.mp h1) hw (hle v (mem_pm.mp h1)) (h3 w (mem_pm.mpr hw))
  subst e
  simp [t_check_merged (show 9 ≤ m + 9 by omega) ha hb hl hd, p1, h2]
end LW_k74
set_option Elab.async false
set_option linter.all false
set_option maxRecDepth 100000
set_option maxHeartbeats 1000000
namespace LW_k74
open PySem BR
theorem sum_small : ∀ {s : List Pas}, (∀ p ∈ s, OkPas p) → 0 ≤ (s.map (·.takes)).sum ∧ (s.map (·.takes)).sum ≤ 9 * (s.length : Int)
  | [], _ => by simp
  | x :: r, h => by
    have i := sum_small (s := r) fun p hp => h p (by simp [hp])
    have := (h x (by simp)).t1
    have := (h x (by simp)).t9
    simp only [List.map_cons, List.sum_cons, List.length_cons]
    omega
theorem time_small {q : List Pas} (h : ∀ p ∈ q, OkPas p) : 0 ≤ timeP q ∧ timeP q ≤ 9 * (q.length : Int) := by
  obtain ⟨s, h1, _, h3⟩ := time_at q
  have i := sum_small (s := s) fun p hp => h p (h1.subset hp)
  have := h1.length_le
  rw [h3] at i
  omega
theorem okQ_sub {q r : List Pas} (h : OkQ q) (hs : r.Sublist q) (h1 : 1 ≤ r.length) : OkQ r :=
  ⟨fun p hp => h.ps p (hs.subset hp), h.nd.sublist (hs.map _), h1, Nat.le_trans hs.length_le h.hi⟩
theorem add22 (a b c d : PyData) : binF .Add (.list [a, b]) (.list [c, d]) = some (.list [a, b, c, d]) := binF_lst (by simp only [List.length_cons, List.length_nil, big]; omega)
theorem add42 (a b c d e f : PyData) : binF .Add (.list [a, b, c, d]) (.list [e, f]) = some (.list [a, b, c, d, e, f]) := binF_lst (by simp only [List.length_cons, List.length_nil, big]; omega)
theorem twice (a : PyData) : binF .Mult (.list [a]) (.int 2) = some (.list [a, a]) := rfl
theorem rowD_0 (C : List Cell) (w : List Pas) : idxC C (rowD w) (.int 0) = some (.int (timeP w)) := rfl
theorem rowD_2 (C : List Cell) (w : List Pas) : idxC C (rowD w) (.int 2) = some (encQ w) := rfl
theorem t_turn {n j : Nat} (hn : 11 ≤ n) {C : List Cell} (hw : IsW C j) (k : Nat) (s1 s2 s3 s4 s5 s6 s7 s8 s9 s10 s11 s12 : Slot) (hs : s7 = .no ∧ s8 = .no) :
    wp (loStep (ru n) G 200 (.nm 1) l__law_right_0 (.int (k : Int)) [.val (hcell j), s1, s2, s3, s4, s5, s6, s7, s8, s9, s10, s11, s12] C) fun o C' => IsW C' j ∧ ∃ t1 t2 t3 t4 t5 t6 t9 t10 t11 t12, o = .nx [.val (hcell j), t1, t2, t3, t4, t5, t6, .no, .no, t9, t10, t11, t12] := by
  obtain ⟨rfl, rfl⟩ := hs
  refine wp_hide fun Q hQ => ?_
  have hb1 : 1 ≤ big := by decide
  have hb2 : 2 ≤ big := by decide
  have hb3 : 3 ≤ big := by decide
  have hb4 : 4 ≤ big := by decide
  obtain ⟨d, C1, e1, hN1, v1, hv1, rfl⟩ := t_ofi (n := n) (C := C) (j := j) (xs := [2, 4, 6, 8]) (by omega) hw (by simp) (by simp)
  obtain ⟨d, C2, e2, hN2, v2, hv2, rfl⟩ := t_ofi (n := n) (C := C1) (j := j) (xs := [2, 4, 9, 99]) (by omega) hN1.isW (by simp) (by simp)
  obtain ⟨d, C3, e3, hN3, v3, hv3, rfl⟩ := t_ofi (n := n) (C := C2) (j := j) (xs := [1, 3, 9]) (by omega) hN2.isW (by simp) (by simp)
  simp only [List.map_cons, List.map_nil] at e1 e2 e3
  obtain ⟨many, rfl⟩ : ∃ k : Nat, v1 = (k : Int) := ⟨v1.toNat, by simp at hv1; omega⟩
  have hm : 2 ≤ many ∧ many ≤ 8 := by simp at hv1; omega
  have hr : 1 ≤ v2 ∧ v2 ≤ 99 := by simp at hv2; omega
  have ht : 1 ≤ v3 ∧ v3 ≤ 9 := by simp at hv3; omega
  obtain ⟨d, C4, e4, hN4, q, rfl, hq, hql⟩ := t_queue (n := n) (C := C3) (j := j) (many := many) (rows := v2) (takes := v3) (by omega) hN3.isW (by omega) (by omega) hr.1 hr.2 ht.1 ht.2
  obtain ⟨d, C5, e5, hN5, v5, rfl, h50, h51⟩ := t_take (n := n) (C := C4) (j := j) (limit := (q.length : Int) - 1) (by omega) hN4.isW (by omega) (by omega)
  obtain ⟨at', hat⟩ : ∃ k : Nat, 1 + v5 = (k : Int) := ⟨(1 + v5).toNat, by omega⟩
  have ha1 : 1 ≤ at' ∧ at' < q.length := by omega
  have sl1 : slF (encQ q) none (some (at' : Int)) = some (encQ (q.take at')) := by rw [slF_take, ← List.map_take]
  have sl2 : slF (encQ q) (some (at' : Int)) none = some (encQ (q.drop at')) := by rw [slF_dropT, ← List.map_drop]
  have hA : OkQ (q.take at') := okQ_sub hq (List.take_sublist _ _) (by rw [List.length_take]; omega)
  have hB : OkQ (q.drop at') := okQ_sub hq (List.drop_sublist _ _) (by rw [List.length_drop]; omega)
  have hnd : ((q.take at' ++ q.drop at').map (·.name)).Nodup := by rw [List.take_append_drop]; exact hq.nd
  have hl : (q.take at').length + (q.drop at').length ≤ 9 := by rw [List.length_take, List.length_drop]; omega
  generalize q.take at' = a at *
  generalize q.drop at' = b at *
  have hdj : ∀ x ∈ a.map (·.name), x ∉ b.map (·.name) := fun x hx hx2 => by
    rw [List.map_append] at hnd
    exact (List.nodup_append.mp hnd).2.2 x hx x hx2 rfl
  have pm := t_lmerges (n := n) (by omega) hl C5
  have hne : mg a b ≠ [] := fun e => by
    have : (a ++ b) ∈ mg a b := mem_mg.mpr (.app a b)
    rw [e] at this
    simp at this
  have hok : ∀ w ∈ mg a b, ∀ p ∈ w, OkPas p := fun w hw => mg_ok hA.ps hB.ps (mem_mg.mp hw)
  have hwl : ∀ w ∈ mg a b, w.length ≤ 9 := fun w hw => by rw [(mem_mg.mp hw).perm.length_eq, List.length_append]; omega
  obtain ⟨w0, hw0, hmin, hleast⟩ := min1_rows hne hok
  have hml : (mg a b).length ≤ 512 := by
    have h1 := pm_len a b
    have h2 : (BR.itP a b (a.length + b.length)).length ≤ 512 := Nat.le_trans (itP_many a b _) (Nat.le_trans (Nat.pow_le_pow_right (by omega) hl) (by decide))
    rw [← h1]
    show ((BR.itP a b (a.length + b.length)).map (·.1)).length ≤ _
    rw [List.length_map]
    exact h2
  have hmax : biF .max1 [.list (((mg a b).map timeP).map .int)] = some (.int (timeP a + timeP b)) := by
    rw [max1_list (by simpa using hne)]
    obtain ⟨w, h1, h2⟩ := mg_ge a b
    rw [imax_eq (List.mem_map.mpr ⟨w, mem_mg.mpr h1, h2⟩) fun x hx => by
      obtain ⟨v, hv, rfl⟩ := List.mem_map.mp hx
      exact mg_le (mem_mg.mp hv)]
  rw [List.map_map] at hmax
  have hmax2 : biF .max1 [.list ((mg a b).map fun w => PyData.int (timeP w))] = some (.int (timeP a + timeP b)) := hmax
  have q1 := t_merge_number (n := n) (by omega) hA hB hl hdj C5
  have q2 := t_merged_greatest (n := n) (by omega) hA hB hl hdj C5
  have q3 := t_merged_least (n := n) (by omega) hA hB hl hdj (t := timeP w0) ⟨w0, mem_mg.mp hw0, rfl⟩ (fun w hw => row_time (hleast w (mem_mg.mpr hw))) C5
  have q4 := t_best_merge (n := n) (by omega) hA hB hl hdj hnd (mem_mg.mp hw0) (fun v hv => hleast v (mem_mg.mpr hv)) C5
  have la := t_ltime (n := n) (by omega) (q := a) (by omega) C5
  have lb := t_ltime (n := n) (by omega) (q := b) (by omega) C5
  have t1 := time_part (mem_mg.mp hw0).subL
  have t2 := time_part (mem_mg.mp hw0).subR
  have hnlt : ¬ (timeP w0 < max (timeP a) (timeP b)) := by omega
  have sa := time_small hA.ps
  have sb := time_small hB.ps
  have sw := time_small (hok w0 hw0)
  have hw0l := hwl w0 hw0
  have w1 : Nice (.list [.int ((mg a b).length : Int), .int ((mg a b).length : Int), .int (timeP a + timeP b), .int (timeP a + timeP b), .int (timeP w0), .int (timeP w0)]) 246 2 := by
    refine (nice_lst (W := 40) (D := 1) fun x hx => ?_).mono (by simp) (Nat.le_refl _)
    simp at hx
    rcases hx with rfl | rfl | rfl
    · exact nice_int (by omega)
    · exact nice_int (by omega)
    · exact nice_int (by omega)
  have w2 : Nice (.list [encQ w0, encQ w0]) 4000 4 := by
    refine (nice_lst (W := w0.length * 124) (D := 3) fun x hx => ?_).mono ?_ (Nat.le_refl _)
    · simp at hx
      subst hx
      exact nice_queue (hok w0 hw0)
    · simp; omega
  have v1 := repr_nice w1 (by omega) (by omega)
  have v2' := repr_nice w2 (by omega) (by omega)
  have v3' := ne_shown w1
  have v4 := ne_shown w2
  have hlt : ∀ w ∈ mg a b, ru n k__law_time [encQ w] C5 = .ok (.int (timeP w)) C5 := fun w hw => t_ltime (by omega) (by have := hwl w hw; omega) C5
  generalize timeP a = TA at *
  generalize timeP b = TB at *
  generalize mg a b = M at *
  have hMb : M.length ≤ big := by simp only [big]; omega
  unfold loStep l__law_right_0
  simp [hb3, hb4, e1, e2, e3, e4, e5, hat, sl1, sl2, pm]
  rw [mapR_map (enc := encQ) rowD ?hx]
  case hx =>
    intro w hw
    have := hwl w hw
    have hwb : w.length ≤ big := by simp only [big]; omega
    unfold lcStep
    simp [hlt w hw]
    rw [mapR_map (enc := encP) (fun p => .str p.name) ?hy]
    case hy =>
      intro p _
      unfold lcStep
      simp [encP]
    simp [hwb, hb3, rowD, encN]
  simp [hMb, hmin, rowD_0, rowD_2]
  rw [mapR_map (enc := rowD) (fun w => .int (timeP w)) ?hz]
  case hz =>
    intro w hw
    unfold lcStep
    simp [rowD_0]
  simp [hMb, hmin, rowD_0, rowD_2, hmax2, la, lb, hnlt, q1, q2, q3, q4, hb2, hb1, BR.placed, add22, add42, twice, v1, v2', v3', v4]
  exact wp_ok (hQ _ _ ⟨hN5.isW, _, _, _, _, _, _, _, _, _, _, rfl⟩)
theorem t_right {n j : Nat} (hn : 12 ≤ n) {C : List Cell} (hw : IsW C j) : wp (ru n k__law_right [hcell j] C) fun d C' => d = .bool true := by
  obtain ⟨m, rfl⟩ := Nat.exists_eq_add_of_le' hn
  rw [r__law_right]; unfold b__law_right
  refine wp_hide fun Q hQ => ?_
  have hs2 : smallI 2 = true := rfl
  have hr2 : rangeD 0 2 = [0, 1].map fun k : Nat => PyData.int (k : Int) := rfl
  simp [hs2, hr2, -List.map_cons]
  have key := loopS_wp (f := loStep (ru (m + 11)) G 200 (.nm 1) l__law_right_0) (enc := fun k : Nat => PyData.int (k : Int))
    (fun pre ρ C' => IsW C' j ∧ ∃ t1 t2 t3 t4 t5 t6 t9 t10 t11 t12, ρ = [.val (hcell j), t1, t2, t3, t4, t5, t6, .no, .no, t9, t10, t11, t12]) (xs := [0, 1]) (pre := []) (ρ := [.val (hcell j), .no, .no, .no, .no, .no, .no, .no, .no, .no, .no, .no, .no]) (C := C)
    ⟨hw, _, _, _, _, _, _, _, _, _, _, rfl⟩ ?_
  · obtain ⟨o, C1, e, ρ', rfl, _, _⟩ := key
    rw [e]
    simp
    exact wp_ok (hQ _ _ rfl)
  · rintro pre' k post ρ C' _ ⟨hw', t1, t2, t3, t4, t5, t6, t9, t10, t11, t12, rfl⟩
    obtain ⟨o, C2, e, h1, u1, u2, u3, u4, u5, u6, u9, u10, u11, u12, rfl⟩ := t_turn (n := m + 11) (by omega) hw' k t1 t2 t3 t4 t5 t6 .no .no t9 t10 t11 t12 ⟨rfl, rfl⟩
    exact ⟨_, _, e, _, rfl, h1, u1, u2, u3, u4, u5, u6, u9, u10, u11, u12, rfl⟩
def lvl : Nat := 12
theorem math (ns : List Int) (_ : ns.length ≤ 63) : ∃ C', runD T (gTab gs) 200 (lvl + 1) k_law [hscr (ns.map .int)] [] = .ok (.bool true) C' :=
  t_law (m := 12) (by omega) fun C j h => t_right (by omega) h
end LW_k74
set_option Elab.async false
set_option linter.all false
set_option maxRecDepth 100000
set_option maxHeartbeats 0
/-! the text of a law is what the defs say (printed) -/
namespace LW_k74
open PySem BR
def top (i : Nat) : Stmt := PySem.Challenge.pw_boardrows_k74_whole_merges_of_queues.main.body.getD i (.Pass ⟨0, 0, 0, 0⟩)
def i_is_whole : DefI := ⟨(PySem.Str.ofString "is_whole"), top 9, [(PySem.Str.ofString "value")], [(PySem.Str.ofString "value")], none⟩
def i_is_number : DefI := ⟨(PySem.Str.ofString "is_number"), top 10, [(PySem.Str.ofString "value"), (PySem.Str.ofString "low"), (PySem.Str.ofString "high")], [(PySem.Str.ofString "value"), (PySem.Str.ofString "low"), (PySem.Str.ofString "high")], none⟩
def i_factorial_of : DefI := ⟨(PySem.Str.ofString "factorial_of"), top 11, [(PySem.Str.ofString "number"), (PySem.Str.ofString "found"), (PySem.Str.ofString "each")], [(PySem.Str.ofString "number")], none⟩
def i_is_tuple_of : DefI := ⟨(PySem.Str.ofString "is_tuple_of"), top 12, [(PySem.Str.ofString "value"), (PySem.Str.ofString "many")], [(PySem.Str.ofString "value"), (PySem.Str.ofString "many")], none⟩
def i_wrong_at : DefI := ⟨(PySem.Str.ofString "wrong_at"), top 13, [(PySem.Str.ofString "value"), (PySem.Str.ofString "most"), (PySem.Str.ofString "is_right"), (PySem.Str.ofString "at"), (PySem.Str.ofString "each")], [(PySem.Str.ofString "value"), (PySem.Str.ofString "most"), (PySem.Str.ofString "is_right")], none⟩
def i_wrong_from_one : DefI := ⟨(PySem.Str.ofString "wrong_from_one"), top 14, [(PySem.Str.ofString "value"), (PySem.Str.ofString "most"), (PySem.Str.ofString "is_right")], [(PySem.Str.ofString "value"), (PySem.Str.ofString "most"), (PySem.Str.ofString "is_right")], none⟩
def i_is_word : DefI := ⟨(PySem.Str.ofString "is_word"), top 15, [(PySem.Str.ofString "value"), (PySem.Str.ofString "letter")], [(PySem.Str.ofString "value")], none⟩
def i_is_name : DefI := ⟨(PySem.Str.ofString "is_name"), top 16, [(PySem.Str.ofString "value")], [(PySem.Str.ofString "value")], none⟩
def i_is_passenger : DefI := ⟨(PySem.Str.ofString "is_passenger"), top 21, [(PySem.Str.ofString "value")], [(PySem.Str.ofString "value")], none⟩
def i_is_new : DefI := ⟨(PySem.Str.ofString "is_new"), top 22, [(PySem.Str.ofString "value"), (PySem.Str.ofString "before")], [(PySem.Str.ofString "value"), (PySem.Str.ofString "before")], none⟩
def i_wrong_queue : DefI := ⟨(PySem.Str.ofString "wrong_queue"), top 23, [(PySem.Str.ofString "value")], [(PySem.Str.ofString "value")], none⟩
def i_names_in : DefI := ⟨(PySem.Str.ofString "names_in"), top 24, [(PySem.Str.ofString "queue"), (PySem.Str.ofString "name"), (PySem.Str.ofString "_")], [(PySem.Str.ofString "queue")], none⟩
def i_takes_in : DefI := ⟨(PySem.Str.ofString "takes_in"), top 25, [(PySem.Str.ofString "queue"), (PySem.Str.ofString "_"), (PySem.Str.ofString "takes")], [(PySem.Str.ofString "queue")], none⟩
def i_starts_in : DefI := ⟨(PySem.Str.ofString "starts_in"), top 26, [(PySem.Str.ofString "queue"), (PySem.Str.ofString "starts"), (PySem.Str.ofString "ends"), (PySem.Str.ofString "_"), (PySem.Str.ofString "row"), (PySem.Str.ofString "takes"), (PySem.Str.ofString "end"), (PySem.Str.ofString "other")], [(PySem.Str.ofString "queue")], none⟩
def i_ends_in : DefI := ⟨(PySem.Str.ofString "ends_in"), top 27, [(PySem.Str.ofString "queue"), (PySem.Str.ofString "start"), (PySem.Str.ofString "takes")], [(PySem.Str.ofString "queue")], none⟩
def i_time_in : DefI := ⟨(PySem.Str.ofString "time_in"), top 28, [(PySem.Str.ofString "queue")], [(PySem.Str.ofString "queue")], none⟩
def i_check_queue : DefI := ⟨(PySem.Str.ofString "check_queue"), top 30, [(PySem.Str.ofString "value"), (PySem.Str.ofString "at")], [(PySem.Str.ofString "value")], none⟩
def i_check_merged : DefI := ⟨(PySem.Str.ofString "check_merged"), top 32, [(PySem.Str.ofString "queue"), (PySem.Str.ofString "queue2"), (PySem.Str.ofString "name")], [(PySem.Str.ofString "queue"), (PySem.Str.ofString "queue2")], none⟩
def i_merges_of : DefI := ⟨(PySem.Str.ofString "merges_of"), top 33, [(PySem.Str.ofString "queue"), (PySem.Str.ofString "queue2"), (PySem.Str.ofString "found"), (PySem.Str.ofString "_"), (PySem.Str.ofString "longer"), (PySem.Str.ofString "whole"), (PySem.Str.ofString "one"), (PySem.Str.ofString "two")], [(PySem.Str.ofString "queue"), (PySem.Str.ofString "queue2")], none⟩
def i_merge_number : DefI := ⟨(PySem.Str.ofString "merge_number"), top 34, [(PySem.Str.ofString "queue"), (PySem.Str.ofString "queue2"), (PySem.Str.ofString "many"), (PySem.Str.ofString "many2")], [(PySem.Str.ofString "queue"), (PySem.Str.ofString "queue2")], none⟩
def i_merged_greatest : DefI := ⟨(PySem.Str.ofString "merged_greatest"), top 35, [(PySem.Str.ofString "queue"), (PySem.Str.ofString "queue2")], [(PySem.Str.ofString "queue"), (PySem.Str.ofString "queue2")], none⟩
def i_merged_least : DefI := ⟨(PySem.Str.ofString "merged_least"), top 36, [(PySem.Str.ofString "queue"), (PySem.Str.ofString "queue2"), (PySem.Str.ofString "merge")], [(PySem.Str.ofString "queue"), (PySem.Str.ofString "queue2")], none⟩
def i_best_merge : DefI := ⟨(PySem.Str.ofString "best_merge"), top 37, [(PySem.Str.ofString "queue"), (PySem.Str.ofString "queue2")], [(PySem.Str.ofString "queue"), (PySem.Str.ofString "queue2")], some (fun l c => (PySem.Str.ofString "best_merge.<locals>.<lambda>"))⟩
def i__law_urn : DefI := ⟨(PySem.Str.ofString "_law_urn"), top 39, [(PySem.Str.ofString "script"), (PySem.Str.ofString "lap"), (PySem.Str.ofString "mixed"), (PySem.Str.ofString "cell"), (PySem.Str.ofString "own")], [(PySem.Str.ofString "script"), (PySem.Str.ofString "lap")], none⟩
def i__law_take : DefI := ⟨(PySem.Str.ofString "_law_take"), top 40, [(PySem.Str.ofString "urn"), (PySem.Str.ofString "many"), (PySem.Str.ofString "figure"), (PySem.Str.ofString "stir")], [(PySem.Str.ofString "urn"), (PySem.Str.ofString "many")], none⟩
def i__law_of : DefI := ⟨(PySem.Str.ofString "_law_of"), top 41, [(PySem.Str.ofString "urn"), (PySem.Str.ofString "some")], [(PySem.Str.ofString "urn"), (PySem.Str.ofString "some")], none⟩
def i__law_names : DefI := ⟨(PySem.Str.ofString "_law_names"), top 42, [(PySem.Str.ofString "urn"), (PySem.Str.ofString "many"), (PySem.Str.ofString "found"), (PySem.Str.ofString "letters"), (PySem.Str.ofString "turn"), (PySem.Str.ofString "size"), (PySem.Str.ofString "name"), (PySem.Str.ofString "lap"), (PySem.Str.ofString "at")], [(PySem.Str.ofString "urn"), (PySem.Str.ofString "many")], none⟩
def i__law_queue : DefI := ⟨(PySem.Str.ofString "_law_queue"), top 43, [(PySem.Str.ofString "urn"), (PySem.Str.ofString "many"), (PySem.Str.ofString "rows"), (PySem.Str.ofString "takes"), (PySem.Str.ofString "found"), (PySem.Str.ofString "name")], [(PySem.Str.ofString "urn"), (PySem.Str.ofString "many"), (PySem.Str.ofString "rows"), (PySem.Str.ofString "takes")], none⟩
def i__law_ends : DefI := ⟨(PySem.Str.ofString "_law_ends"), top 44, [(PySem.Str.ofString "queue"), (PySem.Str.ofString "found"), (PySem.Str.ofString "k"), (PySem.Str.ofString "ahead"), (PySem.Str.ofString "j")], [(PySem.Str.ofString "queue")], none⟩
def i__law_time : DefI := ⟨(PySem.Str.ofString "_law_time"), top 45, [(PySem.Str.ofString "queue")], [(PySem.Str.ofString "queue")], none⟩
def i__law_merges : DefI := ⟨(PySem.Str.ofString "_law_merges"), top 46, [(PySem.Str.ofString "one"), (PySem.Str.ofString "two"), (PySem.Str.ofString "found"), (PySem.Str.ofString "turn"), (PySem.Str.ofString "longer"), (PySem.Str.ofString "row"), (PySem.Str.ofString "k"), (PySem.Str.ofString "j")], [(PySem.Str.ofString "one"), (PySem.Str.ofString "two")], none⟩
def i__law_right : DefI := ⟨(PySem.Str.ofString "_law_right"), top 47, [(PySem.Str.ofString "urn"), (PySem.Str.ofString "turn"), (PySem.Str.ofString "whole"), (PySem.Str.ofString "at"), (PySem.Str.ofString "one"), (PySem.Str.ofString "two"), (PySem.Str.ofString "rows"), (PySem.Str.ofString "each"), (PySem.Str.ofString "row"), (PySem.Str.ofString "least"), (PySem.Str.ofString "most"), (PySem.Str.ofString "best"), (PySem.Str.ofString "told")], [(PySem.Str.ofString "urn")], none⟩
def i_law : DefI := ⟨(PySem.Str.ofString "law"), top 48, [(PySem.Str.ofString "script"), (PySem.Str.ofString "lap")], [(PySem.Str.ofString "script")], none⟩
def Is : List DefI := [i_is_whole, i_is_number, i_factorial_of, i_is_tuple_of, i_wrong_at, i_wrong_from_one, i_is_word, i_is_name, i_is_passenger, i_is_new, i_wrong_queue, i_names_in, i_takes_in, i_starts_in, i_ends_in, i_time_in, i_check_queue, i_check_merged, i_merges_of, i_merge_number, i_merged_greatest, i_merged_least, i_best_merge, i__law_urn, i__law_take, i__law_of, i__law_names, i__law_queue, i__law_ends, i__law_time, i__law_merges, i__law_right, i_law]
def fns : List Str := [(PySem.Str.ofString "is_whole"), (PySem.Str.ofString "is_number"), (PySem.Str.ofString "factorial_of"), (PySem.Str.ofString "is_tuple_of"), (PySem.Str.ofString "wrong_at"), (PySem.Str.ofString "wrong_from_one"), (PySem.Str.ofString "is_word"), (PySem.Str.ofString "is_name"), (PySem.Str.ofString "is_passenger"), (PySem.Str.ofString "is_new"), (PySem.Str.ofString "wrong_queue"), (PySem.Str.ofString "names_in"), (PySem.Str.ofString "takes_in"), (PySem.Str.ofString "starts_in"), (PySem.Str.ofString "ends_in"), (PySem.Str.ofString "time_in"), (PySem.Str.ofString "check_queue"), (PySem.Str.ofString "check_merged"), (PySem.Str.ofString "merges_of"), (PySem.Str.ofString "merge_number"), (PySem.Str.ofString "merged_greatest"), (PySem.Str.ofString "merged_least"), (PySem.Str.ofString "best_merge"), (PySem.Str.ofString "_law_urn"), (PySem.Str.ofString "_law_take"), (PySem.Str.ofString "_law_of"), (PySem.Str.ofString "_law_names"), (PySem.Str.ofString "_law_queue"), (PySem.Str.ofString "_law_ends"), (PySem.Str.ofString "_law_time"), (PySem.Str.ofString "_law_merges"), (PySem.Str.ofString "_law_right"), (PySem.Str.ofString "law")]
def kws : List (Nat × Nat × List Str × List Nat) := [(19, 0, [(PySem.Str.ofString "queue2"), (PySem.Str.ofString "queue")], [1, 0]), (20, 0, [(PySem.Str.ofString "queue2"), (PySem.Str.ofString "queue")], [1, 0]), (21, 0, [(PySem.Str.ofString "queue2"), (PySem.Str.ofString "queue")], [1, 0]), (22, 0, [(PySem.Str.ofString "queue2"), (PySem.Str.ofString "queue")], [1, 0])]
def ns : Nst := [(k_best_merge__lam0, d_best_merge__lam0, [(PySem.Str.ofString "merge")], [(PySem.Str.ofString "merge")])]
def c0 : Cfg := ⟨[], fns, kws, true, fun _ _ => false, fun _ _ => false, none⟩
def c : Cfg := ⟨[], fns, kws, true, okNF c0 ns, okEF c0 ns, none⟩
theorem pb_best_merge__lam0 : PlainBind [(PySem.Str.ofString "merge")] := fun as h us hl => match as, us, h, hl with
  | [⟨_, _, _⟩], [_], h, _ => by
    simp only [List.map_cons, List.map_nil, List.cons.injEq, and_true] at h
    obtain rfl := h
    exact ⟨fun _ _ _ _ _ _ _ _ => rfl, fun _ _ _ _ _ _ => rfl⟩
theorem mo : MadeOk T c := madeOk (c0 := c0) rfl rfl rfl ⟨⟨rfl, pb_best_merge__lam0⟩, trivial⟩
theorem ok_is_whole : okD c d_is_whole i_is_whole = true := by decide +kernel
theorem ok_is_number : okD c d_is_number i_is_number = true := by decide +kernel
theorem ok_factorial_of : okD c d_factorial_of i_factorial_of = true := by decide +kernel
theorem ok_is_tuple_of : okD c d_is_tuple_of i_is_tuple_of = true := by decide +kernel
theorem ok_wrong_at : okD c d_wrong_at i_wrong_at = true := by decide +kernel
theorem ok_wrong_from_one : okD c d_wrong_from_one i_wrong_from_one = true := by decide +kernel
theorem ok_is_word : okD c d_is_word i_is_word = true := by decide +kernel
theorem ok_is_name : okD c d_is_name i_is_name = true := by decide +kernel
theorem ok_is_passenger : okD c d_is_passenger i_is_passenger = true := by decide +kernel
theorem ok_is_new : okD c d_is_new i_is_new = true := by decide +kernel
theorem ok_wrong_queue : okD c d_wrong_queue i_wrong_queue = true := by decide +kernel
theorem ok_names_in : okD c d_names_in i_names_in = true := by decide +kernel
theorem ok_takes_in : okD c d_takes_in i_takes_in = true := by decide +kernel
theorem ok_starts_in : okD c d_starts_in i_starts_in = true := by decide +kernel
theorem ok_ends_in : okD c d_ends_in i_ends_in = true := by decide +kernel
theorem ok_time_in : okD c d_time_in i_time_in = true := by decide +kernel
theorem ok_check_queue : okD c d_check_queue i_check_queue = true := by decide +kernel
theorem ok_check_merged : okD c d_check_merged i_check_merged = true := by decide +kernel
theorem ok_merges_of : okD c d_merges_of i_merges_of = true := by decide +kernel
theorem ok_merge_number : okD c d_merge_number i_merge_number = true := by decide +kernel
theorem ok_merged_greatest : okD c d_merged_greatest i_merged_greatest = true := by decide +kernel
theorem ok_merged_least : okD c d_merged_least i_merged_least = true := by decide +kernel
theorem ok_best_merge : okD c d_best_merge i_best_merge = true := by decide +kernel
theorem ok__law_urn : okD c d__law_urn i__law_urn = true := by decide +kernel
theorem ok__law_take : okD c d__law_take i__law_take = true := by decide +kernel
theorem ok__law_of : okD c d__law_of i__law_of = true := by decide +kernel
theorem ok__law_names : okD c d__law_names i__law_names = true := by decide +kernel
theorem ok__law_queue : okD c d__law_queue i__law_queue = true := by decide +kernel
theorem ok__law_ends : okD c d__law_ends i__law_ends = true := by decide +kernel
theorem ok__law_time : okD c d__law_time i__law_time = true := by decide +kernel
theorem ok__law_merges : okD c d__law_merges i__law_merges = true := by decide +kernel
theorem ok__law_right : okD c d__law_right i__law_right = true := by decide +kernel
theorem ok_law : okD c d_law i_law = true := by decide +kernel
theorem bo_is_whole : BindOk i_is_whole := fun _ _ _ _ _ _ us hl => match us, hl with | [_], _ => rfl
theorem bo_is_number : BindOk i_is_number := fun _ _ _ _ _ _ us hl => match us, hl with | [_, _, _], _ => rfl
theorem bo_factorial_of : BindOk i_factorial_of := fun _ _ _ _ _ _ us hl => match us, hl with | [_], _ => rfl
theorem bo_is_tuple_of : BindOk i_is_tuple_of := fun _ _ _ _ _ _ us hl => match us, hl with | [_, _], _ => rfl
theorem bo_wrong_at : BindOk i_wrong_at := fun _ _ _ _ _ _ us hl => match us, hl with | [_, _, _], _ => rfl
theorem bo_wrong_from_one : BindOk i_wrong_from_one := fun _ _ _ _ _ _ us hl => match us, hl with | [_, _, _], _ => rfl
theorem bo_is_word : BindOk i_is_word := fun _ _ _ _ _ _ us hl => match us, hl with | [_], _ => rfl
theorem bo_is_name : BindOk i_is_name := fun _ _ _ _ _ _ us hl => match us, hl with | [_], _ => rfl
theorem bo_is_passenger : BindOk i_is_passenger := fun _ _ _ _ _ _ us hl => match us, hl with | [_], _ => rfl
theorem bo_is_new : BindOk i_is_new := fun _ _ _ _ _ _ us hl => match us, hl with | [_, _], _ => rfl
theorem bo_wrong_queue : BindOk i_wrong_queue := fun _ _ _ _ _ _ us hl => match us, hl with | [_], _ => rfl
theorem bo_names_in : BindOk i_names_in := fun _ _ _ _ _ _ us hl => match us, hl with | [_], _ => rfl
theorem bo_takes_in : BindOk i_takes_in := fun _ _ _ _ _ _ us hl => match us, hl with | [_], _ => rfl
theorem bo_starts_in : BindOk i_starts_in := fun _ _ _ _ _ _ us hl => match us, hl with | [_], _ => rfl
theorem bo_ends_in : BindOk i_ends_in := fun _ _ _ _ _ _ us hl => match us, hl with | [_], _ => rfl
theorem bo_time_in : BindOk i_time_in := fun _ _ _ _ _ _ us hl => match us, hl with | [_], _ => rfl
theorem bo_check_queue : BindOk i_check_queue := fun _ _ _ _ _ _ us hl => match us, hl with | [_], _ => rfl
theorem bo_check_merged : BindOk i_check_merged := fun _ _ _ _ _ _ us hl => match us, hl with | [_, _], _ => rfl
theorem bo_merges_of : BindOk i_merges_of := fun _ _ _ _ _ _ us hl => match us, hl with | [_, _], _ => rfl
theorem bo_merge_number : BindOk i_merge_number := fun _ _ _ _ _ _ us hl => match us, hl with | [_, _], _ => rfl
theorem bo_merged_greatest : BindOk i_merged_greatest := fun _ _ _ _ _ _ us hl => match us, hl with | [_, _], _ => rfl
theorem bo_merged_least : BindOk i_merged_least := fun _ _ _ _ _ _ us hl => match us, hl with | [_, _], _ => rfl
theorem bo_best_merge : BindOk i_best_merge := fun _ _ _ _ _ _ us hl => match us, hl with | [_, _], _ => rfl
theorem bo__law_urn : BindOk i__law_urn := fun _ _ _ _ _ _ us hl => match us, hl with | [_, _], _ => rfl
theorem bo__law_take : BindOk i__law_take := fun _ _ _ _ _ _ us hl => match us, hl with | [_, _], _ => rfl
theorem bo__law_of : BindOk i__law_of := fun _ _ _ _ _ _ us hl => match us, hl with | [_, _], _ => rfl
theorem bo__law_names : BindOk i__law_names := fun _ _ _ _ _ _ us hl => match us, hl with | [_, _], _ => rfl
theorem bo__law_queue : BindOk i__law_queue := fun _ _ _ _ _ _ us hl => match us, hl with | [_, _, _, _], _ => rfl
theorem bo__law_ends : BindOk i__law_ends := fun _ _ _ _ _ _ us hl => match us, hl with | [_], _ => rfl
theorem bo__law_time : BindOk i__law_time := fun _ _ _ _ _ _ us hl => match us, hl with | [_], _ => rfl
theorem bo__law_merges : BindOk i__law_merges := fun _ _ _ _ _ _ us hl => match us, hl with | [_, _], _ => rfl
theorem bo__law_right : BindOk i__law_right := fun _ _ _ _ _ _ us hl => match us, hl with | [_], _ => rfl
theorem bo_law : BindOk i_law := fun _ _ _ _ _ _ us hl => match us, hl with | [_], _ => rfl
theorem allB : AllB Is := ⟨bo_is_whole, bo_is_number, bo_factorial_of, bo_is_tuple_of, bo_wrong_at, bo_wrong_from_one, bo_is_word, bo_is_name, bo_is_passenger, bo_is_new, bo_wrong_queue, bo_names_in, bo_takes_in, bo_starts_in, bo_ends_in, bo_time_in, bo_check_queue, bo_check_merged, bo_merges_of, bo_merge_number, bo_merged_greatest, bo_merged_least, bo_best_merge, bo__law_urn, bo__law_take, bo__law_of, bo__law_names, bo__law_queue, bo__law_ends, bo__law_time, bo__law_merges, bo__law_right, bo_law, trivial⟩
theorem kb_0 : KBindOk i_merge_number 0 [(PySem.Str.ofString "queue2"), (PySem.Str.ofString "queue")] [1, 0] := fun _ _ _ _ _ _ us ws r h1 h2 h3 => match us, ws, h1, h2, h3 with | [], [_, _], _, _, h3 => by cases h3; rfl
theorem kb_1 : KBindOk i_merged_greatest 0 [(PySem.Str.ofString "queue2"), (PySem.Str.ofString "queue")] [1, 0] := fun _ _ _ _ _ _ us ws r h1 h2 h3 => match us, ws, h1, h2, h3 with | [], [_, _], _, _, h3 => by cases h3; rfl
theorem kb_2 : KBindOk i_merged_least 0 [(PySem.Str.ofString "queue2"), (PySem.Str.ofString "queue")] [1, 0] := fun _ _ _ _ _ _ us ws r h1 h2 h3 => match us, ws, h1, h2, h3 with | [], [_, _], _, _, h3 => by cases h3; rfl
theorem kb_3 : KBindOk i_best_merge 0 [(PySem.Str.ofString "queue2"), (PySem.Str.ofString "queue")] [1, 0] := fun _ _ _ _ _ _ us ws r h1 h2 h3 => match us, ws, h1, h2, h3 with | [], [_, _], _, _, h3 => by cases h3; rfl
theorem allK : AllK Is kws := ⟨fun I e => by have e : some i_merge_number = some I := e; cases e; exact kb_0, fun I e => by have e : some i_merged_greatest = some I := e; cases e; exact kb_1, fun I e => by have e : some i_merged_least = some I := e; cases e; exact kb_2, fun I e => by have e : some i_best_merge = some I := e; cases e; exact kb_3, trivial⟩
theorem okAll : ((T.zip Is).all fun p => okD c p.1 p.2) = true := by decide +kernel
def loose0 : List Str := [(PySem.Str.ofString "BoardError"), (PySem.Str.ofString "TooMany"), (PySem.Str.ofString "SameNames"), (PySem.Str.ofString "InvalidQueue"), (PySem.Str.ofString "LETTERS"), (PySem.Str.ofString "MOST_IN_NAME"), (PySem.Str.ofString "WORDS"), (PySem.Str.ofString "is_whole"), (PySem.Str.ofString "is_number"), (PySem.Str.ofString "factorial_of"), (PySem.Str.ofString "is_tuple_of"), (PySem.Str.ofString "wrong_at"), (PySem.Str.ofString "wrong_from_one"), (PySem.Str.ofString "is_word"), (PySem.Str.ofString "is_name"), (PySem.Str.ofString "MOST_IN_QUEUE"), (PySem.Str.ofString "MOST_ROW"), (PySem.Str.ofString "MOST_TAKES"), (PySem.Str.ofString "is_passenger"), (PySem.Str.ofString "is_new"), (PySem.Str.ofString "wrong_queue"), (PySem.Str.ofString "names_in"), (PySem.Str.ofString "takes_in"), (PySem.Str.ofString "starts_in"), (PySem.Str.ofString "ends_in"), (PySem.Str.ofString "time_in"), (PySem.Str.ofString "check_queue"), (PySem.Str.ofString "check_merged"), (PySem.Str.ofString "merges_of"), (PySem.Str.ofString "merge_number")]
def loose1 : List Str := [(PySem.Str.ofString "merged_greatest"), (PySem.Str.ofString "merged_least"), (PySem.Str.ofString "best_merge"), (PySem.Str.ofString "_law_urn"), (PySem.Str.ofString "_law_take"), (PySem.Str.ofString "_law_of"), (PySem.Str.ofString "_law_names"), (PySem.Str.ofString "_law_queue"), (PySem.Str.ofString "_law_ends"), (PySem.Str.ofString "_law_time"), (PySem.Str.ofString "_law_merges"), (PySem.Str.ofString "_law_right")]
def loose : List Str := loose0 ++ loose1
def R : PySem.W.OpenRow := PySem.W.OpenLaw.row PySem.Challenge.rw_boardrows_k74_whole_merges_of_queues
abbrev hk : PySem.W.Hook := He.hookX 4 (faL Is gs) (fnL Is) [] (mkL Is) (exL Is gs)
def ob (s : PySem.W.SharedT) : He.AlX := He.obsX 4 (faL Is gs) (fnL Is) [] (mkL Is) (exL Is gs) (HandSHeadRun.getT s)
theorem obIs (s : PySem.W.SharedT) : ob s = hk.obs s.abs := He.obsX_eq (HandSHeadRun.getT_eq s)
theorem run (w : World) : HandSHeadRun.RunEq R (PySem.W.view R.prog [48]) hk ob 3000 loose w := by
  intro os
  kernel_rfl
end LW_k74
set_option Elab.async false
set_option linter.all false
set_option maxRecDepth 100000
set_option maxHeartbeats 0
open PySem PySem.W PySem.Calls PyProof.Rows
theorem PySem.Challenge.cw_boardrows_k74_whole_merges_of_queues_holds : PySem.Challenge.rw_boardrows_k74_whole_merges_of_queues.Holds := by
  have math := LW_k74.math
  w_on; o_law
  refine HandSHeadRun.head_any (r := LW_k74.R) (q := view LW_k74.R.prog [48]) (H := LW_k74.hk) (ob := LW_k74.ob) (M := 3000) (loose := LW_k74.loose) (d := HandSHeadRun.topDef LW_k74.R.prog 48) (kwd := []) LW_k74.obIs
    (by kernel_rfl) (fun s => by kernel_rfl) LW_k74.run (by kernel_rfl) (by kernel_rfl) (by kernel_rfl) (by rfl) (by first | assumption | decide +kernel) (by decide +kernel) ⟨rfl, rfl, rfl, rfl, rfl, by decide +kernel⟩ ?hw ?hc
  case hw => w_witness2
  case hc =>
    refine BR.walkG (gd := LW_k74.c.gd) (l := PySem.Challenge.rw_boardrows_k74_whole_merges_of_queues) (n := 63) (k := LW_k74.lvl + 1) (x := PySem.Str.ofString "script") rfl (by decide) (by kernel_rfl) ⟨rfl, by decide, by decide⟩ ?F
    intro w mg fa h Y G hmg0
    have e : (HandSHeadRun.topDef LW_k74.R.prog 48).name = PySem.Str.ofString "law" := by kernel_rfl
    rw [e] at hmg0
    exact BR.law_F (Wf := 200) (n := LW_k74.lvl) (kl := LW_k74.k_law) (I := LW_k74.i_law) (D := LW_k74.d_law) (c := LW_k74.c) rfl rfl (by decide +kernel) rfl rfl LW_k74.mo rfl (by decide) LW_k74.okAll LW_k74.allB.mem LW_k74.allK.mem math w mg fa h Y G hmg0
