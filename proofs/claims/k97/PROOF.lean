import PyProof.Rows.All
import Wide.All
import OpenK.AllK
import Wide.FinOn
import HandS.Base
import HandS.Call
import HandS.List
import HandS.Text
import HandS.Comp
import HandS.Iter
import HandS.Zip
import HandS.Walk
import HandS.Exc
import HandS.ExcOwn
import HandS.IsInst
import HandS.TupAny
import HandS.Wide
import HandS.Conv
import HandS.TupMul
import HandS.Deep
import HandS.TupLe
import HandS.SortInts
import HandS.TupSets
import KE.GoesEnum
import HandS.SetBool
import HandS.SetKeys
import HandS.Strs
import HandS.Flow
import HandS.WordsExc
import KE.KSuper
import KE.KExcSuper
import HandS.ExcInit
import HandS.ExcSuper
import HandS.RaiseFrom
import HandS.SuiteRaise
import HandS.ExcField
import HandS.ExcIs
import HandS.Defaults
import HandS.HeadHook2
import HandS.Head0
import HandS.Head1
import HandS.Head2
import HandS.HeadEnd
import KE.DataCmp
import PySem.Challenge.RW_ratewarrant_k97_whole_two_times
set_option Elab.async false
set_option linter.all false
set_option maxRecDepth 100000
/-! Mp0: a small language over plain data, and what it computes -/
namespace Mp
open PySem

/-- plain data: a tuple is a tree, a list is the number of a cell; fro: a list that nothing may write (the script) -/
inductive D where
  | non | bl (b : Bool) | int (i : Int) | str (s : Str) | tup (xs : List D) | ref (a : Nat) | fro (xs : List D)
inductive Cell where
  | lst (xs : List D)
  | dct (kvs : List (L2.Key × D))
abbrev Hh := List Cell
/-- an exception: its class's number, its fields -/
structure Xn where
  cls : Nat
  fs : List (Str × D)
inductive R (α : Type) where
  | ok (a : α) (h : Hh)
  | err (x : Xn) (h : Hh)
  | bad
abbrev M (α : Type) := Hh → R α
abbrev En := List (Option D)
def bd {α β : Type} (r : R α) (f : α → Hh → R β) : R β :=
  match r with
  | .ok a h => f a h
  | .err x h => .err x h
  | .bad => .bad
theorem bd_ok {α β : Type} (a : α) (h : Hh) (f : α → Hh → R β) : bd (.ok a h) f = f a h := rfl
theorem bd_err {α β : Type} (x : Xn) (h : Hh) (f : α → Hh → R β) : bd (.err x h) f = .err x h := rfl
theorem bd_bad {α β : Type} (f : α → Hh → R β) : bd .bad f = .bad := rfl

inductive Bop | add | sub | mul | fdiv | mod | pow | shl | shr | band | bor
  deriving DecidableEq
inductive Cop | eq | ne | lt | le | gt | ge
  deriving DecidableEq
inductive Tg | one (i : Nat) | many (is : List Nat)
  deriving DecidableEq
/-- built-ins over a sequence -/
inductive Sq | tuple | list | sum | all | any | max | min | sorted | len
  deriving DecidableEq
/-- built-ins over values -/
inductive Bi | abs | int | max | min
  deriving DecidableEq
inductive Ty | int | bool | tuple | str | list
  deriving DecidableEq

inductive E where
  | var (i : Nat)
  | cst (d : D)
  | glb (x : Str) (d : D)
  | tup (es : List E)
  | lst (es : List E)
  | bin (op : Bop) (a b : E)
  | neg (a : E)
  | cmp (op : Cop) (a b : E)
  | chain (o o' : Cop) (a b c : E)
  | isN (ng : Bool) (a : E)
  | isIn (ng : Bool) (a b : E)
  | and (es : List E)
  | or (es : List E)
  | not (a : E)
  | ite (c a b : E)
  | idx (a i : E)
  | sl (a lo hi : E)
  | nopart
  | call (f : Nat) (es : List E)
  | sq (f : Sq) (e : E)
  | bi (f : Bi) (es : List E)
  | isi (a : E) (t : Ty)
  | app (o x : E)
  | popI (o i : E)
  | index (o x : E)
  | split (o x : E)
  | comp (own : List Nat) (t : Tg) (it : E) (cond : Bool) (c e : E)
  | lenset (own : List Nat) (t : Tg) (it : E) (cond : Bool) (c e : E)
  | sortset (own : List Nat) (t : Tg) (it : E) (cond : Bool) (c e : E)
  | rng1 (n : E)
  | rng2 (a b : E)
  | enum (e : E)
  | zip (a b : E)

inductive Fl where
  | nx | rt (d : D) | bk | ct
/-- what a handler says: of the exception's classes and fields alone -/
inductive HE where
  | cst (d : D) | fld (k : Nat) (f : Str) | tup (es : List HE) | isx (c : Nat) | not (a : HE) | and (a b : HE)
/-- a handler: if c: return e; return e; raise C(d) from None -/
inductive HS where
  | cond (c e : HE) | ret (e : HE) | re (c : Nat) (d : D)
inductive S where
  | asg (i : Nat) (e : E)
  | asgT (is : List Nat) (e : E)
  | par (i j : Nat) (a b : E)
  | setI (o i e : E)
  | addI (o i e : E)
  | ex (e : E)
  | ret (e : E)
  | ifs (c : E) (a b : List S)
  | for_ (t : Tg) (it : E) (b : List S)
  | while_ (c : E) (b : List S)
  | raise (c : Nat) (es : List E)
  | try_ (b : S) (c : Nat) (sl : Nat) (hd : HS)
  | pass | brk | cnt

/-! ### data -/
mutual
def D.pyW (rf : Nat → Option PyData) : D → Option PyData
  | .non => some .none
  | .bl b => some (.bool b)
  | .int i => some (.int i)
  | .str s => some (.str s)
  | .tup xs => (D.pysW rf xs).map .tuple
  | .ref a => rf a
  | .fro _ => none
def D.pysW (rf : Nat → Option PyData) : List D → Option (List PyData)
  | [] => some []
  | x :: xs => match D.pyW rf x, D.pysW rf xs with
    | some y, some ys => some (y :: ys)
    | _, _ => none
end
def pyN (h : Hh) : Nat → Nat → Option PyData
  | 0, _ => none
  | n + 1, a => match h[a]? with
    | some (.lst xs) => (D.pysW (pyN h n) xs).map .list
    | _ => none
def D.py (h : Hh) (d : D) : Option PyData := D.pyW (pyN h 8) d
/-- == -/
def eqD (h : Hh) (x y : D) : Option Bool :=
  match x.py h, y.py h with
  | some d, some e => if SeqAt.shaped d && SeqAt.shaped e then some (PyData.eqv d e) else none
  | _, _ => none
def ints? : List D → Option (List Int)
  | [] => some []
  | .int i :: r => (ints? r).map (i :: ·)
  | _ :: _ => none
def bls? : List D → Option (List Bool)
  | [] => some []
  | .bl i :: r => (bls? r).map (i :: ·)
  | _ :: _ => none
def tups? : List D → Option (List (List Int))
  | [] => some []
  | .tup xs :: r => match ints? xs, tups? r with
    | some x, some y => some (x :: y)
    | _, _ => none
  | _ :: _ => none
/-- one sign a text -/
def signsD (z : Str) : List D := z.cps.toList.map fun c => .str ⟨#[c]⟩
def lexLe : List Int → List Int → Bool
  | [], _ => true
  | _ :: _, [] => false
  | x :: xs, y :: ys => if x = y then lexLe xs ys else decide (x < y)
def sortI (ns : List Int) : List Int := ns.mergeSort (fun a b => decide (a ≤ b))
def sortT (ts : List (List Int)) : List (List Int) := ts.mergeSort lexLe
def tupI (ns : List Int) : D := .tup (ns.map .int)
def tupsOk (ts : List (List Int)) : Bool :=
  match ts with
  | [] => false
  | t :: _ => decide (ts.length < 64) && decide (0 < t.length) && ts.all fun u => decide (u.length = t.length) && u.all fun i => decide (0 ≤ i)
def sortD (ds : List D) : Option (List D) :=
  match ints? ds with
  | some ns => some ((sortI ns).map .int)
  | none => match tups? ds with
    | some ts => if tupsOk ts then some ((sortT ts).map tupI) else none
    | none => none
/-! ### operators -/
def mulOk (i j : Int) : Bool := decide (i.natAbs < 2 ^ 64) || decide (j.natAbs < 2 ^ 64)
def binD : Bop → D → D → Option D
  | .add, .int i, .int j => some (.int (i + j))
  | .add, .str x, .str y => if x.length + y.length ≤ sizeLine then some (.str (x ++ y)) else none
  | .add, .tup xs, .tup ys => if xs.length + ys.length ≤ sizeLine then some (.tup (xs ++ ys)) else none
  | .sub, .int i, .int j => some (.int (i - j))
  | .mul, .int i, .int j => if mulOk i j then some (.int (i * j)) else none
  | .fdiv, .int i, .int j => if 0 < j ∧ j < 1073741824 then some (.int (i / j)) else none
  | .mod, .int i, .int j => if 0 < j then some (.int (i % j)) else none
  | .pow, .int i, .int j => if 0 ≤ j ∧ j ≤ 1000000 ∧ i.natAbs < 2 ^ 64 then some (.int (i ^ j.toNat)) else none
  | .shl, .int i, .int j => if 0 ≤ j ∧ j ≤ 1000000 ∧ i.natAbs < 2 ^ 64 then some (.int (i * 2 ^ j.toNat)) else none
  | .shr, .int i, .int j => if 0 ≤ j then some (.int (i / 2 ^ j.toNat)) else none
  | .band, .int i, .int j => some (.int (Builtin.bitAnd i j))
  | .bor, .int i, .int j => some (.int (Builtin.bitOr i j))
  | _, _, _ => none
def cmpD (h : Hh) : Cop → D → D → Option Bool
  | .eq, x, y => eqD h x y
  | .ne, x, y => (eqD h x y).map not
  | .lt, .int i, .int j => some (decide (i < j))
  | .le, .int i, .int j => some (decide (i ≤ j))
  | .gt, .int i, .int j => some (decide (j < i))
  | .ge, .int i, .int j => some (decide (j ≤ i))
  | _, _, _ => none
def isND : D → Bool
  | .non => true
  | _ => false
def isD : Ty → D → Hh → Option Bool
  | .int, .int _, _ => some true
  | .int, .bl _, _ => some true
  | .bool, .bl _, _ => some true
  | .str, .str _, _ => some true
  | .tuple, .tup _, _ => some true
  | t, .ref a, h => (match h[a]? with
    | some (.lst _) => (match t with | .list => some true | _ => some false)
    | _ => none)
  | _, .fro _, _ => none
  | _, _, _ => some false
/-- the items of what is walked or read as a sequence; the cell that must stay -/
def itemsD (h : Hh) : D → Option (List D × Option Nat)
  | .tup xs => some (xs, none)
  | .ref a => match h[a]? with
    | some (.lst xs) => some (xs, some a)
    | _ => none
  | _ => none
def ixD (h : Hh) : D → D → Option D
  | .tup xs, .int i => L2.atI xs i
  | .ref a, .int i => match h[a]? with
    | some (.lst xs) => L2.atI xs i
    | _ => none
  | .str z, .int i => if z.length ≤ sizeLine then (L2.atI z.cps.toList i).map fun c => .str ⟨#[c]⟩ else none
  | _, _ => none
def isNop : E → Bool
  | .nopart => true
  | _ => false
def partD (np : Bool) (d : D) : Option (Option Int) :=
  match np, d with
  | true, _ => some none
  | false, .int i => some (some i)
  | _, _ => none
def cutD (xs : List D) (lo hi : Option Int) : List D := (xs.drop (HT.sIx xs.length 0 lo)).take (HT.sIx xs.length xs.length hi - HT.sIx xs.length 0 lo)
def sqD : Sq → List D → Option D
  | .tuple, ds => some (.tup ds)
  | .sum, ds => (ints? ds).map fun ns => .int ns.sum
  | .all, ds => (bls? ds).map fun bs => .bl (bs.all id)
  | .any, ds => (bls? ds).map fun bs => .bl (bs.any id)
  | .max, ds => (match ints? ds with
    | some (n :: ns) => some (.int (ns.foldl max n))
    | _ => none)
  | .min, ds => (match ints? ds with
    | some (n :: ns) => some (.int (ns.foldl min n))
    | _ => none)
  | .len, ds => some (.int ds.length)
  | _, _ => none
def biD : Bi → List D → Option D
  | .abs, [.int i] => some (.int (if i < 0 then -i else i))
  | .int, [.int i] => some (.int i)
  | .int, [.bl k] => some (.int (if k then 1 else 0))
  | .max, [.int i, .int j] => some (.int (if j > i then j else i))
  | .min, [.int i, .int j] => some (.int (if j < i then j else i))
  | _, _ => none
def lift {α : Type} (o : Option α) : M α := fun h => match o with
  | some a => .ok a h
  | none => .bad
def alloc (ds : List D) : M D := fun h => .ok (.ref h.length) (h ++ [.lst ds])
def setAll : En → List Nat → List D → Option En
  | en, [], [] => some en
  | en, i :: is, d :: ds => setAll (en.set i (some d)) is ds
  | _, _, _ => none
def bindT : Tg → D → En → Option En
  | .one i, d, en => some (en.set i (some d))
  | .many is, .tup ds, en => setAll en is ds
  | _, _, _ => none
def wipeE (en : En) : List Nat → En
  | [] => en
  | v :: vs => (wipeE en vs).set v none
/-- what is walked stays as it is -/
def stays (g : List (Nat × List D)) (h : Hh) : Prop := ∀ p ∈ g, h[p.1]? = some (.lst p.2)
open Classical in
noncomputable def guardM (g : List (Nat × List D)) : M Unit := fun h => if stays g h then .ok () h else .bad
inductive Wd | lst | tup | str | other
  deriving DecidableEq
/-- a walked thing: its items, the cells that must stay, what it is -/
structure Wk where
  its : List D
  gd : List (Nat × List D)
  kind : Wd
def enumD : Nat → List D → List D
  | _, [] => []
  | n, x :: xs => .tup [.int n, x] :: enumD (n + 1) xs
def zipD : List D → List D → List D
  | x :: xs, y :: ys => .tup [x, y] :: zipD xs ys
  | _, _ => []
def rngD (a b : Int) : List D := (List.range (b - a).toNat).map fun i => .int (a + (i : Nat))
/-- the comprehension's items -/
noncomputable def compD (g : List (Nat × List D)) (f : D → M (Option D)) : List D → M (List D)
  | [] => fun h => bd (guardM g h) fun _ h => .ok [] h
  | x :: xs => fun h => bd (guardM g h) fun _ h => bd (f x h) fun o h => bd (compD g f xs h) fun r h => .ok (match o with
    | some y => y :: r
    | none => r) h
/-- inside a comprehension nothing is raised -/
def noErr {α : Type} (r : R α) : R α := match r with
  | .err _ _ => .bad
  | r => r
inductive Rv where
  | val (d : D)
  | fresh (ds : List D)
  | walk (w : Wk)
/-- as a value -/
def settle : Rv → M D
  | .val d => fun h => .ok d h
  | .fresh ds => alloc ds
  | .walk _ => fun _ => .bad
def walkD : D → M Wk
  | .tup xs => fun h => .ok ⟨xs, [], .tup⟩ h
  | .ref a => fun h => match h[a]? with
    | some (.lst xs) => .ok ⟨xs, [(a, xs)], .lst⟩ h
    | _ => .bad
  | .fro xs => fun h => .ok ⟨xs, [], .lst⟩ h
  | .str z => fun h => if z.length ≤ sizeLine then .ok ⟨signsD z, [], .str⟩ h else .bad
  | _ => fun _ => .bad
/-- as what is walked -/
def walkOf : Rv → M Wk
  | .val d => walkD d
  | .fresh ds => fun h => .ok ⟨ds, [], .lst⟩ h
  | .walk w => fun h => .ok w h
def val (r : R D) : R Rv := bd r fun d h => .ok (.val d) h
def sqR (f : Sq) (w : Wk) : Option Rv :=
  match w.kind, f with
  | .other, _ => none
  | .str, .len => some (.val (.int w.its.length))
  | .str, _ => none
  | _, .list => some (.fresh w.its)
  | .lst, .sorted => (sortD w.its).map .fresh
  | .tup, .sorted => none
  | .tup, .all => none
  | .tup, .any => none
  | _, f => (sqD f w.its).map .val
def seqPy (h : Hh) (y : D) : Option (List PyData) :=
  match y.py h with
  | some (.list ds) => some ds
  | some (.tuple ds) => some ds
  | _ => none
def inD (h : Hh) (ng : Bool) : D → D → Option D
  | .str u, .str z => some (.bl (xor ng (!(Builtin.Str.occurrences z u 0 z.length 1).isEmpty)))
  | x, y => match x.py h, seqPy h y with
    | some d, some ds => if SeqAt.shaped d && SeqAt.shaped (.list ds) then some (.bl (xor ng (ds.any fun z => PyData.eqv z d))) else none
    | _, _ => none
def partM (np : Bool) (d : D) : M (Option Int) := fun h => match partD np d with
  | some o => .ok o h
  | none => .bad
def cutR (h : Hh) (x : D) (lo hi : Option Int) : Option Rv :=
  match x with
  | .tup xs => some (.val (.tup (cutD xs lo hi)))
  | .ref a => (match h[a]? with
    | some (.lst xs) => some (.fresh (cutD xs lo hi))
    | _ => none)
  | _ => none
/-- list + list, list * int; else by values -/
def binR (h : Hh) : Bop → D → D → Option Rv
  | .add, .ref a, .ref b => (match h[a]?, h[b]? with
    | some (.lst xs), some (.lst ys) => if xs.length + ys.length ≤ sizeLine then some (.fresh (xs ++ ys)) else none
    | _, _ => none)
  | op, x, y => (binD op x y).map .val
def appM (l y : D) : M D := fun h => match l with
  | .ref a => (match h[a]? with
    | some (.lst xs) => if xs.length < sizeLine then .ok .non (h.set a (.lst (xs ++ [y]))) else .bad
    | _ => .bad)
  | _ => .bad
def isLst (l : D) : M Unit := fun h => match l with
  | .ref a => (match h[a]? with
    | some (.lst _) => .ok () h
    | _ => .bad)
  | _ => .bad
def isStr (l : D) : M Unit := fun h => match l with
  | .str _ => .ok () h
  | _ => .bad
/-- the place that a list's pop takes -/
def pixD (i : Int) (n : Nat) : Option Nat := if -(2 ^ 63) ≤ i ∧ i < 2 ^ 63 then seqIndex? i n else none
def popM (l y : D) : M D := fun h => match l, y with
  | .ref a, .int i => (match h[a]? with
    | some (.lst xs) => (match pixD i xs.length with
      | some k => (match xs[k]? with
        | some z => .ok z (h.set a (.lst (xs.eraseIdx k)))
        | none => .bad)
      | none => .bad)
    | _ => .bad)
  | _, _ => .bad
def indexO (h : Hh) (l y : D) : Option D :=
  match l, l.py h, y.py h with
  | .ref _, some (.list ds), some d => if SeqAt.shaped d && SeqAt.shaped (.list ds) then (ds.findIdx? fun z => PyData.eqv z d).map fun k => .int (k : Nat) else none
  | _, _, _ => none
def splitO : D → D → Option (List D)
  | .str z, .str y => if z.length ≠ 0 ∧ y.length + 2 ≤ sizeLine then some ((Txt.split y z).map .str) else none
  | _, _ => none
def rangeM (x y : D) : M Wk := fun h => match x, y with
  | .int i, .int j => if -(2 ^ 62) ≤ i ∧ i < 2 ^ 62 ∧ -(2 ^ 62) ≤ j ∧ j < 2 ^ 62 then .ok ⟨rngD i j, [], .other⟩ h else .bad
  | _, _ => .bad
noncomputable def compM (own : List Nat) (t : Tg) (f : En → M (Option D)) (w : Wk) (en : En) : M (List D) := fun h =>
  if w.its.length ≤ sizeLine then noErr (compD w.gd (fun x => match bindT t x (wipeE en own) with
    | none => fun _ => .bad
    | some en1 => f en1) w.its h) else .bad
def mapK {κ : Type} (f : D → Option κ) : List D → Option (List κ)
  | [] => some []
  | d :: ds => match f d, mapK f ds with
    | some k, some ks => some (k :: ks)
    | _, _ => none
def keyD : D → Option L2.Key
  | .int i => some (.inl i)
  | .str z => some (.inr z)
  | _ => none
def intD : D → Option Int
  | .int i => some i
  | _ => none
def lensetO (ds : List D) : Option Rv := match mapK keyD ds with
  | some ks => if ks.length ≤ 1000 then some (.val (.int (@List.eraseDups L2.Key instBEqOfDecidableEq ks).length)) else none
  | none => none
def sortsetO (ds : List D) : Option Rv := match mapK intD ds with
  | some ns => if ns.length < 64 then some (.fresh ((sortI (@List.eraseDups Int instBEqOfDecidableEq ns)).map .int)) else none
  | none => none
/-- what an expression gives, ahead of a new list's being laid -/
noncomputable def evW (Φ : Nat → List D → M D) : E → En → M Rv
  | .var i, en => fun h => match en[i]? with
    | some (some d) => .ok (.val d) h
    | _ => .bad
  | .cst d, _ => fun h => .ok (.val d) h
  | .glb _ d, _ => fun h => .ok (.val d) h
  | .nopart, _ => fun h => .ok (.val .non) h
  | .tup es, en => fun h => bd (evWs Φ es en h) fun ds h => .ok (.val (.tup ds)) h
  | .lst es, en => fun h => bd (evWs Φ es en h) fun ds h => .ok (.fresh ds) h
  | .bin op a b, en => fun h => bd (bd (evW Φ a en h) settle) fun x h => bd (bd (evW Φ b en h) settle) fun y h => lift (binR h op x y) h
  | .neg a, en => fun h => bd (bd (evW Φ a en h) settle) fun x h => match x with
    | .int i => .ok (.val (.int (-i))) h
    | _ => .bad
  | .cmp op a b, en => fun h => bd (bd (evW Φ a en h) settle) fun x h => bd (bd (evW Φ b en h) settle) fun y h => lift ((cmpD h op x y).map fun k => .val (.bl k)) h
  | .chain o o' a b c, en => fun h => bd (bd (evW Φ a en h) settle) fun x h => bd (bd (evW Φ b en h) settle) fun y h => bd (lift (cmpD h o x y) h) fun k h =>
      match k with
      | true => bd (bd (evW Φ c en h) settle) fun z h => lift ((cmpD h o' y z).map fun k => .val (.bl k)) h
      | false => .ok (.val (.bl false)) h
  | .isN ng a, en => fun h => bd (bd (evW Φ a en h) settle) fun x h => .ok (.val (.bl (xor ng (isND x)))) h
  | .isIn ng a b, en => fun h => bd (bd (evW Φ a en h) settle) fun x h => bd (bd (evW Φ b en h) settle) fun y h => lift ((inD h ng x y).map .val) h
  | .and es, en => evAnd Φ es en
  | .or es, en => evOr Φ es en
  | .not a, en => fun h => bd (bd (evW Φ a en h) settle) fun x h => match x with
    | .bl b => .ok (.val (.bl (!b))) h
    | _ => .bad
  | .ite c a b, en => fun h => bd (bd (evW Φ c en h) settle) fun x h => match x with
    | .bl true => val (bd (evW Φ a en h) settle)
    | .bl false => val (bd (evW Φ b en h) settle)
    | _ => .bad
  | .idx a i, en => fun h => bd (bd (evW Φ a en h) settle) fun x h => bd (bd (evW Φ i en h) settle) fun y h => lift ((ixD h x y).map .val) h
  | .sl a lo hi, en => fun h => bd (bd (evW Φ a en h) settle) fun x h => bd (bd (bd (evW Φ lo en h) settle) (partM (isNop lo))) fun l h => bd (bd (bd (evW Φ hi en h) settle) (partM (isNop hi))) fun u h => lift (cutR h x l u) h
  | .call f es, en => fun h => bd (evWs Φ es en h) fun ds h => val (Φ f ds h)
  | .sq f e, en => fun h => bd (bd (evW Φ e en h) walkOf) fun p h => lift (sqR f p) h
  | .bi f es, en => fun h => bd (evWs Φ es en h) fun ds h => lift ((biD f ds).map .val) h
  | .isi a t, en => fun h => bd (bd (evW Φ a en h) settle) fun x h => lift ((isD t x h).map fun k => .val (.bl k)) h
  | .app o x, en => fun h => bd (bd (evW Φ o en h) settle) fun l h => bd (isLst l h) fun _ h => bd (bd (evW Φ x en h) settle) fun y h => val (appM l y h)
  | .popI o i, en => fun h => bd (bd (evW Φ o en h) settle) fun l h => bd (isLst l h) fun _ h => bd (bd (evW Φ i en h) settle) fun y h => val (popM l y h)
  | .index o x, en => fun h => bd (bd (evW Φ o en h) settle) fun l h => bd (isLst l h) fun _ h => bd (bd (evW Φ x en h) settle) fun y h => lift ((indexO h l y).map .val) h
  | .split o x, en => fun h => bd (bd (evW Φ o en h) settle) fun l h => bd (isStr l h) fun _ h => bd (bd (evW Φ x en h) settle) fun y h => lift ((splitO y l).map .fresh) h
  | .comp own t it cd c e, en => fun h => bd (bd (evW Φ it en h) walkOf) fun w h => bd (compM own t (fun en1 h => match cd with
      | true => bd (bd (evW Φ c en1 h) settle) fun k h => (match k with
        | .bl true => bd (bd (evW Φ e en1 h) settle) fun y h => .ok (some y) h
        | .bl false => .ok none h
        | _ => .bad)
      | false => bd (bd (evW Φ e en1 h) settle) fun y h => .ok (some y) h) w en h) fun ds h => .ok (.fresh ds) h
  | .lenset own t it cd c e, en => fun h => bd (bd (evW Φ it en h) walkOf) fun w h => bd (compM own t (fun en1 h => match cd with
      | true => bd (bd (evW Φ c en1 h) settle) fun k h => (match k with
        | .bl true => bd (bd (evW Φ e en1 h) settle) fun y h => .ok (some y) h
        | .bl false => .ok none h
        | _ => .bad)
      | false => bd (bd (evW Φ e en1 h) settle) fun y h => .ok (some y) h) w en h) fun ds h => lift (lensetO ds) h
  | .sortset own t it cd c e, en => fun h => bd (bd (evW Φ it en h) walkOf) fun w h => bd (compM own t (fun en1 h => match cd with
      | true => bd (bd (evW Φ c en1 h) settle) fun k h => (match k with
        | .bl true => bd (bd (evW Φ e en1 h) settle) fun y h => .ok (some y) h
        | .bl false => .ok none h
        | _ => .bad)
      | false => bd (bd (evW Φ e en1 h) settle) fun y h => .ok (some y) h) w en h) fun ds h => lift (sortsetO ds) h
  | .rng1 n, en => fun h => bd (bd (evW Φ n en h) settle) fun x h => bd (rangeM (.int 0) x h) fun w h => .ok (.walk w) h
  | .rng2 a b, en => fun h => bd (bd (evW Φ a en h) settle) fun x h => bd (bd (evW Φ b en h) settle) fun y h => bd (rangeM x y h) fun w h => .ok (.walk w) h
  | .enum e, en => fun h => bd (bd (evW Φ e en h) walkOf) fun w h => (if w.kind = .lst ∨ w.kind = .tup then .ok (.walk ⟨enumD 0 w.its, w.gd, .other⟩) h else .bad)
  | .zip a b, en => fun h => bd (bd (evW Φ a en h) walkOf) fun w h => bd (bd (evW Φ b en h) walkOf) fun u h => bd (guardM w.gd h) fun _ h => (if w.kind = u.kind ∧ (w.kind = .lst ∨ w.kind = .tup) then .ok (.walk ⟨zipD w.its u.its, w.gd ++ u.gd, .other⟩) h else .bad)
where
evWs (Φ : Nat → List D → M D) : List E → En → M (List D)
  | [], _ => fun h => .ok [] h
  | e :: es, en => fun h => bd (bd (evW Φ e en h) settle) fun x h => bd (evWs Φ es en h) fun xs h => .ok (x :: xs) h
evAnd (Φ : Nat → List D → M D) : List E → En → M Rv
  | [], _ => fun _ => .bad
  | [e], en => fun h => val (bd (evW Φ e en h) settle)
  | e :: e2 :: es, en => fun h => bd (bd (evW Φ e en h) settle) fun x h => match x with
    | .bl true => evAnd Φ (e2 :: es) en h
    | .bl false => .ok (.val (.bl false)) h
    | _ => .bad
evOr (Φ : Nat → List D → M D) : List E → En → M Rv
  | [], _ => fun _ => .bad
  | [e], en => fun h => val (bd (evW Φ e en h) settle)
  | e :: e2 :: es, en => fun h => bd (bd (evW Φ e en h) settle) fun x h => match x with
    | .bl true => .ok (.val (.bl true)) h
    | .bl false => evOr Φ (e2 :: es) en h
    | _ => .bad
/-! ### statements -/
/-- the exception classes: which is whose, what fields they take -/
structure XS where
  n : Nat
  isx : Nat → Nat → Bool
  flds : Nat → List Str
def boolM (d : D) : M Bool := fun h => match d with
  | .bl b => .ok b h
  | _ => .bad
def mkX (xs : XS) (c : Nat) (ds : List D) : M (Fl × En) := fun h => if (xs.flds c).length = ds.length then .err ⟨c, (xs.flds c).zip ds⟩ h else .bad
def setM (l i y : D) : M Unit := fun h => match l, i with
  | .ref a, .int k => (match h[a]? with
    | some (.lst xs) => (match L2.ixN xs.length k with
      | some j => .ok () (h.set a (.lst (xs.set j y)))
      | none => .bad)
    | _ => .bad)
  | _, _ => .bad
def getM (l i : D) : M D := fun h => match l, i with
  | .ref a, .int k => (match h[a]? with
    | some (.lst xs) => (match L2.atI xs k with
      | some d => .ok d h
      | none => .bad)
    | _ => .bad)
  | _, _ => .bad
def addM (x y : D) : M D := fun h => match x, y with
  | .int i, .int j => .ok (.int (i + j)) h
  | _, _ => .bad
noncomputable def forM (g : List (Nat × List D)) (t : Tg) (b : En → M (Fl × En)) : List D → En → M (Fl × En)
  | [], en => fun h => bd (guardM g h) fun _ h => .ok (.nx, en) h
  | x :: xs, en => fun h => bd (guardM g h) fun _ h => match bindT t x en with
    | none => .bad
    | some en1 => bd (b en1 h) fun q h => match q with
      | (.nx, en2) => forM g t b xs en2 h
      | (.ct, en2) => forM g t b xs en2 h
      | (.bk, en2) => .ok (.nx, en2) h
      | (.rt d, en2) => .ok (.rt d, en2) h
def whileN (c : En → M Bool) (b : En → M (Fl × En)) : Nat → En → M (Fl × En)
  | 0, _ => fun _ => .bad
  | n + 1, en => fun h => bd (c en h) fun k h => match k with
    | false => .ok (.nx, en) h
    | true => bd (b en h) fun q h => match q with
      | (.nx, en2) => whileN c b n en2 h
      | (.ct, en2) => whileN c b n en2 h
      | (.bk, en2) => .ok (.nx, en2) h
      | (.rt d, en2) => .ok (.rt d, en2) h
open Classical in
noncomputable def whileM (c : En → M Bool) (b : En → M (Fl × En)) (en : En) : M (Fl × En) := fun h =>
  if hx : ∃ n, whileN c b n en h ≠ .bad then whileN c b hx.choose en h else .bad
/-- an exception of r is handled -/
def tryR {α : Type} (r : R α) (f : Xn → Hh → R α) : R α := match r with
  | .err x h => f x h
  | r => r
def evHE (xs : XS) (x : Xn) : HE → Option D
  | .cst d => some d
  | .fld k f => if x.cls = k then x.fs.lookup f else none
  | .tup es => (evHEs xs x es).map .tup
  | .isx c => some (.bl (xs.isx x.cls c))
  | .not a => match evHE xs x a with
    | some (.bl b) => some (.bl (!b))
    | _ => none
  | .and a b => match evHE xs x a with
    | some (.bl true) => evHE xs x b
    | some (.bl false) => some (.bl false)
    | _ => none
where evHEs (xs : XS) (x : Xn) : List HE → Option (List D)
  | [] => some []
  | e :: es => match evHE xs x e, evHEs xs x es with
    | some d, some ds => some (d :: ds)
    | _, _ => none
def handM (xs : XS) (x : Xn) (hd : HS) (sl : Nat) (en : En) : M (Fl × En) := fun h => match hd with
  | .ret e => (match evHE xs x e with
    | some d => if sl < en.length then .ok (.rt d, en) h else .bad
    | none => .bad)
  | .cond c e => if sl < en.length then (match evHE xs x c with
    | some (.bl true) => (match evHE xs x e with
      | some d => .ok (.rt d, en) h
      | none => .bad)
    | some (.bl false) => .ok (.nx, en) h
    | _ => .bad) else .bad
  | .re c d => mkX xs c [d] h
noncomputable def evS (xs : XS) (Φ : Nat → List D → M D) : S → En → M (Fl × En)
  | .asg i e, en => fun h => bd (bd (evW Φ e en h) settle) fun d h => .ok (.nx, en.set i (some d)) h
  | .asgT is e, en => fun h => bd (bd (evW Φ e en h) settle) fun d h => match bindT (.many is) d en with
    | some en' => .ok (.nx, en') h
    | none => .bad
  | .par i j a b, en => fun h => bd (bd (evW Φ a en h) settle) fun x h => bd (bd (evW Φ b en h) settle) fun y h => .ok (.nx, (en.set i (some x)).set j (some y)) h
  | .setI o i e, en => fun h => bd (bd (evW Φ e en h) settle) fun y h => bd (bd (evW Φ o en h) settle) fun l h => bd (bd (evW Φ i en h) settle) fun k h => bd (setM l k y h) fun _ h => .ok (.nx, en) h
  | .addI o i e, en => fun h => bd (bd (evW Φ o en h) settle) fun l h => bd (bd (evW Φ i en h) settle) fun k h => bd (getM l k h) fun x h => bd (bd (evW Φ e en h) settle) fun y h => bd (addM x y h) fun z h => bd (setM l k z h) fun _ h => .ok (.nx, en) h
  | .ex e, en => fun h => bd (bd (evW Φ e en h) settle) fun _ h => .ok (.nx, en) h
  | .ret e, en => fun h => bd (bd (evW Φ e en h) settle) fun d h => .ok (.rt d, en) h
  | .ifs c a b, en => fun h => bd (bd (bd (evW Φ c en h) settle) boolM) fun k h => match k with
    | true => evSs xs Φ a en h
    | false => evSs xs Φ b en h
  | .for_ t it b, en => fun h => bd (bd (evW Φ it en h) walkOf) fun w h => forM w.gd t (evSs xs Φ b) w.its en h
  | .while_ c b, en => fun h => whileM (fun en h => bd (bd (evW Φ c en h) settle) boolM) (evSs xs Φ b) en h
  | .raise c es, en => fun h => bd (evW.evWs Φ es en h) fun ds h => mkX xs c ds h
  | .try_ b c sl hd, en => fun h => tryR (evS xs Φ b en h) fun x h => if x.cls < xs.n then (if xs.isx x.cls c then bd (handM xs x hd sl en h) fun q h => .ok (q.1, q.2.set sl none) h else .err x h) else .bad
  | .pass, en => fun h => .ok (.nx, en) h
  | .brk, en => fun h => .ok (.bk, en) h
  | .cnt, en => fun h => .ok (.ct, en) h
where evSs (xs : XS) (Φ : Nat → List D → M D) : List S → En → M (Fl × En)
  | [], en => fun h => .ok (.nx, en) h
  | m :: ms, en => fun h => bd (evS xs Φ m en h) fun q h => match q with
    | (.nx, en2) => evSs xs Φ ms en2 h
    | (.ct, en2) => .ok (.ct, en2) h
    | (.bk, en2) => .ok (.bk, en2) h
    | (.rt d, en2) => .ok (.rt d, en2) h
end Mp
namespace Mp
open PySem
/-! ### defs -/
mutual
def closD (n : Nat) : D → Bool
  | .ref a => decide (a < n)
  | .tup xs => closDs n xs
  | .fro xs => closDs n xs
  | _ => true
def closDs (n : Nat) : List D → Bool
  | [] => true
  | x :: xs => closD n x && closDs n xs
end
def closC (n : Nat) : Cell → Bool
  | .lst xs => closDs n xs
  | .dct _ => false
/-- what was made in a call and is not handed out is forgotten -/
def leave (n : Nat) (r : R D) : R D := match r with
  | .ok d h => if closD n d && (h.take n).all (closC n) then .ok d (h.take n) else .ok d h
  | .err x h => if closDs n (x.fs.map (·.2)) && (h.take n).all (closC n) then .err x (h.take n) else .err x h
  | .bad => .bad
structure MDef where
  name : Str
  np : Nat
  N : List Str
  body : List S
noncomputable def runDef (xs : XS) (Φ : Nat → List D → M D) (d : MDef) (args : List D) : M D := fun h =>
  if args.length = d.np then leave h.length (bd (evS.evSs xs Φ d.body (args.map some ++ List.replicate (d.N.length - d.np) none) h) fun q h => match q.1 with
    | .rt d => .ok d h
    | .nx => .ok .non h
    | _ => .bad) else .bad
noncomputable def phi (xs : XS) (defs : List MDef) : Nat → Nat → List D → M D
  | 0 => fun _ _ _ => .bad
  | n + 1 => fun f => if f = n then (match defs[n]? with
    | some d => runDef xs (phi xs defs n) d
    | none => fun _ _ => .bad) else phi xs defs n f
end Mp
set_option Elab.async false
set_option linter.all false
set_option maxRecDepth 100000
set_option maxHeartbeats 1000000
/-! Mp1: how plain data lie in the abstract heap -/
namespace Mp
open PySem PySem.Spec PyProof.Rows L2

example (Φ : Nat → List D → M D) (d : D) (en : En) (h : Hh) : evW Φ (.cst d) en h = .ok (.val d) h := rfl
example (Φ : Nat → List D → M D) (d : D) (en : En) (h : Hh) : evW Φ (.tup [.cst d, .cst d]) en h = .ok (.val (.tup [d, d])) h := rfl

/-- a list that nothing may write -/
def SqF (K : PySem.W.Frag) (H : Hp) (a : Addr) (vs : List V) : Prop :=
  (∃ o, H a = some (.frz o (.lst vs))) ∨ ∃ (o : Obj) (its : Array Value) (n : Nat), K.lookup a = some o ∧ o.cls = .type "list" ∧ o.dict = none ∧ o.data = .seq its n ∧ its.size ≤ sizeLine ∧ Vals vs its.toList
theorem SqF.sq {K : PySem.W.Frag} {H : Hp} {a : Addr} {vs : List V} (s : SqF K H a vs) : SqL K H a vs := s.elim (fun q => .inl (.inr q)) .inr
mutual
def Rep (K : PySem.W.Frag) (ρ : List Addr) (H : Hp) : D → V → Prop
  | .non, v => v = .non
  | .bl b, v => v = .bl b
  | .int i, v => v = .int i
  | .str s, v => v = .str s
  | .tup xs, v => ∃ a vs, v = .ref a ∧ SqT K H a vs ∧ Reps K ρ H xs vs
  | .ref n, v => ∃ a, v = .ref a ∧ ρ[n]? = some a
  | .fro xs, v => ∃ a vs, v = .ref a ∧ SqF K H a vs ∧ Reps K ρ H xs vs
def Reps (K : PySem.W.Frag) (ρ : List Addr) (H : Hp) : List D → List V → Prop
  | [], vs => vs = []
  | d :: ds, vs => ∃ v r, vs = v :: r ∧ Rep K ρ H d v ∧ Reps K ρ H ds r
end

/-- what a cell is -/
def CellR (K : PySem.W.Frag) (ρ : List Addr) (H : Hp) : Cell → Option HO → Prop
  | .lst ds, o => ∃ vs, o = some (.lst vs) ∧ Reps K ρ H ds vs
  | .dct _, _ => False
structure HR (K : PySem.W.Frag) (ρ : List Addr) (H : Hp) (h : Hh) : Prop where
  len : ρ.length = h.length
  nd : ρ.Nodup
  cell : ∀ (n : Nat) (a : Addr) (c : Cell), ρ[n]? = some a → h[n]? = some c → CellR K ρ H c (H a)
structure EnR (K : PySem.W.Frag) (ρ : List Addr) (H : Hp) (en : En) (σ : L2.St) : Prop where
  len : en.length = σ.length
  get : ∀ (i : Nat) (d : D), en[i]? = some (some d) → ∃ v, σ[i]? = some (some v) ∧ Rep K ρ H d v
/-- later: the cells' addresses go on, new ones were free; what is no cell stays -/
structure Ge (ρ : List Addr) (H : Hp) (ρ' : List Addr) (H' : Hp) : Prop where
  ext : ∃ e, ρ' = ρ ++ e ∧ ∀ a ∈ e, H a = none
  keep : ∀ a o, a ∉ ρ → H a = some o → H' a = some o

section
variable {K : PySem.W.Frag} {ρ ρ' ρ'' : List Addr} {H H' H'' : Hp} {h h' : Hh}
theorem Ge.refl (ρ : List Addr) (H : Hp) : Ge ρ H ρ H := ⟨⟨[], by simp, fun _ z => by simp at z⟩, fun _ _ _ e => e⟩
theorem Ge.at (g : Ge ρ H ρ' H') {n : Nat} {a : Addr} (e : ρ[n]? = some a) : ρ'[n]? = some a := by
  obtain ⟨x, rfl, _⟩ := g.ext
  rw [List.getElem?_append_left (List.getElem?_eq_some_iff.mp e).1]
  exact e
theorem Ge.len (g : Ge ρ H ρ' H') : ρ.length ≤ ρ'.length := by
  obtain ⟨x, rfl, _⟩ := g.ext
  simp
theorem Ge.old (g : Ge ρ H ρ' H') {a : Addr} {o : HO} (n : a ∉ ρ) (e : H a = some o) : a ∉ ρ' := by
  obtain ⟨x, rfl, hx⟩ := g.ext
  intro z
  rcases List.mem_append.mp z with z | z
  · exact n z
  · rw [hx a z] at e; cases e
theorem HR.cell_some (r : HR K ρ H h) {a : Addr} (ha : a ∈ ρ) : ∃ vs, H a = some (.lst vs) := by
  obtain ⟨n, hn⟩ := List.getElem?_of_mem ha
  have hl := (List.getElem?_eq_some_iff.mp hn).1
  rw [r.len] at hl
  have hc := r.cell n a h[n] hn (List.getElem?_eq_getElem hl)
  cases e : h[n] with
  | lst ds => rw [e] at hc; obtain ⟨vs, q, _⟩ := hc; exact ⟨vs, q⟩
  | dct kvs => rw [e] at hc; exact hc.elim
theorem Ge.back (g : Ge ρ H ρ' H') (r : HR K ρ' H' h') {q : Addr} (z : H' q = none) : H q = none := by
  cases e : H q with
  | none => rfl
  | some o =>
    by_cases m : q ∈ ρ
    · obtain ⟨x, rfl, _⟩ := g.ext
      obtain ⟨vs, w⟩ := r.cell_some (List.mem_append_left _ m)
      rw [w] at z; cases z
    · rw [g.keep q o m e] at z; cases z
theorem Ge.trans (a : Ge ρ H ρ' H') (r : HR K ρ' H' h') (b : Ge ρ' H' ρ'' H'') : Ge ρ H ρ'' H'' := by
  have bk := fun q z => a.back r (q := q) z
  obtain ⟨⟨x, rfl, hx⟩, ka⟩ := id a
  obtain ⟨⟨y, rfl, hy⟩, kb⟩ := id b
  refine ⟨⟨x ++ y, by simp, fun q z => ?_⟩, fun q o n e => kb q o (a.old n e) (ka q o n e)⟩
  rcases List.mem_append.mp z with z | z
  · exact hx q z
  · exact bk q (hy q z)
/-- an object newly laid that is no cell -/
theorem Ge.new {p : Addr} {o : HO} (hp : H p = none) (_r : HR K ρ H h) : Ge ρ H ρ (upd H p o) := ⟨⟨[], by simp, fun _ z => by simp at z⟩, fun a u _ e => by rw [upd_ne (ne_of_none e hp)]; exact e⟩
/-- a cell is changed -/
theorem Ge.cell {p : Addr} {o : HO} (hp : p ∈ ρ) : Ge ρ H ρ (upd H p o) := ⟨⟨[], by simp, fun _ z => by simp at z⟩, fun a u n e => by rw [upd_ne (by rintro rfl; exact n hp)]; exact e⟩
/-- what may be read as a tuple stays -/
theorem Ge.tup (g : Ge ρ H ρ' H') (r : HR K ρ H h) {a : Addr} {vs : List V} (s : SqT K H a vs) : SqT K H' a vs := by
  have nt : ∀ {u : HO}, H a = some u → (∀ ws, u ≠ .lst ws) → a ∉ ρ := fun {u} e ne m => by
    obtain ⟨ws, q⟩ := r.cell_some m
    rw [e] at q
    exact ne ws (Option.some.inj q)
  rcases s with (q | ⟨o, q⟩) | q
  · exact .inl (.inl (g.keep a _ (nt q fun _ z => by cases z) q))
  · exact .inl (.inr ⟨o, g.keep a _ (nt q fun _ z => by cases z) q⟩)
  · exact .inr q
/-- what nothing may write stays -/
theorem Ge.fro (g : Ge ρ H ρ' H') (r : HR K ρ H h) {a : Addr} {vs : List V} (s : SqF K H a vs) : SqF K H' a vs := by
  rcases s with ⟨o, q⟩ | q
  · refine .inl ⟨o, g.keep a _ (fun m => ?_) q⟩
    obtain ⟨ws, e⟩ := r.cell_some m
    rw [q] at e; cases e
  · exact .inr q
/-- a list that is no cell stays -/
theorem Ge.lst (g : Ge ρ H ρ' H') {a : Addr} {vs : List V} (n : a ∉ ρ) (s : SqL K H a vs) : SqL K H' a vs := by
  rcases s with (q | ⟨o, q⟩) | q
  · exact .inl (.inl (g.keep a _ n q))
  · exact .inl (.inr ⟨o, g.keep a _ n q⟩)
  · exact .inr q
mutual
theorem Rep.imp (ha : ∀ (n : Nat) (a : Addr), ρ[n]? = some a → ρ'[n]? = some a) (ht : ∀ a vs, SqT K H a vs → SqT K H' a vs) (hf : ∀ a vs, SqF K H a vs → SqF K H' a vs) : ∀ {d : D} {v : V}, Rep K ρ H d v → Rep K ρ' H' d v
  | .non, _, q => q
  | .bl _, _, q => q
  | .int _, _, q => q
  | .str _, _, q => q
  | .tup xs, _, q => by
    obtain ⟨a, vs, e, s, t⟩ := q
    exact ⟨a, vs, e, ht a vs s, Reps.imp ha ht hf t⟩
  | .fro xs, _, q => by
    obtain ⟨a, vs, e, s, t⟩ := q
    exact ⟨a, vs, e, hf a vs s, Reps.imp ha ht hf t⟩
  | .ref n, _, q => by
    obtain ⟨a, e, s⟩ := q
    exact ⟨a, e, ha n a s⟩
theorem Reps.imp (ha : ∀ (n : Nat) (a : Addr), ρ[n]? = some a → ρ'[n]? = some a) (ht : ∀ a vs, SqT K H a vs → SqT K H' a vs) (hf : ∀ a vs, SqF K H a vs → SqF K H' a vs) : ∀ {ds : List D} {vs : List V}, Reps K ρ H ds vs → Reps K ρ' H' ds vs
  | [], _, q => q
  | d :: ds, _, q => by
    obtain ⟨v, t, e, q1, q2⟩ := q
    exact ⟨v, t, e, Rep.imp ha ht hf q1, Reps.imp ha ht hf q2⟩
end
theorem Rep.mono (g : Ge ρ H ρ' H') (r : HR K ρ H h) {d : D} {v : V} (q : Rep K ρ H d v) : Rep K ρ' H' d v := q.imp (fun _ _ e => g.at e) (fun _ _ s => g.tup r s) fun _ _ s => g.fro r s
theorem Reps.mono (g : Ge ρ H ρ' H') (r : HR K ρ H h) {ds : List D} {vs : List V} (q : Reps K ρ H ds vs) : Reps K ρ' H' ds vs := q.imp (fun _ _ e => g.at e) (fun _ _ s => g.tup r s) fun _ _ s => g.fro r s
theorem at_app {e : List Addr} (n : Nat) (a : Addr) (h : ρ[n]? = some a) : (ρ ++ e)[n]? = some a := by
  rw [List.getElem?_append_left (List.getElem?_eq_some_iff.mp h).1]
  exact h
theorem Rep.ext {e : List Addr} {d : D} {v : V} (q : Rep K ρ H d v) : Rep K (ρ ++ e) H d v := q.imp at_app (fun _ _ s => s) fun _ _ s => s
theorem Reps.ext {e : List Addr} {ds : List D} {vs : List V} (q : Reps K ρ H ds vs) : Reps K (ρ ++ e) H ds vs := q.imp at_app (fun _ _ s => s) fun _ _ s => s
theorem Reps.length : ∀ {ds : List D} {vs : List V}, Reps K ρ H ds vs → vs.length = ds.length
  | [], _, q => by cases q; rfl
  | d :: ds, _, q => by
    obtain ⟨v, t, rfl, q1, q2⟩ := q
    simp [Reps.length q2]
theorem Reps.get : ∀ {ds : List D} {vs : List V}, Reps K ρ H ds vs → ∀ {i : Nat} {d : D}, ds[i]? = some d → ∃ v, vs[i]? = some v ∧ Rep K ρ H d v
  | [], _, _, i, d, e => by simp at e
  | x :: ds, _, q, i, d, e => by
    obtain ⟨v, t, rfl, q1, q2⟩ := q
    cases i with
    | zero => simp at e; subst e; exact ⟨v, by simp, q1⟩
    | succ i => simp at e; obtain ⟨w, e1, e2⟩ := Reps.get q2 e; exact ⟨w, by simpa using e1, e2⟩
theorem Reps.append : ∀ {ds es : List D} {vs ws : List V}, Reps K ρ H ds vs → Reps K ρ H es ws → Reps K ρ H (ds ++ es) (vs ++ ws)
  | [], _, _, _, q, p => by cases q; exact p
  | d :: ds, _, _, _, q, p => by
    obtain ⟨v, t, rfl, q1, q2⟩ := q
    exact ⟨v, t ++ _, rfl, q1, Reps.append q2 p⟩
theorem Reps.drop : ∀ (n : Nat) {ds : List D} {vs : List V}, Reps K ρ H ds vs → Reps K ρ H (ds.drop n) (vs.drop n)
  | 0, _, _, q => q
  | n + 1, [], _, q => by cases q; exact rfl
  | n + 1, d :: ds, _, q => by
    obtain ⟨v, t, rfl, q1, q2⟩ := q
    exact Reps.drop n q2
theorem Reps.take : ∀ (n : Nat) {ds : List D} {vs : List V}, Reps K ρ H ds vs → Reps K ρ H (ds.take n) (vs.take n)
  | 0, _, _, q => rfl
  | n + 1, [], _, q => by cases q; exact rfl
  | n + 1, d :: ds, _, q => by
    obtain ⟨v, t, rfl, q1, q2⟩ := q
    exact ⟨v, _, rfl, q1, Reps.take n q2⟩
theorem Reps.eraseIdx : ∀ (n : Nat) {ds : List D} {vs : List V}, Reps K ρ H ds vs → Reps K ρ H (ds.eraseIdx n) (vs.eraseIdx n)
  | _, [], _, q => by cases q; exact rfl
  | 0, d :: ds, _, q => by
    obtain ⟨v, t, rfl, q1, q2⟩ := q
    exact q2
  | n + 1, d :: ds, _, q => by
    obtain ⟨v, t, rfl, q1, q2⟩ := q
    exact ⟨v, _, rfl, q1, Reps.eraseIdx n q2⟩
theorem Reps.set {x : D} {y : V} (p : Rep K ρ H x y) : ∀ (n : Nat) {ds : List D} {vs : List V}, Reps K ρ H ds vs → Reps K ρ H (ds.set n x) (vs.set n y)
  | _, [], _, q => by cases q; exact rfl
  | 0, d :: ds, _, q => by
    obtain ⟨v, t, rfl, q1, q2⟩ := q
    exact ⟨y, _, rfl, p, q2⟩
  | n + 1, d :: ds, _, q => by
    obtain ⟨v, t, rfl, q1, q2⟩ := q
    exact ⟨v, _, rfl, q1, Reps.set p n q2⟩
theorem CellR.mono {c : Cell} {o : Option HO} (g : Ge ρ H ρ' H') (r : HR K ρ H h) (q : CellR K ρ H c o) : CellR K ρ' H' c o := by
  cases c with
  | lst ds => obtain ⟨vs, e, p⟩ := q; exact ⟨vs, e, p.mono g r⟩
  | dct kvs => exact q.elim
theorem CellR.ext {c : Cell} {o : Option HO} {e : List Addr} (q : CellR K ρ H c o) : CellR K (ρ ++ e) H c o := by
  cases c with
  | lst ds => obtain ⟨vs, e, p⟩ := q; exact ⟨vs, e, p.ext⟩
  | dct kvs => exact q.elim
theorem EnR.mono {en : En} {σ : L2.St} (g : Ge ρ H ρ' H') (r : HR K ρ H h) (q : EnR K ρ H en σ) : EnR K ρ' H' en σ :=
  ⟨q.len, fun i d e => let ⟨v, a, b⟩ := q.get i d e; ⟨v, a, b.mono g r⟩⟩
/-- an object newly laid that is no cell -/
theorem HR.new {p : Addr} {o : HO} (r : HR K ρ H h) (hp : H p = none) : HR K ρ (upd H p o) h :=
  ⟨r.len, r.nd, fun n a c e1 e2 => by
    have q := (r.cell n a c e1 e2).mono (Ge.new (o := o) hp r) r
    have m : a ∈ ρ := List.mem_of_getElem? e1
    obtain ⟨vs, w⟩ := r.cell_some m
    rw [upd_ne (ne_of_none w hp)]
    exact q⟩
/-- a list that was laid becomes a cell -/
theorem HR.own {p : Addr} {ds : List D} {vs : List V} (r : HR K ρ H h) (hp : H p = some (.lst vs)) (n : p ∉ ρ) (q : Reps K ρ H ds vs) : HR K (ρ ++ [p]) H (h ++ [.lst ds]) := by
  refine ⟨by simp [r.len], ?_, fun i a c e1 e2 => ?_⟩
  · rw [List.nodup_append]
    exact ⟨r.nd, by simp, fun a ha b hb => by simp at hb; subst hb; exact fun z => n (z ▸ ha)⟩
  · by_cases hi : i < ρ.length
    · rw [List.getElem?_append_left hi] at e1
      rw [List.getElem?_append_left (by rw [← r.len]; exact hi)] at e2
      exact (r.cell i a c e1 e2).ext
    · rw [List.getElem?_append_right (by omega)] at e1
      rw [List.getElem?_append_right (by rw [← r.len]; omega), ← r.len] at e2
      have hz : i - ρ.length = 0 := by
        have := (List.getElem?_eq_some_iff.mp e1).1
        simp at this; omega
      rw [hz] at e1 e2
      simp at e1 e2
      subst e1 e2
      exact ⟨vs, hp, q.ext⟩
/-- a cell is written -/
theorem HR.set {n : Nat} {p : Addr} {ds : List D} {vs : List V} (r : HR K ρ H h) (hp : ρ[n]? = some p) (q : Reps K ρ H ds vs) : HR K ρ (upd H p (.lst vs)) (h.set n (.lst ds)) := by
  have m : p ∈ ρ := List.mem_of_getElem? hp
  have g : Ge ρ H ρ (upd H p (.lst vs)) := Ge.cell m
  refine ⟨by simp [r.len], r.nd, fun i a c e1 e2 => ?_⟩
  by_cases hi : i = n
  · subst hi
    rw [hp] at e1; cases e1
    have hl : i < h.length := by rw [← r.len]; exact (List.getElem?_eq_some_iff.mp hp).1
    rw [List.getElem?_set_self hl] at e2
    cases e2
    exact ⟨vs, upd_same, q.mono g r⟩
  · rw [List.getElem?_set_ne (Ne.symm hi)] at e2
    have ne : a ≠ p := fun z => by
      subst z
      obtain ⟨h1, e1⟩ := List.getElem?_eq_some_iff.mp e1
      obtain ⟨h2, e2'⟩ := List.getElem?_eq_some_iff.mp hp
      exact hi ((List.getElem_inj r.nd).mp (e1.trans e2'.symm))
    rw [upd_ne ne]
    exact (r.cell i a c e1 e2).mono g r
end
end Mp
set_option Elab.async false
set_option linter.all false
set_option maxRecDepth 100000
set_option maxHeartbeats 1000000
/-! Mp2: what a computation promises of the abstract heap -/
namespace Mp
open PySem PySem.Spec PyProof.Rows L2

/-- an exception's fields -/
def FsR (K : PySem.W.Frag) (ρ : List Addr) (H : Hp) : List (Str × D) → List (Str × V) → Prop
  | [], vs => vs = []
  | (f, d) :: ds, vs => ∃ v r, vs = (f, v) :: r ∧ Rep K ρ H d v ∧ FsR K ρ H ds r
def XR (K : PySem.W.Frag) (ca : Nat → Addr) (ρ : List Addr) (H : Hp) (x : Xn) (cls : Value) (dx : Option Addr) : Prop :=
  cls = .ref (ca x.cls) ∧ ∃ d vs, dx = some d ∧ H d = some (.xd vs) ∧ FsR K ρ H x.fs vs
/-- r, begun at (ρ, H), promises Q of what it gives and W of what it raises -/
def Po {α β : Type} (K : PySem.W.Frag) (ca : Nat → Addr) (Rl : Hp → α → List Addr → Hp → β → Prop) (ρ : List Addr) (H : Hp) (W : XK) (r : R α) (Q : β → Hp → Prop) : Prop :=
  match r with
  | .ok a h' => ∀ ρ' H' v, Ge ρ H ρ' H' → HR K ρ' H' h' → Rl H a ρ' H' v → Q v H'
  | .err x h' => ∀ ρ' H' cls dx, Ge ρ H ρ' H' → HR K ρ' H' h' → XR K ca ρ' H' x cls dx → W cls dx H'
  | .bad => False
/-- the relations of what is given -/
def RlD (K : PySem.W.Frag) : Hp → D → List Addr → Hp → V → Prop := fun _ d ρ H v => Rep K ρ H d v
def RlL (K : PySem.W.Frag) : Hp → List D → List Addr → Hp → List V → Prop := fun _ d ρ H v => Reps K ρ H d v
def RlF (K : PySem.W.Frag) : Hp → List D → List Addr → Hp → V → Prop := fun H0 ds ρ H v => ∃ p vs, v = .ref p ∧ H0 p = none ∧ p ∉ ρ ∧ H p = some (.lst vs) ∧ Reps K ρ H ds vs
def RlW (K : PySem.W.Frag) : Hp → Rv → List Addr → Hp → V → Prop := fun H0 rv ρ H v => match rv with
  | .val d => Rep K ρ H d v
  | .fresh ds => RlF K H0 ds ρ H v
  | .walk _ => False
/-- later beginnings promise more -/
structure Anti {α β : Type} (K : PySem.W.Frag) (Rl : Hp → α → List Addr → Hp → β → Prop) : Prop where
  run : ∀ (H0 H1 : Hp) (a : α) (ρ : List Addr) (H : Hp) (v : β), (∀ q, H1 q = none → H0 q = none) → Rl H1 a ρ H v → Rl H0 a ρ H v
section
variable {K : PySem.W.Frag} {ca : Nat → Addr} {ρ ρ' ρ1 : List Addr} {H H' H1 : Hp} {h h' h1 : Hh} {W : XK}
theorem anti_D : Anti K (RlD K) := ⟨fun _ _ _ _ _ _ _ q => q⟩
theorem anti_L : Anti K (RlL K) := ⟨fun _ _ _ _ _ _ _ q => q⟩
theorem anti_F : Anti K (RlF K) := ⟨fun _ _ _ _ _ _ b ⟨p, vs, e, n, q⟩ => ⟨p, vs, e, b p n, q⟩⟩
theorem anti_W : Anti K (RlW K) := ⟨fun H0 H1 a ρ H v b q => by
  cases a with
  | val d => exact q
  | fresh ds => exact anti_F.run _ _ _ _ _ _ b q
  | walk w => exact q⟩
theorem Po.shift {α β : Type} {Rl : Hp → α → List Addr → Hp → β → Prop} {r : R α} {Q : β → Hp → Prop} (an : Anti K Rl) (g : Ge ρ H ρ1 H1) (hr : HR K ρ1 H1 h1) (p : Po K ca Rl ρ H W r Q) : Po K ca Rl ρ1 H1 W r Q := by
  cases r with
  | ok a h' => exact fun ρ' H' v g' r' q => p ρ' H' v (g.trans hr g') r' (an.run _ _ _ _ _ _ (fun q z => g.back hr z) q)
  | err x h' => exact fun ρ' H' cls dx g' r' q => p ρ' H' cls dx (g.trans hr g') r' q
  | bad => exact p
theorem Po.bind {α β γ δ : Type} {Rl : Hp → α → List Addr → Hp → β → Prop} {Rl2 : Hp → γ → List Addr → Hp → δ → Prop} (an : Anti K Rl2) {r : R α} {f : α → Hh → R γ} {Q : δ → Hp → Prop}
    (p : Po K ca Rl2 ρ H W (bd r f) Q) : Po K ca Rl ρ H W r (fun v H1 => ∃ a ρ1 h1, Ge ρ H ρ1 H1 ∧ HR K ρ1 H1 h1 ∧ Rl H a ρ1 H1 v ∧ Po K ca Rl2 ρ1 H1 W (f a h1) Q) := by
  cases r with
  | ok a h' => exact fun ρ' H' v g r' q => ⟨a, ρ', h', g, r', q, Po.shift an g r' p⟩
  | err x h' => exact p
  | bad => exact p
theorem Po.bindE {α β γ δ : Type} {Rl : Hp → α → List Addr → Hp → β → Prop} {Rl2 : Hp → γ → List Addr → Hp → δ → Prop} (an : Anti K Rl2) {r : R α} {f : α → Hh → R γ} {Q : δ → Hp → Prop}
    (p : Po K ca Rl2 ρ H W (bd r f) Q) : Po K ca Rl ρ H W r (fun v H1 => ∃ a ρ1 h1, Ge ρ H ρ1 H1 ∧ HR K ρ1 H1 h1 ∧ Rl H a ρ1 H1 v ∧ Po K ca Rl2 ρ1 H1 W (f a h1) Q ∧ r = .ok a h1) := by
  cases r with
  | ok a h' => exact fun ρ' H' v g r' q => ⟨a, ρ', h', g, r', q, Po.shift an g r' p, rfl⟩
  | err x h' => exact p
  | bad => exact p
theorem Po.imp {α β : Type} {Rl : Hp → α → List Addr → Hp → β → Prop} {r : R α} {Q Q' : β → Hp → Prop} (k : ∀ v H, Q v H → Q' v H) (p : Po K ca Rl ρ H W r Q) : Po K ca Rl ρ H W r Q' := by
  cases r with
  | ok a h' => exact fun ρ' H' v g r' q => k _ _ (p ρ' H' v g r' q)
  | err x h' => exact p
  | bad => exact p
theorem Po.at {α β : Type} {Rl : Hp → α → List Addr → Hp → β → Prop} {a : α} {Q : β → Hp → Prop} {v : β} (hr : HR K ρ H h) (q : Rl H a ρ H v) (p : Po K ca Rl ρ H W (.ok a h) Q) : Q v H := p ρ H v (Ge.refl ρ H) hr q
/-- a new list is laid as a cell -/
theorem Po.settle {r : R Rv} {Q : VK} (p : Po K ca (RlD K) ρ H W (bd r settle) Q) : Po K ca (RlW K) ρ H W r Q := by
  cases r with
  | ok rv h' =>
    intro ρ' H' v g r' q
    cases rv with
    | val d => exact p ρ' H' v g r' q
    | fresh ds =>
      obtain ⟨q0, vs, rfl, n0, nr, hq, rs⟩ := q
      have p1 : Po K ca (RlD K) ρ H W (.ok (.ref h'.length) (h' ++ [.lst ds])) Q := p
      refine p1 (ρ' ++ [q0]) H' (.ref q0) ?_ (r'.own hq nr rs) ⟨q0, rfl, ?_⟩
      · obtain ⟨⟨x, rfl, hx⟩, k⟩ := id g
        refine ⟨⟨x ++ [q0], by simp, fun a ha => ?_⟩, k⟩
        rcases List.mem_append.mp ha with z | z
        · exact hx a z
        · simp at z; subst z; exact n0
      · rw [← r'.len]; simp
    | walk w => exact q.elim
  | err x h' => exact p
  | bad => exact p
theorem val_ok {d : D} : val (.ok d h) = .ok (.val d) h := rfl
theorem Po.val {r : R D} {Q : VK} (p : Po K ca (RlW K) ρ H W (val r) Q) : Po K ca (RlD K) ρ H W r Q := by
  cases r with
  | ok d h' => exact fun ρ' H' v g r' q => p ρ' H' v g r' q
  | err x h' => exact p
  | bad => exact p
theorem Po.lift {α β : Type} {Rl : Hp → α → List Addr → Hp → β → Prop} {o : Option α} {Q : β → Hp → Prop} (p : Po K ca Rl ρ H W (lift o h) Q) : ∃ a, o = some a ∧ Po K ca Rl ρ H W (.ok a h) Q := by
  cases o with
  | none => exact p.elim
  | some a => exact ⟨a, rfl, p⟩
end
end Mp
namespace L2
open PySem PySem.Spec PyProof.Rows
theorem PE.weak {X : Cx} {e : Expr} {t t' : TE} (h : PE X e t) (w : ∀ σ H Q, t' σ H Q → t σ H Q) : PE X e t' := ⟨fun pins s σ H Q I q => h.run pins s σ H Q I (w σ H Q q)⟩
theorem PT.weak {X : Cx} {e : Expr} {t t' : TT} (h : PT X e t) (w : ∀ σ H Q, t' σ H Q → t σ H Q) : PT X e t' := ⟨fun pins s σ H Q I q => h.run pins s σ H Q I (w σ H Q q)⟩
theorem PW.weak {X : Cx} {e : Expr} {t t' : TT} (h : PW X e t) (w : ∀ σ H Q, t' σ H Q → t σ H Q) : PW X e t' := ⟨fun wh pins s σ H Q I q => h.run wh pins s σ H Q I (w σ H Q q)⟩
theorem PA.weak {X : Cx} {e : List Expr} {t t' : TA} (h : PA X e t) (w : ∀ σ H Q, t' σ H Q → t σ H Q) : PA X e t' := ⟨fun pos pins s σ H Q I q => h.run pos pins s σ H Q I (w σ H Q q)⟩
theorem PI.weak {X : Cx} {tg e : Expr} {t t' : TI} (h : PI X tg e t) (w : ∀ σ H Q, t' σ H Q → t σ H Q) : PI X tg e t' := ⟨fun pins s σ H R I q => h.run pins s σ H R I (w σ H R q)⟩
theorem PS.weak {X : Cx} {e : Stmt} {t t' : TS} (h : PS X e t) (w : ∀ D σ H, t' D σ H → t D σ H) : PS X e t' := ⟨fun pins s σ H D I q => h.run pins s σ H D I (w D σ H q)⟩
theorem PSs.weak {X : Cx} {e : List Stmt} {t t' : TS} (h : PSs X e t) (w : ∀ D σ H, t' D σ H → t D σ H) : PSs X e t' := ⟨fun pins s σ H D I q => h.run pins s σ H D I (w D σ H q)⟩

end L2
namespace Mp
open PySem PySem.Spec PyProof.Rows L2
/-! ### the static and the live context -/
/-- what the checker knows: the slots' names, the scope's kinds, the functions' names (with their numbers of parameters), how many of them may be called, the module's constants, the exception classes -/
structure SC where
  N : List Str
  names : List (Str × NameKind)
  fns : List (Str × Nat)
  top : Nat
  consts : List (Str × D)
  excs : List Str
  fl : Nat → Bool
  nf : Nat → Bool
  tr : Bool
def scalV : D → Option V
  | .non => some .non
  | .bl b => some (.bl b)
  | .int i => some (.int i)
  | .str s => some (.str s)
  | _ => none
/-- a def's promise, by what it computes -/
def spF (K : PySem.W.Frag) (ca : Nat → Addr) (n : Nat) (F : List D → M D) : Sp := fun vs H Q E => ∃ ds ρ h, vs.length = n ∧ HR K ρ H h ∧ Reps K ρ H ds vs ∧ Po K ca (RlD K) ρ H E (F ds h) Q
def bltNames : List Str := ["len", "abs", "int", "max", "min", "sum", "all", "any", "sorted", "list", "tuple", "range", "enumerate", "zip", "isinstance", "bool", "str"]
structure Live (cx : CXT) (c : SC) (Φ : Nat → List D → M D) (ca : Nat → Addr) (X : Cx) : Prop where
  N : X.N = c.N
  nd : c.N.Nodup
  kinds : ∀ x k, c.names.lookup x = some k → k ≠ .free → X.env.scope.names.lookup x = some k
  frees : ∀ x, c.names.lookup x = some .free → X.env.scope.names.lookup x = some .free ∨ X.env.scope.names.lookup x = some .cell
  fnc : ∀ x, c.names.lookup x = some .cell → X.fn x = true
  calm : X.calm = true
  room : Room (c.top + 8) X.A
  blt : ∀ x ∈ bltNames, X.mg x = none
  fn : ∀ f x n, f < c.top → c.fns[f]? = some (x, n) → c.fl f = true → ∃ a fd ps, X.mg x = some (.ref a) ∧ PySem.W.keepIn X.K (.ref a) = true ∧ ps.length = n ∧ Binds X.K fd ps [] ∧ FnOk X.prog X.w X.K X.mg X.base cx (c.top + 8) a fd ps (spF X.K ca n (Φ f))
  cx0 : ∀ outer H s u s', cx outer H s (fun _ _ _ => False) u s' → False
  con : ∀ x d, c.consts.lookup x = some d → ∃ v u, scalV d = some v ∧ X.mg x = some u ∧ RelV v u
section
variable (Φ : Nat → List D → M D) (ca : Nat → Addr)
/-- the readings -/
def tW (K : PySem.W.Frag) (m : E) (W : WX) : TE := fun σ H Q => ∃ ρ en h, HR K ρ H h ∧ EnR K ρ H en σ ∧ Po K ca (RlW K) ρ H (fun c d H => W c d σ H) (evW Φ m en h) Q
def tD (K : PySem.W.Frag) (m : E) (W : WX) : TE := fun σ H Q => ∃ ρ en h, HR K ρ H h ∧ EnR K ρ H en σ ∧ Po K ca (RlD K) ρ H (fun c d H => W c d σ H) (bd (evW Φ m en h) settle) Q
def tDs (K : PySem.W.Frag) (ms : List E) (W : WX) : TA := fun σ H Q => ∃ ρ en h, HR K ρ H h ∧ EnR K ρ H en σ ∧ Po K ca (RlL K) ρ H (fun c d H => W c d σ H) (evW.evWs Φ ms en h) Q
def boolR (r : R D) : R Bool := bd r boolM
def RlB : Hp → Bool → List Addr → Hp → Bool → Prop := fun _ a _ _ b => b = a
theorem anti_B (K : PySem.W.Frag) : Anti K RlB := ⟨fun _ _ _ _ _ _ _ q => q⟩
def tTst (K : PySem.W.Frag) (m : E) (W : WX) : TT := fun σ H Q => ∃ ρ en h, HR K ρ H h ∧ EnR K ρ H en σ ∧ Po K ca RlB ρ H (fun c d H => W c d σ H) (boolR (bd (evW Φ m en h) settle)) Q
end
section
variable {Φ : Nat → List D → M D} {ca : Nat → Addr} {X : Cx} {e : Expr} {m : E} {W : WX}
theorem toD (h : PE X e (tW Φ ca X.K m W)) : PE X e (tD Φ ca X.K m W) := h.weak fun σ H Q ⟨ρ, en, hh, r, q, p⟩ => ⟨ρ, en, hh, r, q, p.settle⟩
end
end Mp
set_option Elab.async false
set_option linter.all false
set_option maxRecDepth 100000
set_option maxHeartbeats 1000000
/-! Mp3: expressions by values -/
namespace Mp
open PySem PySem.Spec PyProof.Rows L2

section
variable {Φ : Nat → List D → M D} {ca : Nat → Addr} {X : Cx} {e a b c : Expr} {m ma mb mc : E} {W : WX} {pos : Pos} {K : PySem.W.Frag}
/-! ### two operands -/
def rO2 (K : PySem.W.Frag) (ca : Nat → Addr) (f : D → D → M Rv) : R2 := fun x y H Q => ∃ (Wk : XK) (dx dy : D) (ρ : List Addr) (h : Hh), HR K ρ H h ∧ Rep K ρ H dx x ∧ Rep K ρ H dy y ∧ Po K ca (RlW K) ρ H Wk (f dx dy h) Q
def rO1 (K : PySem.W.Frag) (ca : Nat → Addr) (f : D → M Rv) : V → Hp → VK → Prop := fun x H Q => ∃ (Wk : XK) (dx : D) (ρ : List Addr) (h : Hh), HR K ρ H h ∧ Rep K ρ H dx x ∧ Po K ca (RlW K) ρ H Wk (f dx h) Q
theorem two {α β : Type} {Rl : Hp → α → List Addr → Hp → β → Prop} (an : Anti K Rl) {f : D → D → M α} {σ : L2.St} {H : Hp} {Q : β → Hp → Prop} {ρ : List Addr} {en : En} {h : Hh} (r : HR K ρ H h) (q : EnR K ρ H en σ)
    (p : Po K ca Rl ρ H (fun c d H => W c d σ H) (bd (bd (evW Φ ma en h) settle) fun x h => bd (bd (evW Φ mb en h) settle) fun y h => f x y h) Q) :
    tD Φ ca K ma W σ H fun x H1 => tD Φ ca K mb W σ H1 fun y H2 => ∃ (dx dy : D) (ρ : List Addr) (h : Hh), HR K ρ H2 h ∧ EnR K ρ H2 en σ ∧ Rep K ρ H2 dx x ∧ Rep K ρ H2 dy y ∧ Po K ca Rl ρ H2 (fun c d H => W c d σ H) (f dx dy h) Q :=
  ⟨ρ, en, h, r, q, (p.bind an).imp fun x H1 ⟨dx, ρ1, h1, g, r1, rx, p1⟩ => ⟨ρ1, en, h1, r1, q.mono g r, (p1.bind an).imp fun y H2 ⟨dy, ρ2, h2, g2, r2, ry, p2⟩ => ⟨dx, dy, ρ2, h2, r2, (q.mono g r).mono g2 r1, Rep.mono g2 r1 rx, ry, p2⟩⟩⟩
theorem one {α β : Type} {Rl : Hp → α → List Addr → Hp → β → Prop} (an : Anti K Rl) {f : D → M α} {σ : L2.St} {H : Hp} {Q : β → Hp → Prop} {ρ : List Addr} {en : En} {h : Hh} (r : HR K ρ H h) (q : EnR K ρ H en σ)
    (p : Po K ca Rl ρ H (fun c d H => W c d σ H) (bd (bd (evW Φ ma en h) settle) fun x h => f x h) Q) :
    tD Φ ca K ma W σ H fun x H1 => ∃ (dx : D) (ρ : List Addr) (h : Hh), HR K ρ H1 h ∧ EnR K ρ H1 en σ ∧ Rep K ρ H1 dx x ∧ Po K ca Rl ρ H1 (fun c d H => W c d σ H) (f dx h) Q :=
  ⟨ρ, en, h, r, q, (p.bind an).imp fun x H1 ⟨dx, ρ1, h1, g, r1, rx, p1⟩ => ⟨dx, ρ1, h1, r1, q.mono g r, rx, p1⟩⟩
theorem w_op2 {op : Operator} {f : D → D → M Rv} (ho : OpR X (binaryOp op) (rO2 X.K ca f)) (ha : PE X a (tD Φ ca X.K ma W)) (hb : PE X b (tD Φ ca X.K mb W))
    (ev : ∀ en h, evW Φ m en h = bd (bd (evW Φ ma en h) settle) fun x h => bd (bd (evW Φ mb en h) settle) fun y h => f x y h) : PE X (.BinOp a op b pos) (tW Φ ca X.K m W) := by
  refine (pe_op ho ha hb).weak fun σ H Q ⟨ρ, en, h, r, q, p⟩ => ?_
  rw [ev] at p
  obtain ⟨ρ', en', h', r', q', p'⟩ := two anti_W r q p
  exact ⟨ρ', en', h', r', q', p'.imp fun x H1 ⟨ρ1, en1, h1, r1, q1, p1⟩ => ⟨ρ1, en1, h1, r1, q1, p1.imp fun y H2 ⟨dx, dy, ρ2, h2, r2, _, rx, ry, p2⟩ => ⟨_, dx, dy, ρ2, h2, r2, rx, ry, p2⟩⟩⟩
theorem w_cmp2 {op : CmpOp} {f : D → D → M Rv} (ho : OpR X (compareOp op) (rO2 X.K ca f)) (ha : PE X a (tD Φ ca X.K ma W)) (hb : PE X b (tD Φ ca X.K mb W)) (hm : behindInMarks op b = false)
    (ev : ∀ en h, evW Φ m en h = bd (bd (evW Φ ma en h) settle) fun x h => bd (bd (evW Φ mb en h) settle) fun y h => f x y h) : PE X (.Compare a [op] [b] pos) (tW Φ ca X.K m W) := by
  refine (pe_cmpR ho ha hb hm).weak fun σ H Q ⟨ρ, en, h, r, q, p⟩ => ?_
  rw [ev] at p
  obtain ⟨ρ', en', h', r', q', p'⟩ := two anti_W r q p
  exact ⟨ρ', en', h', r', q', p'.imp fun x H1 ⟨ρ1, en1, h1, r1, q1, p1⟩ => ⟨ρ1, en1, h1, r1, q1, p1.imp fun y H2 ⟨dx, dy, ρ2, h2, r2, _, rx, ry, p2⟩ => ⟨_, dx, dy, ρ2, h2, r2, rx, ry, p2⟩⟩⟩
theorem w_un {op : UnaryOp} {f : D → M Rv} (ho : UnR X (unaryOp op) (rO1 X.K ca f)) (ha : PE X a (tD Φ ca X.K ma W))
    (ev : ∀ en h, evW Φ m en h = bd (bd (evW Φ ma en h) settle) fun x h => f x h) : PE X (.UnaryOp op a pos) (tW Φ ca X.K m W) := by
  refine (pe_un ho ha).weak fun σ H Q ⟨ρ, en, h, r, q, p⟩ => ?_
  rw [ev] at p
  obtain ⟨ρ', en', h', r', q', p'⟩ := one anti_W r q p
  exact ⟨ρ', en', h', r', q', p'.imp fun x H1 ⟨dx, ρ1, h1, r1, _, rx, p1⟩ => ⟨_, dx, ρ1, h1, r1, rx, p1⟩⟩
end

/-! ### operators -/
def opOf : Operator → Option Bop
  | .Add => some .add | .Sub => some .sub | .Mult => some .mul | .FloorDiv => some .fdiv | .Mod => some .mod | .Pow => some .pow | .LShift => some .shl | .RShift => some .shr
  | .BitAnd => some .band | .BitOr => some .bor
  | _ => none
section
variable {ca : Nat → Addr} {X : Cx}
theorem bin_int {op : Bop} {i j : Int} {h : Hh} {rv : Rv} (e : binR h op (.int i) (.int j) = some rv) : ∃ k, binD op (.int i) (.int j) = some k ∧ rv = .val k := by
  cases op <;> simp only [binR, Option.map_eq_some_iff] at e <;> (obtain ⟨k, e1, e2⟩ := e; exact ⟨k, e1, e2.symm⟩)
theorem or_bin {o : Operator} {op : Bop} (ho : opOf o = some op) : OpR X (binaryOp o) (rO2 X.K ca fun x y h => lift (binR h op x y) h) := by
  intro pins s σ H x y v u Q I rx ry ⟨Wk, dx, dy, ρ, h, r, qx, qy, p⟩
  obtain ⟨rv, e, p⟩ := p.lift
  -- which operator
  cases o <;> simp only [opOf, Option.some.injEq, reduceCtorEq] at ho <;> subst ho
  -- Add
  · cases dx <;> cases dy <;> simp only [binR, binD, Option.map_none, reduceCtorEq, Option.map_some, Option.some.injEq] at e
    · subst e
      cases qx; cases qy
      exact op_add pins s σ H _ _ v u Q I rx ry ⟨_, _, rfl, rfl, p.at r rfl⟩
    · rename_i a b
      split at e
      · rename_i hz
        simp only [Option.map_some, Option.some.injEq] at e
        subst e
        cases qx; cases qy
        exact op_add_str pins s σ H _ _ v u Q I rx ry ⟨_, _, rfl, rfl, hz, p.at r rfl⟩
      · simp at e
    · rename_i a b
      split at e
      · rename_i hz
        simp only [Option.map_some, Option.some.injEq] at e
        subst e
        obtain ⟨x1, xs, rfl, sx, tx⟩ := qx
        obtain ⟨y1, ys, rfl, sy, ty⟩ := qy
        have lx := tx.length
        have ly := ty.length
        refine op_catA pins s σ H _ _ v u Q I rx ry ⟨x1, y1, xs, ys, rfl, rfl, sx, sy, by omega, fun ez => ?_, fun nz ez => ?_, fun n1 n2 q hq => ?_⟩
        · subst ez
          have : a = [] := List.length_eq_zero_iff.mp (by simpa using lx.symm)
          subst this
          exact p.at r ⟨y1, ys, rfl, sy, ty⟩
        · subst ez
          have : b = [] := List.length_eq_zero_iff.mp (by simpa using ly.symm)
          subst this
          refine p.at r ⟨x1, xs, rfl, sx, ?_⟩
          rw [List.append_nil]
          exact tx
        · have g : Ge ρ H ρ (upd H q (.tup (xs ++ ys))) := Ge.new hq r
          exact p ρ _ _ g (r.new hq) ⟨q, _, rfl, .inl (.inl upd_same), (tx.append ty).mono g r⟩
      · simp at e
    · rename_i a b
      split at e
      · rename_i xs ys e1 e2
        split at e
        · rename_i hz
          simp only [Option.some.injEq] at e
          subst e
          obtain ⟨x1, rfl, ex⟩ := qx
          obtain ⟨y1, rfl, ey⟩ := qy
          obtain ⟨vx, hx, tx⟩ := r.cell _ _ _ ex e1
          obtain ⟨vy, hy, ty⟩ := r.cell _ _ _ ey e2
          have lx := tx.length
          have ly := ty.length
          refine op_cat pins s σ H _ _ v u Q I rx ry ⟨x1, y1, vx, vy, rfl, rfl, hx, hy, by omega, fun q hq => ?_⟩
          have g : Ge ρ H ρ (upd H q (.lst (vx ++ vy))) := Ge.new hq r
          refine p ρ _ _ g (r.new hq) ⟨q, _, rfl, hq, fun m => ?_, upd_same, (tx.append ty).mono g r⟩
          obtain ⟨ws, w⟩ := r.cell_some m
          rw [hq] at w; cases w
        · simp at e
      · simp at e
  -- the rest: ints
  all_goals
    cases dx <;> cases dy <;> simp only [binR, binD, Option.map_none, reduceCtorEq] at e
  · -- Sub
    simp only [Option.map_some, Option.some.injEq] at e
    subst e; cases qx; cases qy
    exact op_sub pins s σ H _ _ v u Q I rx ry ⟨_, _, rfl, rfl, p.at r rfl⟩
  · -- Mult
    rename_i i j
    split at e
    · rename_i hz
      simp only [Option.map_some, Option.some.injEq] at e
      subst e; cases qx; cases qy
      refine op_mul pins s σ H _ _ v u Q I rx ry ⟨_, _, rfl, rfl, ?_, p.at r rfl⟩
      unfold mulOk at hz
      simp only [Bool.or_eq_true, decide_eq_true_eq] at hz
      rcases hz with z | z
      · exact .inl ⟨by omega, by omega⟩
      · exact .inr ⟨by omega, by omega⟩
    · simp at e
  · -- Mod
    rename_i i j
    split at e
    · rename_i hz
      simp only [Option.map_some, Option.some.injEq] at e
      subst e; cases qx; cases qy
      exact op_mod pins s σ H _ _ v u Q I rx ry ⟨_, _, rfl, rfl, hz, p.at r rfl⟩
    · simp at e
  · -- Pow
    split at e
    · rename_i hz
      simp only [Option.map_some, Option.some.injEq] at e
      subst e; cases qx; cases qy
      exact op_pow pins s σ H _ _ v u Q I rx ry ⟨_, _, rfl, rfl, hz, p.at r rfl⟩
    · simp at e
  · split at e
    · rename_i hz
      simp only [Option.map_some, Option.some.injEq] at e
      subst e; cases qx; cases qy
      exact op_shl pins s σ H _ _ v u Q I rx ry ⟨_, _, rfl, rfl, hz, p.at r rfl⟩
    · simp at e
  · split at e
    · rename_i hz
      simp only [Option.map_some, Option.some.injEq] at e
      subst e; cases qx; cases qy
      exact op_shr pins s σ H _ _ v u Q I rx ry ⟨_, _, rfl, rfl, hz, p.at r rfl⟩
    · simp at e
  · simp only [Option.map_some, Option.some.injEq] at e
    subst e; cases qx; cases qy
    exact op_or pins s σ H _ _ v u Q I rx ry ⟨_, _, rfl, rfl, p.at r rfl⟩
  · simp only [Option.map_some, Option.some.injEq] at e
    subst e; cases qx; cases qy
    exact op_and pins s σ H _ _ v u Q I rx ry ⟨_, _, rfl, rfl, p.at r rfl⟩
  · split at e
    · rename_i hz
      simp only [Option.map_some, Option.some.injEq] at e
      subst e; cases qx; cases qy
      exact op_fdiv pins s σ H _ _ v u Q I rx ry ⟨_, _, rfl, rfl, hz, p.at r rfl⟩
    · simp at e
end

/-! ### == : plain data as the library's data -/
section
variable {K : PySem.W.Frag} {ρ : List Addr} {H : Hp} {h : Hh}
mutual
theorem dp_of {rf : Nat → Option PyData} (hr : ∀ (n : Nat) (p : PyData) (a : Addr), rf n = some p → ρ[n]? = some a → Dp K H (.ref a) p) : ∀ {d : D} {v : V} {p : PyData}, D.pyW rf d = some p → Rep K ρ H d v → Dp K H v p
  | .non, _, _, e, q => by cases e; cases q; exact .non
  | .bl _, _, _, e, q => by cases e; cases q; exact .bl _
  | .int _, _, _, e, q => by cases e; cases q; exact .int _
  | .str _, _, _, e, q => by cases e; cases q; exact .str _
  | .tup xs, _, p, e, q => by
    simp only [D.pyW, Option.map_eq_some_iff] at e
    obtain ⟨ps, e, rfl⟩ := e
    obtain ⟨a, vs, rfl, s, t⟩ := q
    exact .tup s (dps_of hr e t)
  | .ref n, _, p, e, q => by
    obtain ⟨a, rfl, s⟩ := q
    exact hr n p a e s
theorem dps_of {rf : Nat → Option PyData} (hr : ∀ (n : Nat) (p : PyData) (a : Addr), rf n = some p → ρ[n]? = some a → Dp K H (.ref a) p) : ∀ {ds : List D} {vs : List V} {ps : List PyData}, D.pysW rf ds = some ps → Reps K ρ H ds vs → DpAll K H vs ps
  | [], _, _, e, q => by cases e; cases q; exact .nil
  | d :: ds, _, ps, e, q => by
    obtain ⟨v, t, rfl, q1, q2⟩ := q
    simp only [D.pysW] at e
    split at e
    · rename_i y ys e1 e2
      cases e
      exact .cons (dp_of hr e1 q1) (dps_of hr e2 q2)
    · cases e
end
theorem dp_ref (r : HR K ρ H h) : ∀ (k n : Nat) (p : PyData) (a : Addr), pyN h k n = some p → ρ[n]? = some a → Dp K H (.ref a) p
  | 0, _, _, _, e, _ => by cases e
  | k + 1, n, p, a, e, s => by
    simp only [pyN] at e
    split at e
    · rename_i xs hx
      simp only [Option.map_eq_some_iff] at e
      obtain ⟨ps, e, rfl⟩ := e
      obtain ⟨vs, hv, t⟩ := r.cell n a _ s hx
      exact .lst (.inl (.inl hv)) (dps_of (dp_ref r k) e t)
    · cases e
theorem dp_py (r : HR K ρ H h) {d : D} {v : V} {p : PyData} (e : d.py h = some p) (q : Rep K ρ H d v) : Dp K H v p := dp_of (dp_ref r 8) e q
end
def copOf : CmpOp → Option Cop
  | .Eq => some .eq | .NotEq => some .ne | .Lt => some .lt | .LtE => some .le | .Gt => some .gt | .GtE => some .ge
  | _ => none
section
variable {ca : Nat → Addr} {X : Cx} {n : Nat}
theorem or_cmp {o : CmpOp} {op : Cop} (ho : copOf o = some op) (hr : Room n X.A) : OpR X (compareOp o) (rO2 X.K ca fun x y h => lift ((cmpD h op x y).map fun k => .val (.bl k)) h) := by
  intro pins s σ H x y v u Q I rx ry ⟨Wk, dx, dy, ρ, h, r, qx, qy, p⟩
  obtain ⟨rv, e, p2⟩ := p.lift
  simp only [Option.map_eq_some_iff] at e
  obtain ⟨k, e, rfl⟩ := e
  clear p
  rename Po _ _ _ _ _ _ _ _ => p
  have deep : ∀ {b : Bool}, eqD h dx dy = some b → ∃ d e, Dp X.K H x d ∧ Dp X.K H y e ∧ SeqAt.shaped d = true ∧ SeqAt.shaped e = true ∧ PyData.eqv d e = b := fun {b} z => by
    unfold eqD at z
    split at z
    · rename_i d e e1 e2
      split at z
      · rename_i sh
        simp only [Bool.and_eq_true] at sh
        exact ⟨d, e, dp_py r e1 qx, dp_py r e2 qy, sh.1, sh.2, Option.some.inj z⟩
      · cases z
    · cases z
  cases o <;> simp only [copOf, Option.some.injEq, reduceCtorEq] at ho <;> subst ho
  · obtain ⟨d, e', h1, h2, s1, s2, eb⟩ := deep e
    exact op_eqD hr.units pins s σ H _ _ v u Q I rx ry ⟨d, e', h1, h2, s1, s2, p.at r (by rw [eb]; rfl)⟩
  · simp only [cmpD, Option.map_eq_some_iff] at e
    obtain ⟨b, e, rfl⟩ := e
    obtain ⟨d, e', h1, h2, s1, s2, eb⟩ := deep e
    exact op_neD hr.units pins s σ H _ _ v u Q I rx ry ⟨d, e', h1, h2, s1, s2, p.at r (by rw [eb]; rfl)⟩
  all_goals
    cases dx <;> cases dy <;> simp only [cmpD, reduceCtorEq, Option.some.injEq] at e
    subst e; cases qx; cases qy
  · exact op_lt pins s σ H _ _ v u Q I rx ry ⟨_, _, rfl, rfl, p.at r rfl⟩
  · exact op_le pins s σ H _ _ v u Q I rx ry ⟨_, _, rfl, rfl, p.at r rfl⟩
  · exact op_gt pins s σ H _ _ v u Q I rx ry ⟨_, _, rfl, rfl, p.at r rfl⟩
  · exact op_ge pins s σ H _ _ v u Q I rx ry ⟨_, _, rfl, rfl, p.at r rfl⟩
theorem in_deep {neg : Bool} {pins : List (Addr × Obj)} {s : Shared} {σ : L2.St} {H : Hp} {x y : V} {v u : Value} {Q : VK} {d : PyData} {ds : List PyData} (hr : Room n X.A) (I : Inv X pins σ H s) (rx : RelV x v) (ry : RelV y u)
    (hx : Dp X.K H x d) (hy : Dp X.K H y (.list ds) ∨ Dp X.K H y (.tuple ds)) (sd : SeqAt.shaped d = true) (se : SeqAt.shaped (.list ds) = true) (q : Q (.bl (xor neg (ds.any fun z => PyData.eqv z d))) H) :
    wpAny (model X.prog X.w) X.A (compareOp (if neg then .NotIn else .In) v u) (EP X pins σ Q) X.xe s := by
  have hu : X.A.units + 65 < cLine := by have := hr.un; omega
  obtain ⟨as, r1⟩ := Dp.reads I d x v hx rx
  rcases hy with hy | hy
  · obtain ⟨bs, r2⟩ := Dp.reads I (.list ds) y u hy ry
    cases neg with
    | false => exact SeqAt.in_list_reads r2 r1 (SeqAt.canLay_of_shaped se) (SeqAt.canLay_of_shaped sd) (room_in_shaped sd hu) ⟨.bl _, H, I, rfl, by simpa using q⟩
    | true => exact SeqAt.notIn_list_reads r2 r1 (SeqAt.canLay_of_shaped se) (SeqAt.canLay_of_shaped sd) (room_in_shaped sd hu) ⟨.bl _, H, I, rfl, by simpa using q⟩
  · obtain ⟨bs, r2⟩ := Dp.reads I (.tuple ds) y u hy ry
    cases neg with
    | false => exact SeqAt.in_tuple_reads r2 r1 (SeqAt.canLay_of_shaped se) (SeqAt.canLay_of_shaped sd) (room_in_shaped sd hu) ⟨.bl _, H, I, rfl, by simpa using q⟩
    | true => exact SeqAt.notIn_tuple_reads r2 r1 (SeqAt.canLay_of_shaped se) (SeqAt.canLay_of_shaped sd) (room_in_shaped sd hu) ⟨.bl _, H, I, rfl, by simpa using q⟩
theorem seqPy_dp {K : PySem.W.Frag} {ρ : List Addr} {H : Hp} {h : Hh} {y : D} {v : V} {ds : List PyData} (r : HR K ρ H h) (e : seqPy h y = some ds) (q : Rep K ρ H y v) : Dp K H v (.list ds) ∨ Dp K H v (.tuple ds) := by
  unfold seqPy at e
  split at e
  · rename_i es he
    cases e
    exact .inl (dp_py r he q)
  · rename_i es he
    cases e
    exact .inr (dp_py r he q)
  · cases e
theorem or_in {ng : Bool} (hr : Room n X.A) : OpR X (compareOp (if ng then .NotIn else .In)) (rO2 X.K ca fun x y h => lift ((inD h ng x y).map .val) h) := by
  intro pins s σ H x y v u Q I rx ry ⟨Wk, dx, dy, ρ, h, r, qx, qy, p⟩
  obtain ⟨rv, e, p2⟩ := p.lift
  simp only [Option.map_eq_some_iff] at e
  obtain ⟨k, e, rfl⟩ := e
  clear p
  rename Po _ _ _ _ _ _ _ _ => p
  unfold inD at e
  split at e
  · cases e
    cases qx; cases qy
    cases ng with
    | false => exact op_in_str pins s σ H _ _ v u Q I rx ry ⟨_, _, rfl, rfl, p.at r (by simp [RlW, Rep])⟩
    | true => exact op_notin_str pins s σ H _ _ v u Q I rx ry ⟨_, _, rfl, rfl, p.at r (by simp [RlW, Rep])⟩
  · split at e
    · rename_i d ds e1 e2
      split at e
      · rename_i sh
        cases e
        simp only [Bool.and_eq_true] at sh
        exact in_deep hr I rx ry (dp_py r e1 qx) (seqPy_dp r e2 qy) sh.1 sh.2 (p.at r rfl)
      · cases e
    · cases e
end
end Mp
set_option Elab.async false
set_option linter.all false
set_option maxRecDepth 100000
set_option maxHeartbeats 1000000
/-! Mp4: expressions -/
namespace Mp
open PySem PySem.Spec PyProof.Rows L2

section
variable {Φ : Nat → List D → M D} {ca : Nat → Addr} {cx : CXT} {X : Cx} {e a b c : Expr} {m ma mb mc : E} {W : WX} {pos : Pos}
theorem rep_scal {K : PySem.W.Frag} {ρ : List Addr} {H : Hp} {d : D} {v : V} (e : scalV d = some v) : Rep K ρ H d v := by
  cases d <;> simp only [scalV, Option.some.injEq, reduceCtorEq] at e <;> exact e.symm
theorem w_var {c : SC} (L : Live cx c Φ ca X) {i : Nat} {x : Str} (hN : c.N[i]? = some x) (hk : c.names.lookup x = some .local ∨ c.names.lookup x = some .cell ∨ c.names.lookup x = some .free)
    (h1 : (x == ("__debug__" : Str)) = false) (h2 : (x == ("__classdict__" : Str)) = false) : PE X (.Name x pos) (tW Φ ca X.K (.var i) W) := by
  have hv : Vis X.env.scope x := by
    rcases hk with k | k | k
    · exact .inl (L.kinds x _ k (by decide))
    · exact .inr (.inl (L.kinds x _ k (by decide)))
    · rcases L.frees x k with z | z
      · exact .inr (.inr z)
      · exact .inr (.inl z)
  refine (pe_var (i := i) (by rw [L.N]; exact hN) hv h1 h2).weak fun σ H Q ⟨ρ, en, h, r, q, p⟩ => ?_
  simp only [evW] at p
  split at p
  · rename_i d hd
    obtain ⟨v, e, rv⟩ := q.get i d hd
    exact ⟨v, e, p.at r rv⟩
  · exact p.elim
theorem w_glb {c : SC} (L : Live cx c Φ ca X) {x : Str} {d : D} (hg : c.names.lookup x = some .globalImplicit) (hc : c.consts.lookup x = some d) (h1 : (x == ("__debug__" : Str)) = false) : PE X (.Name x pos) (tW Φ ca X.K (.glb x d) W) := by
  obtain ⟨v, u, e, hm, rv⟩ := L.con x d hc
  refine (pe_glob (L.kinds x _ hg (by decide)) hm rv h1).weak fun σ H Q ⟨ρ, en, h, r, q, p⟩ => ?_
  exact p.at r (rep_scal e)
theorem w_int {i : Int} {k : Nat} : PE X (.Constant (.int i) k pos) (tW Φ ca X.K (.cst (.int i)) W) := pe_int.weak fun σ H Q ⟨ρ, en, h, r, q, p⟩ => p.at r rfl
theorem w_bl {i : Bool} {k : Nat} : PE X (.Constant (.bool i) k pos) (tW Φ ca X.K (.cst (.bl i)) W) := pe_bl.weak fun σ H Q ⟨ρ, en, h, r, q, p⟩ => p.at r rfl
theorem w_non {k : Nat} : PE X (.Constant .none k pos) (tW Φ ca X.K (.cst .non) W) := pe_non.weak fun σ H Q ⟨ρ, en, h, r, q, p⟩ => p.at r rfl
theorem w_str {z : Str} {k : Nat} : PE X (.Constant (.str z) k pos) (tW Φ ca X.K (.cst (.str z)) W) := pe_str.weak fun σ H Q ⟨ρ, en, h, r, q, p⟩ => p.at r rfl
/-! ### lists of expressions -/
theorem a_nil : PA X [] (tDs Φ ca X.K [] W) := pa_nil.weak fun σ H Q ⟨ρ, en, h, r, q, p⟩ => p.at (v := []) r rfl
theorem a_cons {es : List Expr} {ms : List E} (ha : PE X e (tD Φ ca X.K m W)) (hr : PA X es (tDs Φ ca X.K ms W)) (hs : starEach (e :: es) X.env = (false, eval e X.env) :: starEach es X.env) : PA X (e :: es) (tDs Φ ca X.K (m :: ms) W) := by
  refine (pa_cons ha hr hs).weak fun σ H Q ⟨ρ, en, h, r, q, p⟩ => ?_
  refine ⟨ρ, en, h, r, q, (p.bind anti_L).imp fun x H1 ⟨dx, ρ1, h1, g, r1, rx, p1⟩ => ⟨ρ1, en, h1, r1, q.mono g r, (p1.bind anti_L).imp fun xs H2 ⟨dxs, ρ2, h2, g2, r2, rxs, p2⟩ => ?_⟩⟩
  exact p2.at (v := x :: xs) r2 ⟨x, xs, rfl, Rep.mono g2 r1 rx, rxs⟩
theorem bd_ok_inv {α β : Type} {r : R α} {f : α → Hh → R β} {b : β} {h : Hh} (e : bd r f = .ok b h) : ∃ a h1, r = .ok a h1 ∧ f a h1 = .ok b h := by
  cases r with
  | ok a h1 => exact ⟨a, h1, rfl, e⟩
  | err x h1 => cases e
  | bad => cases e
theorem evWs_len : ∀ {ms : List E} {en : En} {h h' : Hh} {ds : List D}, evW.evWs Φ ms en h = .ok ds h' → ds.length = ms.length
  | [], _, _, _, _, e => by cases e; rfl
  | m :: ms, en, h, h', ds, e => by
    simp only [evW.evWs] at e
    obtain ⟨x, h1, e1, e2⟩ := bd_ok_inv e
    obtain ⟨xs, h2, e3, e4⟩ := bd_ok_inv e2
    cases e4
    simp [evWs_len e3]
theorem w_tup {es : List Expr} {ms : List E} {x1 : Nat} (ha : PA X es (tDs Φ ca X.K ms W)) (hl : ms.length ≤ sizeLine) : PE X (.Tuple es x1 pos) (tW Φ ca X.K (.tup ms) W) := by
  refine (pe_tup ha).weak fun σ H Q ⟨ρ, en, h, r, q, p⟩ => ?_
  refine ⟨ρ, en, h, r, q, (p.bindE anti_W).imp fun xs H1 ⟨dxs, ρ1, h1, g, r1, rx, p1, e1⟩ => ⟨?_, fun a hp => ?_⟩⟩
  · have := evWs_len e1
    have := Reps.length rx
    omega
  · have g1 : Ge ρ1 H1 ρ1 (upd H1 a (.tup xs)) := Ge.new hp r1
    exact p1 ρ1 _ _ g1 (r1.new hp) ⟨a, xs, rfl, .inl (.inl upd_same), Reps.mono g1 r1 rx⟩
theorem notcell {K : PySem.W.Frag} {ρ : List Addr} {H : Hp} {h : Hh} {a : Addr} (r : HR K ρ H h) (n : H a = none) : a ∉ ρ := fun m => by
  obtain ⟨ws, w⟩ := r.cell_some m
  rw [n] at w; cases w
/-- a new list, not yet a cell -/
theorem po_fresh {K : PySem.W.Frag} {ρ : List Addr} {H : Hp} {h : Hh} {Wk : XK} {ds : List D} {vs : List V} {a : Addr} {Q : VK} (r : HR K ρ H h) (q : Reps K ρ H ds vs) (p : Po K ca (RlW K) ρ H Wk (.ok (.fresh ds) h) Q) (n : H a = none) : Q (.ref a) (upd H a (.lst vs)) := by
  have g1 : Ge ρ H ρ (upd H a (.lst vs)) := Ge.new n r
  exact p ρ _ _ g1 (r.new n) ⟨a, vs, rfl, n, notcell r n, upd_same, Reps.mono g1 r q⟩
theorem w_lst {es : List Expr} {ms : List E} (ha : PA X es (tDs Φ ca X.K ms W)) (hl : ms.length ≤ sizeLine) : PE X (.List es pos) (tW Φ ca X.K (.lst ms) W) := by
  refine (pe_lst ha).weak fun σ H Q ⟨ρ, en, h, r, q, p⟩ => ?_
  refine ⟨ρ, en, h, r, q, (p.bindE anti_W).imp fun xs H1 ⟨dxs, ρ1, h1, g, r1, rx, p1, e1⟩ => ⟨?_, fun a hp => po_fresh r1 rx p1 hp⟩⟩
  have := evWs_len e1
  have := Reps.length rx
  omega
/-! ### is None, -a, not a -/
theorem w_isN (ha : PE X a (tD Φ ca X.K ma W)) {k : Nat} {p2 : Pos} : PE X (.Compare a [.Is] [.Constant .none k p2] pos) (tW Φ ca X.K (.isN false ma) W) := by
  refine (pe_cmp (pc_isN ha)).weak fun σ H Q ⟨ρ, en, h, r, q, p⟩ => ?_
  obtain ⟨ρ', en', h', r', q', p'⟩ := one (Φ := Φ) (ma := ma) (W := W) (f := fun x h => R.ok (Rv.val (.bl (xor false (isND x)))) h) anti_W r q p
  refine ⟨ρ', en', h', r', q', p'.imp fun x H1 ⟨dx, ρ1, h1, r1, _, rx, p1⟩ => p1.at r1 ?_⟩
  cases dx with
  | ref n => obtain ⟨a, e, _⟩ := rx; subst e; simp [RlW, Rep, isND]
  | tup xs => obtain ⟨a, vs, e, _⟩ := rx; subst e; simp [RlW, Rep, isND]
  | fro xs => obtain ⟨a, vs, e, _⟩ := rx; subst e; simp [RlW, Rep, isND]
  | _ => cases rx; simp [RlW, Rep, isND]
theorem w_notN (ha : PE X a (tD Φ ca X.K ma W)) {k : Nat} {p2 : Pos} : PE X (.Compare a [.IsNot] [.Constant .none k p2] pos) (tW Φ ca X.K (.isN true ma) W) := by
  refine (pe_cmp (pc_notN ha)).weak fun σ H Q ⟨ρ, en, h, r, q, p⟩ => ?_
  obtain ⟨ρ', en', h', r', q', p'⟩ := one (Φ := Φ) (ma := ma) (W := W) (f := fun x h => R.ok (Rv.val (.bl (xor true (isND x)))) h) anti_W r q p
  refine ⟨ρ', en', h', r', q', p'.imp fun x H1 ⟨dx, ρ1, h1, r1, _, rx, p1⟩ => p1.at r1 ?_⟩
  cases dx with
  | ref n => obtain ⟨a, e, _⟩ := rx; subst e; simp [RlW, Rep, isND]
  | tup xs => obtain ⟨a, vs, e, _⟩ := rx; subst e; simp [RlW, Rep, isND]
  | fro xs => obtain ⟨a, vs, e, _⟩ := rx; subst e; simp [RlW, Rep, isND]
  | _ => cases rx; simp [RlW, Rep, isND]
theorem w_neg (ha : PE X a (tD Φ ca X.K ma W)) : PE X (.UnaryOp .USub a pos) (tW Φ ca X.K (.neg ma) W) := by
  refine w_un (f := fun x h => match x with
    | .int i => .ok (.val (.int (-i))) h
    | _ => .bad) ?_ ha (fun _ _ => rfl)
  intro pins s σ H x v Q I rx ⟨Wk, dx, ρ, h, r, qx, p⟩
  cases dx with
  | int i => cases qx; exact un_neg pins s σ H _ v Q I rx ⟨_, rfl, p.at r rfl⟩
  | _ => exact p.elim
theorem w_not (ha : PE X a (tD Φ ca X.K ma W)) : PE X (.UnaryOp .Not a pos) (tW Φ ca X.K (.not ma) W) := by
  refine (pe_not ha).weak fun σ H Q ⟨ρ, en, h, r, q, p⟩ => ?_
  obtain ⟨ρ', en', h', r', q', p'⟩ := one (Φ := Φ) (ma := ma) (W := W) (f := fun x h => match x with
    | .bl b => R.ok (Rv.val (.bl (!b))) h
    | _ => .bad) anti_W r q p
  refine ⟨ρ', en', h', r', q', p'.imp fun x H1 ⟨dx, ρ1, h1, r1, _, rx, p1⟩ => ?_⟩
  cases dx with
  | bl b => cases rx; exact ⟨b, rfl, p1.at r1 rfl⟩
  | _ => exact p1.elim
/-! ### tests -/
theorem boolR_at {K : PySem.W.Frag} {ρ : List Addr} {H : Hp} {h : Hh} {Wk : XK} {d : D} {v : V} {Q : Bool → Hp → Prop} (r : HR K ρ H h) (q : Rep K ρ H d v) (p : Po K ca RlB ρ H Wk (boolR (.ok d h)) Q) : ∃ b, v = .bl b ∧ Q b H ∧ d = .bl b := by
  cases d with
  | bl b => cases q; exact ⟨b, rfl, p.at (v := b) r rfl, rfl⟩
  | _ => exact p.elim
/-- a test that is its value's -/
theorem t_val (h : PE X e (tD Φ ca X.K m W)) (he : ∀ whole, isTrue e X.env whole = (do let v ← whole; standAt e.pos; holding [v] (truthy v))) : PT X e (tTst Φ ca X.K m W) := by
  refine (pt_val h he).weak fun σ H Q ⟨ρ, en, h, r, q, p⟩ => ?_
  unfold boolR at p
  refine ⟨ρ, en, h, r, q, (p.bind (anti_B _)).imp fun x H1 ⟨dx, ρ1, h1, g, r1, rx, p1⟩ => ?_⟩
  obtain ⟨b, e, k, _⟩ := boolR_at (ca := ca) r1 rx p1
  exact ⟨b, e, k⟩
theorem tst_to {K : PySem.W.Frag} {ρ : List Addr} {H : Hp} {Wk : XK} {r : R Rv} {Q : Bool → Hp → Prop} (p : Po K ca RlB ρ H Wk (boolR (bd r settle)) Q) : Po K ca (RlW K) ρ H Wk r (fun z H' => ∃ k, z = .bl k ∧ Q k H') := by
  refine Po.settle ?_
  unfold boolR at p
  refine (p.bind (anti_B _)).imp fun x H1 ⟨dx, ρ1, h1, g, r1, rx, p1⟩ => ?_
  obtain ⟨b, e, k, _⟩ := boolR_at (ca := ca) r1 rx p1
  exact ⟨b, e, k⟩
theorem t_cmp2 {op : CmpOp} {f : D → D → M Rv} (ho : OpR X (compareOp op) (rO2 X.K ca f)) (ha : PE X a (tD Φ ca X.K ma W)) (hb : PE X b (tD Φ ca X.K mb W)) (hm : behindInMarks op b = false)
    (ev : ∀ en h, evW Φ m en h = bd (bd (evW Φ ma en h) settle) fun x h => bd (bd (evW Φ mb en h) settle) fun y h => f x y h) : PT X (.Compare a [op] [b] pos) (tTst Φ ca X.K m W) := by
  refine (pt_cmpR ho ha hb hm).weak fun σ H Q ⟨ρ, en, h, r, q, p⟩ => ?_
  have p0 := tst_to p
  rw [ev] at p0
  obtain ⟨ρ', en', h', r', q', p'⟩ := two anti_W r q p0
  exact ⟨ρ', en', h', r', q', p'.imp fun x H1 ⟨ρ1, en1, h1, r1, q1, p1⟩ => ⟨ρ1, en1, h1, r1, q1, p1.imp fun y H2 ⟨dx, dy, ρ2, h2, r2, _, rx, ry, p2⟩ => ⟨_, dx, dy, ρ2, h2, r2, rx, ry, p2⟩⟩⟩
/-- a test's answer first, then the rest -/
theorem tst {K : PySem.W.Frag} {α β : Type} {Rl : Hp → α → List Addr → Hp → β → Prop} (an : Anti K Rl) {f : D → M α} {σ : L2.St} {H : Hp} {Q : β → Hp → Prop} {ρ : List Addr} {en : En} {h : Hh} (r : HR K ρ H h) (q : EnR K ρ H en σ)
    (fb : ∀ d h, (∀ b, d ≠ .bl b) → f d h = .bad) (p : Po K ca Rl ρ H (fun c d H => W c d σ H) (bd (bd (evW Φ ma en h) settle) fun x h => f x h) Q) :
    tTst Φ ca K ma W σ H fun b H1 => ∃ (ρ : List Addr) (h : Hh), HR K ρ H1 h ∧ EnR K ρ H1 en σ ∧ Po K ca Rl ρ H1 (fun c d H => W c d σ H) (f (.bl b) h) Q := by
  refine ⟨ρ, en, h, r, q, ?_⟩
  cases e : bd (evW Φ ma en h) settle with
  | ok d h1 =>
    rw [e] at p
    cases d with
    | bl b =>
      intro ρ' H' v g r' rv
      cases rv
      exact ⟨ρ', h1, r', q.mono g r, Po.shift an g r' p⟩
    | _ =>
      have p' : Po K ca Rl ρ H (fun c d H => W c d σ H) (f _ h1) Q := p
      rw [fb _ _ (by intro b z; cases z)] at p'
      exact p'.elim
  | err x h1 => rw [e] at p; exact p
  | bad => rw [e] at p; exact p
theorem t_not (ha : PT X a (tTst Φ ca X.K ma W)) : PT X (.UnaryOp .Not a pos) (tTst Φ ca X.K (.not ma) W) := by
  refine (pt_not ha).weak fun σ H Q ⟨ρ, en, h, r, q, p⟩ => ?_
  obtain ⟨ρ', en', h', r', q', p'⟩ := tst (Φ := Φ) (ca := ca) (ma := ma) (W := W) (f := fun x h => match x with
    | .bl b => R.ok (Rv.val (.bl (!b))) h
    | _ => .bad) anti_W r q (fun d h n => by cases d <;> first | rfl | exact absurd rfl (n _)) (tst_to p)
  refine ⟨ρ', en', h', r', q', p'.imp fun b H1 ⟨ρ1, h1, r1, _, p1⟩ => ?_⟩
  obtain ⟨k, e, k2⟩ := p1.at r1 (v := .bl (!b)) rfl
  cases e
  exact k2
theorem bd_val {α : Type} (r : R D) (f : Rv → Hh → R α) : bd (val r) f = bd r fun d h => f (.val d) h := by cases r <;> rfl
theorem bd_settle_val (r : R D) : bd (val r) settle = r := by cases r <;> rfl
theorem bd_bd {α β γ : Type} (r : R α) (f : α → Hh → R β) (g : β → Hh → R γ) : bd (bd r f) g = bd r fun a h => bd (f a h) g := by cases r <;> rfl
theorem boolR_bd {α : Type} (r : R α) (f : α → Hh → R Rv) : boolR (bd (bd r f) settle) = bd r fun a h => boolR (bd (f a h) settle) := by cases r <;> rfl
/-- and, or of several, as tests -/
def tAndT (K : PySem.W.Frag) (ms : List E) (W : WX) : TT := fun σ H Q => ∃ ρ en h, HR K ρ H h ∧ EnR K ρ H en σ ∧ Po K ca RlB ρ H (fun c d H => W c d σ H) (boolR (bd (evW.evAnd Φ ms en h) settle)) Q
def tOrT (K : PySem.W.Frag) (ms : List E) (W : WX) : TT := fun σ H Q => ∃ ρ en h, HR K ρ H h ∧ EnR K ρ H en σ ∧ Po K ca RlB ρ H (fun c d H => W c d σ H) (boolR (bd (evW.evOr Φ ms en h) settle)) Q
theorem po_bool {K : PySem.W.Frag} {ρ : List Addr} {H : Hp} {h : Hh} {Wk : XK} {b : Bool} {Q : Bool → Hp → Prop} (r : HR K ρ H h) (p : Po K ca RlB ρ H Wk (boolR (bd (.ok (.val (.bl b)) h) settle)) Q) : Q b H := Po.at (Rl := RlB) (v := b) r rfl p
theorem t_and1 (ha : PT X a (tTst Φ ca X.K ma W)) : PW X (.BoolOp .And [a] pos) (tAndT (Φ := Φ) (ca := ca) X.K [ma] W) := by
  refine (pw_and1 ha).weak fun σ H Q ⟨ρ, en, h, r, q, p⟩ => ⟨ρ, en, h, r, q, ?_⟩
  rw [evW.evAnd, bd_settle_val] at p
  exact p
theorem t_and2 {rest : List Expr} {ms : List E} (ha : PT X a (tTst Φ ca X.K ma W)) (hb : PW X (.BoolOp .And (b :: rest) pos) (tAndT (Φ := Φ) (ca := ca) X.K (mb :: ms) W)) : PW X (.BoolOp .And (a :: b :: rest) pos) (tAndT (Φ := Φ) (ca := ca) X.K (ma :: mb :: ms) W) := by
  refine (pw_and ha hb).weak fun σ H Q ⟨ρ, en, h, r, q, p⟩ => ?_
  rw [evW.evAnd, boolR_bd] at p
  obtain ⟨ρ', en', h', r', q', p'⟩ := tst (Φ := Φ) (ca := ca) (ma := ma) (W := W) (anti_B _) r q (f := fun x h => boolR (bd (match x with
    | .bl true => evW.evAnd Φ (mb :: ms) en h
    | .bl false => .ok (.val (.bl false)) h
    | _ => .bad) settle)) (fun d h n => by cases d <;> first | rfl | exact absurd rfl (n _)) p
  refine ⟨ρ', en', h', r', q', p'.imp fun k H1 ⟨ρ1, h1, r1, q1, p1⟩ => ?_⟩
  cases k with
  | true => exact ⟨ρ1, en, h1, r1, q1, p1⟩
  | false => exact po_bool r1 p1
theorem t_or1 (ha : PT X a (tTst Φ ca X.K ma W)) : PW X (.BoolOp .Or [a] pos) (tOrT (Φ := Φ) (ca := ca) X.K [ma] W) := by
  refine (pw_or1 ha).weak fun σ H Q ⟨ρ, en, h, r, q, p⟩ => ⟨ρ, en, h, r, q, ?_⟩
  rw [evW.evOr, bd_settle_val] at p
  exact p
theorem t_or2 {rest : List Expr} {ms : List E} (ha : PT X a (tTst Φ ca X.K ma W)) (hb : PW X (.BoolOp .Or (b :: rest) pos) (tOrT (Φ := Φ) (ca := ca) X.K (mb :: ms) W)) : PW X (.BoolOp .Or (a :: b :: rest) pos) (tOrT (Φ := Φ) (ca := ca) X.K (ma :: mb :: ms) W) := by
  refine (pw_or ha hb).weak fun σ H Q ⟨ρ, en, h, r, q, p⟩ => ?_
  rw [evW.evOr, boolR_bd] at p
  obtain ⟨ρ', en', h', r', q', p'⟩ := tst (Φ := Φ) (ca := ca) (ma := ma) (W := W) (anti_B _) r q (f := fun x h => boolR (bd (match x with
    | .bl true => .ok (.val (.bl true)) h
    | .bl false => evW.evOr Φ (mb :: ms) en h
    | _ => .bad) settle)) (fun d h n => by cases d <;> first | rfl | exact absurd rfl (n _)) p
  refine ⟨ρ', en', h', r', q', p'.imp fun k H1 ⟨ρ1, h1, r1, q1, p1⟩ => ?_⟩
  cases k with
  | true => exact po_bool r1 p1
  | false => exact ⟨ρ1, en, h1, r1, q1, p1⟩
/-- .. as values -/
def tAndV' (K : PySem.W.Frag) (ms : List E) (W : WX) : TE := fun σ H Q => ∃ ρ en h, HR K ρ H h ∧ EnR K ρ H en σ ∧ Po K ca (RlW K) ρ H (fun c d H => W c d σ H) (evW.evAnd Φ ms en h) Q
def tOrV' (K : PySem.W.Frag) (ms : List E) (W : WX) : TE := fun σ H Q => ∃ ρ en h, HR K ρ H h ∧ EnR K ρ H en σ ∧ Po K ca (RlW K) ρ H (fun c d H => W c d σ H) (evW.evOr Φ ms en h) Q
theorem v_and1 (ha : PE X a (tD Φ ca X.K ma W)) : PE X (.BoolOp .And [a] pos) (tAndV' (Φ := Φ) (ca := ca) X.K [ma] W) := by
  refine (pe_one ha).weak fun σ H Q ⟨ρ, en, h, r, q, p⟩ => ⟨ρ, en, h, r, q, ?_⟩
  rw [evW.evAnd] at p
  exact p.val
theorem v_and2 {rest : List Expr} {ms : List E} (ha : PE X a (tD Φ ca X.K ma W)) (hb : PE X (.BoolOp .And (b :: rest) pos) (tAndV' (Φ := Φ) (ca := ca) X.K (mb :: ms) W)) : PE X (.BoolOp .And (a :: b :: rest) pos) (tAndV' (Φ := Φ) (ca := ca) X.K (ma :: mb :: ms) W) := by
  refine (pe_and ha hb).weak fun σ H Q ⟨ρ, en, h, r, q, p⟩ => ?_
  rw [evW.evAnd] at p
  obtain ⟨ρ', en', h', r', q', p'⟩ := one (Φ := Φ) (ma := ma) (W := W) anti_W r q p
  refine ⟨ρ', en', h', r', q', p'.imp fun x H1 ⟨dx, ρ1, h1, r1, q1, rx, p1⟩ => ?_⟩
  cases dx with
  | bl k =>
    cases rx
    refine ⟨k, rfl, ?_⟩
    cases k with
    | true => exact ⟨ρ1, en, h1, r1, q1, p1⟩
    | false => exact p1.at r1 rfl
  | _ => exact p1.elim
theorem v_or1 (ha : PE X a (tD Φ ca X.K ma W)) : PE X (.BoolOp .Or [a] pos) (tOrV' (Φ := Φ) (ca := ca) X.K [ma] W) := by
  refine (pe_one ha).weak fun σ H Q ⟨ρ, en, h, r, q, p⟩ => ⟨ρ, en, h, r, q, ?_⟩
  rw [evW.evOr] at p
  exact p.val
theorem v_or2 {rest : List Expr} {ms : List E} (ha : PE X a (tD Φ ca X.K ma W)) (hb : PE X (.BoolOp .Or (b :: rest) pos) (tOrV' (Φ := Φ) (ca := ca) X.K (mb :: ms) W)) : PE X (.BoolOp .Or (a :: b :: rest) pos) (tOrV' (Φ := Φ) (ca := ca) X.K (ma :: mb :: ms) W) := by
  refine (pe_or ha hb).weak fun σ H Q ⟨ρ, en, h, r, q, p⟩ => ?_
  rw [evW.evOr] at p
  obtain ⟨ρ', en', h', r', q', p'⟩ := one (Φ := Φ) (ma := ma) (W := W) anti_W r q p
  refine ⟨ρ', en', h', r', q', p'.imp fun x H1 ⟨dx, ρ1, h1, r1, q1, rx, p1⟩ => ?_⟩
  cases dx with
  | bl k =>
    cases rx
    refine ⟨k, rfl, ?_⟩
    cases k with
    | false => exact ⟨ρ1, en, h1, r1, q1, p1⟩
    | true => exact p1.at r1 rfl
  | _ => exact p1.elim
theorem w_ite (hc : PT X c (tTst Φ ca X.K mc W)) (ha : PE X a (tD Φ ca X.K ma W)) (hb : PE X b (tD Φ ca X.K mb W)) : PE X (.IfExp c a b pos) (tW Φ ca X.K (.ite mc ma mb) W) := by
  refine (pe_ifExp hc ha hb).weak fun σ H Q ⟨ρ, en, h, r, q, p⟩ => ?_
  obtain ⟨ρ', en', h', r', q', p'⟩ := tst (Φ := Φ) (ca := ca) (ma := mc) (W := W) anti_W r q (f := fun x h => match x with
    | .bl true => val (bd (evW Φ ma en h) settle)
    | .bl false => val (bd (evW Φ mb en h) settle)
    | _ => .bad) (fun d h n => by cases d <;> first | rfl | exact absurd rfl (n _)) p
  refine ⟨ρ', en', h', r', q', p'.imp fun k H1 ⟨ρ1, h1, r1, q1, p1⟩ => ?_⟩
  cases k with
  | true => exact ⟨ρ1, en, h1, r1, q1, Po.val p1⟩
  | false => exact ⟨ρ1, en, h1, r1, q1, Po.val p1⟩
/-! ### a < b < c -/
theorem w_chain {n : Nat} (hr : Room n X.A) {o o' : CmpOp} {op op' : Cop} (h1 : copOf o = some op) (h2 : copOf o' = some op') (ha : PE X a (tD Φ ca X.K ma W)) (hb : PE X b (tD Φ ca X.K mb W)) (hc : PE X c (tD Φ ca X.K mc W))
    (hm : lastMarks [o, o'] [b, c] = false) : PE X (.Compare a [o, o'] [b, c] pos) (tW Φ ca X.K (.chain op op' ma mb mc) W) := by
  refine (pe_chain (or_cmp (ca := ca) h1 hr) (or_cmp (ca := ca) h2 hr) ha hb hc hm).weak fun σ H Q ⟨ρ, en, h, r, q, p⟩ => ?_
  obtain ⟨ρ', en', h', r', q', p'⟩ := two (Φ := Φ) (ma := ma) (mb := mb) (W := W) anti_W r q p
  refine ⟨ρ', en', h', r', q', p'.imp fun x H1 ⟨ρ1, en1, g1, r1, q1, p1⟩ => ⟨ρ1, en1, g1, r1, q1, p1.imp fun y H2 ⟨dx, dy, ρ2, g2, r2, q2, rx, ry, p2⟩ => ⟨fun c d H => W c d σ H, dx, dy, ρ2, g2, r2, rx, ry, ?_⟩⟩⟩
  cases e : cmpD g2 op dx dy with
  | none => rw [e] at p2; exact p2.elim
  | some k =>
    rw [e] at p2
    dsimp only
    rw [e]
    show Po X.K ca (RlW X.K) ρ2 H2 _ (.ok (.val (.bl k)) g2) _
    intro ρ3 H3 v g3 r3 rv
    cases rv
    refine ⟨k, rfl, ?_⟩
    cases k with
    | false =>
      rw [if_neg (by decide)]
      exact p2 ρ3 H3 _ g3 r3 rfl
    | true =>
      rw [if_pos rfl]
      have p3 : Po X.K ca (RlW X.K) ρ2 H2 (fun c d H => W c d σ H) (bd (bd (evW Φ mc en g2) settle) fun z h => lift ((cmpD h op' dy z).map fun k => .val (.bl k)) h) Q := p2
      have p4 := Po.shift anti_W g3 r3 p3
      refine ⟨ρ3, en, g2, r3, q2.mono g3 r2, (p4.bind anti_W).imp fun z H4 ⟨dz, ρ4, g4, gg, r4, rz, p5⟩ => ⟨fun c d H => W c d σ H, dy, dz, ρ4, g4, r4, Rep.mono gg r3 (Rep.mono g3 r2 ry), rz, p5⟩⟩
theorem t_chain {n : Nat} (hr : Room n X.A) {o o' : CmpOp} {op op' : Cop} (h1 : copOf o = some op) (h2 : copOf o' = some op') (ha : PE X a (tD Φ ca X.K ma W)) (hb : PE X b (tD Φ ca X.K mb W)) (hc : PE X c (tD Φ ca X.K mc W))
    (hm : lastMarks [o, o'] [b, c] = false) : PT X (.Compare a [o, o'] [b, c] pos) (tTst Φ ca X.K (.chain op op' ma mb mc) W) := by
  refine (pt_chain (or_cmp (ca := ca) h1 hr) (or_cmp (ca := ca) h2 hr) ha hb hc hm).weak fun σ H Q ⟨ρ, en, h, r, q, p⟩ => ?_
  obtain ⟨ρ', en', h', r', q', p'⟩ := two (Φ := Φ) (ma := ma) (mb := mb) (W := W) anti_W r q (tst_to p)
  refine ⟨ρ', en', h', r', q', p'.imp fun x H1 ⟨ρ1, en1, g1, r1, q1, p1⟩ => ⟨ρ1, en1, g1, r1, q1, p1.imp fun y H2 ⟨dx, dy, ρ2, g2, r2, q2, rx, ry, p2⟩ => ⟨fun c d H => W c d σ H, dx, dy, ρ2, g2, r2, rx, ry, ?_⟩⟩⟩
  cases e : cmpD g2 op dx dy with
  | none => rw [e] at p2; exact p2.elim
  | some k =>
    rw [e] at p2
    dsimp only
    rw [e]
    show Po X.K ca (RlW X.K) ρ2 H2 _ (.ok (.val (.bl k)) g2) _
    intro ρ3 H3 v g3 r3 rv
    cases rv
    refine ⟨k, rfl, ?_⟩
    cases k with
    | false =>
      rw [if_neg (by decide)]
      exact p2 ρ3 H3 _ g3 r3 rfl
    | true =>
      rw [if_pos rfl]
      have p3 : Po X.K ca (RlW X.K) ρ2 H2 (fun c d H => W c d σ H) (bd (bd (evW Φ mc en g2) settle) fun z h => lift ((cmpD h op' dy z).map fun k => .val (.bl k)) h) (fun z H' => ∃ k, z = .bl k ∧ Q k H') := p2
      have p4 := Po.shift anti_W g3 r3 p3
      refine ⟨ρ3, en, g2, r3, q2.mono g3 r2, (p4.bind anti_W).imp fun z H4 ⟨dz, ρ4, g4, gg, r4, rz, p5⟩ => ⟨fun c d H => W c d σ H, dy, dz, ρ4, g4, r4, Rep.mono gg r3 (Rep.mono g3 r2 ry), rz, p5⟩⟩
end
end Mp
set_option Elab.async false
set_option linter.all false
set_option maxRecDepth 100000
set_option maxHeartbeats 1000000
/-! Mp5: built-ins over sequences -/
namespace Mp
open PySem PySem.Spec PyProof.Rows L2

/-! ### sum, max, min of a tuple of ints -/
section
variable {prog : Program} {w : World} {A : Around} {E : Value → Shared → Prop} {s : Shared} {l : Addr} {xs : Array (Int × Tok)}
theorem iter_intTup {Q : Value → Shared → Prop} (hl : s.heap.IsTuple l (intItems xs))
    (h : ∀ s₂ : Shared, s₂ = { s with heap := s.heap.push { cls := .type "tuple_iterator", data := .fields #[.ref l, .int 0 0] } } →
      (s₂.heap.IsTupleIter s.heap.objs.size l 0 ∧ s₂.heap.IsTuple l (intItems xs)) → (∀ b ∈ [s.heap.objs.size, l], b < s₂.heap.objs.size) → l ≠ s.heap.objs.size → Q (.ref s.heap.objs.size) s₂) :
    wpAny (model prog w) A (pyIter (.ref l)) Q E s := by
  have hlt : l < s.heap.objs.size := by obtain ⟨_, e, _⟩ := hl; exact Heap.lt_size e
  have hl2 : (s.heap.push { cls := .type "tuple_iterator", data := .fields #[.ref l, .int 0 0] }).IsTuple l (intItems xs) := by
    obtain ⟨o, e, r⟩ := hl
    exact ⟨o, Heap.get?_push_of_some _ e, r⟩
  refine wpAny_pyIter_tuple hl (h _ rfl ⟨⟨_, Heap.get?_push_size _ rfl, rfl, rfl⟩, hl2⟩ (fun b hb => ?_) (Nat.ne_of_lt hlt))
  show b < (s.heap.push _).objs.size
  rw [Heap.size_push]
  rcases List.mem_cons.mp hb with rfl | hb
  · exact Nat.lt_succ_self _
  · rcases List.mem_cons.mp hb with rfl | hb
    · exact Nat.lt_succ_of_lt hlt
    · cases hb
theorem old_keptT {h' : Heap} (hk : ∀ b o, b ∉ [s.heap.objs.size] → (s.heap.push { cls := .type "tuple_iterator", data := .fields #[.ref l, .int 0 0] }).get? b = some o → h'.get? b = some o) :
    ∀ b o, s.heap.get? b = some o → h'.get? b = some o := fun b o e => by
  refine hk b o (fun hm => ?_) (Heap.get?_push_of_some _ e)
  rcases List.mem_cons.mp hm with e1 | hm
  · exact absurd (e1 ▸ Heap.lt_size e) (Nat.lt_irrefl _)
  · cases hm
theorem sum_intTup {Q : Value → Shared → Prop} (hh : A.handled = none) (hl : s.heap.IsTuple l (intItems xs))
    (h : ∀ h' tk t', (∀ b o, s.heap.get? b = some o → h'.get? b = some o) → Q (.int (preSum (numAt xs) xs.size) t') { s with heap := h', toks := tk }) :
    wpAny (model prog w) A (call (.builtin "sum") [.ref l]) Q E s := by
  refine call_sum_walkG (iter_intTup hl fun s₂ e st hfp hlI => ?_)
  subst e
  refine ⟨_, _, _, _, _, _, numAt xs, rfl, Walks.tuple (A := A.in1) hh _ l hlI (intItems xs), st, hfp, (fun _ _ => intItems_at), fun h' tk t' hk => ?_⟩
  have := h h' tk t' (old_keptT hk)
  simpa [intItems] using this
theorem max_intTup {Q : Value → Shared → Prop} (hh : A.handled = none) (hl : s.heap.IsTuple l (intItems xs)) (hne : 0 < xs.size)
    (h : ∀ v h' tk, (intItems xs)[argBest (fun i j => decide (numAt xs i > numAt xs j)) (xs.size - 1)]? = some v → (∀ b o, s.heap.get? b = some o → h'.get? b = some o) → Q v { s with heap := h', toks := tk }) :
    wpAny (model prog w) A (call (.builtin "max") [.ref l]) Q E s := by
  refine call_max_walk (iter_intTup hl fun s₂ e st hfp hlI => ?_)
  subst e
  refine ⟨_, _, _, _, _, _, _, rfl, Walks.tuple (A := A.in1) hh _ l hlI (intItems xs), st, hfp, by simpa [intItems] using hne, CmpOf.ints_gt (numAt xs) (fun _ _ => intItems_at), fun v h' tk hP hk => ?_⟩
  exact h v h' tk (by simpa [intItems] using hP) (old_keptT hk)
theorem min_intTup {Q : Value → Shared → Prop} (hh : A.handled = none) (hl : s.heap.IsTuple l (intItems xs)) (hne : 0 < xs.size)
    (h : ∀ v h' tk, (intItems xs)[argBest (fun i j => decide (numAt xs i < numAt xs j)) (xs.size - 1)]? = some v → (∀ b o, s.heap.get? b = some o → h'.get? b = some o) → Q v { s with heap := h', toks := tk }) :
    wpAny (model prog w) A (call (.builtin "min") [.ref l]) Q E s := by
  refine call_min_walk (iter_intTup hl fun s₂ e st hfp hlI => ?_)
  subst e
  refine ⟨_, _, _, _, _, _, _, rfl, Walks.tuple (A := A.in1) hh _ l hlI (intItems xs), st, hfp, by simpa [intItems] using hne, CmpOf.ints_lt (numAt xs) (fun _ _ => intItems_at), fun v h' tk hP hk => ?_⟩
  exact h v h' tk (by simpa [intItems] using hP) (old_keptT hk)
variable {its : List Value} {ns : List Int} {Q : Value → Shared → Prop}
theorem sum_rawT (hh : A.handled = none) (hl : s.heap.IsTuple l its.toArray) (hi : IntsAre its ns)
    (h : ∀ h' tk t', (∀ b o, s.heap.get? b = some o → h'.get? b = some o) → Q (.int ns.sum t') { s with heap := h', toks := tk }) : wpAny (model prog w) A (call (.builtin "sum") [.ref l]) Q E s := by
  obtain ⟨xs, e⟩ := hi.allInts.items
  have hn : numsOf (intItems xs).toList = ns := by rw [← e]; exact hi.numsOf
  rw [nums_intItems] at hn
  rw [e] at hl
  refine sum_intTup hh hl fun h' tk t' hk => ?_
  have := h h' tk t' hk
  rw [preSum_eq, List.take_of_length_le (by simp), hn]; exact this
theorem max_rawT (hh : A.handled = none) (hl : s.heap.IsTuple l its.toArray) (hi : IntsAre its ns) (hne : 0 < ns.length)
    (h : ∀ h' tk M t', (∀ b o, s.heap.get? b = some o → h'.get? b = some o) → M ∈ ns → (∀ a, a ∈ ns → a ≤ M) → Q (.int M t') { s with heap := h', toks := tk }) : wpAny (model prog w) A (call (.builtin "max") [.ref l]) Q E s := by
  obtain ⟨xs, e⟩ := hi.allInts.items
  have hn : numsOf (intItems xs).toList = ns := by rw [← e]; exact hi.numsOf
  rw [nums_intItems] at hn
  subst hn
  rw [e] at hl
  have hsz : 0 < xs.size := by simpa using hne
  refine max_intTup hh hl hsz fun v h' tk hv hk => ?_
  obtain ⟨t, rfl⟩ := intItems_at hv
  obtain ⟨h1, h2⟩ := argBest_gt (numAt xs) (xs.size - 1)
  refine h h' tk _ t hk ?_ fun a ha => ?_
  · rw [numAt_eq]; exact PySem.getD_mem (by rw [List.length_map, Array.length_toList]; omega)
  · obtain ⟨j, hj, rfl⟩ := mem_getD ha
    rw [List.length_map, Array.length_toList] at hj
    rw [← numAt_eq]; exact h2 j (by omega)
theorem min_rawT (hh : A.handled = none) (hl : s.heap.IsTuple l its.toArray) (hi : IntsAre its ns) (hne : 0 < ns.length)
    (h : ∀ h' tk M t', (∀ b o, s.heap.get? b = some o → h'.get? b = some o) → M ∈ ns → (∀ a, a ∈ ns → M ≤ a) → Q (.int M t') { s with heap := h', toks := tk }) : wpAny (model prog w) A (call (.builtin "min") [.ref l]) Q E s := by
  obtain ⟨xs, e⟩ := hi.allInts.items
  have hn : numsOf (intItems xs).toList = ns := by rw [← e]; exact hi.numsOf
  rw [nums_intItems] at hn
  subst hn
  rw [e] at hl
  have hsz : 0 < xs.size := by simpa using hne
  refine min_intTup hh hl hsz fun v h' tk hv hk => ?_
  obtain ⟨t, rfl⟩ := intItems_at hv
  obtain ⟨h1, h2⟩ := argBest_lt (numAt xs) (xs.size - 1)
  refine h h' tk _ t hk ?_ fun a ha => ?_
  · rw [numAt_eq]; exact PySem.getD_mem (by rw [List.length_map, Array.length_toList]; omega)
  · obtain ⟨j, hj, rfl⟩ := mem_getD ha
    rw [List.length_map, Array.length_toList] at hj
    rw [← numAt_eq]; exact h2 j (by omega)
end
/-! ### items of one kind -/
section
variable {K : PySem.W.Frag} {ρ : List Addr} {H : Hp} {h : Hh}
theorem ints_reps : ∀ {ds : List D} {vs : List V} {ns : List Int}, ints? ds = some ns → Reps K ρ H ds vs → vs = ns.map V.int
  | [], _, _, e, q => by cases e; cases q; rfl
  | d :: ds, _, ns, e, q => by
    obtain ⟨v, t, rfl, q1, q2⟩ := q
    cases d with
    | int i =>
      simp only [ints?, Option.map_eq_some_iff] at e
      obtain ⟨ms, e, rfl⟩ := e
      cases q1
      rw [ints_reps e q2]; rfl
    | _ => cases e
theorem reps_ints : ∀ (ns : List Int), Reps K ρ H (ns.map .int) (ns.map V.int)
  | [] => rfl
  | n :: ns => ⟨_, _, rfl, rfl, reps_ints ns⟩
theorem reps_strs : ∀ (ns : List Str), Reps K ρ H (ns.map .str) (ns.map V.str)
  | [] => rfl
  | n :: ns => ⟨_, _, rfl, rfl, reps_strs ns⟩
theorem bls_reps : ∀ {ds : List D} {vs : List V} {ns : List Bool}, bls? ds = some ns → Reps K ρ H ds vs → vs = ns.map V.bl
  | [], _, _, e, q => by cases e; cases q; rfl
  | d :: ds, _, ns, e, q => by
    obtain ⟨v, t, rfl, q1, q2⟩ := q
    cases d with
    | bl i =>
      simp only [bls?, Option.map_eq_some_iff] at e
      obtain ⟨ms, e, rfl⟩ := e
      cases q1
      rw [bls_reps e q2]; rfl
    | _ => cases e
theorem foldl_max_spec : ∀ (ns : List Int) (n m : Int), m ∈ n :: ns → (∀ y ∈ n :: ns, y ≤ m) → m = ns.foldl max n
  | [], n, m, h1, _ => by simpa using h1
  | k :: ns, n, m, h1, h2 => by
    show m = ns.foldl max (max n k)
    refine foldl_max_spec ns (max n k) m ?_ ?_
    · have a := h2 n (by simp)
      have b := h2 k (by simp)
      rcases List.mem_cons.mp h1 with rfl | h1
      · have : max m k = m := by omega
        rw [this]; simp
      · rcases List.mem_cons.mp h1 with rfl | h1
        · have : max n m = m := by omega
          rw [this]; simp
        · exact List.mem_cons_of_mem _ h1
    · intro y hy
      have a := h2 n (by simp)
      have b := h2 k (by simp)
      rcases List.mem_cons.mp hy with rfl | hy
      · omega
      · exact h2 y (by simp [hy])
theorem foldl_min_spec : ∀ (ns : List Int) (n m : Int), m ∈ n :: ns → (∀ y ∈ n :: ns, m ≤ y) → m = ns.foldl min n
  | [], n, m, h1, _ => by simpa using h1
  | k :: ns, n, m, h1, h2 => by
    show m = ns.foldl min (min n k)
    refine foldl_min_spec ns (min n k) m ?_ ?_
    · have a := h2 n (by simp)
      have b := h2 k (by simp)
      rcases List.mem_cons.mp h1 with rfl | h1
      · have : min m k = m := by omega
        rw [this]; simp
      · rcases List.mem_cons.mp h1 with rfl | h1
        · have : min n m = m := by omega
          rw [this]; simp
        · exact List.mem_cons_of_mem _ h1
    · intro y hy
      have a := h2 n (by simp)
      have b := h2 k (by simp)
      rcases List.mem_cons.mp hy with rfl | hy
      · omega
      · exact h2 y (by simp [hy])
theorem sortI_unique {ns ms : List Int} (p : ms.Perm ns) (s : ms.Pairwise (· ≤ ·)) : ms = sortI ns := by
  have p2 : ms.Perm (sortI ns) := p.trans (List.mergeSort_perm ns _).symm
  have s2 : (sortI ns).Pairwise (fun a b => decide (a ≤ b) = true) := List.pairwise_mergeSort (fun a b c h1 h2 => by simp at *; omega) (fun a b => by simp; omega) ns
  exact p2.eq_of_pairwise (fun a b _ _ h1 h2 => Int.le_antisymm h1 h2) s (s2.imp fun h => by simpa using h)
end

/-- a sequence, where it lies -/
def SqV (K : PySem.W.Frag) (ρ : List Addr) (H : Hp) (w : Wk) (v : V) : Prop := match w.kind with
  | .lst => ∃ a vs, v = .ref a ∧ SqL K H a vs ∧ Reps K ρ H w.its vs
  | .tup => ∃ a vs, v = .ref a ∧ SqT K H a vs ∧ Reps K ρ H w.its vs
  | .str => ∃ z, v = .str z ∧ w.its = signsD z ∧ z.length ≤ sizeLine
  | .other => False
section
variable {K : PySem.W.Frag} {ca : Nat → Addr} {ρ : List Addr} {H : Hp} {h : Hh} {W : XK}
theorem seq_to {α β : Type} {Rl : Hp → α → List Addr → Hp → β → Prop} (an : Anti K Rl) {r : R Rv} {f : Wk → Hh → R α} {Q : β → Hp → Prop} (p : Po K ca Rl ρ H W (bd (bd r walkOf) f) Q) :
    Po K ca (RlW K) ρ H W r (fun v H1 => ∃ w ρ1 h1, Ge ρ H ρ1 H1 ∧ HR K ρ1 H1 h1 ∧ SqV K ρ1 H1 w v ∧ Po K ca Rl ρ1 H1 W (f w h1) Q) := by
  cases r with
  | ok rv h' =>
    intro ρ' H' v g r' q
    cases rv with
    | val d =>
      cases d with
      | tup xs =>
        obtain ⟨a, vs, rfl, s, t⟩ := q
        exact ⟨⟨xs, [], .tup⟩, ρ', h', g, r', ⟨a, vs, rfl, s, t⟩, Po.shift an g r' p⟩
      | fro xs =>
        obtain ⟨a, vs, rfl, s, t⟩ := q
        exact ⟨⟨xs, [], .lst⟩, ρ', h', g, r', ⟨a, vs, rfl, s.sq, t⟩, Po.shift an g r' p⟩
      | ref n =>
        obtain ⟨a, rfl, ea⟩ := q
        simp only [bd_ok, walkOf, walkD] at p
        split at p
        · rename_i xs hx
          obtain ⟨vs, hv, t⟩ := r'.cell _ _ _ ea hx
          exact ⟨⟨xs, [(n, xs)], .lst⟩, ρ', h', g, r', ⟨a, vs, rfl, .inl (.inl hv), t⟩, Po.shift an g r' p⟩
        · exact p.elim
      | str z =>
        simp only [bd_ok, walkOf, walkD] at p
        split at p
        · rename_i hz
          exact ⟨⟨signsD z, [], .str⟩, ρ', h', g, r', ⟨z, q, rfl, hz⟩, Po.shift an g r' p⟩
        · exact p.elim
      | _ => exact p.elim
    | fresh ds =>
      obtain ⟨a, vs, rfl, n0, nr, hq, t⟩ := q
      exact ⟨⟨ds, [], .lst⟩, ρ', h', g, r', ⟨a, vs, rfl, .inl (.inl hq), t⟩, Po.shift an g r' p⟩
    | walk w => exact q.elim
  | err x h' => exact p
  | bad => exact p.elim
end
section
variable {Φ : Nat → List D → M D} {ca : Nat → Addr} {X : Cx} {e a b c : Expr} {m ma mb mc : E} {W : WX} {pos p1 : Pos}
def rSq (K : PySem.W.Frag) (ca : Nat → Addr) (f : Sq) : List V → Hp → VK → Prop := fun vs H Q => ∃ (Wx : XK) (w : Wk) (v : V) (ρ : List Addr) (h : Hh), vs = [v] ∧ HR K ρ H h ∧ SqV K ρ H w v ∧ Po K ca (RlW K) ρ H Wx (lift (sqR f w) h) Q
def sqName : Sq → Str
  | .tuple => "tuple" | .list => "list" | .sum => "sum" | .all => "all" | .any => "any" | .max => "max" | .min => "min" | .sorted => "sorted" | .len => "len"
theorem sq_arg (h : PE X e (tW Φ ca X.K m W)) (f : Sq) : ∀ σ H Q, tW Φ ca X.K (.sq f m) W σ H Q → tW Φ ca X.K m W σ H fun v H1 => rSq X.K ca f [v] H1 Q := by
  intro σ H Q ⟨ρ, en, h, r, q, p⟩
  refine ⟨ρ, en, h, r, q, (seq_to anti_W p).imp fun v H1 ⟨w, ρ1, h1, g, r1, s, p1⟩ => ⟨_, w, v, ρ1, h1, rfl, r1, s, p1⟩⟩
theorem cr_tuple : CallR X (.type "tuple") (rSq X.K ca .tuple) := by
  intro pins s σ H xs us Q I rv ⟨Wx, w, v, ρ, h, e, r, sv, p⟩
  subst e
  obtain ⟨its, gd, kd⟩ := w
  cases kd with
  | lst =>
    obtain ⟨a, vs, rfl, sq, t⟩ := sv
    refine call_tuple_of pins s σ H _ us Q I rv ⟨a, vs, rfl, .inl ⟨sq, fun l hl => ?_⟩⟩
    have g : Ge ρ H ρ (upd H l (.tup vs)) := Ge.new hl r
    exact p ρ _ _ g (r.new hl) ⟨l, vs, rfl, .inl (.inl upd_same), Reps.mono g r t⟩
  | tup =>
    obtain ⟨a, vs, rfl, sq, t⟩ := sv
    exact call_tuple_of pins s σ H _ us Q I rv ⟨a, vs, rfl, .inr ⟨sq, p.at r ⟨a, vs, rfl, sq, t⟩⟩⟩
  | str => exact p.elim
  | other => exact sv.elim
theorem cr_list : CallR X (.type "list") (rSq X.K ca .list) := by
  intro pins s σ H xs us Q I rv ⟨Wx, w, v, ρ, h, e, r, sv, p⟩
  subst e
  obtain ⟨its, gd, kd⟩ := w
  cases kd with
  | lst =>
    obtain ⟨a, vs, rfl, sq, t⟩ := sv
    exact call_list_of pins s σ H _ us Q I rv ⟨a, vs, rfl, .inl sq, fun l hl => po_fresh r t p hl⟩
  | tup =>
    obtain ⟨a, vs, rfl, sq, t⟩ := sv
    exact call_list_of pins s σ H _ us Q I rv ⟨a, vs, rfl, .inr sq, fun l hl => po_fresh r t p hl⟩
  | str => exact p.elim
  | other => exact sv.elim
theorem cr_len : CallR X (.builtin "len") (rSq X.K ca .len) := by
  intro pins s σ H xs us Q I rv ⟨Wx, w, v, ρ, h, e, r, sv, p⟩
  subst e
  obtain ⟨its, gd, kd⟩ := w
  cases kd with
  | lst =>
    obtain ⟨a, vs, rfl, sq, t⟩ := sv
    exact call_len_seq pins s σ H _ us Q I rv ⟨a, vs, rfl, .inl sq, p.at r (by show _ = _; rw [t.length])⟩
  | tup =>
    obtain ⟨a, vs, rfl, sq, t⟩ := sv
    exact call_len_seq pins s σ H _ us Q I rv ⟨a, vs, rfl, .inr sq, p.at r (by show _ = _; rw [t.length])⟩
  | str =>
    obtain ⟨z, rfl, e, hz⟩ := sv
    cases e
    exact call_len_str pins s σ H _ us Q I rv ⟨z, rfl, hz, p.at r (by show _ = _; simp [signsD, Str.length])⟩
  | other => exact sv.elim
theorem keptI {pins : List (Addr × Obj)} {s : Shared} {σ : L2.St} {H : Hp} {h' : Heap} {tk t' : Nat} {i : Int} {Q : VK} (I : Inv X pins σ H s) (k : ∀ b o, s.heap.get? b = some o → h'.get? b = some o) (q : Q (.int i) H) : EP X pins σ Q (.int i t') { s with heap := h', toks := tk } := ⟨.int i, H, I.kept k, ⟨_, rfl⟩, q⟩
theorem cr_sum' (hc : X.calm = true) : CallR X (.builtin "sum") (rSq X.K ca .sum) := by
  intro pins s σ H xs us Q I rv ⟨Wx, w, v, ρ, h, e, r, sv, p⟩
  subst e
  obtain ⟨its, gd, kd⟩ := w
  obtain ⟨rw', e1, p⟩ := p.lift
  cases kd with
  | lst =>
    obtain ⟨a, vs, rfl, sq, t⟩ := sv
    simp only [sqR, sqD, Option.map_map, Option.map_eq_some_iff] at e1
    obtain ⟨ns, e1, e2⟩ := e1
    subst e2
    have := ints_reps e1 t
    subst this
    exact cr_sum hc pins s σ H _ us Q I rv ⟨a, ns, rfl, sq, p.at r rfl⟩
  | tup =>
    obtain ⟨a, vs, rfl, sq, t⟩ := sv
    simp only [sqR, sqD, Option.map_map, Option.map_eq_some_iff] at e1
    obtain ⟨ns, e1, e2⟩ := e1
    subst e2
    have := ints_reps e1 t
    subst this
    rw [Vals.ref1 rv]
    obtain ⟨its, rt, hT, _⟩ := I.tuple sq
    exact sum_rawT (I.ok.hd hc) hT rt.ints fun h' tk t' k => keptI I k (p.at r rfl)
  | str => cases e1
  | other => exact sv.elim
theorem max_val {ds : List D} {rw' : Rv} {w : Wk} (hk : w.kind = .lst ∨ w.kind = .tup) (e : sqR .max w = some rw') : ∃ n ns, ints? w.its = some (n :: ns) ∧ rw' = .val (.int (ns.foldl max n)) := by
  obtain ⟨its, gd, kd⟩ := w
  have e' : (sqD .max its).map Rv.val = some rw' := by
    rcases hk with k | k <;> (cases k; exact e)
  simp only [sqD, Option.map_eq_some_iff] at e'
  obtain ⟨d, e1, rfl⟩ := e'
  split at e1
  · rename_i n ns hn
    cases e1
    exact ⟨n, ns, hn, rfl⟩
  · cases e1
theorem min_val {ds : List D} {rw' : Rv} {w : Wk} (hk : w.kind = .lst ∨ w.kind = .tup) (e : sqR .min w = some rw') : ∃ n ns, ints? w.its = some (n :: ns) ∧ rw' = .val (.int (ns.foldl min n)) := by
  obtain ⟨its, gd, kd⟩ := w
  have e' : (sqD .min its).map Rv.val = some rw' := by
    rcases hk with k | k <;> (cases k; exact e)
  simp only [sqD, Option.map_eq_some_iff] at e'
  obtain ⟨d, e1, rfl⟩ := e'
  split at e1
  · rename_i n ns hn
    cases e1
    exact ⟨n, ns, hn, rfl⟩
  · cases e1
theorem cr_max' (hc : X.calm = true) : CallR X (.builtin "max") (rSq X.K ca .max) := by
  intro pins s σ H xs us Q I rv ⟨Wx, w, v, ρ, h, e, r, sv, p⟩
  subst e
  obtain ⟨its, gd, kd⟩ := w
  obtain ⟨rw', e1, p⟩ := p.lift
  cases kd with
  | lst =>
    obtain ⟨a, vs, rfl, sq, t⟩ := sv
    obtain ⟨n, ns, e2, rfl⟩ := max_val (ds := []) (.inl rfl) e1
    have := ints_reps e2 t
    subst this
    exact cr_max hc pins s σ H _ us Q I rv ⟨a, n :: ns, rfl, sq, by simp, fun m h1 h2 => p.at r (by show _ = _; rw [foldl_max_spec ns n m h1 h2])⟩
  | tup =>
    obtain ⟨a, vs, rfl, sq, t⟩ := sv
    obtain ⟨n, ns, e2, rfl⟩ := max_val (ds := []) (.inr rfl) e1
    have := ints_reps e2 t
    subst this
    rw [Vals.ref1 rv]
    obtain ⟨its, rt, hT, _⟩ := I.tuple sq
    exact max_rawT (I.ok.hd hc) hT rt.ints (by simp) fun h' tk m t' k h1 h2 => keptI I k (p.at r (by show _ = _; rw [foldl_max_spec ns n m h1 h2]))
  | str => cases e1
  | other => exact sv.elim
theorem cr_min' (hc : X.calm = true) : CallR X (.builtin "min") (rSq X.K ca .min) := by
  intro pins s σ H xs us Q I rv ⟨Wx, w, v, ρ, h, e, r, sv, p⟩
  subst e
  obtain ⟨its, gd, kd⟩ := w
  obtain ⟨rw', e1, p⟩ := p.lift
  cases kd with
  | lst =>
    obtain ⟨a, vs, rfl, sq, t⟩ := sv
    obtain ⟨n, ns, e2, rfl⟩ := min_val (ds := []) (.inl rfl) e1
    have := ints_reps e2 t
    subst this
    exact cr_min hc pins s σ H _ us Q I rv ⟨a, n :: ns, rfl, sq, by simp, fun m h1 h2 => p.at r (by show _ = _; rw [foldl_min_spec ns n m h1 h2])⟩
  | tup =>
    obtain ⟨a, vs, rfl, sq, t⟩ := sv
    obtain ⟨n, ns, e2, rfl⟩ := min_val (ds := []) (.inr rfl) e1
    have := ints_reps e2 t
    subst this
    rw [Vals.ref1 rv]
    obtain ⟨its, rt, hT, _⟩ := I.tuple sq
    exact min_rawT (I.ok.hd hc) hT rt.ints (by simp) fun h' tk m t' k h1 h2 => keptI I k (p.at r (by show _ = _; rw [foldl_min_spec ns n m h1 h2]))
  | str => cases e1
  | other => exact sv.elim
theorem cr_all' (hc : X.calm = true) : CallR X (.builtin "all") (rSq X.K ca .all) := by
  intro pins s σ H xs us Q I rv ⟨Wx, w, v, ρ, h, e, r, sv, p⟩
  subst e
  obtain ⟨its, gd, kd⟩ := w
  obtain ⟨rw', e1, p⟩ := p.lift
  cases kd with
  | lst =>
    obtain ⟨a, vs, rfl, sq, t⟩ := sv
    simp only [sqR, sqD, Option.map_map, Option.map_eq_some_iff] at e1
    obtain ⟨ns, e1, e2⟩ := e1
    subst e2
    have := bls_reps e1 t
    subst this
    exact cr_all hc pins s σ H _ us Q I rv ⟨a, ns, rfl, sq, p.at r rfl⟩
  | tup => cases e1
  | str => cases e1
  | other => exact sv.elim
theorem cr_any' (hc : X.calm = true) : CallR X (.builtin "any") (rSq X.K ca .any) := by
  intro pins s σ H xs us Q I rv ⟨Wx, w, v, ρ, h, e, r, sv, p⟩
  subst e
  obtain ⟨its, gd, kd⟩ := w
  obtain ⟨rw', e1, p⟩ := p.lift
  cases kd with
  | lst =>
    obtain ⟨a, vs, rfl, sq, t⟩ := sv
    simp only [sqR, sqD, Option.map_map, Option.map_eq_some_iff] at e1
    obtain ⟨ns, e1, e2⟩ := e1
    subst e2
    have := bls_reps e1 t
    subst this
    exact cr_any hc pins s σ H _ us Q I rv ⟨a, ns, rfl, sq, p.at r rfl⟩
  | tup => cases e1
  | str => cases e1
  | other => exact sv.elim
/-! ### sorted -/
theorem reps_perm {K : PySem.W.Frag} {ρ : List Addr} {H : Hp} {xs ys : List V} (p : ys.Perm xs) : ∀ {ds : List D}, Reps K ρ H ds xs → ∃ es, es.Perm ds ∧ Reps K ρ H es ys := by
  induction p with
  | nil => intro ds q; exact ⟨ds, .refl _, q⟩
  | cons x _ ih =>
    intro ds q
    cases ds with
    | nil => cases q
    | cons d ds =>
      obtain ⟨v, r, e, q1, q2⟩ := q
      cases e
      obtain ⟨es, h1, h2⟩ := ih q2
      exact ⟨d :: es, h1.cons d, _, _, rfl, q1, h2⟩
  | swap x y l =>
    intro ds q
    cases ds with
    | nil => cases q
    | cons d ds =>
      obtain ⟨v, r, e, q1, q2⟩ := q
      cases e
      cases ds with
      | nil => cases q2
      | cons d2 ds =>
        obtain ⟨v, r, e, q3, q4⟩ := q2
        cases e
        exact ⟨d2 :: d :: ds, .swap _ _ _, _, _, rfl, q3, _, _, rfl, q1, q4⟩
  | trans _ _ ih1 ih2 =>
    intro ds q
    obtain ⟨es, h1, h2⟩ := ih2 q
    obtain ⟨fs, h3, h4⟩ := ih1 h2
    exact ⟨fs, h3.trans h1, h4⟩
theorem ints_of : ∀ {ds : List D} {ns : List Int}, ints? ds = some ns → ds = ns.map D.int
  | [], _, e => by cases e; rfl
  | d :: ds, ns, e => by
    cases d with
    | int i =>
      simp only [ints?, Option.map_eq_some_iff] at e
      obtain ⟨ms, e, rfl⟩ := e
      rw [List.map_cons, ints_of e]
    | _ => cases e
theorem ints_reps' {K : PySem.W.Frag} {ρ : List Addr} {H : Hp} : ∀ {ns : List Int} {vs : List V}, Reps K ρ H (ns.map D.int) vs → vs = ns.map V.int
  | [], _, q => by cases q; rfl
  | n :: ns, _, q => by
    obtain ⟨v, t, rfl, q1, q2⟩ := q
    cases q1
    rw [ints_reps' q2]; rfl
theorem tup_rep {K : PySem.W.Frag} {ρ : List Addr} {H : Hp} {t : List Int} {v : V} (q : Rep K ρ H (tupI t) v) : TupI K H v t := by
  obtain ⟨a, vs, rfl, s, rs⟩ := q
  have := ints_reps' rs
  subst this
  exact ⟨a, rfl, s⟩
theorem tups_of : ∀ {ds : List D} {ts : List (List Int)}, tups? ds = some ts → ds = ts.map tupI
  | [], _, e => by cases e; rfl
  | d :: ds, ts, e => by
    cases d with
    | tup xs =>
      simp only [tups?] at e
      split at e
      · rename_i x y e1 e2
        cases e
        rw [tups_of e2, List.map_cons]
        rw [ints_of e1]
        rfl
      · cases e
    | _ => cases e
theorem lexLe_refl : ∀ t : List Int, lexLe t t = true
  | [] => rfl
  | x :: t => by simp [lexLe, lexLe_refl t]
theorem lexLe_total : ∀ a b : List Int, (lexLe a b || lexLe b a) = true
  | [], _ => by simp [lexLe]
  | _ :: _, [] => by simp [lexLe]
  | x :: a, y :: b => by
    by_cases e : x = y
    · subst e; simpa [lexLe] using lexLe_total a b
    · simp [lexLe, e, Ne.symm e]; omega
theorem lexLe_trans : ∀ a b c : List Int, lexLe a b = true → lexLe b c = true → lexLe a c = true
  | [], _, _, _, _ => rfl
  | _ :: _, [], _, h, _ => by simp [lexLe] at h
  | _ :: _, _ :: _, [], _, h => by simp [lexLe] at h
  | x :: a, y :: b, z :: c, h1, h2 => by
    by_cases e1 : x = y
    · subst e1
      simp [lexLe] at h1
      by_cases e2 : x = z
      · subst e2
        simp [lexLe] at h2 ⊢
        exact lexLe_trans a b c h1 h2
      · simpa [lexLe, e2] using h2
    · simp [lexLe, e1] at h1
      by_cases e2 : y = z
      · subst e2; simp [lexLe, e1]; exact h1
      · simp [lexLe, e2] at h2
        have : x ≠ z := by omega
        simp [lexLe, this]; omega
theorem lexLe_anti : ∀ a b : List Int, lexLe a b = true → lexLe b a = true → a = b
  | [], [], _, _ => rfl
  | [], _ :: _, _, h => by simp [lexLe] at h
  | _ :: _, [], h, _ => by simp [lexLe] at h
  | x :: a, y :: b, h1, h2 => by
    by_cases e : x = y
    · subst e
      simp [lexLe] at h1 h2
      rw [lexLe_anti a b h1 h2]
    · simp [lexLe, e, Ne.symm e] at h1 h2; omega
theorem code_lex {B : Int} : ∀ {n m : List Int}, n.length = m.length → TS.Bd B n → TS.Bd B m → TS.code B n ≤ TS.code B m → lexLe n m = true
  | [], _, _, _, _, _ => rfl
  | x :: n, [], h, _, _, _ => by simp at h
  | x :: n, y :: m, hl, h1, h2, h => by
    have hl' : n.length = m.length := by simpa using hl
    by_cases e : x = y
    · subst e
      simp [lexLe]
      refine code_lex hl' h1.tail h2.tail ?_
      by_cases z : TS.code B n ≤ TS.code B m
      · exact z
      · have := (TS.code_same (B := B) (d := x) hl'.symm).mpr (Int.not_le.mp z)
        omega
    · simp [lexLe, e]
      by_cases z : x < y
      · exact z
      · have : y < x := by omega
        have := TS.code_lt hl'.symm h2.tail h1.tail this
        omega
theorem sortT_unique {ts us : List (List Int)} (p : us.Perm ts) (s : us.Pairwise (fun a b => lexLe a b = true)) : us = sortT ts := by
  have p2 : us.Perm (sortT ts) := p.trans (List.mergeSort_perm ts _).symm
  have s2 : (sortT ts).Pairwise (fun a b => lexLe a b = true) := List.pairwise_mergeSort (fun a b c h1 h2 => lexLe_trans a b c h1 h2) lexLe_total ts
  exact p2.eq_of_pairwise (fun a b _ _ h1 h2 => lexLe_anti a b h1 h2) s s2
theorem top_of : ∀ ts : List (List Int), (∀ t ∈ ts, ∀ i ∈ t, 0 ≤ i) → ∃ B : Int, ∀ t ∈ ts, TS.Bd B t
  | [], _ => ⟨0, fun t h => by cases h⟩
  | t :: ts, h => by
    obtain ⟨B, hB⟩ := top_of ts fun u hu => h u (List.mem_cons_of_mem _ hu)
    have one : ∀ t : List Int, (∀ i ∈ t, 0 ≤ i) → ∃ C : Int, ∀ i ∈ t, 0 ≤ i ∧ i < C := by
      intro t
      induction t with
      | nil => exact fun _ => ⟨0, fun i h => by cases h⟩
      | cons x t ih =>
        intro h
        obtain ⟨C, hC⟩ := ih fun i hi => h i (List.mem_cons_of_mem _ hi)
        refine ⟨max C (x + 1), fun i hi => ?_⟩
        rcases List.mem_cons.mp hi with rfl | hi
        · have := h i (by simp); omega
        · have := hC i hi; omega
    obtain ⟨C, hC⟩ := one t (h t (by simp))
    refine ⟨max B C, fun u hu i hi => ?_⟩
    rcases List.mem_cons.mp hu with rfl | hu
    · have := hC i hi; omega
    · have := hB u hu i hi; omega
theorem reps_tupI {K : PySem.W.Frag} {ρ : List Addr} {H : Hp} : ∀ {ts : List (List Int)} {vs : List V}, Reps K ρ H (ts.map tupI) vs → ∀ x ∈ vs, ∃ ns ∈ ts, TupI K H x ns
  | [], _, q, x, hx => by cases q; cases hx
  | t :: ts, _, q, x, hx => by
    obtain ⟨v, r, rfl, q1, q2⟩ := q
    rcases List.mem_cons.mp hx with rfl | hx
    · exact ⟨t, by simp, tup_rep q1⟩
    · obtain ⟨ns, h1, h2⟩ := reps_tupI q2 x hx
      exact ⟨ns, List.mem_cons_of_mem _ h1, h2⟩
/-- what sorted leaves, by the data -/
theorem sorted_data {K : PySem.W.Frag} {ρ : List Addr} {H : Hp} {B : Int} : ∀ {ts : List (List Int)} {ys : List V}, Reps K ρ H (ts.map tupI) ys → (∀ t ∈ ts, TS.Bd B t) → (∀ t ∈ ts, ∀ u ∈ ts, t.length = u.length) →
    ys.Pairwise (fun x y => ∀ n m, TupI K H x n → TupI K H y m → TS.code B n ≤ TS.code B m) → ts.Pairwise (fun a b => lexLe a b = true)
  | [], _, _, _, _, _ => .nil
  | t :: ts, _, q, hb, hl, hp => by
    obtain ⟨v, r, rfl, q1, q2⟩ := q
    obtain ⟨p1, p2⟩ := List.pairwise_cons.mp hp
    refine List.pairwise_cons.mpr ⟨fun u hu => ?_, sorted_data q2 (fun t h => hb t (by simp [h])) (fun t h u h2 => hl t (by simp [h]) u (by simp [h2])) p2⟩
    have tv : TupI K H v t := tup_rep q1
    have : ∀ {us : List (List Int)} {rs : List V}, Reps K ρ H (us.map tupI) rs → ∀ u ∈ us, ∃ y ∈ rs, TupI K H y u := by
      intro us
      induction us with
      | nil => intro rs q u h; cases h
      | cons w us ih =>
        intro rs q u h
        obtain ⟨y, rr, rfl, z1, z2⟩ := q
        rcases List.mem_cons.mp h with rfl | h
        · exact ⟨_, by simp, tup_rep z1⟩
        · obtain ⟨y', h1, h2⟩ := ih z2 u h
          exact ⟨y', by simp [h1], h2⟩
    obtain ⟨y, hy, ty⟩ := this q2 u hu
    exact code_lex (hl t (by simp) u (by simp [hu])) (hb t (by simp)) (hb u (by simp [hu])) (p1 y hy t u tv ty)
theorem perm_map_back {α β : Type} {f : α → β} {l l2 : List β} (p : l.Perm l2) : ∀ m : List α, l2 = m.map f → ∃ u : List α, u.Perm m ∧ l = u.map f := by
  induction p with
  | nil => intro m e; exact ⟨m, .refl _, e⟩
  | cons x _ ih =>
    intro m e
    cases m with
    | nil => cases e
    | cons y m =>
      rw [List.map_cons] at e
      injection e with e1 e2
      obtain ⟨u, h1, h2⟩ := ih m e2
      exact ⟨y :: u, h1.cons y, by rw [List.map_cons, ← h2, e1]⟩
  | swap x y l =>
    intro m e
    cases m with
    | nil => cases e
    | cons a m =>
      rw [List.map_cons] at e
      injection e with e1 e2
      cases m with
      | nil => cases e2
      | cons b m =>
        rw [List.map_cons] at e2
        injection e2 with e3 e4
        exact ⟨b :: a :: m, .swap _ _ _, by rw [List.map_cons, List.map_cons, ← e4, e1, e3]⟩
  | trans _ _ ih1 ih2 =>
    intro m e
    obtain ⟨u, h1, h2⟩ := ih2 m e
    obtain ⟨w, h3, h4⟩ := ih1 u h2
    exact ⟨w, h3.trans h1, h4⟩
theorem sortU_of {K : PySem.W.Frag} {ρ : List Addr} {H : Hp} {a : Addr} {vs : List V} {ts : List (List Int)} {Q : VK} (sq : SqL K H a vs) (t : Reps K ρ H (ts.map tupI) vs) (ok : tupsOk ts = true)
    (k : ∀ q, H q = none → ∀ ys, Reps K ρ H ((sortT ts).map tupI) ys → Q (.ref q) (upd H q (.lst ys))) : ∃ d B, 1 ≤ d ∧ rSortU K d B [.ref a] H Q := by
  cases ts with
  | nil => cases ok
  | cons t0 ts' =>
    unfold tupsOk at ok
    simp only [Bool.and_eq_true, decide_eq_true_eq, List.all_eq_true] at ok
    obtain ⟨⟨o1, o2⟩, o3⟩ := ok
    obtain ⟨B, hB⟩ := top_of (t0 :: ts') fun t ht i hi => (o3 t ht).2 i hi
    refine ⟨t0.length, B, o2, a, vs, rfl, sq, ?_, fun x hx => ?_, fun ys q h1 h2 h3 => ?_⟩
    · rw [t.length]; simpa using o1
    · obtain ⟨ns, m1, m2⟩ := reps_tupI t x hx
      exact ⟨ns, m2, (o3 ns m1).1, hB ns m1⟩
    · obtain ⟨es, k1, k2⟩ := reps_perm h1 t
      obtain ⟨us', k3, k4⟩ := perm_map_back k1 _ rfl
      subst k4
      have srt := sorted_data k2 (fun t ht => hB t (k3.mem_iff.mp ht)) (fun t ht u hu => by rw [(o3 t (k3.mem_iff.mp ht)).1, (o3 u (k3.mem_iff.mp hu)).1]) h2
      have := sortT_unique k3 srt
      subst this
      exact k q h3 ys k2
theorem cr_sorted' : CallR X (.builtin "sorted") (rSq X.K ca .sorted) := by
  intro pins s σ H xs us Q I rv ⟨Wx, w, v, ρ, h, e, r, sv, p⟩
  subst e
  obtain ⟨its, gd, kd⟩ := w
  obtain ⟨rw', e1, p⟩ := p.lift
  cases kd with
  | lst =>
    obtain ⟨a, vs, rfl, sq, t⟩ := sv
    simp only [sqR, Option.map_eq_some_iff] at e1
    obtain ⟨ds, e1, rfl⟩ := e1
    unfold sortD at e1
    split at e1
    · rename_i ns hn
      cases e1
      have := ints_reps hn t
      subst this
      refine cr_sortedI pins s σ H _ us Q I rv ⟨a, ns, rfl, sq, fun ns' q h1 h2 h3 => ?_⟩
      rw [sortI_unique h1 h2] 
      exact po_fresh r (reps_ints _) p h3
    · split at e1
      · rename_i ts ht
        split at e1
        · rename_i ok
          cases e1
          have e2 := tups_of ht
          have t' : Reps X.K ρ H (ts.map tupI) vs := by rw [← e2]; exact t
          obtain ⟨d, B, hd, ru⟩ := sortU_of (Q := Q) sq t' ok fun q hq ys rs => po_fresh r rs p hq
          exact cr_sortT hd pins s σ H _ us Q I rv ru
        · cases e1
      · cases e1
  | tup => cases e1
  | str => cases e1
  | other => exact sv.elim
end
end Mp
set_option Elab.async false
set_option linter.all false
set_option maxRecDepth 100000
set_option maxHeartbeats 1000000
/-! Mp6: subscripts, slices, calls, methods -/
namespace Mp
open PySem PySem.Spec PyProof.Rows L2
section
variable {K : PySem.W.Frag} {ρ : List Addr} {H : Hp} {h : Hh}
theorem reps_atI {ds : List D} {vs : List V} {i : Int} {d : D} (q : Reps K ρ H ds vs) (e : atI ds i = some d) : ∃ v, atI vs i = some v ∧ Rep K ρ H d v := by
  unfold atI at e ⊢
  rw [q.length]
  cases hj : ixN ds.length i with
  | none => rw [hj] at e; cases e
  | some j =>
    rw [hj] at e
    exact q.get e
end
section
variable {Φ : Nat → List D → M D} {ca : Nat → Addr} {cx : CXT} {X : Cx} {e a b c : Expr} {m ma mb mc : E} {W : WX} {pos p1 : Pos}
theorem ix_or : IxR X (rO2 X.K ca fun x y h => lift ((ixD h x y).map .val) h) := by
  intro value slice pins s σ H x y v u Q I rx ry ⟨Wx, dx, dy, ρ, h, r, qx, qy, p⟩ hs
  obtain ⟨rv, e, p2⟩ := p.lift
  simp only [Option.map_eq_some_iff] at e
  obtain ⟨d, e, rfl⟩ := e
  clear p
  cases dx with
  | tup xs =>
    cases dy with
    | int i =>
      obtain ⟨a, vs, rfl, sq, t⟩ := qx
      cases qy
      obtain ⟨w, e1, e2⟩ := reps_atI t e
      exact ix_tup value slice pins s σ H _ _ v u Q I rx ry ⟨a, vs, i, w, rfl, rfl, sq, e1, p2.at r e2⟩ hs
    | _ => cases e
  | ref n =>
    cases dy with
    | int i =>
      obtain ⟨a, rfl, ea⟩ := qx
      cases qy
      simp only [ixD] at e
      split at e
      · rename_i xs hx
        obtain ⟨vs, hv, t⟩ := r.cell _ _ _ ea hx
        obtain ⟨w, e1, e2⟩ := reps_atI t e
        exact ix_list value slice pins s σ H _ _ v u Q I rx ry ⟨a, vs, i, w, rfl, rfl, .inl (.inl hv), e1, p2.at r e2⟩ hs
      · cases e
    | _ => cases e
  | str z =>
    cases dy with
    | int i =>
      cases qx; cases qy
      simp only [ixD] at e
      split at e
      · rename_i hz
        simp only [Option.map_eq_some_iff] at e
        obtain ⟨c, e, rfl⟩ := e
        exact ix_str value slice pins s σ H _ _ v u Q I rx ry ⟨z, i, c, rfl, rfl, hz, e, p2.at r rfl⟩ hs
      · cases e
    | _ => cases e
  | _ => cases e
theorem w_idx (ha : PE X a (tD Φ ca X.K ma W)) (hb : PE X b (tD Φ ca X.K mb W)) (hs : PlainIx b) : PE X (.Subscript a b pos) (tW Φ ca X.K (.idx ma mb) W) := by
  refine (pe_ix (ix_or (ca := ca)) ha hb hs).weak fun σ H Q ⟨ρ, en, h, r, q, p⟩ => ?_
  obtain ⟨ρ', en', h', r', q', p'⟩ := two (Φ := Φ) (ma := ma) (mb := mb) (W := W) anti_W r q p
  exact ⟨ρ', en', h', r', q', p'.imp fun x H1 ⟨ρ1, en1, h1, r1, q1, p1⟩ => ⟨ρ1, en1, h1, r1, q1, p1.imp fun y H2 ⟨dx, dy, ρ2, h2, r2, _, rx, ry, p2⟩ => ⟨_, dx, dy, ρ2, h2, r2, rx, ry, p2⟩⟩⟩
/-! ### slices -/
/-- a part of a slice -/
def RlO : Hp → Option Int → List Addr → Hp → Option Int → Prop := fun _ o _ _ v => v = o
theorem anti_O (K : PySem.W.Frag) : Anti K RlO := ⟨fun _ _ _ _ _ _ _ q => q⟩
def tPt (Φ : Nat → List D → M D) (ca : Nat → Addr) (K : PySem.W.Frag) (m : E) (W : WX) : TO := fun σ H Q => ∃ ρ en h, HR K ρ H h ∧ EnR K ρ H en σ ∧ Po K ca RlO ρ H (fun c d H => W c d σ H) (bd (bd (evW Φ m en h) settle) (partM (isNop m))) Q
theorem PO_weak {X : Cx} {e : Option Expr} {t t' : TO} (h : PO X e t) (w : ∀ σ H Q, t' σ H Q → t σ H Q) : PO X e t' := ⟨fun pins s σ H Q I q => h.run pins s σ H Q I (w σ H Q q)⟩
theorem pt_none : PO X none (tPt Φ ca X.K .nopart W) := PO_weak po_none fun σ H Q ⟨ρ, en, h, r, q, p⟩ => Po.at (Rl := RlO) (v := none) r rfl p
theorem pt_some (hn : isNop m = false) (ha : PE X a (tD Φ ca X.K m W)) : PO X (some a) (tPt Φ ca X.K m W) := by
  refine PO_weak (po_some ha) fun σ H Q ⟨ρ, en, h, r, q, p⟩ => ?_
  refine ⟨ρ, en, h, r, q, (p.bind (anti_O _)).imp fun x H1 ⟨dx, ρ1, h1, g, r1, rx, p1⟩ => ?_⟩
  rw [hn] at p1
  cases dx with
  | int i => cases rx; exact ⟨i, rfl, Po.at (Rl := RlO) (v := some i) r1 rfl p1⟩
  | _ => exact p1.elim
def rSlD (K : PySem.W.Frag) (ca : Nat → Addr) : V → Option Int → Option Int → Hp → VK → Prop := fun x lo hi H Q => ∃ (Wx : XK) (dx : D) (ρ : List Addr) (h : Hh), HR K ρ H h ∧ Rep K ρ H dx x ∧ Po K ca (RlW K) ρ H Wx (lift (cutR h dx lo hi) h) Q
theorem reps_cut {K : PySem.W.Frag} {ρ : List Addr} {H : Hp} {ds : List D} {vs : List V} (q : Reps K ρ H ds vs) (lo hi : Option Int) : Reps K ρ H (cutD ds lo hi) (cutV vs lo hi) := by
  unfold cutD cutV
  rw [q.length]
  exact (q.drop _).take _
theorem cut_whole {ds : List D} {lo hi : Option Int} (h : HT.sIx ds.length 0 lo = 0 ∧ HT.sIx ds.length ds.length hi = ds.length) : cutD ds lo hi = ds := by
  unfold cutD
  rw [h.1, h.2]
  simp
theorem sl_or : SlR X (rSlD X.K ca) := by
  intro pins s σ H x v vl vu lo hi sl Q I rx hs pl pu ⟨Wx, dx, ρ, h, r, qx, p⟩
  obtain ⟨rv, e, p2⟩ := p.lift
  clear p
  cases dx with
  | tup xs =>
    cases e
    obtain ⟨a, vs, rfl, sq, t⟩ := qx
    refine sl_tupA pins s σ H _ v vl vu lo hi sl Q I rx hs pl pu ⟨a, vs, rfl, sq, fun hw => ?_, fun _ q hq => ?_⟩
    · rw [t.length] at hw
      rw [cut_whole hw] at p2
      exact p2.at r ⟨a, vs, rfl, sq, t⟩
    · have g : Ge ρ H ρ (upd H q (.tup (cutV vs lo hi))) := Ge.new hq r
      exact p2 ρ _ _ g (r.new hq) ⟨q, _, rfl, .inl (.inl upd_same), Reps.mono g r (reps_cut t lo hi)⟩
  | ref n =>
    obtain ⟨a, rfl, ea⟩ := qx
    simp only [cutR] at e
    split at e
    · rename_i xs hx
      cases e
      obtain ⟨vs, hv, t⟩ := r.cell _ _ _ ea hx
      exact sl_list pins s σ H _ v vl vu lo hi sl Q I rx hs pl pu ⟨a, vs, rfl, .inl (.inl hv), fun q hq => po_fresh r (reps_cut t lo hi) p2 hq⟩
    · cases e
  | _ => cases e
theorem w_sl {lo hi : Option Expr} {p2 : Pos} {ml mh : E} (ha : PE X a (tD Φ ca X.K ma W)) (hl : PO X lo (tPt Φ ca X.K ml W)) (hh : PO X hi (tPt Φ ca X.K mh W)) : PE X (.Subscript a (.Slice lo hi none p2) pos) (tW Φ ca X.K (.sl ma ml mh) W) := by
  refine (pe_slice (sl_or (ca := ca)) ha hl hh).weak fun σ H Q ⟨ρ, en, h, r, q, p⟩ => ?_
  refine ⟨ρ, en, h, r, q, (p.bind anti_W).imp fun x H1 ⟨dx, ρ1, h1, g, r1, rx, p1⟩ => ⟨ρ1, en, h1, r1, q.mono g r, (p1.bind (Rl := RlO) anti_W).imp fun l H2 ⟨l', ρ2, h2, g2, r2, e2, p2⟩ => ⟨ρ2, en, h2, r2, (q.mono g r).mono g2 r1, (p2.bind (Rl := RlO) anti_W).imp fun u H3 ⟨u', ρ3, h3, g3, r3, e3, p3⟩ => ?_⟩⟩⟩
  cases e2; cases e3
  exact ⟨_, dx, ρ3, h3, r3, Rep.mono g3 r2 (Rep.mono g2 r1 rx), p3⟩
/-! ### calls -/
theorem cx_false {P : Program} {w : World} {outer : List Env} {H : Hp} {s s' : Shared} {u : Value} (h : L2.CX P w outer H s (fun _ _ _ => False) u s') : False := by
  obtain ⟨_, _, _, _, _, _, _, _, _, _, _, _, z⟩ := h
  exact z
theorem pe_callS0 {CX : CXT} {k : Nat} {f : Addr} {fd : FuncData} {ps : List Str} {sp : Sp} {E : L2.St → XK} {x : Str} {p pos : Pos} (F : FnOk X.prog X.w X.K X.mg X.base CX k f fd ps sp) (hr : Room k X.A) (hg : Gl X x) (hm : X.mg x = some (.ref f)) (hk : PySem.W.keepIn X.K (.ref f) = true) (hb : Binds X.K fd ps []) (hx : ∀ σ, PassesAt CX X σ (E σ))
    (hdb : (x == ("__debug__" : Str)) = false) : PE X (.Call (.Name x p) [] [] pos) (tCallS sp E tNil) := by
  refine ⟨fun pins s σ H Q I h => ?_⟩
  refine wpAny_Call_Name_kw (ld_glob I hg hm ?_ hdb)
  exact PySem.W.callWith_K0 I.kIn hk (run_fnS (us := []) F hr hb (hx σ) I .nil h)
theorem w_call {c : SC} (L : Live cx c Φ ca X) (pa : ∀ σ, PassesAt cx X σ (WE W σ)) {f n : Nat} {x : Str} {es : List Expr} {ms : List E} (hf : f < c.top) (hfl : c.fl f = true) (hx : c.fns[f]? = some (x, n)) (hn : ms.length = n) (hl : ms.length = es.length) (hg : c.names.lookup x = some .globalImplicit) (hdb : (x == ("__debug__" : Str)) = false)
    (ha : PA X es (tDs Φ ca X.K ms W)) (he : ∀ e r, es = e :: r → starEach (e :: r) X.env = (false, eval e X.env) :: starEach r X.env) (hpl : ∀ e r, es = e :: r → (backTo pos (starEach r X.env)).any (·.1) = false) : PE X (.Call (.Name x p1) es [] pos) (tW Φ ca X.K (.call f ms) W) := by
  obtain ⟨a, fd, ps, hm, hk, hpn, hb, F⟩ := L.fn f x n hf hx hfl
  have go : ∀ σ H Q, tW Φ ca X.K (.call f ms) W σ H Q → tDs Φ ca X.K ms W σ H fun vs H1 => spF X.K ca n (Φ f) vs H1 Q (WE W σ) := by
    intro σ H Q ⟨ρ, en, h, r, q, p⟩
    refine ⟨ρ, en, h, r, q, (p.bindE anti_W).imp fun vs H1 ⟨ds, ρ1, h1, g, r1, rx, p1, e1⟩ => ⟨ds, ρ1, h1, ?_, r1, rx, p1.val⟩⟩
    have := evWs_len e1
    have := Reps.length rx
    omega
  have hG : Gl X x := L.kinds x _ hg (by decide)
  cases es with
  | nil =>
    refine (pe_callS0 (E := WE W) F L.room hG hm hk hb pa hdb).weak fun σ H Q t => ?_
    have t2 := go σ H Q t
    cases ms with
    | nil =>
      obtain ⟨ρ, en, h, r, q, p⟩ := t2
      exact p.at (v := []) r rfl
    | cons m ms => simp at hl
  | cons e es => exact (pe_callS (E := WE W) F L.room hG hm hk hb pa ha hdb (he e es rfl) (hpl e es rfl)).weak go
/-! ### methods -/
theorem po_islst {K : PySem.W.Frag} {ρ : List Addr} {H : Hp} {h : Hh} {Wx : XK} {l : D} {v : V} {α β : Type} {Rl : Hp → α → List Addr → Hp → β → Prop} {f : Unit → Hh → R α} {Q : β → Hp → Prop} (r : HR K ρ H h) (q : Rep K ρ H l v) (p : Po K ca Rl ρ H Wx (bd (isLst l h) f) Q) :
    ∃ n a xs vs, l = .ref n ∧ v = .ref a ∧ h[n]? = some (.lst xs) ∧ ρ[n]? = some a ∧ H a = some (.lst vs) ∧ Reps K ρ H xs vs ∧ Po K ca Rl ρ H Wx (f () h) Q := by
  cases l with
  | ref n =>
    obtain ⟨a, rfl, ea⟩ := q
    simp only [isLst] at p
    split at p
    · rename_i xs hx
      obtain ⟨vs, hv, t⟩ := r.cell _ _ _ ea hx
      exact ⟨n, a, xs, vs, rfl, rfl, hx, ea, hv, t, p⟩
    · exact p.elim
  | _ => exact p.elim
/-- a list's method of one argument -/
def rM1 (K : PySem.W.Frag) (ca : Nat → Addr) (f : D → D → M D) : V → List V → Hp → VK → Prop := fun x xs H Q => ∃ (Wx : XK) (dx dy : D) (y : V) (ρ : List Addr) (h : Hh), xs = [y] ∧ HR K ρ H h ∧ Rep K ρ H dx x ∧ Rep K ρ H dy y ∧ Po K ca (RlD K) ρ H Wx (f dx dy h) Q
theorem w_meth1 {name : Str} {id : String} {f : D → D → M D} {apos : Pos} (slot : Slot "list" name id) (ty : typeOf (.builtin id) = pure (.type "method_descriptor")) (rule : MtR X id (rM1 X.K ca f)) (ha : PE X a (tD Φ ca X.K ma W)) (hb : PE X b (tD Φ ca X.K mb W))
    (hbase : attributeBase a name X.env (eval a X.env) = eval a X.env)
    (hfew : ((backTo pos (starEach (b :: []) X.env)).all (fun x => !x.1) && (backToKw pos (keywordEach [] X.env)).all (fun x => x.1.isSome)
      && decide ((b :: ([] : List Expr)).length + ([] : List Keyword).length + (if ([] : List Keyword).isEmpty then 0 else 1) < 30)) = true)
    (hline : (apos.endLine == pos.line) = true) (hs : starEach (b :: []) X.env = (false, eval b X.env) :: starEach [] X.env)
    (ev : ∀ en h, evW Φ m en h = bd (bd (evW Φ ma en h) settle) fun l h => bd (isLst l h) fun _ h => bd (bd (evW Φ mb en h) settle) fun y h => val (f l y h)) : PE X (.Call (.Attribute a name apos) [b] [] pos) (tW Φ ca X.K m W) := by
  refine (pe_bm PySem.F.plainAttrs_list slot ty rule ha (pa_cons hb pa_nil hs) hbase hfew hline hs rfl).weak fun σ H Q ⟨ρ, en, h, r, q, p⟩ => ?_
  rw [ev] at p
  refine ⟨ρ, en, h, r, q, (p.bind anti_W).imp fun x H1 ⟨dx, ρ1, h1, g, r1, rx, p1⟩ => ?_⟩
  obtain ⟨n, a', xs, vs, rfl, rfl, hx, ea, hv, t, p1⟩ := po_islst r1 rx p1
  refine ⟨.inl ⟨rfl, _, .inl (.inl hv)⟩, ρ1, en, h1, r1, q.mono g r, (p1.bind anti_W).imp fun y H2 ⟨dy, ρ2, h2, g2, r2, ry, p2⟩ => ?_⟩
  exact ⟨_, .ref n, dy, y, ρ2, h2, rfl, r2, Rep.mono g2 r1 rx, ry, p2.val⟩
theorem mt_app : MtR X "list.append" (rM1 X.K ca appM) := by
  intro pins s σ H x xs v us Q I rx rs ⟨Wx, dx, dy, y, ρ, h, e, r, qx, qy, p⟩
  subst e
  cases dx with
  | ref n =>
    obtain ⟨a, rfl, ea⟩ := qx
    simp only [appM] at p
    split at p
    · rename_i xs hx
      split at p
      · rename_i hz
        obtain ⟨vs, hv, t⟩ := r.cell _ _ _ ea hx
        refine mt_append pins s σ H _ [y] v us Q I rx rs ⟨a, vs, y, rfl, rfl, hv, by rw [t.length]; exact hz, ?_⟩
        exact p ρ _ _ (Ge.cell (List.mem_of_getElem? ea)) (r.set ea (t.append ⟨y, [], rfl, qy, rfl⟩)) rfl
      · exact p.elim
    · exact p.elim
  | _ => exact p.elim
theorem mt_popI : MtR X "list.pop" (rM1 X.K ca popM) := by
  intro pins s σ H x xs v us Q I rx rs ⟨Wx, dx, dy, y, ρ, h, e, r, qx, qy, p⟩
  subst e
  cases dx with
  | ref n =>
    cases dy with
    | int i =>
      obtain ⟨a, rfl, ea⟩ := qx
      cases qy
      simp only [popM] at p
      split at p
      · rename_i xs hx
        split at p
        · rename_i k hk
          unfold pixD at hk
          split at hk
          · rename_i hi
            split at p
            · rename_i z hz
              obtain ⟨vs, hv, t⟩ := r.cell _ _ _ ea hx
              obtain ⟨w, e1, e2⟩ := t.get hz
              refine mt_popAt pins s σ H _ [_] v us Q I rx rs ⟨a, vs, i, k, w, rfl, rfl, hv, hi.1, hi.2, by rw [t.length]; exact hk, e1, ?_⟩
              have g : Ge ρ H ρ (upd H a (.lst (vs.eraseIdx k))) := Ge.cell (List.mem_of_getElem? ea)
              exact p ρ _ _ g (r.set ea (t.eraseIdx k)) (Rep.mono g r e2)
            · exact p.elim
          · cases hk
        · exact p.elim
      · exact p.elim
    | _ => exact p.elim
  | _ => exact p.elim
theorem mt_idx {n : Nat} (hr : Room n X.A) : MtR X "list.index" (rM1 X.K ca fun l y h => lift (indexO h l y) h) := by
  intro pins s σ H x xs v us Q I rx rs ⟨Wx, dx, dy, y, ρ, h, e, r, qx, qy, p⟩
  subst e
  have hu : X.A.units + 65 < cLine := by have := hr.un; omega
  obtain ⟨d, e, p2⟩ := p.lift
  clear p
  unfold indexO at e
  split at e
  · rename_i n ds d' e2 e1
    split at e
    · rename_i sh
      simp only [Bool.and_eq_true] at sh
      simp only [Option.map_eq_some_iff] at e
      obtain ⟨k, e, rfl⟩ := e
      have hl := dp_py r e1 qx
      have hd := dp_py r e2 qy
      obtain ⟨a, rfl, ea⟩ := qx
      rw [List.findIdx?_eq_some_iff_getElem] at e
      obtain ⟨hk, z1, z2⟩ := e
      refine mt_indexD hu pins s σ H _ [y] v us Q I rx rs ⟨a, y, d', ds, k, ds[k], rfl, rfl, hl, hd, sh.2, sh.1, List.getElem?_eq_getElem hk, z1, fun m z' hm hz => ?_, p2.at r rfl⟩
      obtain ⟨hm', rfl⟩ := List.getElem?_eq_some_iff.mp hz
      simpa using z2 m hm
    · cases e
  · cases e
theorem w_split {apos : Pos} (ha : PE X a (tD Φ ca X.K ma W)) (hb : PE X b (tD Φ ca X.K mb W)) (hbase : attributeBase a "split" X.env (eval a X.env) = eval a X.env)
    (hline : (apos.endLine == pos.line) = true) (hs : starEach [b] X.env = [(false, eval b X.env)]) : PE X (.Call (.Attribute a "split" apos) [b] [] pos) (tW Φ ca X.K (.split ma mb) W) := by
  refine (pe_split ha hb hs hbase hline).weak fun σ H Q ⟨ρ, en, h, r, q, p⟩ => ?_
  refine ⟨ρ, en, h, r, q, (p.bind anti_W).imp fun x H1 ⟨dx, ρ1, h1, g, r1, rx, p1⟩ => ?_⟩
  cases dx with
  | str z =>
    cases rx
    refine ⟨⟨z, rfl⟩, ρ1, en, h1, r1, q.mono g r, ?_⟩
    have p1' : Po X.K ca (RlW X.K) ρ1 H1 (fun c d H => W c d σ H) (bd (bd (evW Φ mb en h1) settle) fun y h => lift ((splitO y (.str z)).map .fresh) h) Q := p1
    refine (p1'.bind anti_W).imp fun y H2 ⟨dy, ρ2, h2, g2, r2, ry, p2⟩ => ?_
    obtain ⟨rv, e, p3⟩ := p2.lift
    simp only [Option.map_eq_some_iff] at e
    obtain ⟨ds, e, rfl⟩ := e
    cases dy with
    | str y' =>
      cases ry
      simp only [splitO] at e
      split at e
      · rename_i hz
        cases e
        refine ⟨z, y', rfl, rfl, by simpa using hz.1, hz.2, fun q' hq => po_fresh r2 (reps_strs _) p3 hq⟩
      · cases e
    | _ => cases e
  | _ => exact p1.elim
end
end Mp
set_option Elab.async false
set_option linter.all false
set_option maxRecDepth 100000
set_option maxHeartbeats 1000000
/-! Mp7: built-ins by name, isinstance -/
namespace Mp
open PySem PySem.Spec PyProof.Rows L2
section
variable {Φ : Nat → List D → M D} {ca : Nat → Addr} {cx : CXT} {X : Cx} {e a b c : Expr} {m ma mb mc : E} {W : WX} {pos p1 : Pos}
def rBi (K : PySem.W.Frag) (ca : Nat → Addr) (f : Bi) : List V → Hp → VK → Prop := fun vs H Q => ∃ (Wx : XK) (ds : List D) (ρ : List Addr) (h : Hh), HR K ρ H h ∧ Reps K ρ H ds vs ∧ Po K ca (RlW K) ρ H Wx (lift ((biD f ds).map .val) h) Q
def biName : Bi → Str
  | .abs => "abs" | .int => "int" | .max => "max" | .min => "min"
theorem reps_nil {K : PySem.W.Frag} {ρ : List Addr} {H : Hp} {vs : List V} (q : Reps K ρ H [] vs) : vs = [] := q
theorem bi_inv1 {f : Bi} {ds : List D} {d : D} (hf : f = .abs ∨ f = .int) (e : biD f ds = some d) : ∃ x, ds = [x] := by
  rcases hf with rfl | rfl
  all_goals
    cases ds with
    | nil => cases e
    | cons x r =>
      cases r with
      | nil => exact ⟨x, rfl⟩
      | cons y r => cases x <;> cases e
theorem bi_inv2 {f : Bi} {ds : List D} {d : D} (hf : f = .max ∨ f = .min) (e : biD f ds = some d) : ∃ i j, ds = [.int i, .int j] := by
  rcases hf with rfl | rfl
  all_goals
    cases ds with
    | nil => cases e
    | cons x r =>
      cases r with
      | nil => cases x <;> cases e
      | cons y r =>
        cases r with
        | nil => cases x <;> cases y <;> first | cases e; done | exact ⟨_, _, rfl⟩
        | cons z r => cases x <;> cases y <;> cases e
theorem cr_abs' : CallR X (.builtin "abs") (rBi X.K ca .abs) := by
  intro pins s σ H xs us Q I rv ⟨Wx, ds, ρ, h, r, t, p⟩
  obtain ⟨rw', e, p2⟩ := p.lift
  simp only [Option.map_eq_some_iff] at e
  obtain ⟨d, e, rfl⟩ := e
  obtain ⟨x, rfl⟩ := bi_inv1 (.inl rfl) e
  obtain ⟨v, t', rfl, q1, q2⟩ := t
  cases q2
  cases x <;> cases e
  cases q1
  exact call_abs pins s σ H _ us Q I rv ⟨_, rfl, p2.at r rfl⟩
theorem cr_int' : CallR X (.type "int") (rBi X.K ca .int) := by
  intro pins s σ H xs us Q I rv ⟨Wx, ds, ρ, h, r, t, p⟩
  obtain ⟨rw', e, p2⟩ := p.lift
  simp only [Option.map_eq_some_iff] at e
  obtain ⟨d, e, rfl⟩ := e
  obtain ⟨x, rfl⟩ := bi_inv1 (.inr rfl) e
  obtain ⟨v, t', rfl, q1, q2⟩ := t
  cases q2
  cases x <;> cases e
  · cases q1
    exact call_int1 pins s σ H _ us Q I rv (.inr ⟨_, rfl, p2.at r rfl⟩)
  · cases q1
    exact call_int1 pins s σ H _ us Q I rv (.inl ⟨_, rfl, p2.at r rfl⟩)
theorem cr_max2 (hc : X.calm = true) : CallR X (.builtin "max") (rBi X.K ca .max) := by
  intro pins s σ H xs us Q I rv ⟨Wx, ds, ρ, h, r, t, p⟩
  obtain ⟨rw', e, p2⟩ := p.lift
  simp only [Option.map_eq_some_iff] at e
  obtain ⟨d, e, rfl⟩ := e
  obtain ⟨i, j, rfl⟩ := bi_inv2 (.inl rfl) e
  obtain ⟨v, t', rfl, q1, q2⟩ := t
  obtain ⟨v2, t2, rfl, q3, q4⟩ := q2
  cases q1; cases q3; cases q4; cases e
  exact call_max2 hc pins s σ H _ us Q I rv ⟨i, j, rfl, p2.at r rfl⟩
theorem cr_min2 (hc : X.calm = true) : CallR X (.builtin "min") (rBi X.K ca .min) := by
  intro pins s σ H xs us Q I rv ⟨Wx, ds, ρ, h, r, t, p⟩
  obtain ⟨rw', e, p2⟩ := p.lift
  simp only [Option.map_eq_some_iff] at e
  obtain ⟨d, e, rfl⟩ := e
  obtain ⟨i, j, rfl⟩ := bi_inv2 (.inr rfl) e
  obtain ⟨v, t', rfl, q1, q2⟩ := t
  obtain ⟨v2, t2, rfl, q3, q4⟩ := q2
  cases q1; cases q3; cases q4; cases e
  exact call_min2 hc pins s σ H _ us Q I rv ⟨i, j, rfl, p2.at r rfl⟩
/-- what a call by a built-in's name wants of the text -/
structure CallT (X : Cx) (x : Str) (pos : Pos) (e : Expr) (es : List Expr) : Prop where
  gl : Gl X x
  he : starEach (e :: es) X.env = (false, eval e X.env) :: starEach es X.env
  hpl : (backTo pos (starEach es X.env)).any (·.1) = false
theorem bi_arg {f : Bi} {ms : List E} : ∀ σ H Q, tW Φ ca X.K (.bi f ms) W σ H Q → tDs Φ ca X.K ms W σ H fun vs H1 => rBi X.K ca f vs H1 Q := by
  intro σ H Q ⟨ρ, en, h, r, q, p⟩
  exact ⟨ρ, en, h, r, q, (p.bind anti_W).imp fun vs H1 ⟨ds, ρ1, h1, g, r1, rx, p1⟩ => ⟨_, ds, ρ1, h1, r1, rx, p1⟩⟩
theorem w_bi {c : SC} (L : Live cx c Φ ca X) {f : Bi} {es : List Expr} {ms : List E} (T : CallT X (biName f) pos e es) (ha : PA X (e :: es) (tDs Φ ca X.K ms W)) : PE X (.Call (.Name (biName f) p1) (e :: es) [] pos) (tW Φ ca X.K (.bi f ms) W) := by
  have hm : X.mg (biName f) = none := L.blt _ (by cases f <;> decide +kernel)
  cases f with
  | abs => exact (pe_callB cr_abs' T.gl hm boot_abs ha (by decide +kernel) (by decide +kernel) T.he T.hpl).weak bi_arg
  | int => exact (pe_callTy cr_int' T.gl hm boot_int ha (by decide +kernel) (by decide +kernel) T.he T.hpl).weak bi_arg
  | max => exact (pe_callB (cr_max2 L.calm) T.gl hm boot_max ha (by decide +kernel) (by decide +kernel) T.he T.hpl).weak bi_arg
  | min => exact (pe_callB (cr_min2 L.calm) T.gl hm boot_min ha (by decide +kernel) (by decide +kernel) T.he T.hpl).weak bi_arg
theorem sq_arg' (f : Sq) : ∀ σ H Q, tW Φ ca X.K (.sq f m) W σ H Q → tCons (tW Φ ca X.K m W) tNil σ H fun vs H1 => rSq X.K ca f vs H1 Q := by
  intro σ H Q ⟨ρ, en, h, r, q, p⟩
  exact ⟨ρ, en, h, r, q, (seq_to anti_W p).imp fun v H1 ⟨w, ρ1, h1, g, r1, s, p1⟩ => ⟨_, w, v, ρ1, h1, rfl, r1, s, p1⟩⟩
theorem w_sq {c : SC} (L : Live cx c Φ ca X) {f : Sq} (T : CallT X (sqName f) pos e []) (ha : PE X e (tW Φ ca X.K m W)) : PE X (.Call (.Name (sqName f) p1) [e] [] pos) (tW Φ ca X.K (.sq f m) W) := by
  have hm : X.mg (sqName f) = none := L.blt _ (by cases f <;> decide +kernel)
  have pa := pa_cons ha pa_nil T.he
  cases f with
  | tuple => exact (pe_callTy cr_tuple T.gl hm boot_tuple pa (by decide +kernel) (by decide +kernel) T.he T.hpl).weak (sq_arg' _)
  | list => exact (pe_callTy cr_list T.gl hm boot_list pa (by decide +kernel) (by decide +kernel) T.he T.hpl).weak (sq_arg' _)
  | sum => exact (pe_callB (cr_sum' L.calm) T.gl hm boot_sum pa (by decide +kernel) (by decide +kernel) T.he T.hpl).weak (sq_arg' _)
  | all => exact (pe_callB (cr_all' L.calm) T.gl hm boot_all pa (by decide +kernel) (by decide +kernel) T.he T.hpl).weak (sq_arg' _)
  | any => exact (pe_callB (cr_any' L.calm) T.gl hm boot_any pa (by decide +kernel) (by decide +kernel) T.he T.hpl).weak (sq_arg' _)
  | max => exact (pe_callB (cr_max' L.calm) T.gl hm boot_max pa (by decide +kernel) (by decide +kernel) T.he T.hpl).weak (sq_arg' _)
  | min => exact (pe_callB (cr_min' L.calm) T.gl hm boot_min pa (by decide +kernel) (by decide +kernel) T.he T.hpl).weak (sq_arg' _)
  | sorted => exact (pe_callB cr_sorted' T.gl hm boot_sorted pa (by decide +kernel) (by decide +kernel) T.he T.hpl).weak (sq_arg' _)
  | len => exact (pe_callB cr_len T.gl hm boot_len pa (by decide +kernel) (by decide +kernel) T.he T.hpl).weak (sq_arg' _)
/-! ### isinstance -/
def tyName : Ty → String
  | .int => "int" | .bool => "bool" | .tuple => "tuple" | .str => "str" | .list => "list"
def tyStr : Ty → Str
  | .int => "int" | .bool => "bool" | .tuple => "tuple" | .str => "str" | .list => "list"
theorem boot_ty (t : Ty) : bootBuiltins (tyStr t) = some (.type (tyName t)) := by
  cases t
  · exact boot_int
  · exact boot_bool
  · exact boot_tuple
  · exact boot_str
  · exact boot_list
theorem isi_val {K : PySem.W.Frag} {ρ : List Addr} {H : Hp} {h : Hh} {d : D} {v : V} {t : Ty} {k : Bool} (r : HR K ρ H h) (q : Rep K ρ H d v) (e : isD t d h = some k) : ∃ tv, TyX K H v tv ∧ PySem.W.kitOne K tv (.type (tyName t)) = some k := by
  cases d with
  | non => cases q; cases t <;> cases e <;> exact ⟨_, .base .non, kit_ty (by decide +kernel)⟩
  | bl b => cases q; cases t <;> cases e <;> exact ⟨_, .base (.bl b), kit_ty (by decide +kernel)⟩
  | int i => cases q; cases t <;> cases e <;> exact ⟨_, .base (.int i), kit_ty (by decide +kernel)⟩
  | str z => cases q; cases t <;> cases e <;> exact ⟨_, .base (.str z), kit_ty (by decide +kernel)⟩
  | tup xs =>
    obtain ⟨a, vs, rfl, s, _⟩ := q
    have ty : TyX K H (.ref a) (.type "tuple") := by
      rcases s with (s | ⟨o, s⟩) | s
      · exact .base (.tup s)
      · exact .fTuple s
      · obtain ⟨o, its, n, hl, hc, _⟩ := s
        exact .kTuple hl hc
    cases t <;> cases e <;> exact ⟨_, ty, kit_ty (by decide +kernel)⟩
  | fro xs => cases t <;> cases e
  | ref n =>
    obtain ⟨a, rfl, ea⟩ := q
    cases t <;> simp only [isD] at e <;> split at e <;> cases e <;> rename_i hx <;> (obtain ⟨vs, hv, _⟩ := r.cell _ _ _ ea hx; exact ⟨_, .base (.lst hv), kit_ty (by decide +kernel)⟩)
theorem w_isi {c : SC} (L : Live cx c Φ ca X) {t : Ty} {p2 : Pos} (T : CallT X "isinstance" pos a [.Name (tyStr t) p2]) (hg : Gl X (tyStr t)) (hs : starEach [.Name (tyStr t) p2] X.env = (false, eval (.Name (tyStr t) p2) X.env) :: starEach [] X.env) (ha : PE X a (tD Φ ca X.K ma W)) :
    PE X (.Call (.Name "isinstance" p1) [a, .Name (tyStr t) p2] [] pos) (tW Φ ca X.K (.isi ma t) W) := by
  have hm : X.mg "isinstance" = none := L.blt _ (by decide +kernel)
  have hm2 : X.mg (tyStr t) = none := L.blt _ (by cases t <;> decide +kernel)
  have pb : PE X (.Name (tyStr t) p2) (tC (.ty (tyName t))) := pe_bltn hg hm2 (boot_ty t) rfl (by cases t <;> decide +kernel) (by cases t <;> decide +kernel)
  refine (pe_callB call_isi T.gl hm boot_isinstance (pa_cons ha (pa_cons pb pa_nil hs) T.he) (by decide +kernel) (by decide +kernel) T.he T.hpl).weak fun σ H Q ⟨ρ, en, h, r, q, p⟩ => ?_
  refine ⟨ρ, en, h, r, q, (p.bind anti_W).imp fun v H1 ⟨d, ρ1, h1, g, r1, rx, p1⟩ => ?_⟩
  obtain ⟨rw', e, p2⟩ := p1.lift
  simp only [Option.map_eq_some_iff] at e
  obtain ⟨k, e, rfl⟩ := e
  obtain ⟨tv, h2, h3⟩ := isi_val r1 rx e
  exact ⟨v, .ty (tyName t), tv, _, k, rfl, .ty _, h2, h3, p2.at r1 rfl⟩
end
end Mp
set_option Elab.async false
set_option linter.all false
set_option maxRecDepth 100000
set_option maxHeartbeats 1000000
namespace PySem
open Sem (wp)
set_option maxHeartbeats 1000000 in
theorem meets_enumerate_newB1 {v : Value} {o : Obj} {H : Heap → Prop} (B : Begins v o H) :
    Meets (Builtin.«enumerate.__new__» ⟨[.type "enumerate", v], []⟩) (fun _ R s => H s.heap ∧
      R (.ok (.ret (.ref (s.heap.push o).objs.size))) { s with heap := (s.heap.push o).push { cls := .type "enumerate", data := .fields #[.none, .bool false, .ref s.heap.objs.size, rawInt 0, .none, .none] } }) :=
  .of_wp fun prog w A R s h => by
    obtain ⟨hp, g, d, tk, os⟩ := s; obtain ⟨h1, h⟩ := h
    have hsub := sub_enumerate
    have q1 : ∀ {A' : Around} {E : Value → Shared → Prop} {Q : Value → Shared → Prop}, Q (.ref hp.objs.size) ⟨hp.push o, g, d, tk, os⟩ → wpAny (model prog w) A' (pyIter v) Q E ⟨hp, g, d, tk, os⟩ :=
      fun q => B.iter prog w _ _ ⟨hp, g, d, tk, os⟩ _ h1 q
    wp_walk using q1
    refine wpAny_stack_any fun st => wpAny_pure ?_
    split
    · rename_i c _ _ _ _ _
      cases (c == Value.type "enumerate")
      · wp_walk using q1
        exact ⟨_, rfl, h⟩
      · wp_walk using q1
        exact ⟨_, rfl, h⟩
    · wp_walk using q1
      exact ⟨_, rfl, h⟩
theorem enum_begins1 {prog : Program} {w : World} {A : Around} {E : Value → Shared → Prop} {s : Shared} {v : Value} {o : Obj} {H : Heap → Prop} {Q : Value → Shared → Prop} (B : Begins v o H) (h1 : H s.heap)
    (h : ∀ h', IsEnum h' (s.heap.objs.size + 1) s.heap.objs.size 0 .none → h'.get? s.heap.objs.size = some o → h'.objs.size = s.heap.objs.size + 2 →
      (∀ b o, s.heap.get? b = some o → h'.get? b = some o) → Q (.ref (s.heap.objs.size + 1)) { s with heap := h' }) :
    wpAny (model prog w) A (call (.type "enumerate") [v]) Q E s := by
  refine callType_new F.called_enumerate (by decide) (F.typeCall_enumerate_1 _) (F.newCall_enumerate_1 _) (fun obj => F.args_object_init_2 obj _) F.entry_enumerate_new
    (meets_enumerate_newB1 B) ⟨h1, ?_⟩
  have hz : (s.heap.push o).objs.size = s.heap.objs.size + 1 := Heap.size_push ..
  show _ ∧ _
  rw [hz]
  have he : IsEnum ((s.heap.push o).push { cls := .type "enumerate", data := .fields #[.none, .bool false, .ref s.heap.objs.size, rawInt 0, .none, .none] }) (s.heap.objs.size + 1) s.heap.objs.size 0 .none := by
    have := Heap.get?_push_size (s.heap.push o) (o := { cls := .type "enumerate", data := .fields #[.none, .bool false, .ref s.heap.objs.size, rawInt 0, .none, .none] }) rfl
    rw [hz] at this; exact this
  refine ⟨⟨_, he, rfl⟩, h _ he (Heap.get?_push_of_some _ (Heap.get?_push_size _ B.free)) (by rw [Heap.size_push, hz]) fun b o x => Heap.get?_push_of_some _ (Heap.get?_push_of_some _ x)⟩
end PySem
/-! Mp8: what is walked -/
namespace L2
open PySem PySem.Spec PyProof.Rows
/-- enumerate of a tuple -/
def IteT (K : PySem.W.Frag) (a : Addr) : It :=
  ⟨fun i H => ∃ (xs : List V) (x : V), SqT K H a xs ∧ xs[i]? = some x, fun i H v H' => ∃ T x, v = .ref T ∧ H T = none ∧ H' = upd H T (.tup [.int (i : Nat), x]) ∧ ∀ xs, SqT K H a xs → xs[i]? = some x, fun i H => ∃ xs : List V, SqT K H a xs ∧ xs.length = i⟩
theorem turn_enumT {P : Program} {w : World} {K : PySem.W.Frag} {elts : List Expr} {kk : Nat} {tpos : Pos} (a e it : Addr) :
    Turn P w K (.Tuple elts kk tpos) (IteT K a) [e, it] e (fun i h => (∃ old, IsEnum h e it ((i : Nat) : Int) old) ∧ h.IsTupleIter it a i ∧ e ≠ it ∧ a ≠ it ∧ a ≠ e) where
  mem := by simp
  obj := fun i h st b hb => by
    obtain ⟨⟨old, he⟩, ⟨o, ho, hc, hd⟩, _⟩ := st
    have e' : b = e ∨ b = it := by simpa using hb
    rcases e' with z | z
    · rw [z]; exact ⟨_, he, fun v q => nomatch q⟩
    · rw [z]; exact ⟨o, ho, fun v q => by rw [hd] at q; cases q⟩
  keep := fun i h h' st k => let ⟨⟨old, he⟩, hi, hne⟩ := st; ⟨⟨old, k e (by simp) _ he⟩, hi.at fun o q => k it (by simp) o q, hne⟩
  item := by
    intro X hP hw hK hc i pins s σ H E I hf st hg
    subst hP hw hK
    obtain ⟨⟨old, he⟩, hit, hne, ha1, ha2⟩ := st
    obtain ⟨xs, x, hq, hx⟩ := hg
    obtain ⟨its, rv, p, hz⟩ := I.tuple hq
    obtain ⟨u, hu, ru⟩ := rv.get hx
    have hel : e < s.heap.objs.size := Heap.lt_size he
    have hil : it < s.heap.objs.size := by obtain ⟨_, q, _⟩ := hit; exact Heap.lt_size q
    have hi : i < its.toArray.size := by simpa using (List.getElem?_eq_some_iff.mp hu).1
    refine wpAny_pyNext_enum_itemD (Draws.tuple (prog := X.prog) (w := X.w) (A := X.A.in1) (I.ok.hd hc) it a ha1 its.toArray) he ⟨hit, p⟩ hi hne (by simp [hne, Ne.symm ha2]) fun v h' tk hv ho st' hT hsz hk => ?_
    have ev : v = u := by
      have : its[i]? = some v := by simpa using hv
      rw [hu] at this; exact (Option.some.inj this).symm
    subst ev
    refine ⟨_, rfl, wpAny_letOwnedTupleGo_enum (s := { s with heap := h', toks := tk + 1 }) ho fun h'' he' sb => ?_⟩
    have hT2 : h''.get? s.heap.objs.size = some { cls := .type "tuple", data := .seq #[.int i tk, v] } := (sb.2 _ (Nat.ne_of_gt hel)).trans hT
    have new : ObjOk X.prog X.w (upd H s.heap.objs.size (.tup [.int (i : Nat), x])) h'' s.heap.objs.size (.tup [.int (i : Nat), x]) :=
      ⟨by show 2 ≤ sizeLine; decide, [.int i tk, v], .cons ⟨_, rfl⟩ (.cons ru .nil), ⟨_, hT2, rfl, _, rfl⟩⟩
    have I1 : Inv X pins σ (upd H s.heap.objs.size (.tup [.int (i : Nat), x])) { s with heap := h'', toks := tk + 1 } :=
      I.turnedNew (ch := [e, it]) (fun b ob hb q => (sb.2 b (fun z => hb (by simp [z]))).trans (hk b ob (fun z => hb (by simp [z])) (fun z => hb (by simp [z])) q)) hf (Nat.le_refl _) new
    refine ⟨.ref s.heap.objs.size, _, I1, rfl, ⟨_, x, rfl, I.hok.fresh (Nat.le_refl _), rfl, fun ys hy => by rw [I.tuple_inj hy hq]; exact hx⟩, ⟨⟨v, ?_⟩, st'.1.at fun o q => (sb.2 it (Ne.symm hne)).trans q, hne, ha1, ha2⟩, fun b hb => ?_⟩
    · have e1 : ((i + 1 : Nat) : Int) = (i : Int) + 1 := by omega
      rw [e1]; exact he'
    · have hb' : b < s.heap.objs.size := by
        have e' : b = e ∨ b = it := by simpa using hb
        rcases e' with z | z
        · rw [z]; exact hel
        · rw [z]; exact hil
      rw [upd_ne (Nat.ne_of_lt hb')]
      exact (hf b hb).1
  done := by
    intro X hP hw hK hc i pins s σ H E I hf st hg
    subst hP hw hK
    obtain ⟨⟨old, he⟩, hit, hne, ha1, ha2⟩ := st
    obtain ⟨xs, hq, hx⟩ := hg
    obtain ⟨its, rv, p, hz⟩ := I.tuple hq
    obtain ⟨f0, f1, f2, f3, f4, f5⟩ := hf it (by simp)
    have hl := rv.length
    have hi : i = its.toArray.size := by simp; omega
    subst hi
    exact wpAny_pyNext_enum_endD (Draws.tuple (prog := X.prog) (w := X.w) (A := X.A.in1) (I.ok.hd hc) it a ha1 its.toArray) he ⟨hit, p⟩ fun h' eb => ⟨rfl, I.turned (t' := s.toks) (fun b o hb q => eb b o hb q) f0 f1 f3 f4 f5⟩
  self := fun A i s Q E st h => let ⟨⟨_, he⟩, _⟩ := st; wpAny_pyIter_enum he h
theorem pi_enumA {X : Cx} {e : Expr} {ta : TA} {p pos tpos : Pos} {elts : List Expr} {kk : Nat} (hg : Gl X "enumerate") (hm : X.mg "enumerate" = none) (ha : PA X [e] ta) (hs : starEach [e] X.env = [(false, eval e X.env)]) :
    PI X (.Tuple elts kk tpos) (.Call (.Name "enumerate" p) [e] [] pos) fun σ H R => ta σ H fun vs H1 => ∃ a xs, vs = [.ref a] ∧ ((SqL X.K H1 a xs ∧ R (Ite X.K a) H1) ∨ (SqT X.K H1 a xs ∧ R (IteT X.K a) H1)) := by
  refine ⟨fun pins s σ H R I h => ?_⟩
  refine Call_ (ld_blt I hg hm boot_enumerate (PyProof.Rows.callWith_type1 (thn (ha.run pos pins s σ H _ I h) fun us s1 ⟨vs, H1, I1, r1, q1⟩ => ?_) hs rfl))
  obtain ⟨a, xs, ex, q1⟩ := q1
  subst ex
  cases r1 with
  | cons r rr =>
    cases rr
    cases r
    have fp : ∀ b ∈ [s1.heap.objs.size + 1, s1.heap.objs.size], FpOk X pins H1 b := fun b hb => by
      have e' : b = s1.heap.objs.size + 1 ∨ b = s1.heap.objs.size := by simpa using hb
      have hle : s1.heap.objs.size ≤ b := by
        rcases e' with z | z
        · rw [z]; exact Nat.le_add_right _ _
        · rw [z]; exact Nat.le_refl _
      exact I1.fpOk hle (I1.hok.fresh hle)
    rcases q1 with ⟨hq, q⟩ | ⟨hq, q⟩
    · obtain ⟨its, rv, p', hz⟩ := I1.list hq
      refine call_enumerate_list p'.isList fun h' he hit hsz hk => wpAny_pyIter_enum he ?_
      have I2 : Inv X pins σ H1 { s1 with heap := h' } := I1.kept (t' := s1.toks) hk
      exact ⟨s1.heap.objs.size + 1, [s1.heap.objs.size + 1, s1.heap.objs.size], _, _, H1, rfl, I2, turn_enum a (s1.heap.objs.size + 1) s1.heap.objs.size, ⟨⟨.none, he⟩, hit, Nat.succ_ne_self _⟩, fp, q⟩
    · obtain ⟨its, rv, p', hz⟩ := I1.tuple hq
      refine enum_begins1 (begins_tuple a its.toArray) (show s1.heap.IsTuple a its.toArray from p') fun h' he hit hsz hk => wpAny_pyIter_enum he ?_
      have I2 : Inv X pins σ H1 { s1 with heap := h' } := I1.kept (t' := s1.toks) hk
      have hal : a < s1.heap.objs.size := by obtain ⟨o, ho, _⟩ := id p'; exact Heap.lt_size ho
      exact ⟨s1.heap.objs.size + 1, [s1.heap.objs.size + 1, s1.heap.objs.size], _, _, H1, rfl, I2, turn_enumT a (s1.heap.objs.size + 1) s1.heap.objs.size, ⟨⟨.none, he⟩, ⟨_, hit, rfl, rfl⟩, Nat.succ_ne_self _, Nat.ne_of_lt hal, Nat.ne_of_lt (Nat.lt_succ_of_lt hal)⟩, fp, q⟩
end L2
set_option Elab.async false
set_option linter.all false
set_option maxRecDepth 100000
set_option maxHeartbeats 1000000
/-! Mp9: what is walked, by data -/
namespace L2
open PySem PySem.Spec PyProof.Rows
def iAny (K : PySem.W.Frag) (te : TE) : TI := fun σ H R => te σ H fun v H1 => (∃ a xs, v = .ref a ∧ SqL K H1 a xs ∧ R (Itl K a) H1) ∨ (∃ a xs, v = .ref a ∧ SqT K H1 a xs ∧ R (Itt K a) H1) ∨ (∃ z, v = .str z ∧ R (Its z) H1)
theorem pi_any {X : Cx} {tg l : Expr} {tl : TE} (hl : PE X l tl) : PI X tg l (iAny X.K tl) := by
  refine ⟨fun pins s σ H R I h => ?_⟩
  refine thn (hl.run pins s σ H _ I h) fun v s1 ⟨x, H1, I1, r1, q1⟩ => ?_
  rcases q1 with ⟨a, xs, e, hq, q⟩ | ⟨a, xs, e, hq, q⟩ | ⟨y, e, q⟩
  · subst e
    cases r1
    obtain ⟨its, rv, p, hz⟩ := I1.list hq
    refine wpAny_pyIter_list p.isList ?_
    refine ⟨s1.heap.objs.size, [s1.heap.objs.size], _, _, H1, rfl, I1.kept (t' := s1.toks) fun b o e => Heap.get?_push_of_some _ e, turn_list a _, ⟨_, Heap.get?_push_size _ rfl, rfl, rfl⟩, fun b hb => ?_, q⟩
    have e : b = s1.heap.objs.size := by simpa using hb
    subst e
    exact I1.fpOk (Nat.le_refl _) (I1.hok.fresh (Nat.le_refl _))
  · subst e
    cases r1
    obtain ⟨its, rv, p, hz⟩ := I1.tuple hq
    refine wpAny_pyIter_tuple (show s1.heap.IsTuple a its.toArray from p) ?_
    refine ⟨s1.heap.objs.size, [s1.heap.objs.size], _, _, H1, rfl, I1.kept (t' := s1.toks) fun b o e => Heap.get?_push_of_some _ e, turn_tuple a _, ⟨_, Heap.get?_push_size _ rfl, rfl, rfl⟩, fun b hb => ?_, q⟩
    have e : b = s1.heap.objs.size := by simpa using hb
    subst e
    exact I1.fpOk (Nat.le_refl _) (I1.hok.fresh (Nat.le_refl _))
  · subst e
    obtain ⟨t, rfl⟩ := r1
    cases ha : y.cps.all (· < 128)
    · exact wpAny_pyIter_wide ha (pi_one (tk := s1.toks) I1 _ (turn_str _ y t "str_iterator" (.inr rfl)) ⟨_, Heap.get?_push_size _ rfl, rfl, rfl⟩ q)
    · exact wpAny_pyIter_ascii ha (pi_one (tk := s1.toks) I1 _ (turn_str _ y t "str_ascii_iterator" (.inl rfl)) ⟨_, Heap.get?_push_size _ rfl, rfl, rfl⟩ q)
end L2
namespace Mp
open PySem PySem.Spec PyProof.Rows L2 RZ

def RlI (K : PySem.W.Frag) : Hp → Wk → List Addr → Hp → It → Prop := fun _ w ρ H J => ∀ ρ' H' h', Ge ρ H ρ' H' → HR K ρ' H' h' → stays w.gd h' →
  (∀ i, i < w.its.length → J.go i H') ∧ J.stop w.its.length H' ∧ ∀ i v H'', i < w.its.length → J.yld i H' v H'' → ∃ d, w.its[i]? = some d ∧ Ge ρ' H' ρ' H'' ∧ HR K ρ' H'' h' ∧ Rep K ρ' H'' d v
theorem anti_I {K : PySem.W.Frag} : Anti K (RlI K) := ⟨fun _ _ _ _ _ _ _ q => q⟩
section
variable {K : PySem.W.Frag} {ca : Nat → Addr} {cx : CXT} {ρ : List Addr} {H : Hp} {h : Hh} {W : XK}
/-- where a walked list lies, and how it lasts -/
structure Lies (K : PySem.W.Frag) (Sq : Hp → List V → Prop) (ρ : List Addr) (H : Hp) (ds : List D) (gd : List (Nat × List D)) : Prop where
  at' : ∀ ρ' H' h', Ge ρ H ρ' H' → HR K ρ' H' h' → stays gd h' → ∃ vs, Sq H' vs ∧ Reps K ρ' H' ds vs
theorem lies_lst0 {a : Addr} {vs : List V} {ds : List D} (r : HR K ρ H h) (n : a ∉ ρ) (s : SqL K H a vs) (t : Reps K ρ H ds vs) : Lies K (fun H => SqL K H a) ρ H ds [] := ⟨fun ρ' H' h' g r' _ => ⟨vs, g.lst n s, t.mono g r⟩⟩
theorem lies_tup {a : Addr} {vs : List V} {ds : List D} (r : HR K ρ H h) (s : SqT K H a vs) (t : Reps K ρ H ds vs) : Lies K (fun H => SqT K H a) ρ H ds [] := ⟨fun ρ' H' h' g r' _ => ⟨vs, g.tup r s, t.mono g r⟩⟩
theorem lies_fro {a : Addr} {vs : List V} {ds : List D} (r : HR K ρ H h) (s : SqF K H a vs) (t : Reps K ρ H ds vs) : Lies K (fun H => SqL K H a) ρ H ds [] := ⟨fun ρ' H' h' g r' _ => ⟨vs, (g.fro r s).sq, t.mono g r⟩⟩
theorem lies_cell {a : Addr} {n : Nat} {ds : List D} (e : ρ[n]? = some a) : Lies K (fun H => SqL K H a) ρ H ds [(n, ds)] := ⟨fun ρ' H' h' g r' st => by
  have hx := st (n, ds) (by simp)
  obtain ⟨vs, hv, t⟩ := r'.cell _ _ _ (g.at e) hx
  exact ⟨vs, .inl (.inl hv), t⟩⟩
theorem stays_l {g1 g2 : List (Nat × List D)} {h : Hh} (s : stays (g1 ++ g2) h) : stays g1 h := fun p m => s p (List.mem_append_left _ m)
theorem stays_r {g1 g2 : List (Nat × List D)} {h : Hh} (s : stays (g1 ++ g2) h) : stays g2 h := fun p m => s p (List.mem_append_right _ m)
theorem reps_some {ds : List D} {vs : List V} {i : Nat} {v : V} (t : Reps K ρ H ds vs) (e : vs[i]? = some v) : ∃ d, ds[i]? = some d ∧ Rep K ρ H d v := by
  have hl := t.length
  obtain ⟨hi, _⟩ := List.getElem?_eq_some_iff.mp e
  obtain ⟨w, e1, e2⟩ := t.get (List.getElem?_eq_getElem (by omega : i < ds.length))
  rw [e] at e1; cases e1
  exact ⟨_, List.getElem?_eq_getElem (by omega), e2⟩
theorem rlI_lst {a : Addr} {ds : List D} {gd : List (Nat × List D)} {kd : Wd} (L : Lies K (fun H => SqL K H a) ρ H ds gd) : RlI K H ⟨ds, gd, kd⟩ ρ H (Itl K a) := fun ρ' H' h' g r st => by
  obtain ⟨vs, s, t⟩ := L.at' ρ' H' h' g r st
  have hl := t.length
  refine ⟨fun i hi => ⟨vs, vs[i]'(by simp at hi; omega), s, List.getElem?_eq_getElem _⟩, ⟨vs, s, by simp; omega⟩, fun i v H'' hi ⟨e, y⟩ => ?_⟩
  subst e
  obtain ⟨d, e1, e2⟩ := reps_some t (y vs s)
  exact ⟨d, e1, Ge.refl _ _, r, e2⟩
theorem rlI_tup {a : Addr} {ds : List D} {gd : List (Nat × List D)} {kd : Wd} (L : Lies K (fun H => SqT K H a) ρ H ds gd) : RlI K H ⟨ds, gd, kd⟩ ρ H (Itt K a) := fun ρ' H' h' g r st => by
  obtain ⟨vs, s, t⟩ := L.at' ρ' H' h' g r st
  have hl := t.length
  refine ⟨fun i hi => ⟨vs, vs[i]'(by simp at hi; omega), s, List.getElem?_eq_getElem _⟩, ⟨vs, s, by simp; omega⟩, fun i v H'' hi ⟨e, y⟩ => ?_⟩
  subst e
  obtain ⟨d, e1, e2⟩ := reps_some t (y vs s)
  exact ⟨d, e1, Ge.refl _ _, r, e2⟩
theorem signs_get {z : Str} {i : Nat} {c : Nat} (e : z.cps[i]? = some c) : (signsD z)[i]? = some (.str ⟨#[c]⟩) := by
  unfold signsD
  simp [e]
theorem rlI_str {z : Str} {kd : Wd} : RlI K H ⟨signsD z, [], kd⟩ ρ H (Its z) := fun ρ' H' h' g r st => by
  have hl : (signsD z).length = z.cps.size := by simp [signsD]
  refine ⟨fun i hi => by simp only [hl] at hi; exact hi, by simp only [hl]; exact Nat.le_refl _, fun i v H'' hi ⟨e, c, hc, y⟩ => ?_⟩
  subst e y
  exact ⟨_, signs_get hc, Ge.refl _ _, r, rfl⟩
theorem rlI_rng {i j : Int} {kd : Wd} : RlI K H ⟨rngD i j, [], kd⟩ ρ H (Itr i (j - i).toNat) := fun ρ' H' h' g r st => by
  have hl : (rngD i j).length = (j - i).toNat := by simp [rngD]
  refine ⟨fun k hk => by simp only [hl] at hk; exact hk, by simp only [hl]; exact Nat.le_refl _, fun k v H'' hk ⟨e, y⟩ => ?_⟩
  subst e y
  simp only [hl] at hk
  exact ⟨.int (i + (k : Nat)), by simp [rngD, hk], Ge.refl _ _, r, rfl⟩
theorem enumD_length : ∀ (n : Nat) (xs : List D), (enumD n xs).length = xs.length
  | _, [] => rfl
  | n, x :: xs => by simp [enumD, enumD_length (n + 1) xs]
theorem enumD_get : ∀ (n : Nat) (xs : List D) (i : Nat) (x : D), xs[i]? = some x → (enumD n xs)[i]? = some (.tup [.int (n + i : Nat), x])
  | _, [], _, _, h => by simp at h
  | n, y :: xs, 0, x, h => by simp at h; subst h; simp [enumD]
  | n, y :: xs, i + 1, x, h => by
    simp at h
    have := enumD_get (n + 1) xs i x h
    simp only [enumD, List.getElem?_cons_succ, this]
    congr 5
    omega
theorem rep_pair {x y : V} {dx dy : D} {T : Addr} (r : HR K ρ H h) (hT : H T = none) (rx : Rep K ρ H dx x) (ry : Rep K ρ H dy y) : Ge ρ H ρ (upd H T (.tup [x, y])) ∧ HR K ρ (upd H T (.tup [x, y])) h ∧ Rep K ρ (upd H T (.tup [x, y])) (.tup [dx, dy]) (.ref T) := by
  have g : Ge ρ H ρ (upd H T (.tup [x, y])) := Ge.new hT r
  exact ⟨g, r.new hT, T, _, rfl, .inl (.inl upd_same), x, _, rfl, rx.mono g r, y, _, rfl, ry.mono g r, rfl⟩
theorem rlI_enum {a : Addr} {ds : List D} {gd : List (Nat × List D)} {kd : Wd} (L : Lies K (fun H => SqL K H a) ρ H ds gd) : RlI K H ⟨enumD 0 ds, gd, kd⟩ ρ H (Ite K a) := fun ρ' H' h' g r st => by
  obtain ⟨vs, s, t⟩ := L.at' ρ' H' h' g r st
  have hl := t.length
  refine ⟨fun i hi => ⟨vs, vs[i]'(by simp [enumD_length] at hi; omega), s, List.getElem?_eq_getElem _⟩, ⟨vs, s, by simp [enumD_length]; omega⟩, fun i v H'' hi ⟨T, x, e, hT, eH, y⟩ => ?_⟩
  subst e eH
  obtain ⟨d, e1, e2⟩ := reps_some t (y vs s)
  have := enumD_get 0 ds i d e1
  rw [Nat.zero_add] at this
  exact ⟨_, this, rep_pair r hT rfl e2⟩
theorem rlI_enumT {a : Addr} {ds : List D} {gd : List (Nat × List D)} {kd : Wd} (L : Lies K (fun H => SqT K H a) ρ H ds gd) : RlI K H ⟨enumD 0 ds, gd, kd⟩ ρ H (IteT K a) := fun ρ' H' h' g r st => by
  obtain ⟨vs, s, t⟩ := L.at' ρ' H' h' g r st
  have hl := t.length
  refine ⟨fun i hi => ⟨vs, vs[i]'(by simp [enumD_length] at hi; omega), s, List.getElem?_eq_getElem _⟩, ⟨vs, s, by simp [enumD_length]; omega⟩, fun i v H'' hi ⟨T, x, e, hT, eH, y⟩ => ?_⟩
  subst e eH
  obtain ⟨d, e1, e2⟩ := reps_some t (y vs s)
  have := enumD_get 0 ds i d e1
  rw [Nat.zero_add] at this
  exact ⟨_, this, rep_pair r hT rfl e2⟩
theorem zipD_length : ∀ xs ys : List D, (zipD xs ys).length = min xs.length ys.length
  | [], _ => by simp [zipD]
  | _ :: _, [] => by simp [zipD]
  | x :: xs, y :: ys => by simp [zipD, zipD_length xs ys]
theorem zipD_get : ∀ (xs ys : List D) (i : Nat) (x y : D), xs[i]? = some x → ys[i]? = some y → (zipD xs ys)[i]? = some (.tup [x, y])
  | [], _, _, _, _, h, _ => by simp at h
  | _ :: _, [], _, _, _, _, h => by simp at h
  | x :: xs, y :: ys, 0, _, _, h1, h2 => by simp at h1 h2; subst h1 h2; simp [zipD]
  | x :: xs, y :: ys, i + 1, _, _, h1, h2 => by simp at h1 h2; simp only [zipD, List.getElem?_cons_succ]; exact zipD_get xs ys i _ _ h1 h2
theorem rlI_zip {a b : Addr} {ds es : List D} {g1 g2 : List (Nat × List D)} {kd : Wd} (L1 : Lies K (fun H => SqL K H a) ρ H ds g1) (L2 : Lies K (fun H => SqL K H b) ρ H es g2) : RlI K H ⟨zipD ds es, g1 ++ g2, kd⟩ ρ H (Itz K a b) := fun ρ' H' h' g r st => by
  obtain ⟨vs, s, t⟩ := L1.at' ρ' H' h' g r (stays_l st)
  obtain ⟨ws, s2, t2⟩ := L2.at' ρ' H' h' g r (stays_r st)
  have hl := t.length
  have hl2 := t2.length
  refine ⟨fun i hi => ?_, ⟨vs, ws, s, s2, by simp [zipD_length]; omega⟩, fun i v H'' hi ⟨T, x, z, e, hT, eH, y1, y2⟩ => ?_⟩
  · simp only [zipD_length] at hi
    exact ⟨vs, ws, vs[i]'(by omega), ws[i]'(by omega), s, s2, List.getElem?_eq_getElem _, List.getElem?_eq_getElem _⟩
  · subst e eH
    obtain ⟨d, e1, e2⟩ := reps_some t (y1 vs s)
    obtain ⟨d2, e3, e4⟩ := reps_some t2 (y2 ws s2)
    exact ⟨_, zipD_get _ _ _ _ _ e1 e3, rep_pair r hT e2 e4⟩
theorem rlI_zipT {a b : Addr} {ds es : List D} {g1 g2 : List (Nat × List D)} {kd : Wd} (L1 : Lies K (fun H => SqT K H a) ρ H ds g1) (L2 : Lies K (fun H => SqT K H b) ρ H es g2) : RlI K H ⟨zipD ds es, g1 ++ g2, kd⟩ ρ H (ItzT K a b) := fun ρ' H' h' g r st => by
  obtain ⟨vs, s, t⟩ := L1.at' ρ' H' h' g r (stays_l st)
  obtain ⟨ws, s2, t2⟩ := L2.at' ρ' H' h' g r (stays_r st)
  have hl := t.length
  have hl2 := t2.length
  refine ⟨fun i hi => ?_, ⟨vs, ws, s, s2, by simp [zipD_length]; omega⟩, fun i v H'' hi ⟨T, x, z, e, hT, eH, y1, y2⟩ => ?_⟩
  · simp only [zipD_length] at hi
    exact ⟨vs, ws, vs[i]'(by omega), ws[i]'(by omega), s, s2, List.getElem?_eq_getElem _, List.getElem?_eq_getElem _⟩
  · subst e eH
    obtain ⟨d, e1, e2⟩ := reps_some t (y1 vs s)
    obtain ⟨d2, e3, e4⟩ := reps_some t2 (y2 ws s2)
    exact ⟨_, zipD_get _ _ _ _ _ e1 e3, rep_pair r hT e2 e4⟩
/-- a walked value: where it lies -/
def SqW (K : PySem.W.Frag) (ρ : List Addr) (H : Hp) (w : Wk) (v : V) : Prop := match w.kind with
  | .lst => ∃ a, v = .ref a ∧ (∃ vs, SqL K H a vs) ∧ Lies K (fun H => SqL K H a) ρ H w.its w.gd
  | .tup => ∃ a, v = .ref a ∧ (∃ vs, SqT K H a vs) ∧ Lies K (fun H => SqT K H a) ρ H w.its w.gd
  | .str => ∃ z, v = .str z ∧ w.its = signsD z ∧ w.gd = []
  | .other => False
theorem seq_toW {α β : Type} {Rl : Hp → α → List Addr → Hp → β → Prop} (an : Anti K Rl) {r : R Rv} {f : Wk → Hh → R α} {Q : β → Hp → Prop} (p : Po K ca Rl ρ H W (bd (bd r walkOf) f) Q) :
    Po K ca (RlW K) ρ H W r (fun v H1 => ∃ w ρ1 h1, Ge ρ H ρ1 H1 ∧ HR K ρ1 H1 h1 ∧ SqW K ρ1 H1 w v ∧ Po K ca Rl ρ1 H1 W (f w h1) Q) := by
  cases r with
  | ok rv h' =>
    intro ρ' H' v g r' q
    cases rv with
    | val d =>
      cases d with
      | tup xs =>
        obtain ⟨a, vs, rfl, s, t⟩ := q
        exact ⟨⟨xs, [], .tup⟩, ρ', h', g, r', ⟨a, rfl, ⟨vs, s⟩, lies_tup r' s t⟩, Po.shift an g r' p⟩
      | fro xs =>
        obtain ⟨a, vs, rfl, s, t⟩ := q
        exact ⟨⟨xs, [], .lst⟩, ρ', h', g, r', ⟨a, rfl, ⟨vs, s.sq⟩, lies_fro r' s t⟩, Po.shift an g r' p⟩
      | ref n =>
        obtain ⟨a, rfl, ea⟩ := q
        simp only [bd_ok, walkOf, walkD] at p
        split at p
        · rename_i xs hx
          obtain ⟨vs, hv, t⟩ := r'.cell _ _ _ ea hx
          exact ⟨⟨xs, [(n, xs)], .lst⟩, ρ', h', g, r', ⟨a, rfl, ⟨vs, .inl (.inl hv)⟩, lies_cell ea⟩, Po.shift an g r' p⟩
        · exact p.elim
      | str z =>
        simp only [bd_ok, walkOf, walkD] at p
        split at p
        · rename_i hz
          exact ⟨⟨signsD z, [], .str⟩, ρ', h', g, r', ⟨z, q, rfl, rfl⟩, Po.shift an g r' p⟩
        · exact p.elim
      | _ => exact p.elim
    | fresh ds =>
      obtain ⟨a, vs, rfl, n0, nr, hq, t⟩ := q
      exact ⟨⟨ds, [], .lst⟩, ρ', h', g, r', ⟨a, rfl, ⟨vs, .inl (.inl hq)⟩, lies_lst0 r' nr (.inl (.inl hq)) t⟩, Po.shift an g r' p⟩
    | walk w => exact q.elim
  | err x h' => exact p
  | bad => exact p.elim
theorem Lies.shift {Sq : Hp → List V → Prop} {ρ1 : List Addr} {H1 : Hp} {h1 : Hh} {ds : List D} {gd : List (Nat × List D)} (L : Lies K Sq ρ H ds gd) (g : Ge ρ H ρ1 H1) (r : HR K ρ1 H1 h1) : Lies K Sq ρ1 H1 ds gd := ⟨fun ρ' H' h' g' r' st => L.at' ρ' H' h' (g.trans r g') r' st⟩
end
section
variable {Φ : Nat → List D → M D} {ca : Nat → Addr} {cx : CXT} {X : Cx} {e a b c : Expr} {m ma mb mc : E} {W : WX} {pos p1 p2 : Pos}
def tI (Φ : Nat → List D → M D) (ca : Nat → Addr) (K : PySem.W.Frag) (m : E) (W : WX) : TI := fun σ H R => ∃ ρ en h, HR K ρ H h ∧ EnR K ρ H en σ ∧ Po K ca (RlI K) ρ H (fun c d H => W c d σ H) (bd (evW Φ m en h) walkOf) R
theorem i_seq {tg : Expr} (h : PE X e (tW Φ ca X.K m W)) : PI X tg e (tI Φ ca X.K m W) := by
  refine (pi_any h).weak fun σ H Q ⟨ρ, en, h, r, q, p⟩ => ?_
  have e : bd (bd (evW Φ m en h) walkOf) (fun w h => R.ok w h) = bd (evW Φ m en h) walkOf := by
    cases bd (evW Φ m en h) walkOf <;> rfl
  rw [← e] at p
  refine ⟨ρ, en, h, r, q, (seq_toW anti_I p).imp fun v H1 ⟨w, ρ1, h1, g, r1, s, p1⟩ => ?_⟩
  obtain ⟨its, gd, kd⟩ := w
  cases kd with
  | lst => obtain ⟨a, rfl, ⟨vs, hs⟩, L⟩ := s; exact .inl ⟨a, vs, rfl, hs, p1.at r1 (rlI_lst L)⟩
  | tup => obtain ⟨a, rfl, ⟨vs, hs⟩, L⟩ := s; exact .inr (.inl ⟨a, vs, rfl, hs, p1.at r1 (rlI_tup L)⟩)
  | str => obtain ⟨z, rfl, e, e2⟩ := s; simp only at e e2; subst e e2; exact .inr (.inr ⟨z, rfl, p1.at r1 rlI_str⟩)
  | other => exact s.elim
theorem rngM_inv {K : PySem.W.Frag} {ρ : List Addr} {H : Hp} {h : Hh} {Wx : XK} {x y : D} {T : It → Hp → Prop} (p : Po K ca (RlI K) ρ H Wx (bd (rangeM x y h) fun w h => R.ok w h) T) :
    ∃ i j, x = .int i ∧ y = .int j ∧ -(2 ^ 62) ≤ i ∧ i < 2 ^ 62 ∧ -(2 ^ 62) ≤ j ∧ j < 2 ^ 62 ∧ Po K ca (RlI K) ρ H Wx (.ok ⟨rngD i j, [], .other⟩ h) T := by
  unfold rangeM at p
  split at p
  · split at p
    · rename_i hh
      exact ⟨_, _, rfl, rfl, hh.1, hh.2.1, hh.2.2.1, hh.2.2.2, p⟩
    · exact p.elim
  · exact p.elim
theorem bd_walk {α : Type} {r : R α} {f : α → Hh → R Wk} : bd (bd r fun a h => bd (f a h) fun w h => .ok (.walk w) h) walkOf = bd r fun a h => bd (f a h) fun w h => .ok w h := by
  cases r with
  | ok a h => simp only [bd_ok]; cases f a h <;> rfl
  | err x h => rfl
  | bad => rfl
theorem bd_assoc {α β γ : Type} (r : R α) (f : α → Hh → R β) (g : β → Hh → R γ) : bd (bd r f) g = bd r fun a h => bd (f a h) g := by
  cases r <;> rfl
theorem i_rng1 {c : SC} (L : Live cx c Φ ca X) {tg : Expr} (hg : Gl X "range") (hs : starEach [a] X.env = (false, eval a X.env) :: starEach [] X.env) (ha : PE X a (tD Φ ca X.K ma W)) : PI X tg (.Call (.Name "range" p1) [a] [] pos) (tI Φ ca X.K (.rng1 ma) W) := by
  refine (pi_range1 hg (L.blt _ (by decide +kernel)) (pa_cons ha pa_nil hs) (by rw [hs]; rfl)).weak fun σ H Q ⟨ρ, en, h, r, q, p⟩ => ?_
  simp only [evW] at p
  rw [bd_walk] at p
  refine ⟨ρ, en, h, r, q, (p.bind anti_I).imp fun v H1 ⟨d, ρ1, h1, g, r1, rx, p1⟩ => ?_⟩
  obtain ⟨i, j, e1, e2, b1, b2, b3, b4, p2⟩ := rngM_inv p1
  cases e1; subst e2
  cases rx
  refine ⟨j, rfl, b3, b4, p2.at r1 ?_⟩
  have := rlI_rng (K := X.K) (H := H1) (ρ := ρ1) (i := 0) (j := j) (kd := .other)
  simpa using this
theorem i_rng2 {c : SC} (L : Live cx c Φ ca X) {tg : Expr} (hg : Gl X "range") (hs : starEach [a, b] X.env = (false, eval a X.env) :: starEach [b] X.env) (hs2 : starEach [b] X.env = (false, eval b X.env) :: starEach [] X.env) (ha : PE X a (tD Φ ca X.K ma W)) (hb : PE X b (tD Φ ca X.K mb W)) : PI X tg (.Call (.Name "range" p1) [a, b] [] pos) (tI Φ ca X.K (.rng2 ma mb) W) := by
  refine (pi_range2 hg (L.blt _ (by decide +kernel)) (pa_cons ha (pa_cons hb pa_nil hs2) hs) (by rw [hs, hs2]; rfl) (by rw [hs2]; rfl)).weak fun σ H Q ⟨ρ, en, h, r, q, p⟩ => ?_
  simp only [evW, bd_assoc] at p
  refine ⟨ρ, en, h, r, q, ?_⟩
  rw [← bd_assoc (evW Φ ma en h)] at p
  refine (p.bind anti_I).imp fun v H1 ⟨d, ρ1, h1, g, r1, rx, p1⟩ => ⟨ρ1, en, h1, r1, q.mono g r, ?_⟩
  rw [← bd_assoc (evW Φ mb en h1)] at p1
  refine (p1.bind anti_I).imp fun v2 H2 ⟨d2, ρ2, h2, g2, r2, rx2, p2⟩ => ?_
  have p2 : Po X.K ca (RlI X.K) ρ2 H2 _ (bd (rangeM d d2 h2) fun w h => R.ok w h) Q := p2
  obtain ⟨i, j, e1, e2, b1, b2, b3, b4, p3⟩ := rngM_inv p2
  subst e1 e2
  cases rx; cases rx2
  exact ⟨i, j, rfl, ⟨b1, b2, b3, b4⟩, p3.at r2 rlI_rng⟩
theorem i_enum {c : SC} (L : Live cx c Φ ca X) {k : Nat} {elts : List Expr} (hg : Gl X "enumerate") (hs : starEach [a] X.env = (false, eval a X.env) :: starEach [] X.env) (ha : PE X a (tW Φ ca X.K ma W)) : PI X (.Tuple elts k p2) (.Call (.Name "enumerate" p1) [a] [] pos) (tI Φ ca X.K (.enum ma) W) := by
  refine (pi_enumA hg (L.blt _ (by decide +kernel)) (pa_cons ha pa_nil hs) (by rw [hs]; rfl)).weak fun σ H Q ⟨ρ, en, h, r, q, p⟩ => ?_
  simp only [evW, bd_assoc] at p
  rw [← bd_assoc (evW Φ ma en h)] at p
  refine ⟨ρ, en, h, r, q, (seq_toW anti_I p).imp fun v H1 ⟨w, ρ1, h1, g, r1, s, p1⟩ => ?_⟩
  obtain ⟨its, gd, kd⟩ := w
  cases kd with
  | lst => obtain ⟨a, rfl, ⟨vs, hs⟩, L⟩ := s; exact ⟨a, vs, rfl, .inl ⟨hs, p1.at r1 (rlI_enum L)⟩⟩
  | tup => obtain ⟨a, rfl, ⟨vs, hs⟩, L⟩ := s; exact ⟨a, vs, rfl, .inr ⟨hs, p1.at r1 (rlI_enumT L)⟩⟩
  | str => exact p1.elim
  | other => exact s.elim
theorem po_guard {K : PySem.W.Frag} {ρ : List Addr} {H : Hp} {h : Hh} {Wx : XK} {α β : Type} {Rl : Hp → α → List Addr → Hp → β → Prop} {gd : List (Nat × List D)} {f : Unit → Hh → R α} {Q : β → Hp → Prop} (p : Po K ca Rl ρ H Wx (bd (guardM gd h) f) Q) :
    stays gd h ∧ Po K ca Rl ρ H Wx (f () h) Q := by
  unfold guardM at p
  split at p
  · rename_i s; exact ⟨s, p⟩
  · exact p.elim
theorem SqW.shift {K : PySem.W.Frag} {ρ ρ1 : List Addr} {H H1 : Hp} {h h1 : Hh} {w : Wk} {v : V} (g : Ge ρ H ρ1 H1) (r : HR K ρ H h) (r1 : HR K ρ1 H1 h1) (st : stays w.gd h1) (s : SqW K ρ H w v) : SqW K ρ1 H1 w v := by
  obtain ⟨its, gd, kd⟩ := w
  cases kd with
  | lst => obtain ⟨a, rfl, _, L⟩ := s; obtain ⟨vs, s1, _⟩ := L.at' _ _ _ g r1 st; exact ⟨a, rfl, ⟨vs, s1⟩, L.shift g r1⟩
  | tup => obtain ⟨a, rfl, _, L⟩ := s; obtain ⟨vs, s1, _⟩ := L.at' _ _ _ g r1 st; exact ⟨a, rfl, ⟨vs, s1⟩, L.shift g r1⟩
  | str => exact s
  | other => exact s.elim
theorem i_zip {c : SC} (L : Live cx c Φ ca X) {k : Nat} {elts : List Expr} (hg : Gl X "zip") (hs : starEach [a, b] X.env = (false, eval a X.env) :: starEach [b] X.env) (hs2 : starEach [b] X.env = (false, eval b X.env) :: starEach [] X.env) (hpl : (backTo pos (starEach [b] X.env)).any (·.1) = false)
    (ha : PE X a (tW Φ ca X.K ma W)) (hb : PE X b (tW Φ ca X.K mb W)) : PI X (.Tuple elts k p2) (.Call (.Name "zip" p1) [a, b] [] pos) (tI Φ ca X.K (.zip ma mb) W) := by
  refine (pi_zipA hg (L.blt _ (by decide +kernel)) (pa_cons ha (pa_cons hb pa_nil hs2) hs) hs hpl).weak fun σ H Q ⟨ρ, en, h, r, q, p⟩ => ?_
  simp only [evW, bd_assoc] at p
  rw [← bd_assoc (evW Φ ma en h)] at p
  refine ⟨ρ, en, h, r, q, (seq_toW anti_I p).imp fun v H1 ⟨w, ρ1, h1, g, r1, s, p1⟩ => ⟨ρ1, en, h1, r1, q.mono g r, ?_⟩⟩
  rw [← bd_assoc (evW Φ mb en h1)] at p1
  refine (seq_toW anti_I p1).imp fun v2 H2 ⟨u, ρ2, h2, g2, r2, s2, p2⟩ => ?_
  obtain ⟨st, p3⟩ := po_guard p2
  have s := s.shift g2 r1 r2 st
  obtain ⟨its, gd, kd⟩ := w
  obtain ⟨its2, gd2, kd2⟩ := u
  cases kd with
  | lst =>
    obtain ⟨a, rfl, ⟨vs, hs⟩, L⟩ := s
    cases kd2 with
    | lst => obtain ⟨b, rfl, ⟨ws, hs2⟩, L2⟩ := s2; exact ⟨a, b, vs, ws, rfl, .inl ⟨hs, hs2, p3.at r2 (rlI_zip L L2)⟩⟩
    | tup => exact p3.elim
    | str => exact p3.elim
    | other => exact p3.elim
  | tup =>
    obtain ⟨a, rfl, ⟨vs, hs⟩, L⟩ := s
    cases kd2 with
    | tup => obtain ⟨b, rfl, ⟨ws, hs2⟩, L2⟩ := s2; exact ⟨a, b, vs, ws, rfl, .inr ⟨hs, hs2, p3.at r2 (rlI_zipT L L2)⟩⟩
    | lst => exact p3.elim
    | str => exact p3.elim
    | other => exact p3.elim
  | str => cases kd2 <;> exact p3.elim
  | other => exact s.elim
end
end Mp
set_option Elab.async false
set_option linter.all false
set_option maxRecDepth 100000
set_option maxHeartbeats 1000000
/-! Mp10: targets, comprehensions -/
namespace Mp
open PySem PySem.Spec PyProof.Rows L2 RZ

/-! ### slots -/
theorem wipe_get (σ : L2.St) : ∀ (vs : List Nat) (i : Nat), (wipe σ vs)[i]? = if i ∈ vs then σ[i]?.map fun _ => none else σ[i]?
  | [], i => by simp [wipe]
  | v :: vs, i => by
    have ih := wipe_get σ vs i
    unfold wipe
    by_cases h : v = i
    · subst h
      have hl := wipe_length σ vs
      by_cases hv : v < σ.length
      · rw [List.getElem?_set_self (by omega)]
        simp [List.getElem?_eq_getElem hv]
      · rw [List.getElem?_eq_none (by simp; omega)]
        simp [List.getElem?_eq_none (show σ.length ≤ v by omega)]
    · rw [List.getElem?_set_ne h, ih]
      have : (i ∈ v :: vs) ↔ i ∈ vs := by simp [Ne.symm h]
      simp only [this]
theorem wipe_wipe (σ : L2.St) (vs : List Nat) : wipe (wipe σ vs) vs = wipe σ vs := by
  apply List.ext_getElem?
  intro i
  rw [wipe_get (wipe σ vs)]
  split
  · rename_i h
    rw [wipe_get, if_pos h]
    cases σ[i]? <;> rfl
  · rfl
theorem wipe_set (σ : L2.St) {vs : List Nat} {i : Nat} {x : Option V} (h : i ∈ vs) : wipe (σ.set i x) vs = wipe σ vs := by
  apply List.ext_getElem?
  intro j
  rw [wipe_get, wipe_get]
  by_cases hj : i = j
  · subst hj
    simp only [h, if_true]
    by_cases hl : i < σ.length
    · rw [List.getElem?_set_self hl, List.getElem?_eq_getElem hl]; rfl
    · rw [List.getElem?_eq_none (by simpa using hl), List.getElem?_eq_none (by omega)]
  · rw [List.getElem?_set_ne hj]
section
variable {K : PySem.W.Frag} {ca : Nat → Addr} {cx : CXT} {ρ ρ' : List Addr} {H H' : Hp} {h h' : Hh} {en : En} {σ : L2.St}
theorem EnR.set {d : D} {v : V} {i : Nat} (q : EnR K ρ H en σ) (r : Rep K ρ H d v) : EnR K ρ H (en.set i (some d)) (σ.set i (some v)) := by
  refine ⟨by simp [q.len], fun j x e => ?_⟩
  by_cases hj : i = j
  · subst hj
    have hl : i < en.length := by simpa using (List.getElem?_eq_some_iff.mp e).1
    rw [List.getElem?_set_self hl] at e
    cases e
    exact ⟨v, List.getElem?_set_self (by rw [← q.len]; exact hl), r⟩
  · rw [List.getElem?_set_ne hj] at e ⊢
    exact q.get j x e
theorem EnR.unset {i : Nat} (q : EnR K ρ H en σ) : EnR K ρ H (en.set i none) (σ.set i none) := by
  refine ⟨by simp [q.len], fun j x e => ?_⟩
  by_cases hj : i = j
  · subst hj
    have hl : i < en.length := by simpa using (List.getElem?_eq_some_iff.mp e).1
    rw [List.getElem?_set_self hl] at e
    cases e
  · rw [List.getElem?_set_ne hj] at e ⊢
    exact q.get j x e
theorem EnR.wipe (q : EnR K ρ H en σ) : ∀ vs : List Nat, EnR K ρ H (wipeE en vs) (L2.wipe σ vs)
  | [] => q
  | v :: vs => (q.wipe vs).unset
/-! ### targets -/
def tgs : Tg → List Nat
  | .one i => [i]
  | .many is => is
def gM (K : PySem.W.Frag) (t : Tg) : TG := fun v σ H N => ∃ ρ en h d en', HR K ρ H h ∧ EnR K ρ H en σ ∧ Rep K ρ H d v ∧ bindT t d en = some en' ∧ ∀ σ', EnR K ρ H en' σ' → (∀ vs, (∀ i ∈ tgs t, i ∈ vs) → wipe σ' vs = wipe σ vs) → N σ' H
def gsM (K : PySem.W.Frag) (is : List Nat) : TGs := fun vs σ H N => ∃ ρ en h ds en', HR K ρ H h ∧ EnR K ρ H en σ ∧ Reps K ρ H ds vs ∧ setAll en is ds = some en' ∧ ∀ σ', EnR K ρ H en' σ' → (∀ vs, (∀ i ∈ is, i ∈ vs) → wipe σ' vs = wipe σ vs) → N σ' H
theorem PG_weak {X : Cx} {e : Expr} {t t' : TG} (h : PG X e t) (w : ∀ v σ H Q, t' v σ H Q → t v σ H Q) : PG X e t' := ⟨fun pins s σ H v u Q I r q => h.run pins s σ H v u Q I r (w v σ H Q q)⟩
theorem PGs_weak {X : Cx} {e : List Expr} {t t' : TGs} (h : PGs X e t) (w : ∀ v σ H Q, t' v σ H Q → t v σ H Q) : PGs X e t' := ⟨fun pins s σ H v u Q I r q => h.run pins s σ H v u Q I r (w v σ H Q q)⟩
end
section
variable {Φ : Nat → List D → M D} {ca : Nat → Addr} {cx : CXT} {X : Cx} {c : SC} {pos : Pos}
/-- what may be stored -/
def Sto (c : SC) (i : Nat) (x : Str) : Prop := c.N[i]? = some x ∧ (c.names.lookup x = some .local ∨ c.names.lookup x = some .cell)
theorem Live.loc (L : Live cx c Φ ca X) {i : Nat} {x : Str} (s : Sto c i x) : X.N.Nodup ∧ X.N[i]? = some x ∧ Loc X.env.scope x ∧ (X.fn x = true ∨ X.env.scope.names.lookup x = some .local) := by
  refine ⟨L.N ▸ L.nd, by rw [L.N]; exact s.1, ?_, ?_⟩
  · rcases s.2 with z | z
    · exact .inl (L.kinds _ _ z (by decide))
    · exact .inr (L.kinds _ _ z (by decide))
  · rcases s.2 with z | z
    · exact .inr (L.kinds _ _ z (by decide))
    · exact .inl (L.fnc _ z)
theorem g_one (L : Live cx c Φ ca X) {i : Nat} {x : Str} (s : Sto c i x) : PG X (.Name x pos) (gM X.K (.one i)) := by
  obtain ⟨h1, h2, h3, h4⟩ := L.loc s
  refine PG_weak (pg_name h1 h2 h3 h4) fun v σ H Q ⟨ρ, en, h, d, en', r, q, rd, b, k⟩ => ?_
  cases b
  exact k _ (q.set rd) fun vs hv => wipe_set σ (hv i (by simp [tgs]))
theorem gs_nil : PGs X [] (gsM X.K []) := PGs_weak pgs_nil fun vs σ H Q ⟨ρ, en, h, ds, en', r, q, rd, b, k⟩ => by
  cases ds with
  | nil => cases b; exact ⟨rd, k σ q fun _ _ => rfl⟩
  | cons d ds => cases b
theorem gs_cons {e : Expr} {es : List Expr} {i : Nat} {is : List Nat} (h1 : PG X e (gM X.K (.one i))) (h2 : PGs X es (gsM X.K is)) (hs : (assignEach (e :: es) X.env).map (·.2) = assign e X.env :: (assignEach es X.env).map (·.2)) : PGs X (e :: es) (gsM X.K (i :: is)) :=
  PGs_weak (pgs_cons h1 h2 hs) fun vs σ H Q ⟨ρ, en, h, ds, en', r, q, rd, b, k⟩ => by
    cases ds with
    | nil => cases b
    | cons d ds =>
      obtain ⟨v, t, rfl, rv, rt⟩ := rd
      refine ⟨v, t, rfl, ρ, en, h, d, _, r, q, rv, rfl, fun σ' q' w' => ⟨ρ, _, h, ds, en', r, q', rt, b, fun σ'' q'' w'' => k σ'' q'' fun vs hv => ?_⟩⟩
      rw [w'' vs fun j hj => hv j (by simp [hj]), w' vs fun j hj => hv j (by simp [tgs] at hj; simp [hj])]
theorem setAll_len : ∀ {is : List Nat} {ds : List D} {en en' : En}, setAll en is ds = some en' → ds.length = is.length
  | [], [], _, _, _ => rfl
  | [], _ :: _, _, _, e => by cases e
  | _ :: _, [], _, _, e => by cases e
  | i :: is, d :: ds, en, en', e => by simp [setAll_len (is := is) (ds := ds) e]
theorem g_many (L : Live cx c Φ ca X) {es : List Expr} {k : Nat} {is : List Nat} (h : PGs X es (gsM X.K is)) (hn : (assignEach es X.env).length = is.length) (hst : (assignEach es X.env).findIdx? (·.1) = none) : PG X (.Tuple es k pos) (gM X.K (.many is)) := by
  refine PG_weak (pg_tup L.calm h hn hst) fun v σ H Q ⟨ρ, en, h, d, en', r, q, rd, b, k⟩ => ?_
  cases d with
  | tup ds =>
    obtain ⟨a, vs, rfl, s, t⟩ := rd
    have b : setAll en is ds = some en' := b
    exact ⟨a, vs, rfl, s, by rw [t.length, setAll_len b], ρ, en, h, ds, en', r, q, t, b, k⟩
  | _ => cases b
/-! ### less one list -/
def mn (H : Hp) (D : Addr) : Hp := fun a => if a = D then none else H a
end
section
variable {K : PySem.W.Frag} {ca : Nat → Addr} {cx : CXT} {ρ ρ' : List Addr} {H H' : Hp} {h h' : Hh} {D : Addr} {vs : List V}
theorem mn_ne {a : Addr} (n : a ≠ D) : mn H D a = H a := if_neg n
theorem mn_self : mn H D D = none := if_pos rfl
theorem upd_mn (e : H D = some (.lst vs)) : upd (mn H D) D (.lst vs) = H := by
  funext a
  by_cases z : a = D
  · subst z; rw [upd_same, e]
  · rw [upd_ne z, mn_ne z]
theorem mn_upd {o : HO} (e : H D = none) : mn (upd H D o) D = H := by
  funext a
  by_cases z : a = D
  · subst z; rw [mn_self, e]
  · rw [mn_ne z, upd_ne z]
theorem sqT_mn (e : H D = some (.lst vs)) {a : Addr} {xs : List V} (s : SqT K H a xs) : SqT K (mn H D) a xs := by
  rcases s with (q | ⟨o, q⟩) | q
  · exact .inl (.inl (by rw [mn_ne (fun z => by subst z; rw [e] at q; cases q)]; exact q))
  · exact .inl (.inr ⟨o, by rw [mn_ne (fun z => by subst z; rw [e] at q; cases q)]; exact q⟩)
  · exact .inr q
theorem sqF_mn (e : H D = some (.lst vs)) {a : Addr} {xs : List V} (s : SqF K H a xs) : SqF K (mn H D) a xs := by
  rcases s with ⟨o, q⟩ | q
  · exact .inl ⟨o, by rw [mn_ne (fun z => by subst z; rw [e] at q; cases q)]; exact q⟩
  · exact .inr q
theorem Rep.mn (e : H D = some (.lst vs)) {d : Mp.D} {v : V} (q : Rep K ρ H d v) : Rep K ρ (mn H D) d v := q.imp (fun _ _ z => z) (fun _ _ s => sqT_mn e s) fun _ _ s => sqF_mn e s
theorem Reps.mn (e : H D = some (.lst vs)) {d : List Mp.D} {v : List V} (q : Reps K ρ H d v) : Reps K ρ (mn H D) d v := q.imp (fun _ _ z => z) (fun _ _ s => sqT_mn e s) fun _ _ s => sqF_mn e s
theorem HR.mn (e : H D = some (.lst vs)) (n : D ∉ ρ) (r : HR K ρ H h) : HR K ρ (mn H D) h := ⟨r.len, r.nd, fun i a c e1 e2 => by
  have q := r.cell i a c e1 e2
  have ne : a ≠ D := fun z => n (z ▸ List.mem_of_getElem? e1)
  rw [mn_ne ne]
  cases c with
  | lst ds => obtain ⟨vs, e3, p⟩ := q; exact ⟨vs, e3, p.mn e⟩
  | dct kvs => exact q.elim⟩
theorem Ge.mn (g : Ge ρ H ρ' H') : Ge ρ (mn H D) ρ' (Mp.mn H' D) := by
  obtain ⟨⟨x, rfl, hx⟩, k⟩ := g
  refine ⟨⟨x, rfl, fun a ha => ?_⟩, fun a o n e => ?_⟩
  · by_cases z : a = D
    · subst z; exact mn_self
    · rw [mn_ne z]; exact hx a ha
  · by_cases z : a = D
    · subst z; rw [mn_self] at e; cases e
    · rw [mn_ne z] at e ⊢; exact k a o n e
end
/-! ### the block -/
section
variable {Φ : Nat → List D → M D} {ca : Nat → Addr} {cx : CXT} {X : Cx} {c : SC} {pos : Pos}
theorem lookup_mapk {g : Str × NameKind → Str × NameKind} (hg : ∀ y, (g y).1 = y.1) : ∀ (l : List (Str × NameKind)) (x : Str), l.lookup x ≠ none → (l.map g).lookup x ≠ none
  | [], _, h => h
  | y :: l, x, h => by
    have e := hg y
    rw [List.map_cons]
    revert e
    generalize g y = z
    obtain ⟨n, k⟩ := y
    obtain ⟨n', k'⟩ := z
    intro e
    simp only at e
    subst e
    rw [List.lookup_cons] at h ⊢
    cases hb : x == n' with
    | true => simp
    | false => rw [hb] at h; exact lookup_mapk hg l x h
theorem Live.blk (L : Live cx c Φ ca X) (scope : Scope) (s : Shared) (H : Hp) (C : Addr) (cl : List (Str × Addr)) (fp : List Addr) : Live cx { c with names := scope.names } Φ ca (X.blk s H scope (compEnvC scope cl C X.env) fp) where
  N := L.N
  nd := L.nd
  kinds := fun x k e n => lookup_relS_keep (sc := X.env.scope) n e
  frees := fun x e => by
    cases h : ((relS scope X.env.scope).names.lookup x) with
    | none =>
      refine absurd h (lookup_mapk (fun y => ?_) scope.names x (by rw [show scope.names.lookup x = some .free from e]; simp))
      obtain ⟨n, k⟩ := y
      dsimp only
      split <;> rfl
    | some k =>
      obtain ⟨k', e1, e2⟩ := lookup_relS h
      rw [e] at e1
      cases e1
      rcases e2 with e2 | e2
      · exact .inl (by rw [e2] at h; exact h)
      · exact .inr (by rw [e2.2] at h; exact h)
  fnc := fun x e => by
    show (scope.names.lookup x == some .cell) = true
    rw [show scope.names.lookup x = some .cell from e]; rfl
  calm := L.calm
  room := L.room
  blt := L.blt
  fn := L.fn
  cx0 := L.cx0
  con := L.con
theorem Live.pa0 (L : Live cx c Φ ca X) (scope : Scope) (s : Shared) (H : Hp) (C : Addr) (cl : List (Str × Addr)) (fp : List Addr) : ∀ σ, PassesAt cx (X.blk s H scope (compEnvC scope cl C X.env) fp) σ (WE (fun _ _ _ _ => False) σ) :=
  fun σ pins H s e s' _ h => (L.cx0 _ _ _ _ _ h).elim
def blkB (c : SC) (scope : Scope) (own : List (Str × Nat)) : Bool :=
  (match scope.kind with | .function => true | _ => false) && (scope.names.all fun y => decide (scope.names.lookup y.1 = some y.2)) && (own.all fun p => decide (c.N[p.2]? = some p.1)) &&
    (scope.names.all fun y => match y.2 with
      | .free => (match c.names.lookup y.1 with | some .cell => true | some .free => true | _ => false)
      | .local => decide (y.1 ∈ own.map (·.1)) || decide (y.1 ∉ c.N)
      | .cell => decide (y.1 ∈ own.map (·.1)) || decide (y.1 ∉ c.N)
      | _ => true)
theorem Live.blkOk (L : Live cx c Φ ca X) {scope : Scope} {own : List (Str × Nat)} (h : blkB c scope own = true) : BlkOk X.N X.env.scope scope own := by
  unfold blkB at h
  simp only [Bool.and_eq_true, List.all_eq_true, decide_eq_true_eq] at h
  obtain ⟨⟨⟨h1, h2⟩, h3⟩, h4⟩ := h
  refine ⟨?_, h2, fun p hp => by rw [L.N]; exact h3 p hp, fun y hy e => ?_, fun y hy e => ?_⟩
  · split at h1
    · assumption
    · cases h1
  · have q := h4 y hy
    simp only [e] at q
    split at q
    · rename_i z; exact .inl (L.kinds _ _ z (by decide))
    · rename_i z
      rcases L.frees _ z with w | w
      · exact .inr w
      · exact .inl w
    · cases q
  · have q := h4 y hy
    rw [L.N]
    rcases e with e | e <;> (simp only [e, Bool.or_eq_true, decide_eq_true_eq] at q; exact q)
end
/-! ### equations of the evaluator's comprehension -/
theorem noErr_ok {α : Type} {r : R α} {a : α} {h : Hh} (e : noErr r = .ok a h) : r = .ok a h := by
  cases r with
  | ok x y => exact e
  | err x y => cases e
  | bad => cases e
theorem compD_nil {g : List (Nat × List D)} {f : D → M (Option D)} {h hf : Hh} {rest : List D} (e : compD g f [] h = .ok rest hf) : stays g h ∧ rest = [] ∧ hf = h := by
  simp only [compD] at e
  unfold guardM at e
  split at e
  · rename_i s; cases e; exact ⟨s, rfl, rfl⟩
  · cases e
theorem compD_cons {g : List (Nat × List D)} {f : D → M (Option D)} {x : D} {xs : List D} {h hf : Hh} {rest : List D} (e : compD g f (x :: xs) h = .ok rest hf) :
    stays g h ∧ ∃ o h1 r, f x h = .ok o h1 ∧ compD g f xs h1 = .ok r hf ∧ rest = (match o with | some y => y :: r | none => r) := by
  simp only [compD] at e
  unfold guardM at e
  split at e
  · rename_i s
    obtain ⟨o, h1, e1, e2⟩ := bd_ok_inv (show bd (f x h) _ = _ from e)
    obtain ⟨r, h2, e3, e4⟩ := bd_ok_inv e2
    cases e4
    exact ⟨s, o, h1, r, e1, e3, rfl⟩
  · cases e
/-- what a block does with one item -/
noncomputable def itemM (Φ : Nat → List D → M D) (cd : Bool) (c e : E) : En → M (Option D) := fun en1 h => match cd with
  | true => bd (bd (evW Φ c en1 h) settle) fun k h => (match k with
    | .bl true => bd (bd (evW Φ e en1 h) settle) fun y h => .ok (some y) h
    | .bl false => .ok none h
    | _ => .bad)
  | false => bd (bd (evW Φ e en1 h) settle) fun y h => .ok (some y) h
section
variable {Φ : Nat → List D → M D} {ca : Nat → Addr} {cx : CXT} {X : Cx} {c : SC} {pos : Pos} {mi mc me : E} {W : WX}
/-- the tests -/
def tIfs (K : PySem.W.Frag) (cd : Bool) (mc : E) : TT := match cd with
  | true => tTst Φ ca K mc fun _ _ _ _ => False
  | false => tYes
/-- the walk of a comprehension: by the model -/
theorem comp_walk {K : PySem.W.Frag} {t : Tg} {own : List Nat} {cd : Bool} {σ : L2.St} {H : Hp} {Q : VK} (ht : ∀ i ∈ tgs t, i ∈ own) (q : tW Φ ca K (.comp own t mi cd mc me) W σ H Q) :
    tLc (tI Φ ca K mi W) (gM K t) (tIfs (Φ := Φ) (ca := ca) K cd mc) (tD Φ ca K me fun _ _ _ _ => False) own σ H Q := by
  obtain ⟨ρ, en, h, r, q, p⟩ := q
  have p : Po K ca (RlW K) ρ H _ (bd (bd (evW Φ mi en h) walkOf) fun w h => bd (compM own t (itemM Φ cd mc me) w en h) fun ds h => .ok (.fresh ds) h) Q := p
  refine ⟨ρ, en, h, r, q, (p.bind anti_W).imp fun J H1 ⟨w, ρ1, h1, g, r1, rl, p1⟩ => fun D hD => ?_⟩
  have q1 := q.mono g r
  -- the evaluator's equation
  obtain ⟨ds', hf, hlen, heq, fin⟩ : ∃ ds' hf, w.its.length ≤ sizeLine ∧ compD w.gd (fun x => match bindT t x (wipeE en own) with
      | none => fun _ => .bad
      | some en1 => itemM Φ cd mc me en1) w.its h1 = .ok ds' hf ∧ ∀ ρ' H' v, Ge ρ1 H1 ρ' H' → HR K ρ' H' hf → RlF K H1 ds' ρ' H' v → Q v H' := by
    unfold compM at p1
    split at p1
    · rename_i hl
      revert p1
      generalize hz : compD w.gd _ w.its h1 = z
      intro p1
      cases z with
      | ok ds' hf => exact ⟨ds', hf, hl, rfl, fun ρ' H' v g' r' k => p1 ρ' H' v g' r' k⟩
      | err x h' => exact p1.elim
      | bad => exact p1.elim
    · exact p1.elim
  have hDr : D ∉ ρ1 := notcell r1 hD
  refine ⟨fun i m H' => m = w.its.length - i ∧ i ≤ w.its.length ∧ ∃ ρ' h' ds vs rest, H' D = some (.lst vs) ∧ D ∉ ρ' ∧ Ge ρ1 H1 ρ' (mn H' D) ∧ HR K ρ' (mn H' D) h' ∧ Reps K ρ' (mn H' D) ds vs ∧ ds.length ≤ i ∧ ds ++ rest = ds' ∧
    compD w.gd (fun x => match bindT t x (wipeE en own) with
      | none => fun _ => .bad
      | some en1 => itemM Φ cd mc me en1) (w.its.drop i) h' = .ok rest hf, ⟨_, rfl, Nat.zero_le _, ρ1, h1, [], [], ds', upd_same, hDr, ?_, ?_, rfl, Nat.le_refl _, rfl, heq⟩, ?_⟩
  · rw [mn_upd hD]; exact Ge.refl _ _
  · rw [mn_upd hD]; exact r1
  rintro i m H' ⟨rfl, hi, ρ', h', ds, vs, rest, e1, n1, g1, r2, t1, hl1, ed, eq⟩
  have gU : Ge ρ' (mn H' D) ρ' H' := by
    have := Ge.new (o := .lst vs) (mn_self (H := H') (D := D)) r2
    rw [upd_mn e1] at this; exact this
  have rU : HR K ρ' H' h' := by
    have := r2.new (o := .lst vs) (mn_self (H := H') (D := D))
    rw [upd_mn e1] at this; exact this
  have gA : Ge ρ1 H1 ρ' H' := g1.trans r2 gU
  by_cases hlt : i < w.its.length
  · refine .inr ?_
    have hdr : w.its.drop i = w.its[i] :: w.its.drop (i + 1) := List.drop_eq_getElem_cons hlt
    rw [hdr] at eq
    obtain ⟨st, o, h2, r', ef, er, erest⟩ := compD_cons eq
    obtain ⟨go, _, yl⟩ := rl ρ' H' h' gA rU st
    refine ⟨go i hlt, fun H'' => ∃ ρ'' ds2 vs2, H'' D = some (.lst vs2) ∧ D ∉ ρ'' ∧ Ge ρ1 H1 ρ'' (mn H'' D) ∧ HR K ρ'' (mn H'' D) h2 ∧ Reps K ρ'' (mn H'' D) ds2 vs2 ∧ ds2.length ≤ i + 1 ∧ ds2 ++ r' = ds', fun H'' ⟨ρ'', ds2, vs2, k1, k2, k3, k4, k5, k6, k7⟩ => ⟨_, by omega, rfl, hlt, ρ'', h2, ds2, vs2, r', k1, k2, k3, k4, k5, k6, k7, er⟩, fun x H2 y => ?_⟩
    obtain ⟨d, ed1, g2, r3, rd⟩ := yl i x H2 hlt y
    rw [List.getElem?_eq_getElem hlt] at ed1
    cases ed1
    have e2 : H2 D = some (.lst vs) := g2.keep D _ n1 e1
    cases hb : bindT t w.its[i] (wipeE en own) with
    | none => rw [hb] at ef; cases ef
    | some en1 =>
      rw [hb] at ef
      have ef : itemM Φ cd mc me en1 h' = .ok o h2 := ef
      refine ⟨ρ', wipeE en own, h', w.its[i], en1, r3, ((q1.mono gA r1).mono g2 rU).wipe own, rd, hb, fun σ2 q2 w2 => ⟨by rw [w2 own ht, wipe_wipe], ?_⟩⟩
      -- behind the whole item
      have done : ∀ (ρ'' : List Addr) (H4 : Hp), Ge ρ' H2 ρ'' H4 → HR K ρ'' H4 h2 → (o = none → ∃ ρ'' ds2 vs2, H4 D = some (.lst vs2) ∧ D ∉ ρ'' ∧ Ge ρ1 H1 ρ'' (mn H4 D) ∧ HR K ρ'' (mn H4 D) h2 ∧ Reps K ρ'' (mn H4 D) ds2 vs2 ∧ ds2.length ≤ i + 1 ∧ ds2 ++ r' = ds') ∧
          ∀ dy y, o = some dy → Rep K ρ'' H4 dy y → ∃ acc, H4 D = some (.lst acc) ∧ acc.length < sizeLine ∧ ∃ ρ'' ds2 vs2, upd H4 D (.lst (acc ++ [y])) D = some (.lst vs2) ∧ D ∉ ρ'' ∧ Ge ρ1 H1 ρ'' (mn (upd H4 D (.lst (acc ++ [y]))) D) ∧ HR K ρ'' (mn (upd H4 D (.lst (acc ++ [y]))) D) h2 ∧ Reps K ρ'' (mn (upd H4 D (.lst (acc ++ [y]))) D) ds2 vs2 ∧ ds2.length ≤ i + 1 ∧ ds2 ++ r' = ds' := by
        intro ρ'' H4 g4 r4
        have e4 : H4 D = some (.lst vs) := g4.keep D _ n1 e2
        have n4 : D ∉ ρ'' := g4.old n1 e2
        have r4' := r4.mn e4 n4
        have r3' := r3.mn e2 n1
        have gm : Ge ρ' (mn H' D) ρ'' (mn H4 D) := (g2.trans r3 g4).mn
        have gf : Ge ρ1 H1 ρ'' (mn H4 D) := g1.trans r2 gm
        have tf : Reps K ρ'' (mn H4 D) ds vs := t1.mono gm r2
        refine ⟨fun ho => ?_, fun dy y ho ry => ?_⟩
        · subst ho
          exact ⟨ρ'', ds, vs, e4, n4, gf, r4', tf, by omega, by rw [← ed, erest]⟩
        · subst ho
          have hm : mn (upd H4 D (.lst (vs ++ [y]))) D = mn H4 D := by
            funext a
            by_cases z : a = D
            · subst z; rw [mn_self, mn_self]
            · rw [mn_ne z, mn_ne z, upd_ne z]
          refine ⟨vs, e4, by rw [tf.length]; omega, ρ'', ds ++ [dy], vs ++ [y], upd_same, n4, ?_, ?_, ?_, by simp; omega, by rw [← ed, erest]; simp⟩
          · rw [hm]; exact gf
          · rw [hm]; exact r4'
          · rw [hm]; exact tf.append ⟨y, [], rfl, ry.mn e4, rfl⟩
      cases cd with
      | false =>
        have ef : bd (bd (evW Φ me en1 h') settle) (fun y h => .ok (some y) h) = .ok o h2 := ef
        obtain ⟨y, h3, ey, eo⟩ := bd_ok_inv ef
        cases eo
        simp only [tIfs, tYes, if_true]
        refine ⟨ρ', en1, h', r3, q2, ?_⟩
        rw [ey]
        exact fun ρ'' H4 yv g4 r4 ry => (done ρ'' H4 g4 r4).2 y yv rfl ry
      | true =>
        have ef : bd (bd (evW Φ mc en1 h') settle) (fun k h => (match k with
          | .bl true => bd (bd (evW Φ me en1 h) settle) fun y h => .ok (some y) h
          | .bl false => .ok none h
          | _ => .bad)) = .ok o h2 := ef
        obtain ⟨k, h3, ek, eo⟩ := bd_ok_inv ef
        refine ⟨ρ', en1, h', r3, q2, ?_⟩
        unfold boolR
        rw [ek]
        cases k with
        | bl b =>
          refine fun ρ3 H3 bv g3 r3' eb => ?_
          cases eb
          cases b with
          | true =>
            rw [if_pos rfl]
            have eo : bd (bd (evW Φ me en1 h3) settle) (fun y h => .ok (some y) h) = .ok o h2 := eo
            obtain ⟨y, h4, ey, eo⟩ := bd_ok_inv eo
            cases eo
            refine ⟨ρ3, en1, h3, r3', q2.mono g3 r3, ?_⟩
            rw [ey]
            exact fun ρ'' H4 yv g4 r4 ry => (done ρ'' H4 (g3.trans r3' g4) r4).2 y yv rfl ry
          | false =>
            cases eo
            exact (done ρ3 H3 g3 r3').1 rfl
        | _ => cases eo
  · have ei : i = w.its.length := by omega
    subst ei
    rw [List.drop_length] at eq
    obtain ⟨st, e3, e4⟩ := compD_nil eq
    subst e3 e4
    obtain ⟨_, stop, _⟩ := rl ρ' H' _ gA rU st
    rw [List.append_nil] at ed
    subst ed
    exact .inl ⟨stop, fin ρ' H' _ gA rU ⟨D, vs, rfl, hD, n1, e1, t1.mono gU r2⟩⟩
theorem hs_fold {iter : Expr} {env : Env} (h : ∀ a b c, iter ≠ .Set a b c) : ∀ x, foldedSetIterable iter env x = pure x := by
  intro x
  cases iter <;> first
    | rfl
    | exact absurd rfl (h _ _ _)
theorem w_comp (L : Live cx c Φ ca X) {elt tg iter : Expr} {ifs : List Expr} {scope : Scope} {own : List (Str × Nat)} {t : Tg} {cd : Bool} (hb : blkB c scope own = true) (ht : ∀ i ∈ tgs t, i ∈ own.map (·.2)) (hi : PI X tg iter (tI Φ ca X.K mi W))
    (hg : ∀ (s : Shared) (H : Hp) (C : Addr) (cl : List (Str × Addr)) (fp : List Addr), PG (X.blk s H scope (compEnvC scope cl C X.env) fp) tg (gM X.K t)) (hc : ∀ (s : Shared) (H : Hp) (C : Addr) (cl : List (Str × Addr)) (fp : List Addr), PTs (X.blk s H scope (compEnvC scope cl C X.env) fp) ifs (tIfs (Φ := Φ) (ca := ca) X.K cd mc))
    (he : ∀ (s : Shared) (H : Hp) (C : Addr) (cl : List (Str × Addr)) (fp : List Addr), PE (X.blk s H scope (compEnvC scope cl C X.env) fp) elt (tD Φ ca X.K me fun _ _ _ _ => False)) (hn : ∀ a b c, iter ≠ .Set a b c) :
    PE X (.ListComp elt [⟨tg, iter, ifs, 0⟩] scope pos) (tW Φ ca X.K (.comp (own.map (·.2)) t mi cd mc me) W) :=
  (pe_lc L.calm (L.N ▸ L.nd) hi (L.blkOk hb) hg hc he (hs_fold hn)).weak fun σ H Q q => comp_walk ht q
end
end Mp
set_option Elab.async false
set_option linter.all false
set_option maxRecDepth 100000
set_option maxHeartbeats 2000000
/-! MpS: {e for t in it if c}, asked for its size, sorted -/
namespace Mp
open PySem PySem.Spec PyProof.Rows L2 RZ PpSet

/-- the kinds of sets: how a set of keys κ lies, and that set() and add do so -/
structure SetK1 (P : Program) (w : World) (K : PySem.W.Frag) where
  κ : Type
  v : κ → V
  z : Addr → (κ → Bool) → Nat → HO
  dec : DecidableEq κ
  fresh : ∀ (H : Hp) (h : Heap), ObjOk P w H (h.push { cls := .type "set", dict := none, data := .set #[] 0 (.fresh 0 0 (!w.params.followText "set-order")) }) h.objs.size (z h.objs.size (fun _ => false) 0)
  add : ∀ X : Cx, X.prog = P → X.w = w → X.K = K → MtR X "set.add" fun x xs H Q => ∃ (a : Addr) (k : κ) (S : κ → Bool) (n : Nat), x = V.ref a ∧ xs = [v k] ∧ H a = some (z a S n) ∧ n + 1 < scanBound ∧
    Q .non (upd H a (z a (fun j => S j || decide (j = k)) (if S k = true then n else n + 1)))
/-- what the loop of a set comprehension promises -/
def tSet {P : Program} {w : World} {K : PySem.W.Frag} (Z : SetK1 P w K) (wi : TI) (g : TG) (tt : TT) (te : TE) (vs : List Nat) : TE := fun σ H Q => wi σ H fun J H1 => ∀ D, H1 D = none → ∃ W : Nat → Nat → Hp → Prop, (∃ m, W 0 m (upd H1 D (Z.z D (fun _ => false) 0))) ∧ ∀ i m H, W i m H →
  (J.stop i H ∧ Q (.ref D) H) ∨ (J.go i H ∧ ∃ Nx : Hp → Prop, (∀ H', Nx H' → ∃ m', m' < m ∧ W (i + 1) m' H') ∧ ∀ x H', J.yld i H x H' → g x (wipe σ vs) H' fun σ2 H2 => wipe σ2 vs = wipe σ vs ∧ tt σ2 H2 fun b H3 =>
    match b with
    | true => te σ2 H3 fun y H4 => ∃ (k : Z.κ) (S : Z.κ → Bool) (n : Nat), y = Z.v k ∧ H4 D = some (Z.z D S n) ∧ n + 1 < scanBound ∧ Nx (upd H4 D (Z.z D (fun j => S j || @decide (j = k) (Z.dec j k)) (if S k = true then n else n + 1)))
    | false => Nx H3)
section
variable {X : Cx}
/-- the block's loop, once its set lies at D -/
theorem set_loop (Z : SetK1 X.prog X.w X.K) {pins : List (Addr × Obj)} {σ : L2.St} {Q : VK} {elt tg iter : Expr} {ifs : List Expr} {scope : Scope} {own : List (PySem.Str × Nat)} {pos : Pos} {g : TG} {tt : TT} {te : TE} {Qf : Value → Shared → Prop} {J : It} {tn : Nat → Heap → Prop} {it D : Addr} {fp : List Addr}
    {s3 s4 : Shared} {H3 : Hp} {ce : Env} (hc : X.calm = true) (T : Turn X.prog X.w X.K tg J fp it tn) (cL : ce.locals = s3.heap.objs.size)
    (f3 : ∀ b ∈ fp, FpOk X pins H3 b) (I3 : Inv X pins σ H3 s3) (I4 : Inv (X.blk s3 H3 scope ce fp) [] (wipe σ (own.map (·.2))) H3 s4) (st4 : tn 0 s4.heap)
    (pg : PG (X.blk s3 H3 scope ce fp) tg g) (pt : PTs (X.blk s3 H3 scope ce fp) ifs tt) (pe : PE (X.blk s3 H3 scope ce fp) elt te)
    {W : Nat → Nat → Hp → Prop} {m0 : Nat} (w0 : W 0 m0 H3)
    (turn : ∀ i m H, W i m H → (J.stop i H ∧ Q (.ref D) H) ∨ (J.go i H ∧ ∃ Nx : Hp → Prop, (∀ H', Nx H' → ∃ m', m' < m ∧ W (i + 1) m' H') ∧ ∀ x H', J.yld i H x H' → g x (wipe σ (own.map (·.2))) H' fun σ2 H2 => wipe σ2 (own.map (·.2)) = wipe σ (own.map (·.2)) ∧ tt σ2 H2 fun b H3 =>
      match b with
      | true => te σ2 H3 fun y H4 => ∃ (k : Z.κ) (S : Z.κ → Bool) (n : Nat), y = Z.v k ∧ H4 D = some (Z.z D S n) ∧ n + 1 < scanBound ∧ Nx (upd H4 D (Z.z D (fun j => S j || @decide (j = k) (Z.dec j k)) (if S k = true then n else n + 1)))
      | false => Nx H3))
    (out : ∀ s' m H', Inv X pins σ H' s' → Q (.ref D) H' → s'.heap.Ns s3.heap.objs.size m → FpOk X pins H' s3.heap.objs.size → Qf (.ref D) s') :
    codeAny (model X.prog X.w) X.A (.compLoop (.SetComp elt [⟨tg, iter, ifs, 0⟩] scope pos) 0 (.ref it) (.ref D) ce) (fun r s' => ∃ m H', r = .ok .next ∧ Inv X pins σ H' s' ∧ Q (.ref D) H' ∧ s'.heap.Ns s3.heap.objs.size m ∧ FpOk X pins H' s3.heap.objs.size) s4 := by
  have fpB : ∀ {σ' : L2.St} {H' : Hp} {s' : Shared}, Inv (X.blk s3 H3 scope ce fp) [] σ' H' s' → (∀ b ∈ fp, H' b = none) → ∀ b ∈ fp, FpOk (X.blk s3 H3 scope ce fp) [] H' b := fun {σ' H' s'} I' hn b hb => by
    have e := I'.ok.exf b hb
    exact ⟨hn b hb, e.1, I'.ok.exfs b hb, .inl hb, fun x c q => e.2 x c q, fun p hp => nomatch (show p ∈ ([] : List (Addr × Obj)) from hp)⟩
  refine compLoopS_any (fun n s' => ∃ i H', Inv (X.blk s3 H3 scope ce fp) [] (wipe σ (own.map (·.2))) H' s' ∧ tn i s'.heap ∧ (∀ b ∈ fp, H' b = none) ∧ W i n H') (fun n s5 ⟨i, H5, I5, st5, n5, w5⟩ => ?_) m0 ⟨0, H3, I4, st4, fun b hb => (f3 b hb).1, w0⟩
  rcases turn i n H5 w5 with ⟨stop, qq⟩ | ⟨go, Nx, hNx, step⟩
  · refine thnF (T.done (X.blk s3 H3 scope ce fp) rfl rfl rfl hc i [] s5 _ H5 (fun _ _ => False) I5 (fpB I5 n5) st5 stop) fun r s6 ⟨hr, I6⟩ => ?_
    subst hr
    have J7 : Inv X pins σ H5 s6 := I3.call' (ch := fp) I6.os I6.base I6.hok I6.bare fun b hb => by
      obtain ⟨_, k1, _, k3, k4, k5⟩ := f3 b hb
      exact ⟨k3, k1, k4, k5⟩
    have free : H5 s3.heap.objs.size = none := by rw [← cL]; exact I6.free
    obtain ⟨m, hn, _⟩ := I6.loc
    exact ⟨m, H5, rfl, J7, qq, by rw [← cL]; exact hn, I3.fpOk (Nat.le_refl _) free⟩
  · refine thnF (T.item (X.blk s3 H3 scope ce fp) rfl rfl rfl hc i [] s5 _ H5 (fun _ _ => False) I5 (fpB I5 n5) st5 go) fun r s6 ⟨u, hr, h6⟩ => ?_
    subst hr
    refine thnF h6 fun _ s7 ⟨x, H7, I7, r7, y7, st7, n7⟩ => ?_
    have back : ∀ {σ8 : L2.St} {s' : Shared} {H' : Hp}, wipe σ8 (own.map (·.2)) = wipe σ (own.map (·.2)) → Inv (X.blk s3 H3 scope ce fp) ([] ++ pinsAt fp s7.heap) σ8 H' s' → Nx H' →
        ∃ m, m < n ∧ ∃ i H', Inv (X.blk s3 H3 scope ce fp) [] (wipe σ (own.map (·.2))) H' s' ∧ tn i s'.heap ∧ (∀ b ∈ fp, H' b = none) ∧ W i m H' := fun {σ8 s' H'} hw I' nx => by
      obtain ⟨m', hm, w'⟩ := hNx H' nx
      have at' : ∀ b ∈ fp, ∀ o, s7.heap.get? b = some o → s'.heap.get? b = some o ∧ H' b = none := fun b hb o e => by
        have q := I'.pin (b, o) (List.mem_append_right _ (List.mem_append_right _ (mem_pinsAt hb e)))
        exact ⟨q.1, q.2.1⟩
      have len8 : (wipe σ (own.map (·.2))).length = σ8.length := by rw [← hw, wipe_length]
      refine ⟨m', hm, i + 1, H', (I'.unpinned (pins := [])).weak len8 (fun j v e => ?_), T.keep _ _ _ st7 fun b hb o e => (at' b hb o e).1, fun b hb => ?_, w'⟩
      · rw [← hw] at e
        exact (wipe_some e).1
      · obtain ⟨o, e, _⟩ := T.obj _ _ st7 b hb
        exact (at' b hb o e).2
    refine thnF (pg.run _ s7 _ H7 x u _ (I7.pinned (fpB I7 n7) (T.obj _ _ st7)) r7 (step x H7 y7)) fun _ s8 ⟨σ8, H8, I8, hw8, q8⟩ => ?_
    refine thnF (pt.run _ s8 σ8 H8 _ I8 q8) fun b s9 ⟨H9, I9, q9⟩ => ?_
    cases b with
    | false =>
      rw [if_neg Bool.false_ne_true]
      exact back hw8 I9 q9
    | true =>
      rw [if_pos rfl]
      refine thnF (pe.run _ s9 σ8 H9 _ I9 q9) fun z s10 ⟨yv, H10, I10, r10, k, S, n0, ey, hD, hz, nx⟩ => ?_
      subst ey
      have ad := @SetK1.add _ _ _ Z (X.blk s3 H3 scope ce fp) rfl rfl rfl ([] ++ pinsAt fp s7.heap) s10 σ8 H10 (.ref D) [Z.v k] (.ref D) [z] (fun _ H' => Nx H') I10 rfl (.cons r10 .nil) ⟨D, k, S, n0, rfl, rfl, hD, hz, nx⟩
      exact thnF ad fun _ s11 ⟨_, H11, I11, _, nx'⟩ => back hw8 I11 nx'
/-- {elt for tg in iter if ..} -/
theorem pe_set (Z : SetK1 X.prog X.w X.K) {elt tg iter : Expr} {ifs : List Expr} {scope : Scope} {own : List (PySem.Str × Nat)} {pos : Pos} {wi : TI} {g : TG} {tt : TT} {te : TE} (hc : X.calm = true) (hN : X.N.Nodup) (hi : PI X tg iter wi) (ok : BlkOk X.N X.env.scope scope own)
    (hg : ∀ (s : Shared) (H : Hp) (C : Addr) (cl : List (PySem.Str × Addr)) (fp : List Addr), PG (X.blk s H scope (compEnvC scope cl C X.env) fp) tg g) (ht : ∀ (s : Shared) (H : Hp) (C : Addr) (cl : List (PySem.Str × Addr)) (fp : List Addr), PTs (X.blk s H scope (compEnvC scope cl C X.env) fp) ifs tt)
    (he : ∀ (s : Shared) (H : Hp) (C : Addr) (cl : List (PySem.Str × Addr)) (fp : List Addr), PE (X.blk s H scope (compEnvC scope cl C X.env) fp) elt te) (hs : ∀ x, foldedSetIterable iter X.env x = pure x) :
    PE X (.SetComp elt [⟨tg, iter, ifs, 0⟩] scope pos) (tSet Z wi g tt te (own.map (·.2))) := by
  refine ⟨fun pins s σ H Q I h => ?_⟩
  rw [PpSet.eval_SetComp]
  have cells : ∀ y ∈ scope.names, y.2 = .free → ∃ c, X.env.cells.lookup y.1 = some c := fun y hy e => (ok.free y hy e).elim (fun k => I.ok.has _ (.inl k)) fun k => I.ok.has _ (.inr k)
  refine wpAny_comprehension_free (use := none) rfl hs (closure_ok cells) ok.kind (fun y hy e => by rw [ok.uniq y hy, e]) (thn (hi.run pins s σ H _ I h) fun xv s1 hx => thn hx fun itv s2 ⟨it, fp, tn, J, H2, e, I2, T, st2, f2, q⟩ => ?_)
  subst e
  refine newSet_ok (newEnv_comp ?_)
  have free2 : H2 s2.heap.objs.size = none := I2.hok.fresh (Nat.le_refl _)
  obtain ⟨W, ⟨m0, w0⟩, turn⟩ := q _ free2
  have I3 : Inv X pins σ (upd H2 s2.heap.objs.size (Z.z s2.heap.objs.size (fun _ => false) 0)) { s2 with heap := s2.heap.push { cls := .type "set", dict := none, data := .set #[] 0 (.fresh 0 0 (!X.w.params.followText "set-order")) } } :=
    I2.laid (t' := s2.toks) (fun b o e => Heap.get?_push_of_some _ e) (Nat.le_refl _) (Z.fresh _ _)
  have low : ∀ b ∈ fp, b < s2.heap.objs.size := fun b hb => by
    obtain ⟨o, e, _⟩ := T.obj _ _ st2 b hb
    exact Heap.lt_size e
  have f3 : ∀ b ∈ fp, FpOk X pins (upd H2 s2.heap.objs.size (Z.z s2.heap.objs.size (fun _ => false) 0)) b := fun b hb => by
    obtain ⟨k0, k⟩ := f2 b hb
    exact ⟨by rw [upd_ne (Nat.ne_of_lt (low b hb))]; exact k0, k⟩
  have I4 := block_start I3 ok hN fun b hb => ⟨f3 b hb, by show b < (s2.heap.push _).objs.size; rw [Heap.size_push]; exact Nat.lt_succ_of_lt (low b hb)⟩
  have st4 := T.keep _ _ _ st2 fun b _ o e => pushCells_keeps scope.names _ _ _ (Heap.get?_push_of_some { cls := .type "dict", data := .dict #[] } (Heap.get?_push_of_some { cls := .type "set", dict := none, data := .set #[] 0 (.fresh 0 0 (!X.w.params.followText "set-order")) } e))
  refine codeAny_mono (codeAny_compStart_set (set_loop Z (Qf := fun _ _ => True) hc T rfl f3 I3 I4 st4 (hg _ _ _ _ _) (ht _ _ _ _ _) (he _ _ _ _ _) w0 turn fun _ _ _ _ _ _ _ => trivial) (T.self X.A 0 _ _ _ st4 (set_loop Z (Qf := fun _ _ => True) hc T rfl f3 I3 I4 st4 (hg _ _ _ _ _) (ht _ _ _ _ _) (he _ _ _ _ _) w0 turn fun _ _ _ _ _ _ _ => trivial))) fun r s' ⟨m, H', er, I', q', hn, f⟩ => ?_
  subst er
  refine ⟨m, hn, fun h'' sb => ?_⟩
  obtain ⟨f0, f1, _, f3', f4, f5⟩ := f
  exact ⟨.ref _, H', I'.turned (t' := s'.toks) (fun b o hb e => (sb.2 b hb).trans e) f0 f1 f3' f4 f5, rfl, q'⟩
end
/-! ### the two kinds -/
def zKey (P : Program) (w : World) (K : PySem.W.Frag) : SetK1 P w K where
  κ := Key
  v := kV
  z := SetK P w
  dec := inferInstance
  fresh := fun H h => setK_new ⟨_, #[], 0, _, Heap.get?_push_size _ rfl, ⟨rfl, rfl, rfl⟩, rfl, (fun e he => by simp at he), (fun k => by simp), (by decide), (by rfl), rfl⟩
  add := fun X e1 e2 e3 => by subst e1 e2; exact mt_saddK
def zInt (P : Program) (w : World) (K : PySem.W.Frag) : SetK1 P w K where
  κ := Int
  v := V.int
  z := SetO w
  dec := inferInstance
  fresh := fun H h => setO_new (setR_fresh w)
  add := fun X e1 e2 e3 => by subst e1 e2; exact mt_sadd
/-! ### less an object that is no tuple -/
section
variable {K : PySem.W.Frag} {ca : Nat → Addr} {cx : CXT} {ρ ρ' : List Addr} {H H' : Hp} {h h' : Hh} {D : Addr} {u : HO}
/-- no tuple -/
structure NoT (u : HO) : Prop where
  t : ∀ xs, u ≠ .tup xs
  f : ∀ o z, u ≠ .frz o z
  l : ∀ xs, u ≠ .lst xs
theorem upd_mnO (e : H D = some u) : upd (mn H D) D u = H := by
  funext a
  by_cases z : a = D
  · subst z; rw [upd_same, e]
  · rw [upd_ne z, mn_ne z]
theorem sqT_mnO (n : NoT u) (e : H D = some u) {a : Addr} {xs : List V} (s : SqT K H a xs) : SqT K (mn H D) a xs := by
  rcases s with (q | ⟨o, q⟩) | q
  · exact .inl (.inl (by rw [mn_ne (fun z => by subst z; rw [e] at q; exact n.t _ (Option.some.inj q))]; exact q))
  · exact .inl (.inr ⟨o, by rw [mn_ne (fun z => by subst z; rw [e] at q; exact n.f _ _ (Option.some.inj q))]; exact q⟩)
  · exact .inr q
theorem sqF_mnO (n : NoT u) (e : H D = some u) {a : Addr} {xs : List V} (s : SqF K H a xs) : SqF K (mn H D) a xs := by
  rcases s with ⟨o, q⟩ | q
  · exact .inl ⟨o, by rw [mn_ne (fun z => by subst z; rw [e] at q; exact n.f _ _ (Option.some.inj q))]; exact q⟩
  · exact .inr q
theorem Reps.mnO (n : NoT u) (e : H D = some u) {d : List Mp.D} {v : List V} (q : Reps K ρ H d v) : Reps K ρ (Mp.mn H D) d v := q.imp (fun _ _ z => z) (fun _ _ s => sqT_mnO n e s) fun _ _ s => sqF_mnO n e s
theorem HR.mnO (nt : NoT u) (e : H D = some u) (n : D ∉ ρ) (r : HR K ρ H h) : HR K ρ (Mp.mn H D) h := ⟨r.len, r.nd, fun i a c e1 e2 => by
  have q := r.cell i a c e1 e2
  have ne : a ≠ D := fun z => n (z ▸ List.mem_of_getElem? e1)
  rw [mn_ne ne]
  cases c with
  | lst ds => obtain ⟨vs, e3, p⟩ := q; exact ⟨vs, e3, p.mnO nt e⟩
  | dct kvs => exact q.elim⟩
end
section
variable {Φ : Nat → List D → M D} {ca : Nat → Addr} {cx : CXT} {P : Program} {w : World} {K : PySem.W.Frag} {mi mc me : E} {W : XK}
theorem mapK_app {κ : Type} {f : D → Option κ} : ∀ {xs ys : List D} {ks : List κ}, mapK f (xs ++ ys) = some ks → ∃ as bs, mapK f xs = some as ∧ mapK f ys = some bs ∧ ks = as ++ bs
  | [], ys, ks, e => ⟨[], ks, rfl, e, rfl⟩
  | x :: xs, ys, ks, e => by
    simp only [List.cons_append, mapK] at e
    split at e
    · rename_i k ks' e1 e2
      cases e
      obtain ⟨as, bs, h1, h2, rfl⟩ := mapK_app e2
      exact ⟨k :: as, bs, by simp only [mapK, e1, h1], h2, rfl⟩
    · cases e
theorem mapK_len {κ : Type} {f : D → Option κ} : ∀ {xs : List D} {ks : List κ}, mapK f xs = some ks → ks.length = xs.length
  | [], ks, e => by cases e; rfl
  | x :: xs, ks, e => by
    simp only [mapK] at e
    split at e
    · rename_i k ks' e1 e2; cases e; simp [mapK_len e2]
    · cases e
theorem nodup_ed {κ : Type} [DecidableEq κ] : ∀ (n : Nat) (ks : List κ), ks.length ≤ n → ks.eraseDups.Nodup
  | _, [], _ => by simp
  | n + 1, k :: ks, h => by
    rw [List.eraseDups_cons, List.nodup_cons]
    have h1 : (ks.filter fun b => !b == k).length ≤ ks.length := List.length_filter_le _ _
    refine ⟨fun z => ?_, nodup_ed n _ (by simp at h; omega)⟩
    rw [List.mem_eraseDups, List.mem_filter] at z
    simp at z
theorem erase_le {κ : Type} [DecidableEq κ] : ∀ (n : Nat) (ks : List κ), ks.length ≤ n → ks.eraseDups.length ≤ ks.length
  | _, [], _ => by simp
  | n + 1, k :: ks, h => by
    rw [List.eraseDups_cons]
    have h1 : (ks.filter fun b => !b == k).length ≤ ks.length := List.length_filter_le _ _
    have := erase_le n (ks.filter fun b => !b == k) (by simp at h; omega)
    simp only [List.length_cons]
    omega
/-- the walk of a set comprehension: by the model -/
theorem set_walk (Z : SetK1 P w K) [inst : DecidableEq Z.κ] (hdec : ∀ j k, @decide (j = k) (Z.dec j k) = decide (j = k)) {toK : D → Option Z.κ} (key : ∀ {ρ H d v k}, Rep K ρ H d v → toK d = some k → v = Z.v k) (zt : ∀ a S n, NoT (Z.z a S n)) {t : Tg} {own : List Nat} {cd : Bool} {σ : L2.St} {H : Hp} {α β : Type}
    {Rl : Hp → α → List Addr → Hp → β → Prop} (an : Anti K Rl) {F : List D → Hh → R α} (hF : ∀ ds h, F ds h ≠ .bad → ∃ ks, mapK toK ds = some ks ∧ ks.length ≤ 1000) {Q2 : β → Hp → Prop} (ht : ∀ i ∈ tgs t, i ∈ own)
    {ρ : List Addr} {en : En} {h : Hh} (r : HR K ρ H h) (q : EnR K ρ H en σ) (p : Po K ca Rl ρ H W (bd (bd (evW Φ mi en h) walkOf) fun w h => bd (compM own t (itemM Φ cd mc me) w en h) fun ds h => F ds h) Q2) :
    tSet Z (tI Φ ca K mi fun c d _ H => W c d H) (gM K t) (tIfs (Φ := Φ) (ca := ca) K cd mc) (tD Φ ca K me fun _ _ _ _ => False) own σ H fun x H' => ∃ (D : Addr) (ρ' : List Addr) (h' : Hh) (ds : List Mp.D) (ks : List Z.κ) (S : Z.κ → Bool), x = .ref D ∧ H' D = some (Z.z D S ks.eraseDups.length) ∧ (∀ k, S k = true ↔ k ∈ ks) ∧ HR K ρ' H' h' ∧ mapK toK ds = some ks ∧ Po K ca Rl ρ' H' W (F ds h') Q2 := by
  refine ⟨ρ, en, h, r, q, (p.bind an).imp fun J H1 ⟨wk, ρ1, h1, g, r1, rl, p1⟩ => fun D hD => ?_⟩
  have q1 := q.mono g r
  obtain ⟨ds', hf, ks', hk', hk1, heq, fin⟩ : ∃ ds' hf ks', mapK toK ds' = some ks' ∧ ks'.length ≤ 1000 ∧ compD wk.gd (fun x => match bindT t x (wipeE en own) with
      | none => fun _ => .bad
      | some en1 => itemM Φ cd mc me en1) wk.its h1 = .ok ds' hf ∧ Po K ca Rl ρ1 H1 W (F ds' hf) Q2 := by
    unfold compM at p1
    split at p1
    · rename_i hl
      revert p1
      generalize hz : compD wk.gd _ wk.its h1 = z
      intro p1
      cases z with
      | ok ds' hf =>
        obtain ⟨ks, e1, e2⟩ := hF ds' hf fun z => by
          have p2 : Po K ca Rl ρ1 H1 W (F ds' hf) Q2 := p1
          rw [z] at p2; exact p2
        exact ⟨ds', hf, ks, e1, e2, rfl, p1⟩
      | err x h' => exact p1.elim
      | bad => exact p1.elim
    · exact p1.elim
  have hDr : D ∉ ρ1 := notcell r1 hD
  refine ⟨fun i m H' => m = wk.its.length - i ∧ i ≤ wk.its.length ∧ ∃ ρ' h' ds ks S rest, H' D = some (Z.z D S ks.eraseDups.length) ∧ (∀ k, S k = true ↔ k ∈ ks) ∧ mapK toK ds = some ks ∧ D ∉ ρ' ∧ Ge ρ1 H1 ρ' (mn H' D) ∧ HR K ρ' (mn H' D) h' ∧ ds ++ rest = ds' ∧
    compD wk.gd (fun x => match bindT t x (wipeE en own) with
      | none => fun _ => .bad
      | some en1 => itemM Φ cd mc me en1) (wk.its.drop i) h' = .ok rest hf, ⟨_, rfl, Nat.zero_le _, ρ1, h1, [], [], fun _ => false, ds', upd_same, fun k => by simp, rfl, hDr, ?_, ?_, rfl, heq⟩, ?_⟩
  · rw [mn_upd hD]; exact Ge.refl _ _
  · rw [mn_upd hD]; exact r1
  rintro i m H' ⟨rfl, hi, ρ', h', ds, ks, S, rest, e1, hS, hks, n1, g1, r2, ed, eq⟩
  have gU : Ge ρ' (mn H' D) ρ' H' := by
    have := Ge.new (o := Z.z D S ks.eraseDups.length) (mn_self (H := H') (D := D)) r2
    rw [upd_mnO e1] at this; exact this
  have rU : HR K ρ' H' h' := by
    have := r2.new (o := Z.z D S ks.eraseDups.length) (mn_self (H := H') (D := D))
    rw [upd_mnO e1] at this; exact this
  have gA : Ge ρ1 H1 ρ' H' := g1.trans r2 gU
  by_cases hlt : i < wk.its.length
  · refine .inr ?_
    have hdr : wk.its.drop i = wk.its[i] :: wk.its.drop (i + 1) := List.drop_eq_getElem_cons hlt
    rw [hdr] at eq
    obtain ⟨st, o, h2, r', ef, er, erest⟩ := compD_cons eq
    obtain ⟨go, _, yl⟩ := rl ρ' H' h' gA rU st
    refine ⟨go i hlt, fun H'' => ∃ ρ'' ds2 ks2 S2, H'' D = some (Z.z D S2 ks2.eraseDups.length) ∧ (∀ k, S2 k = true ↔ k ∈ ks2) ∧ mapK toK ds2 = some ks2 ∧ D ∉ ρ'' ∧ Ge ρ1 H1 ρ'' (mn H'' D) ∧ HR K ρ'' (mn H'' D) h2 ∧ ds2 ++ r' = ds',
      fun H'' ⟨ρ'', ds2, ks2, S2, k1, k2, k3, k4, k5, k6, k7⟩ => ⟨_, by omega, rfl, hlt, ρ'', h2, ds2, ks2, S2, r', k1, k2, k3, k4, k5, k6, k7, er⟩, fun x H2 y => ?_⟩
    obtain ⟨d, ed1, g2, r3, rd⟩ := yl i x H2 hlt y
    rw [List.getElem?_eq_getElem hlt] at ed1
    cases ed1
    have e2 : H2 D = some (Z.z D S ks.eraseDups.length) := g2.keep D _ n1 e1
    cases hb : bindT t wk.its[i] (wipeE en own) with
    | none => rw [hb] at ef; cases ef
    | some en1 =>
      rw [hb] at ef
      have ef : itemM Φ cd mc me en1 h' = .ok o h2 := ef
      refine ⟨ρ', wipeE en own, h', wk.its[i], en1, r3, ((q1.mono gA r1).mono g2 rU).wipe own, rd, hb, fun σ2 q2 w2 => ⟨by rw [w2 own ht, wipe_wipe], ?_⟩⟩
      -- where nothing is added
      have none_ : ∀ (ρ'' : List Addr) (H4 : Hp), Ge ρ' H2 ρ'' H4 → HR K ρ'' H4 h2 → o = none → ∃ ρ'' ds2 ks2 S2, H4 D = some (Z.z D S2 ks2.eraseDups.length) ∧ (∀ k, S2 k = true ↔ k ∈ ks2) ∧ mapK toK ds2 = some ks2 ∧ D ∉ ρ'' ∧ Ge ρ1 H1 ρ'' (mn H4 D) ∧ HR K ρ'' (mn H4 D) h2 ∧ ds2 ++ r' = ds' := by
        intro ρ'' H4 g4 r4 ho
        have e4 := g4.keep D _ n1 e2
        have n4 : D ∉ ρ'' := g4.old n1 e2
        subst ho
        exact ⟨ρ'', ds, ks, S, e4, hS, hks, n4, g1.trans r2 (g2.trans r3 g4).mn, r4.mnO (zt _ _ _) e4 n4, by rw [← ed, erest]⟩
      have some_ : ∀ (ρ'' : List Addr) (H4 : Hp), Ge ρ' H2 ρ'' H4 → HR K ρ'' H4 h2 → ∀ dy y, o = some dy → Rep K ρ'' H4 dy y → ∃ (k : Z.κ) (S : Z.κ → Bool) (n : Nat), y = Z.v k ∧ H4 D = some (Z.z D S n) ∧ n + 1 < scanBound ∧
          ∃ ρ'' ds2 ks2 S2, upd H4 D (Z.z D (fun j => S j || @decide (j = k) (Z.dec j k)) (if S k = true then n else n + 1)) D = some (Z.z D S2 ks2.eraseDups.length) ∧ (∀ k, S2 k = true ↔ k ∈ ks2) ∧ mapK toK ds2 = some ks2 ∧ D ∉ ρ'' ∧ Ge ρ1 H1 ρ'' (mn (upd H4 D (Z.z D (fun j => S j || @decide (j = k) (Z.dec j k)) (if S k = true then n else n + 1))) D) ∧
            HR K ρ'' (mn (upd H4 D (Z.z D (fun j => S j || @decide (j = k) (Z.dec j k)) (if S k = true then n else n + 1))) D) h2 ∧ ds2 ++ r' = ds' := by
        intro ρ'' H4 g4 r4 dy y ho ry
        have e4 := g4.keep D _ n1 e2
        have n4 : D ∉ ρ'' := g4.old n1 e2
        subst ho
        simp only at erest
        have ed2 : (ds ++ [dy]) ++ r' = ds' := by rw [← ed, erest]; simp
        rw [← ed2] at hk'
        obtain ⟨as, bs, h5, h6, h7⟩ := mapK_app hk'
        obtain ⟨as1, as2, h8, h9, h10⟩ := mapK_app h5
        rw [hks] at h8
        cases h8
        simp only [mapK] at h9
        cases hkd : toK dy with
        | none => rw [hkd] at h9; cases h9
        | some k =>
          rw [hkd] at h9
          cases h9
          subst h10
          have hm : mn (upd H4 D (Z.z D (fun j => S j || @decide (j = k) (Z.dec j k)) (if S k = true then ks.eraseDups.length else ks.eraseDups.length + 1))) D = mn H4 D := by
            funext a
            by_cases z : a = D
            · subst z; rw [mn_self, mn_self]
            · rw [mn_ne z, mn_ne z, upd_ne z]
          have hlen : ks.eraseDups.length + 1 < scanBound := by
            have h11 : ks.eraseDups.length ≤ ks.length := erase_le _ ks (Nat.le_refl _)
            have h12 : ks.length + 1 ≤ ks'.length := by rw [h7]; simp
            show _ < 4096
            omega
          have hcnt : (ks ++ [k]).eraseDups.length = if S k = true then ks.eraseDups.length else ks.eraseDups.length + 1 := by
            rw [List.eraseDups_append, List.length_append]
            by_cases hk : k ∈ ks
            · rw [if_pos ((hS k).mpr hk)]
              simp [List.removeAll, hk]
            · rw [if_neg (fun z => hk ((hS k).mp z))]
              simp [List.removeAll, hk, List.eraseDups_cons]
          refine ⟨k, S, ks.eraseDups.length, key ry hkd, e4, hlen, ρ'', ds ++ [dy], ks ++ [k], (fun j => S j || @decide (j = k) (Z.dec j k)), ?_, fun j => ?_, h5, n4, ?_, ?_, ed2⟩
          · rw [upd_same, hcnt]
          · show (S j || @decide (j = k) (Z.dec j k)) = true ↔ _
            rw [hdec]
            simp [hS j]
          · rw [hm]; exact g1.trans r2 (g2.trans r3 g4).mn
          · rw [hm]; exact r4.mnO (zt _ _ _) e4 n4
      cases cd with
      | false =>
        have ef : bd (bd (evW Φ me en1 h') settle) (fun y h => .ok (some y) h) = .ok o h2 := ef
        obtain ⟨y, h3, ey, eo⟩ := bd_ok_inv ef
        cases eo
        simp only [tIfs, tYes]
        refine ⟨ρ', en1, h', r3, q2, ?_⟩
        rw [ey]
        exact fun ρ'' H4 yv g4 r4 ry => some_ ρ'' H4 g4 r4 y yv rfl ry
      | true =>
        have ef : bd (bd (evW Φ mc en1 h') settle) (fun k h => (match k with
          | .bl true => bd (bd (evW Φ me en1 h) settle) fun y h => .ok (some y) h
          | .bl false => .ok none h
          | _ => .bad)) = .ok o h2 := ef
        obtain ⟨k, h3, ek, eo⟩ := bd_ok_inv ef
        refine ⟨ρ', en1, h', r3, q2, ?_⟩
        unfold boolR
        rw [ek]
        cases k with
        | bl b =>
          refine fun ρ3 H3 bv g3 r3' eb => ?_
          cases eb
          cases b with
          | true =>
            have eo : bd (bd (evW Φ me en1 h3) settle) (fun y h => .ok (some y) h) = .ok o h2 := eo
            obtain ⟨y, h4, ey, eo⟩ := bd_ok_inv eo
            cases eo
            show tD Φ ca K me _ σ2 H3 _
            refine ⟨ρ3, en1, h3, r3', q2.mono g3 r3, ?_⟩
            rw [ey]
            exact fun ρ'' H4 yv g4 r4 ry => some_ ρ'' H4 (g3.trans r3' g4) r4 y yv rfl ry
          | false =>
            cases eo
            exact none_ ρ3 H3 g3 r3' rfl
        | _ => cases eo
  · have ei : i = wk.its.length := by omega
    subst ei
    rw [List.drop_length] at eq
    obtain ⟨st, e3, e4⟩ := compD_nil eq
    subst e3 e4
    obtain ⟨_, stop, _⟩ := rl ρ' H' _ gA rU st
    rw [List.append_nil] at ed
    subst ed
    rw [hks] at hk'
    cases hk'
    exact .inl ⟨stop, D, ρ', hf, ds, _, S, rfl, e1, hS, rU, hks, Po.shift an gA rU fin⟩
end
section
variable {Φ : Nat → List D → M D} {ca : Nat → Addr} {cx : CXT} {X : Cx} {c : SC} {W : WX} {mi mc me : E} {pos p1 p2 : Pos}
theorem cr_lenSet : CallR X (.builtin "len") (fun vs H Q => ∃ (a : Addr) (S : Key → Bool) (n : Nat), vs = [V.ref a] ∧ H a = some (SetK X.prog X.w a S n) ∧ n ≤ 1000 ∧ Q (.int n) H) := by
  intro pins s σ H vs us Q I r ⟨a, S, n, e, ha, hn, q⟩
  subst e
  rw [Vals.ref1 r]
  obtain ⟨o, es, ep, t, ho, hex, hd, _, _, _, hf, hz⟩ := setK_get I ha
  exact call_len_set ho hex hd hf (by omega) ⟨.int n, H, I.tok _, ⟨_, by rw [hz]⟩, q⟩
theorem len_noT {P : Program} {w : World} : ∀ a S n, NoT (SetK P w a S n) := fun a S n => ⟨fun _ z => (by cases z), fun _ _ z => (by cases z), fun _ z => (by cases z)⟩
theorem int_noT {w : World} : ∀ a S n, NoT (SetO w a S n) := fun a S n => ⟨fun _ z => (by cases z), fun _ _ z => (by cases z), fun _ z => (by cases z)⟩
theorem keyD_ok {K : PySem.W.Frag} {ρ : List Addr} {H : Hp} {d : D} {v : V} {k : Key} (r : Rep K ρ H d v) (e : keyD d = some k) : v = kV k := by
  cases d <;> simp only [keyD, Option.some.injEq, reduceCtorEq] at e <;> (subst e; exact r)
theorem intD_ok {K : PySem.W.Frag} {ρ : List Addr} {H : Hp} {d : D} {v : V} {k : Int} (r : Rep K ρ H d v) (e : intD d = some k) : v = V.int k := by
  cases d <;> simp only [intD, Option.some.injEq, reduceCtorEq] at e <;> (subst e; exact r)
theorem w_lenset (L : Live cx c Φ ca X) {elt tg iter : Expr} {ifs : List Expr} {scope : Scope} {own : List (Str × Nat)} {t : Tg} {cd : Bool} (hg0 : Gl X "len") (hb : blkB c scope own = true) (ht : ∀ i ∈ tgs t, i ∈ own.map (·.2)) (hi : PI X tg iter (tI Φ ca X.K mi W))
    (hg : ∀ (s : Shared) (H : Hp) (C : Addr) (cl : List (Str × Addr)) (fp : List Addr), PG (X.blk s H scope (compEnvC scope cl C X.env) fp) tg (gM X.K t)) (hc : ∀ (s : Shared) (H : Hp) (C : Addr) (cl : List (Str × Addr)) (fp : List Addr), PTs (X.blk s H scope (compEnvC scope cl C X.env) fp) ifs (tIfs (Φ := Φ) (ca := ca) X.K cd mc))
    (he : ∀ (s : Shared) (H : Hp) (C : Addr) (cl : List (Str × Addr)) (fp : List Addr), PE (X.blk s H scope (compEnvC scope cl C X.env) fp) elt (tD Φ ca X.K me fun _ _ _ _ => False)) (hn : ∀ a b c, iter ≠ .Set a b c) :
    PE X (.Call (.Name "len" p1) [.SetComp elt [⟨tg, iter, ifs, 0⟩] scope p2] [] pos) (tW Φ ca X.K (.lenset (own.map (·.2)) t mi cd mc me) W) := by
  have ps := pe_set (pos := p2) (zKey X.prog X.w X.K) L.calm (L.N ▸ L.nd) hi (L.blkOk hb) hg hc he (hs_fold hn)
  refine (pe_callB cr_lenSet hg0 (L.blt _ (by decide +kernel)) boot_len (pa_cons ps pa_nil rfl) (by decide +kernel) (by decide +kernel) rfl rfl).weak fun σ H Q ⟨ρ, en, h, r, q, p⟩ => ?_
  have p2 : Po X.K ca (RlW X.K) ρ H (fun c d H => W c d σ H) (bd (bd (evW Φ mi en h) walkOf) fun w h => bd (compM (own.map (·.2)) t (itemM Φ cd mc me) w en h) fun ds h => lift (lensetO ds) h) Q := by
    exact p
  obtain ⟨ρ', en', h', r', q', k⟩ := set_walk (zKey X.prog X.w X.K) (inst := (zKey X.prog X.w X.K).dec) (by intro j k; rfl) (toK := keyD) (fun r e => keyD_ok r e) len_noT anti_W (F := fun ds h => lift (lensetO ds) h) (fun ds h z => by
    unfold lensetO lift at z
    split at z
    · rename_i a e
      split at e
      · rename_i ks hk
        split at e
        · rename_i hl; exact ⟨ks, hk, hl⟩
        · cases e
      · cases e
    · exact absurd rfl z) ht r q p2
  refine ⟨ρ', en', h', r', q', k.imp fun J H1 kk D hD => ?_⟩
  obtain ⟨Wt, w0, tn⟩ := kk D hD
  refine ⟨Wt, w0, fun i m H hw => ?_⟩
  rcases tn i m H hw with ⟨stop, D', ρ2, h2, ds, ks, S, e1, e2, hS, r2, hk, p3⟩ | go
  · refine .inl ⟨stop, ?_⟩
    cases e1
    obtain ⟨rv, e3, p4⟩ := p3.lift
    unfold lensetO at e3
    have hk' : @mapK Key keyD ds = some ks := hk
    rw [hk'] at e3
    simp only at e3
    split at e3
    · rename_i hl
      cases e3
      exact ⟨D, S, _, rfl, e2, Nat.le_trans (@erase_le Key _ _ ks (Nat.le_refl _)) hl, p4.at r2 rfl⟩
    · cases e3
  · exact .inr go
theorem sorted_is {ns : List Int} {ks : List Int} (h1 : ns.Pairwise (· < ·)) (h2 : ∀ k, k ∈ ns ↔ k ∈ ks) : ns = sortI ks.eraseDups := by
  refine sortI_unique ?_ (h1.imp fun h => Int.le_of_lt h)
  have n1 : ns.Nodup := h1.imp fun h => Int.ne_of_lt h
  have n2 : ks.eraseDups.Nodup := nodup_ed _ ks (Nat.le_refl _)
  exact (List.perm_ext_iff_of_nodup n1 n2).mpr fun a => by rw [h2, List.mem_eraseDups]
theorem w_sortset (L : Live cx c Φ ca X) {elt tg iter : Expr} {ifs : List Expr} {scope : Scope} {own : List (Str × Nat)} {t : Tg} {cd : Bool} (hg0 : Gl X "sorted") (hb : blkB c scope own = true) (ht : ∀ i ∈ tgs t, i ∈ own.map (·.2)) (hi : PI X tg iter (tI Φ ca X.K mi W))
    (hg : ∀ (s : Shared) (H : Hp) (C : Addr) (cl : List (Str × Addr)) (fp : List Addr), PG (X.blk s H scope (compEnvC scope cl C X.env) fp) tg (gM X.K t)) (hc : ∀ (s : Shared) (H : Hp) (C : Addr) (cl : List (Str × Addr)) (fp : List Addr), PTs (X.blk s H scope (compEnvC scope cl C X.env) fp) ifs (tIfs (Φ := Φ) (ca := ca) X.K cd mc))
    (he : ∀ (s : Shared) (H : Hp) (C : Addr) (cl : List (Str × Addr)) (fp : List Addr), PE (X.blk s H scope (compEnvC scope cl C X.env) fp) elt (tD Φ ca X.K me fun _ _ _ _ => False)) (hn : ∀ a b c, iter ≠ .Set a b c) :
    PE X (.Call (.Name "sorted" p1) [.SetComp elt [⟨tg, iter, ifs, 0⟩] scope p2] [] pos) (tW Φ ca X.K (.sortset (own.map (·.2)) t mi cd mc me) W) := by
  have ps := pe_set (pos := p2) (zInt X.prog X.w X.K) L.calm (L.N ▸ L.nd) hi (L.blkOk hb) hg hc he (hs_fold hn)
  refine (pe_callB (cr_sortedSet L.calm) hg0 (L.blt _ (by decide +kernel)) boot_sorted (pa_cons ps pa_nil rfl) (by decide +kernel) (by decide +kernel) rfl rfl).weak fun σ H Q ⟨ρ, en, h, r, q, p⟩ => ?_
  have p2 : Po X.K ca (RlW X.K) ρ H (fun c d H => W c d σ H) (bd (bd (evW Φ mi en h) walkOf) fun w h => bd (compM (own.map (·.2)) t (itemM Φ cd mc me) w en h) fun ds h => lift (sortsetO ds) h) Q := by
    exact p
  obtain ⟨ρ', en', h', r', q', k⟩ := set_walk (zInt X.prog X.w X.K) (inst := (zInt X.prog X.w X.K).dec) (by intro j k; rfl) (toK := intD) (fun r e => intD_ok r e) int_noT anti_W (F := fun ds h => lift (sortsetO ds) h) (fun ds h z => by
    unfold sortsetO lift at z
    split at z
    · rename_i a e
      split at e
      · rename_i ks hk
        split at e
        · rename_i hl; exact ⟨ks, hk, Nat.le_trans (Nat.le_of_lt hl) (by decide)⟩
        · cases e
      · cases e
    · exact absurd rfl z) ht r q p2
  refine ⟨ρ', en', h', r', q', k.imp fun J H1 kk D hD => ?_⟩
  obtain ⟨Wt, w0, tn⟩ := kk D hD
  refine ⟨Wt, w0, fun i m H hw => ?_⟩
  rcases tn i m H hw with ⟨stop, D', ρ2, h2, ds, ks, S, e1, e2, hS, r2, hk, p3⟩ | go
  · refine .inl ⟨stop, ?_⟩
    cases e1
    obtain ⟨rv, e3, p4⟩ := p3.lift
    unfold sortsetO at e3
    have hk' : @mapK Int intD ds = some ks := hk
    rw [hk'] at e3
    simp only at e3
    split at e3
    · rename_i hl
      cases e3
      refine ⟨D, S, _, rfl, e2, Nat.lt_of_le_of_lt (@erase_le Int _ _ ks (Nat.le_refl _)) hl, fun ns p h1 h2 h3 h4 => ?_⟩
      have := sorted_is h1 fun k => (h2 k).trans (hS k)
      subst this
      exact po_fresh r2 (reps_ints _) p4 h4
    · cases e3
  · exact .inr go
end
end Mp
set_option Elab.async false
set_option linter.all false
set_option maxRecDepth 100000
set_option maxHeartbeats 1000000
/-! Mp11: statements -/
namespace Mp
open PySem PySem.Spec PyProof.Rows L2 RZ

inductive SV where
  | nx (σ : L2.St) | rt (v : V) | bk (σ : L2.St) | ct (σ : L2.St)
def RlS (K : PySem.W.Frag) : Hp → Fl × En → List Addr → Hp → SV → Prop := fun _ q ρ H sv => match q.1, sv with
  | .nx, .nx σ => EnR K ρ H q.2 σ
  | .bk, .bk σ => EnR K ρ H q.2 σ
  | .ct, .ct σ => EnR K ρ H q.2 σ
  | .rt d, .rt v => Rep K ρ H d v
  | _, _ => False
theorem anti_S {K : PySem.W.Frag} : Anti K (RlS K) := ⟨fun _ _ _ _ _ _ _ q => q⟩
def DQ (D : Ends) : SV → Hp → Prop := fun sv H => match sv with
  | .nx σ => D.nx σ H
  | .bk σ => D.bk σ H
  | .ct σ => D.ct σ H
  | .rt v => D.rt v H
section
variable (xs : XS) (Φ : Nat → List D → M D) (ca : Nat → Addr)
def tS (K : PySem.W.Frag) (m : S) (W : XK) : TS := fun D σ H => ∃ ρ en h, HR K ρ H h ∧ EnR K ρ H en σ ∧ Po K ca (RlS K) ρ H W (evS xs Φ m en h) (DQ D)
def tSs (K : PySem.W.Frag) (ms : List S) (W : XK) : TS := fun D σ H => ∃ ρ en h, HR K ρ H h ∧ EnR K ρ H en σ ∧ Po K ca (RlS K) ρ H W (evS.evSs xs Φ ms en h) (DQ D)
end
section
variable {xs : XS} {Φ : Nat → List D → M D} {ca : Nat → Addr} {cx : CXT} {X : Cx} {c : SC} {st : Stmt} {e a b : Expr} {m ma mb mo mi : E} {W : XK} {pos : Pos} {ms : List S} {sts : List Stmt}
-- WW
abbrev WW (W : XK) : WX := fun c d _ H => W c d H
theorem ss_nil : PSs X [] (tSs xs Φ ca X.K [] W) := pss_nil.weak fun D σ H ⟨ρ, en, h, r, q, p⟩ => p.at (v := SV.nx σ) r q
theorem ss_cons {m : S} (h1 : PS X st (tS xs Φ ca X.K m W)) (h2 : PSs X sts (tSs xs Φ ca X.K ms W)) : PSs X (st :: sts) (tSs xs Φ ca X.K (m :: ms) W) := by
  refine (pss_cons h1 h2).weak fun D σ H ⟨ρ, en, h, r, q, p⟩ => ?_
  refine ⟨ρ, en, h, r, q, (p.bind anti_S).imp fun sv H1 ⟨⟨fl, en2⟩, ρ1, h1, g, r1, rs, p1⟩ => ?_⟩
  cases fl with
  | nx => cases sv <;> first
    | exact rs.elim
    | exact ⟨ρ1, en2, h1, r1, rs, p1⟩
  | rt d =>
    have z := fun v rs => (show Po X.K ca (RlS X.K) ρ1 H1 W (.ok (Fl.rt d, en2) h1) (DQ D) from p1).at (v := v) r1 rs
    cases sv <;> first
    | exact rs.elim
    | exact z (SV.rt _) rs
  | bk =>
    have z := fun v rs => (show Po X.K ca (RlS X.K) ρ1 H1 W (.ok (Fl.bk, en2) h1) (DQ D) from p1).at (v := v) r1 rs
    cases sv <;> first
    | exact rs.elim
    | exact z (SV.bk _) rs
  | ct =>
    have z := fun v rs => (show Po X.K ca (RlS X.K) ρ1 H1 W (.ok (Fl.ct, en2) h1) (DQ D) from p1).at (v := v) r1 rs
    cases sv <;> first
    | exact rs.elim
    | exact z (SV.ct _) rs
theorem s_pass : PS X (.Pass pos) (tS xs Φ ca X.K .pass W) := ps_pass.weak fun D σ H ⟨ρ, en, h, r, q, p⟩ => p.at (v := SV.nx σ) r q
theorem s_brk : PS X (.Break pos) (tS xs Φ ca X.K .brk W) := ps_break.weak fun D σ H ⟨ρ, en, h, r, q, p⟩ => p.at (v := SV.bk σ) r q
theorem s_cnt : PS X (.Continue pos) (tS xs Φ ca X.K .cnt W) := ps_continue.weak fun D σ H ⟨ρ, en, h, r, q, p⟩ => p.at (v := SV.ct σ) r q
theorem s_ret (he : PE X e (tD Φ ca X.K m (WW W))) : PS X (.Return (some e) pos) (tS xs Φ ca X.K (.ret m) W) := by
  refine (ps_ret he).weak fun D σ H ⟨ρ, en, h, r, q, p⟩ => ?_
  exact ⟨ρ, en, h, r, q, (p.bind anti_S).imp fun v H1 ⟨d, ρ1, h1, g, r1, rd, p1⟩ => p1.at (v := SV.rt v) r1 rd⟩
theorem s_retN : PS X (.Return none pos) (tS xs Φ ca X.K (.ret (.cst .non)) W) := by
  refine ps_retN.weak fun D σ H ⟨ρ, en, h, r, q, p⟩ => ?_
  exact p.at (v := SV.rt .non) r rfl
theorem s_ex (he : PE X e (tD Φ ca X.K m (WW W))) (hs : swapsWith e none pos.line X.env = pure false) : PS X (.Expr e pos) (tS xs Φ ca X.K (.ex m) W) := by
  refine (ps_expr he hs).weak fun D σ H ⟨ρ, en, h, r, q, p⟩ => ?_
  exact ⟨ρ, en, h, r, q, (p.bind anti_S).imp fun v H1 ⟨d, ρ1, h1, g, r1, rd, p1⟩ => p1.at (v := SV.nx σ) r1 (q.mono g r)⟩
theorem s_asg (L : Live cx c Φ ca X) {i : Nat} {x : Str} {pos' : Pos} (s : Sto c i x) (he : PE X e (tD Φ ca X.K m (WW W))) (hs : swapsWith e (some (.Name x pos')) pos.line X.env = pure false) : PS X (.Assign [.Name x pos'] e pos) (tS xs Φ ca X.K (.asg i m) W) := by
  obtain ⟨h1, h2, h3, h4⟩ := L.loc s
  refine (ps_set h1 h2 h3 he hs h4).weak fun D σ H ⟨ρ, en, h, r, q, p⟩ => ?_
  exact ⟨ρ, en, h, r, q, (p.bind anti_S).imp fun v H1 ⟨d, ρ1, h1, g, r1, rd, p1⟩ => p1.at (v := SV.nx (σ.set i (some v))) r1 ((q.mono g r).set rd)⟩
theorem s_asgT {is : List Nat} {tg : Expr} (he : PE X e (tD Φ ca X.K m (WW W))) (hg : PG X tg (gM X.K (.many is))) (hs : swapsWithSole [tg] e pos.line X.env = pure false) (hw : swappedStores [tg] e X.env = pure none) (h1 : (assignEach [tg] X.env).map (·.2) = [assign tg X.env]) :
    PS X (.Assign [tg] e pos) (tS xs Φ ca X.K (.asgT is m) W) := by
  refine (ps_asg he hg hs hw h1).weak fun D σ H ⟨ρ, en, h, r, q, p⟩ => ?_
  refine ⟨ρ, en, h, r, q, (p.bind anti_S).imp fun v H1 ⟨d, ρ1, h1, g, r1, rd, p1⟩ => ?_⟩
  cases hb : bindT (.many is) d en with
  | none => rw [hb] at p1; exact p1.elim
  | some en' =>
    rw [hb] at p1
    exact ⟨ρ1, en, h1, d, en', r1, q.mono g r, rd, hb, fun σ' q' _ => p1.at (v := SV.nx σ') r1 q'⟩
theorem s_par (L : Live cx c Φ ca X) {i j : Nat} {x y : Str} {px py pt pt2 : Pos} {kt k2 : Nat} (sx : c.N[i]? = some x) (sy : c.N[j]? = some y) (kx : c.names.lookup x = some .local) (ky : c.names.lookup y = some .local) (hij : i ≠ j)
    (ha : PA X [a, b] (tDs Φ ca X.K [ma, mb] (WW W))) (hw : swappedStores [.Tuple [.Name x px, .Name y py] kt pt] (.Tuple [a, b] k2 pt2) X.env = pure (some [x, y])) (hs : swapsWithSole [.Tuple [.Name x px, .Name y py] kt pt] (.Tuple [a, b] k2 pt2) pos.line X.env = pure false) :
    PS X (.Assign [.Tuple [.Name x px, .Name y py] kt pt] (.Tuple [a, b] k2 pt2) pos) (tS xs Φ ca X.K (.par i j ma mb) W) := by
  refine (ps_par L.calm (L.N ▸ L.nd) (by rw [L.N]; exact sx) (by rw [L.N]; exact sy) hij (L.kinds _ _ kx (by decide)) (L.kinds _ _ ky (by decide)) ha hw hs).weak fun D σ H ⟨ρ, en, h, r, q, p⟩ => ?_
  refine ⟨ρ, en, h, r, q, ?_⟩
  have p2 : Po X.K ca (RlS X.K) ρ H W (bd (evW.evWs Φ [ma, mb] en h) fun ds h => match ds with
    | [x, y] => .ok (Fl.nx, (en.set i (some x)).set j (some y)) h
    | _ => .bad) (DQ D) := by
    have e : (bd (evW.evWs Φ [ma, mb] en h) fun ds h => match ds with
      | [x, y] => R.ok (Fl.nx, (en.set i (some x)).set j (some y)) h
      | _ => .bad) = evS xs Φ (.par i j ma mb) en h := by
      simp only [evW.evWs, evS, bd_assoc, bd_ok]
    rw [e]; exact p
  refine (p2.bind anti_S).imp fun vs H1 ⟨ds, ρ1, h1, g, r1, rx, p1⟩ => ?_
  match ds, rx, p1 with
  | [], _, p1 => exact p1.elim
  | [_], _, p1 => exact p1.elim
  | [d1, d2], ⟨v, t, e1, q1, w, t2, e2, q2, e3⟩, p1 =>
    subst e1 e2 e3
    exact ⟨v, w, rfl, p1.at (v := SV.nx _) r1 (((q.mono g r).set q1).set q2)⟩
  | _ :: _ :: _ :: _, _, p1 => exact p1.elim
theorem s_ifs {ma mb : List S} {as bs : List Stmt} (hc : PT X e (tTst Φ ca X.K m (WW W))) (ha : PSs X as (tSs xs Φ ca X.K ma W)) (hb : PSs X bs (tSs xs Φ ca X.K mb W)) : PS X (.If e as bs pos) (tS xs Φ ca X.K (.ifs m ma mb) W) := by
  refine (ps_if hc ha hb).weak fun D σ H ⟨ρ, en, h, r, q, p⟩ => ?_
  refine ⟨ρ, en, h, r, q, ((show Po X.K ca (RlS X.K) ρ H W (bd (boolR (bd (evW Φ m en h) settle)) fun k h => match k with
    | true => evS.evSs xs Φ ma en h
    | false => evS.evSs xs Φ mb en h) (DQ D) from p).bind anti_S).imp fun k H1 ⟨k', ρ1, h1, g, r1, ek, p1⟩ => ?_⟩
  cases ek
  cases k with
  | true => rw [if_pos rfl]; exact ⟨ρ1, en, h1, r1, q.mono g r, p1⟩
  | false => rw [if_neg Bool.false_ne_true]; exact ⟨ρ1, en, h1, r1, q.mono g r, p1⟩
theorem setM_po {K : PySem.W.Frag} {ρ : List Addr} {H : Hp} {h : Hh} {Wx : XK} {l i y : D} {vl vi vy : V} {en : En} {σ : L2.St} {D' : Ends} (r : HR K ρ H h) (rl : Rep K ρ H l vl) (ri : Rep K ρ H i vi) (ry : Rep K ρ H y vy) (q : EnR K ρ H en σ)
    (p : Po K ca (RlS K) ρ H Wx (bd (setM l i y h) fun _ h => .ok (Fl.nx, en) h) (DQ D')) : rSetL vl vi vy H fun H3 => D'.nx σ H3 := by
  cases l <;> first | exact p.elim | skip
  rename_i n
  cases i <;> first | exact p.elim | skip
  rename_i k
  obtain ⟨a, rfl, ea⟩ := rl
  cases ri
  unfold setM at p
  simp only at p
  split at p
  · rename_i xs hx
    split at p
    · rename_i j hj
      obtain ⟨vs, hv, t⟩ := r.cell _ _ _ ea hx
      refine ⟨a, vs, k, j, rfl, rfl, hv, by rw [t.length]; exact hj, ?_⟩
      have m : a ∈ ρ := List.mem_of_getElem? ea
      have g : Ge ρ H ρ (upd H a (.lst (vs.set j vy))) := Ge.cell m
      exact p ρ _ (SV.nx σ) g (r.set ea (t.set ry j)) (q.mono g r)
    · exact p.elim
  · exact p.elim
theorem s_setI {o i : Expr} {tpos : Pos} (ho : PE X o (tD Φ ca X.K mo (WW W))) (hi : PE X i (tD Φ ca X.K mi (WW W))) (he : PE X e (tD Φ ca X.K m (WW W)))
    (ha : ∀ v, assign (.Subscript o i tpos) X.env v = (do
      let ov ← holding [v] (eval o X.env)
      let iv ← holding [v, ov] (eval i X.env)
      standAt tpos
      holding [v, ov, iv] (setItem ov iv v)
      release [v, ov, iv] []))
    (hs : swapsWithSole [.Subscript o i tpos] e pos.line X.env = pure false) (hw : swappedStores [.Subscript o i tpos] e X.env = pure none) (h1 : (assignEach [.Subscript o i tpos] X.env).map (·.2) = [assign (.Subscript o i tpos) X.env]) :
    PS X (.Assign [.Subscript o i tpos] e pos) (tS xs Φ ca X.K (.setI mo mi m) W) := by
  refine (ps_asg he (pg_sub ho hi set_list ha) hs hw h1).weak fun D σ H ⟨ρ, en, h, r, q, p⟩ => ?_
  refine ⟨ρ, en, h, r, q, (p.bind anti_S).imp fun v H1 ⟨d, ρ1, h1, g, r1, rd, p1⟩ => ⟨ρ1, en, h1, r1, q.mono g r, (p1.bind anti_S).imp fun w H2 ⟨l, ρ2, h2, g2, r2, rl, p2⟩ => ⟨ρ2, en, h2, r2, (q.mono g r).mono g2 r1, (p2.bind anti_S).imp fun u H3 ⟨k, ρ3, h3, g3, r3, rk, p3⟩ => ?_⟩⟩⟩
  exact setM_po r3 (rl.mono g3 r2) rk ((rd.mono g2 r1).mono g3 r2) (((q.mono g r).mono g2 r1).mono g3 r2) p3
/-- the list's item, by values -/
theorem get_list : PGet X (rIxL X.K) := by
  intro pins s σ H x y v u Q I rx ry h
  obtain ⟨p, xs, i, z, rfl, rfl, hq, he, q⟩ := h
  cases rx
  obtain ⟨t, rfl⟩ := ry
  obtain ⟨its, r, pl, hz⟩ := I.list hq
  obtain ⟨j, h1, h2, h3, h4, h5⟩ := atI_get he
  obtain ⟨w, ew, rw'⟩ := r.get h2
  have hl := r.length
  have hn := line63
  have fin : EP X pins σ Q w s := ⟨z, H, I, rw', q⟩
  by_cases h0 : 0 ≤ i
  · have hj : i.toNat = j := by
      rw [seqIndex_of h0 h5] at h1
      exact Option.some.inj h1
    exact wpAny_getItem_list pl.isList h0 (by omega) (by rw [hj]; simpa using ew) fin
  · have hj : (i + (its.toArray.size : Int)).toNat = j := by
      rw [seqIndex_neg (by omega) h4] at h1
      rw [List.size_toArray, ← hl]
      exact Option.some.inj h1
    exact wpAny_getItem_list_neg pl.isList (by omega) (by rw [List.size_toArray] <;> omega) (by omega) (by rw [hj]; simpa using ew) fin
theorem s_addI {o i : Expr} {tpos : Pos} (ho : PE X o (tD Φ ca X.K mo (WW W))) (hi : PE X i (tD Φ ca X.K mi (WW W))) (he : PE X e (tD Φ ca X.K m (WW W)))
    (ha : ∀ ov iv new, augStore i ov iv new = (do holding [new, ov, iv] (setItem ov iv new); release [new, ov, iv] []; pure .next)) : PS X (.AugAssign (.Subscript o i tpos) .Add e pos) (tS xs Φ ca X.K (.addI mo mi m) W) := by
  refine (ps_augS ho hi get_list he ip_add set_list ha).weak fun D σ H ⟨ρ, en, h, r, q, p⟩ => ?_
  refine ⟨ρ, en, h, r, q, (p.bind anti_S).imp fun vl H1 ⟨l, ρ1, h1, g, r1, rl, p1⟩ => ⟨ρ1, en, h1, r1, q.mono g r, (p1.bind anti_S).imp fun vk H2 ⟨k, ρ2, h2, g2, r2, rk, p2⟩ => ?_⟩⟩
  have q2 := (q.mono g r).mono g2 r1
  have rl2 := rl.mono g2 r1
  obtain ⟨n, rfl⟩ : ∃ n, l = .ref n := by cases l <;> first | exact p2.elim | exact ⟨_, rfl⟩
  obtain ⟨k, rfl⟩ : ∃ k', k = .int k' := by cases k <;> first | exact p2.elim | exact ⟨_, rfl⟩
  obtain ⟨a, rfl, ea⟩ := id rl2
  cases rk
  unfold getM at p2
  simp only at p2
  split at p2
  · rename_i ys hx
    split at p2
    · rename_i d hd
      obtain ⟨vs, hv, t⟩ := r2.cell _ _ _ ea hx
      obtain ⟨w, e1, e2⟩ := reps_atI t hd
      have p2 : Po X.K ca (RlS X.K) ρ2 H2 W (bd (bd (evW Φ m en h2) settle) fun y h => bd (addM d y h) fun z h => bd (setM (.ref n) (.int k) z h) fun _ h => .ok (Fl.nx, en) h) (DQ D) := p2
      refine ⟨a, vs, k, w, rfl, rfl, .inl (.inl hv), e1, ρ2, en, h2, r2, q2, (p2.bind anti_S).imp fun vy H3 ⟨y, ρ3, h3, g3, r3, ry, p3⟩ => ?_⟩
      have e3 := e2.mono g3 r2
      obtain ⟨i1, rfl⟩ : ∃ k', d = .int k' := by cases d <;> first | exact p3.elim | exact ⟨_, rfl⟩
      obtain ⟨i2, rfl⟩ : ∃ k', y = .int k' := by cases y <;> first | exact p3.elim | exact ⟨_, rfl⟩
      cases e3; cases ry
      refine ⟨i1, i2, rfl, rfl, ?_⟩
      exact setM_po (i := .int k) (y := .int (i1 + i2)) r3 (rl2.mono g3 r2) rfl rfl (q2.mono g3 r2) p3
    · exact p2.elim
  · exact p2.elim
/-! ### loops -/
theorem forM_po {K : PySem.W.Frag} {t : Tg} {w : Wk} {body : En → M (Fl × En)} {tb : TS} {J : It} {D' : Ends} {σ : L2.St} {H1 H0 : Hp} {ρ1 : List Addr} {en : En} {h1 : Hh} (r1 : HR K ρ1 H1 h1) (q1 : EnR K ρ1 H1 en σ) (rl : RlI K H0 w ρ1 H1 J)
    (hb : ∀ (D : Ends) (σ : L2.St) (H : Hp), (∃ ρ en h, HR K ρ H h ∧ EnR K ρ H en σ ∧ Po K ca (RlS K) ρ H W (body en h) (DQ D)) → tb D σ H)
    (p : Po K ca (RlS K) ρ1 H1 W (forM w.gd t body w.its en h1) (DQ D')) :
    ∃ Wt : Nat → Nat → L2.St → Hp → Prop, (∃ m, Wt 0 m σ H1) ∧ ∀ i m σ H, Wt i m σ H →
      (J.stop i H ∧ D'.nx σ H) ∨ (J.go i H ∧ ∃ N : L2.St → Hp → Prop, (∀ σ' H', N σ' H' → ∃ m', m' < m ∧ Wt (i + 1) m' σ' H') ∧ ∀ x H', J.yld i H x H' → gM K t x σ H' fun σ2 H2 => tb { D' with nx := N, ct := N, bk := D'.nx } σ2 H2) := by
  refine ⟨fun i m σ H => m = w.its.length - i ∧ i ≤ w.its.length ∧ ∃ ρ' en' h', Ge ρ1 H1 ρ' H ∧ HR K ρ' H h' ∧ EnR K ρ' H en' σ ∧ Po K ca (RlS K) ρ' H W (forM w.gd t body (w.its.drop i) en' h') (DQ D'), ⟨_, rfl, Nat.zero_le _, ρ1, en, h1, Ge.refl _ _, r1, q1, p⟩, ?_⟩
  rintro i m σ H ⟨rfl, hi, ρ', en', h', g, r, q, p⟩
  by_cases hlt : i < w.its.length
  · refine .inr ?_
    have hdr : w.its.drop i = w.its[i] :: w.its.drop (i + 1) := List.drop_eq_getElem_cons hlt
    rw [hdr] at p
    obtain ⟨st, p⟩ := po_guard p
    obtain ⟨go, _, yl⟩ := rl ρ' H h' g r st
    refine ⟨go i hlt, fun σ' H' => ∃ ρ'' en'' h'', Ge ρ1 H1 ρ'' H' ∧ HR K ρ'' H' h'' ∧ EnR K ρ'' H' en'' σ' ∧ Po K ca (RlS K) ρ'' H' W (forM w.gd t body (w.its.drop (i + 1)) en'' h'') (DQ D'), fun σ' H' z => ⟨_, by omega, rfl, hlt, z⟩, fun x H' y => ?_⟩
    obtain ⟨d, ed, g2, r2, rd⟩ := yl i x H' hlt y
    rw [List.getElem?_eq_getElem hlt] at ed
    cases ed
    cases hbd : bindT t w.its[i] en' with
    | none => rw [hbd] at p; exact p.elim
    | some en1 =>
      rw [hbd] at p
      refine ⟨ρ', en', h', w.its[i], en1, r2, q.mono g2 r, rd, hbd, fun σ2 q2 _ => ?_⟩
      have p := Po.shift anti_S g2 r2 p
      refine hb _ σ2 H' (show ∃ ρ en h, HR K ρ H' h ∧ EnR K ρ H' en σ2 ∧ Po K ca (RlS K) ρ H' W (body en h) (DQ _) from ⟨ρ', en1, h', r2, q2, ?_⟩)
      refine (p.bind anti_S).imp fun sv H3 ⟨⟨fl, en2⟩, ρ3, h3, g3, r3, rs, p3⟩ => ?_
      have gA := (g.trans r g2).trans r2 g3
      cases fl with
      | nx => cases sv <;> first
        | exact rs.elim
        | exact ⟨ρ3, en2, h3, gA, r3, rs, p3⟩
      | ct => cases sv <;> first
        | exact rs.elim
        | exact ⟨ρ3, en2, h3, gA, r3, rs, p3⟩
      | bk =>
        have z := fun v rs => (show Po K ca (RlS K) ρ3 H3 W (.ok (Fl.nx, en2) h3) (DQ D') from p3).at (v := v) r3 rs
        cases sv <;> first
        | exact rs.elim
        | exact z (SV.nx _) rs
      | rt d =>
        have z := fun v rs => (show Po K ca (RlS K) ρ3 H3 W (.ok (Fl.rt d, en2) h3) (DQ D') from p3).at (v := v) r3 rs
        cases sv <;> first
        | exact rs.elim
        | exact z (SV.rt _) rs
  · have ei : i = w.its.length := by omega
    subst ei
    rw [List.drop_length] at p
    obtain ⟨st, p⟩ := po_guard p
    obtain ⟨_, stop, _⟩ := rl ρ' H h' g r st
    exact .inl ⟨stop, (show Po K ca (RlS K) ρ' H W (.ok (Fl.nx, en') h') (DQ D') from p).at (v := SV.nx _) r q⟩
theorem s_for (hp : PassesOwn (model X.prog X.w) X.A X.env X.xe) (hc : X.calm = true) {tg iter : Expr} {t : Tg} {mb : List S} {bs : List Stmt} (hi : PI X tg iter (tI Φ ca X.K mi (WW W))) (hg : PG X tg (gM X.K t)) (hb : PSs X bs (tSs xs Φ ca X.K mb W)) (hn : ∀ a b c, iter ≠ .Set a b c) :
    PS X (.For tg iter bs [] pos) (tS xs Φ ca X.K (.for_ t mi mb) W) := by
  refine (ps_for hp hc hi hg hb (hs_fold hn)).weak fun D σ H ⟨ρ, en, h, r, q, p⟩ => ?_
  refine ⟨ρ, en, h, r, q, (p.bind anti_S).imp fun J H1 ⟨w, ρ1, h1, g, r1, rl, p1⟩ => ?_⟩
  exact forM_po r1 (q.mono g r) rl (fun D σ H z => z) p1
theorem whileM_of {c : En → M Bool} {b : En → M (Fl × En)} {en : En} {h : Hh} (hx : whileM c b en h ≠ .bad) : ∃ n, whileM c b en h = whileN c b n en h := by
  unfold whileM at hx ⊢
  split
  · rename_i hh; exact ⟨_, rfl⟩
  · rename_i hh; exact absurd (by rw [dif_neg hh]) hx
theorem s_while (hp : PassesOwn (model X.prog X.w) X.A X.env X.xe) {mb : List S} {bs : List Stmt} (hc : PT X e (tTst Φ ca X.K m (WW W))) (hb : PSs X bs (tSs xs Φ ca X.K mb W)) : PS X (.While e bs [] pos) (tS xs Φ ca X.K (.while_ m mb) W) := by
  refine (ps_while hp hc hb).weak fun D σ H ⟨ρ, en, h, r, q, p⟩ => ?_
  have p : Po X.K ca (RlS X.K) ρ H W (whileM (fun en h => bd (bd (evW Φ m en h) settle) boolM) (evS.evSs xs Φ mb) en h) (DQ D) := p
  obtain ⟨n, hn⟩ := whileM_of (c := fun en h => bd (bd (evW Φ m en h) settle) boolM) (b := evS.evSs xs Φ mb) (en := en) (h := h) (fun z => by rw [z] at p; exact p)
  rw [hn] at p
  refine ⟨fun k σ H => ∃ ρ en h, HR X.K ρ H h ∧ EnR X.K ρ H en σ ∧ Po X.K ca (RlS X.K) ρ H W (whileN (fun en h => bd (bd (evW Φ m en h) settle) boolM) (evS.evSs xs Φ mb) k en h) (DQ D), ⟨n, ρ, en, h, r, q, p⟩, ?_⟩
  rintro k σ H ⟨ρ, en, h, r, q, p⟩
  cases k with
  | zero => exact p.elim
  | succ k =>
    refine ⟨ρ, en, h, r, q, ((show Po X.K ca (RlS X.K) ρ H W (bd (boolR (bd (evW Φ m en h) settle)) fun z h => match z with
      | false => .ok (Fl.nx, en) h
      | true => bd (evS.evSs xs Φ mb en h) fun q h => match q with
        | (.nx, en2) => whileN (fun en h => bd (bd (evW Φ m en h) settle) boolM) (evS.evSs xs Φ mb) k en2 h
        | (.ct, en2) => whileN (fun en h => bd (bd (evW Φ m en h) settle) boolM) (evS.evSs xs Φ mb) k en2 h
        | (.bk, en2) => .ok (Fl.nx, en2) h
        | (.rt d, en2) => .ok (Fl.rt d, en2) h) (DQ D) from p).bind anti_S).imp fun z H1 ⟨z', ρ1, h1, g, r1, ez, p1⟩ => ?_⟩
    cases ez
    cases z with
    | false => rw [if_neg Bool.false_ne_true]; exact (show Po X.K ca (RlS X.K) ρ1 H1 W (.ok (Fl.nx, en) h1) (DQ D) from p1).at (v := SV.nx _) r1 (q.mono g r)
    | true =>
      rw [if_pos rfl]
      refine ⟨_, fun σ' H' z => ⟨k, Nat.lt_succ_self k, z⟩, ρ1, en, h1, r1, q.mono g r, (p1.bind anti_S).imp fun sv H3 ⟨⟨fl, en2⟩, ρ3, h3, g3, r3, rs, p3⟩ => ?_⟩
      cases fl with
      | nx => cases sv <;> first
        | exact rs.elim
        | exact ⟨ρ3, en2, h3, r3, rs, p3⟩
      | ct => cases sv <;> first
        | exact rs.elim
        | exact ⟨ρ3, en2, h3, r3, rs, p3⟩
      | bk =>
        have z := fun v rs => (show Po X.K ca (RlS X.K) ρ3 H3 W (.ok (Fl.nx, en2) h3) (DQ D) from p3).at (v := v) r3 rs
        cases sv <;> first
        | exact rs.elim
        | exact z (SV.nx _) rs
      | rt d =>
        have z := fun v rs => (show Po X.K ca (RlS X.K) ρ3 H3 W (.ok (Fl.rt d, en2) h3) (DQ D) from p3).at (v := v) r3 rs
        cases sv <;> first
        | exact rs.elim
        | exact z (SV.rt _) rs
/-- name = [..] -/
theorem s_asgC (L : Live cx c Φ ca X) {i : Nat} {y : Str} {py spos : Pos} {elt tg iter : Expr} {ifs : List Expr} {scope : Scope} {own : List (Str × Nat)} {t : Tg} {cd : Bool} {mc me : E} (sy : c.N[i]? = some y) (ky : c.names.lookup y = some .local) (hk : X.env.scope.kind = .function)
    (hl : (py.line == pos.line) = true) (hsc : (scope.names.any fun (n, k) => n == y && (k == .local || k == .cell)) = false) (hb : blkB c scope own = true) (ht : ∀ i ∈ tgs t, i ∈ own.map (·.2)) (hi : PI X tg iter (tI Φ ca X.K mi (WW W)))
    (hg : ∀ (s : Shared) (H : Hp) (C : Addr) (cl : List (Str × Addr)) (fp : List Addr), PG (X.blk s H scope (compEnvC scope cl C X.env) fp) tg (gM X.K t)) (hc : ∀ (s : Shared) (H : Hp) (C : Addr) (cl : List (Str × Addr)) (fp : List Addr), PTs (X.blk s H scope (compEnvC scope cl C X.env) fp) ifs (tIfs (Φ := Φ) (ca := ca) X.K cd mc))
    (he : ∀ (s : Shared) (H : Hp) (C : Addr) (cl : List (Str × Addr)) (fp : List Addr), PE (X.blk s H scope (compEnvC scope cl C X.env) fp) elt (tD Φ ca X.K me fun _ _ _ _ => False)) (hn : ∀ a b c, iter ≠ .Set a b c) :
    PS X (.Assign [.Name y py] (.ListComp elt [⟨tg, iter, ifs, 0⟩] scope pos) spos) (tS xs Φ ca X.K (.asg i (.comp (own.map (·.2)) t mi cd mc me)) W) := by
  have ky' := L.kinds _ _ ky (by decide)
  refine (ps_setLc L.calm (L.N ▸ L.nd) (by rw [L.N]; exact sy) ky' (sw_true hk ky' hl hsc) hi (L.blkOk hb) hg hc he (hs_fold hn)).weak fun D σ H ⟨ρ, en, h, r, q, p⟩ => ?_
  refine comp_walk (Φ := Φ) (ca := ca) (W := WW W) (mc := mc) (me := me) (mi := mi) ht ⟨ρ, en, h, r, q, Po.settle ?_⟩
  exact (p.bind anti_S).imp fun v H1 ⟨d, ρ1, h1, g, r1, rd, p1⟩ => (show Po X.K ca (RlS X.K) ρ1 H1 W (.ok (Fl.nx, en.set i (some d)) h1) (DQ D) from p1).at (v := SV.nx (σ.set i (some v))) r1 ((q.mono g r).set rd)
end
end Mp
set_option Elab.async false
set_option linter.all false
set_option maxRecDepth 100000
set_option maxHeartbeats 1000000
/-! Mp12: the checker: this text is that mini text -/
namespace Mp
open PySem PySem.Spec PyProof.Rows L2 RZ

/-! ### side conditions of shape -/
def noStar : Expr → Bool
  | .Starred _ _ => false
  | _ => true
def notSet : Expr → Bool
  | .Set _ _ _ => false
  | _ => true
def notSlice : Expr → Bool
  | .Slice _ _ _ _ => false
  | _ => true
def notCall : Expr → Bool
  | .Call _ _ _ _ => false
  | _ => true
def notComp : Expr → Bool
  | .ListComp _ _ _ _ => false
  | .SetComp _ _ _ _ => false
  | .DictComp _ _ _ _ _ => false
  | _ => true
def notTup : Expr → Bool
  | .Tuple _ _ _ => false
  | _ => true
def plainT : Expr → Bool
  | .UnaryOp .Not _ _ => false
  | .BoolOp _ _ _ => false
  | .IfExp _ _ _ _ => false
  | .Compare _ _ _ _ => false
  | _ => true
theorem star_cons {e : Expr} (h : noStar e = true) (es : List Expr) (env : Env) : starEach (e :: es) env = (false, eval e env) :: starEach es env := by
  cases e <;> first
    | rfl
    | cases h
theorem back_any {pos : Pos} {env : Env} : ∀ {es : List Expr}, es.all noStar = true → (backTo pos (starEach es env)).any (·.1) = false
  | [], _ => rfl
  | e :: es, h => by
    rw [List.all_cons, Bool.and_eq_true] at h
    rw [star_cons h.1]
    show (false || (backTo pos (starEach es env)).any (·.1)) = false
    rw [back_any h.2]; rfl
theorem set_ne {e : Expr} (h : notSet e = true) : ∀ a b c, e ≠ .Set a b c := by
  rintro a b c rfl; cases h
theorem plain_ix {b : Expr} (h : notSlice b = true) : PlainIx b := by
  intro o i
  cases b <;> first
    | rfl
    | cases h
theorem base_is {o : Expr} {x : Str} {env : Env} {whole : Sem Value} (h : notCall o = true) : attributeBase o x env whole = whole := by
  cases o <;> first
    | rfl
    | cases h
theorem swaps_no {e : Expr} {t : Option Expr} {l : Nat} {env : Env} (h : notComp e = true) : swapsWith e t l env = pure false := by
  cases e <;> first
    | rfl
    | cases h
theorem true_is {e : Expr} {env : Env} (h : plainT e = true) : ∀ whole, isTrue e env whole = (do let v ← whole; standAt e.pos; holding [v] (truthy v)) := by
  intro whole
  cases e with
  | UnaryOp op a p => cases op <;> first | rfl | cases h
  | _ => first
    | rfl
    | cases h
theorem sub_asg {o i : Expr} {pos : Pos} {env : Env} (h : notSlice i = true) : ∀ v, assign (.Subscript o i pos) env v = (do
      let ov ← holding [v] (eval o env)
      let iv ← holding [v, ov] (eval i env)
      standAt pos
      holding [v, ov, iv] (setItem ov iv v)
      release [v, ov, iv] []) := by
  intro v
  cases i <;> first
    | rfl
    | cases h
theorem aug_store {i : Expr} (h : notSlice i = true) : ∀ ov iv new, augStore i ov iv new = (do holding [new, ov, iv] (setItem ov iv new); release [new, ov, iv] []; pure .next) := by
  intro ov iv new
  cases i <;> first
    | rfl
    | cases h
theorem asg_each {t : Expr} (h : noStar t = true) (ts : List Expr) (env : Env) : assignEach (t :: ts) env = (false, assign t env) :: assignEach ts env := by
  cases t <;> first
    | rfl
    | cases h
/-! ### the checker: expressions -/
def isWalk : E → Bool
  | .rng1 _ | .rng2 _ _ | .enum _ | .zip _ _ | .nopart => true
  | _ => false
def needTup : E → Bool
  | .enum _ | .zip _ _ => true
  | _ => false
def isTst : E → Bool
  | .rng1 _ | .rng2 _ _ | .enum _ | .zip _ _ | .ite _ _ _ | .nopart => false
  | _ => true
def visB (c : SC) (x : Str) : Bool := match c.names.lookup x with
  | some .local => true
  | some .cell => true
  | some .free => true
  | _ => false
def locB (c : SC) (x : Str) : Bool := match c.names.lookup x with
  | some .local => true
  | some .cell => true
  | _ => false
def glB (c : SC) (x : Str) : Bool := match c.names.lookup x with
  | some .globalImplicit => true
  | _ => false
def dbg (x : Str) : Bool := !(x == ("__debug__" : Str))
def eqS : D → D → Bool
  | .non, .non => true
  | .bl a, .bl b => a == b
  | .int a, .int b => decide (a = b)
  | .str a, .str b => a == b
  | _, _ => false
def cstB : D → Const → Bool
  | .non, .none => true
  | .bl b, .bool b' => b == b'
  | .int i, .int j => decide (i = j)
  | .str z, .str y => decide (z = y)
  | _, _ => false
def stoB (c : SC) (i : Nat) (x : Str) : Bool := decide (c.N[i]? = some x) && locB c x
def tgsB (c : SC) : List Nat → List Expr → Bool
  | [], [] => true
  | i :: is, .Name x _ :: es => stoB c i x && tgsB c is es
  | _, _ => false
def tgB (c : SC) : Tg → Expr → Bool
  | .one i, .Name x _ => stoB c i x
  | .many is, .Tuple es _ _ => tgsB c is es
  | _, _ => false
def ownN (c : SC) (own : List Nat) : List (Str × Nat) := own.map fun i => ((c.N[i]?).getD "", i)
def inB (ng : Bool) : CmpOp → Bool
  | .In => !ng
  | .NotIn => ng
  | _ => false
def isB (ng : Bool) : CmpOp → Bool
  | .Is => !ng
  | .IsNot => ng
  | _ => false
def conB (c : SC) (x : Str) (d : D) : Bool := match c.consts.lookup x with
  | some d' => eqS d d'
  | none => false
mutual
def chkE : E → SC → Expr → Bool
  | .var i, c, e => (match e with
    | .Name x _ => decide (c.N[i]? = some x) && (visB c x && (dbg x && !(x == ("__classdict__" : Str))))
    | _ => false)
  | .cst d, _, e => (match e with
    | .Constant k _ _ => cstB d k
    | _ => false)
  | .glb y d, c, e => (match e with
    | .Name x _ => decide (x = y) && (glB c x && (conB c x d && dbg x))
    | _ => false)
  | .tup es, c, e => (match e with
    | .Tuple xs _ _ => decide (es.length ≤ 1000) && (xs.all noStar && chkEs es c xs)
    | _ => false)
  | .lst es, c, e => (match e with
    | .List xs _ => decide (es.length ≤ 1000) && (xs.all noStar && chkEs es c xs)
    | _ => false)
  | .bin op a b, c, e => (match e with
    | .BinOp x o y _ => decide (opOf o = some op) && ((!isWalk a && chkE a c x) && (!isWalk b && chkE b c y))
    | _ => false)
  | .neg a, c, e => (match e with
    | .UnaryOp .USub x _ => !isWalk a && chkE a c x
    | _ => false)
  | .not a, c, e => (match e with
    | .UnaryOp .Not x _ => !isWalk a && (isTst a && chkE a c x)
    | _ => false)
  | .cmp op a b, c, e => (match e with
    | .Compare x [o] [y] _ => decide (copOf o = some op) && (!behindInMarks o y && ((!isWalk a && chkE a c x) && (!isWalk b && chkE b c y)))
    | _ => false)
  | .chain op op' a b d, c, e => (match e with
    | .Compare x [o, o'] [y, z] _ => decide (copOf o = some op) && (decide (copOf o' = some op') && (!lastMarks [o, o'] [y, z] && ((!isWalk a && chkE a c x) && ((!isWalk b && chkE b c y) && (!isWalk d && chkE d c z)))))
    | _ => false)
  | .isN ng a, c, e => (match e with
    | .Compare x [o] [.Constant .none _ _] _ => isB ng o && (!isWalk a && chkE a c x)
    | _ => false)
  | .isIn ng a b, c, e => (match e with
    | .Compare x [o] [y] _ => inB ng o && (!behindInMarks o y && ((!isWalk a && chkE a c x) && (!isWalk b && chkE b c y)))
    | _ => false)
  | .and es, c, e => (match e with
    | .BoolOp .And xs _ => chkBs es c xs
    | _ => false)
  | .or es, c, e => (match e with
    | .BoolOp .Or xs _ => chkBs es c xs
    | _ => false)
  | .ite d a b, c, e => (match e with
    | .IfExp z x y _ => (!isWalk d && (isTst d && chkE d c z)) && ((!isWalk a && chkE a c x) && (!isWalk b && chkE b c y))
    | _ => false)
  | .idx a b, c, e => (match e with
    | .Subscript x y _ => notSlice y && ((!isWalk a && chkE a c x) && (!isWalk b && chkE b c y))
    | _ => false)
  | .sl a lo hi, c, e => (match e with
    | .Subscript x (.Slice l u none _) _ => (!isWalk a && chkE a c x) && ((match l with
        | none => isNop lo
        | some l => !isNop lo && (!isWalk lo && chkE lo c l)) && (match u with
        | none => isNop hi
        | some u => !isNop hi && (!isWalk hi && chkE hi c u)))
    | _ => false)
  | .nopart, _, _ => false
  | .call f es, c, e => (match e with
    | .Call (.Name x _) xs [] _ => decide (f < c.top) && c.fl f && (decide (c.fns[f]? = some (x, es.length)) && (glB c x && (dbg x && (xs.all noStar && chkEs es c xs))))
    | _ => false)
  | .sq f a, c, e => (match e with
    | .Call (.Name x _) [y] [] _ => decide (x = sqName f) && (glB c x && (noStar y && (!isWalk a && chkE a c y)))
    | _ => false)
  | .bi f es, c, e => (match e with
    | .Call (.Name x _) (y :: ys) [] _ => decide (x = biName f) && (glB c x && ((y :: ys).all noStar && chkEs es c (y :: ys)))
    | _ => false)
  | .isi a t, c, e => (match e with
    | .Call (.Name x _) [y, .Name z _] [] _ => decide (x = ("isinstance" : Str)) && (glB c x && (decide (z = tyStr t) && (glB c z && (noStar y && (!isWalk a && chkE a c y)))))
    | _ => false)
  | .app a b, c, e => (match e with
    | .Call (.Attribute x n ap) [y] [] p => decide (n = ("append" : Str)) && (notCall x && (decide (ap.endLine = p.line) && (noStar y && ((!isWalk a && chkE a c x) && (!isWalk b && chkE b c y)))))
    | _ => false)
  | .popI a b, c, e => (match e with
    | .Call (.Attribute x n ap) [y] [] p => decide (n = ("pop" : Str)) && (notCall x && (decide (ap.endLine = p.line) && (noStar y && ((!isWalk a && chkE a c x) && (!isWalk b && chkE b c y)))))
    | _ => false)
  | .index a b, c, e => (match e with
    | .Call (.Attribute x n ap) [y] [] p => decide (n = ("index" : Str)) && (notCall x && (decide (ap.endLine = p.line) && (noStar y && ((!isWalk a && chkE a c x) && (!isWalk b && chkE b c y)))))
    | _ => false)
  | .split a b, c, e => (match e with
    | .Call (.Attribute x n ap) [y] [] p => decide (n = ("split" : Str)) && (notCall x && (decide (ap.endLine = p.line) && (noStar y && ((!isWalk a && chkE a c x) && (!isWalk b && chkE b c y)))))
    | _ => false)
  | .comp own t it cd d v, c, e => (match e with
    | .ListComp elt [g] scope _ => decide (g.is_async = 0) && (blkB c scope (ownN c own) && ((tgs t).all (fun i => decide (i ∈ own)) && (notSet g.iter && (tgB { c with names := scope.names } t g.target && ((!needTup it || !notTup g.target) && (chkE it c g.iter &&
        ((match cd, g.ifs with
          | true, [z] => !isWalk d && (isTst d && chkE d { c with names := scope.names } z)
          | false, [] => true
          | _, _ => false) && (!isWalk v && chkE v { c with names := scope.names } elt))))))))
    | _ => false)
  | .lenset own t it cd d v, c, e => (match e with
    | .Call (.Name x _) [.SetComp elt [g] scope _] [] _ => (decide (x = ("len" : Str)) && glB c x) && (decide (g.is_async = 0) && (blkB c scope (ownN c own) && ((tgs t).all (fun i => decide (i ∈ own)) && (notSet g.iter && (tgB { c with names := scope.names } t g.target && ((!needTup it || !notTup g.target) && (chkE it c g.iter &&
        ((match cd, g.ifs with
          | true, [z] => !isWalk d && (isTst d && chkE d { c with names := scope.names } z)
          | false, [] => true
          | _, _ => false) && (!isWalk v && chkE v { c with names := scope.names } elt)))))))))
    | _ => false)
  | .sortset own t it cd d v, c, e => (match e with
    | .Call (.Name x _) [.SetComp elt [g] scope _] [] _ => (decide (x = ("sorted" : Str)) && glB c x) && (decide (g.is_async = 0) && (blkB c scope (ownN c own) && ((tgs t).all (fun i => decide (i ∈ own)) && (notSet g.iter && (tgB { c with names := scope.names } t g.target && ((!needTup it || !notTup g.target) && (chkE it c g.iter &&
        ((match cd, g.ifs with
          | true, [z] => !isWalk d && (isTst d && chkE d { c with names := scope.names } z)
          | false, [] => true
          | _, _ => false) && (!isWalk v && chkE v { c with names := scope.names } elt)))))))))
    | _ => false)
  | .rng1 a, c, e => (match e with
    | .Call (.Name x _) [y] [] _ => decide (x = ("range" : Str)) && (glB c x && (noStar y && (!isWalk a && chkE a c y)))
    | _ => false)
  | .rng2 a b, c, e => (match e with
    | .Call (.Name x _) [y, z] [] _ => decide (x = ("range" : Str)) && (glB c x && (noStar y && (noStar z && ((!isWalk a && chkE a c y) && (!isWalk b && chkE b c z)))))
    | _ => false)
  | .enum a, c, e => (match e with
    | .Call (.Name x _) [y] [] _ => decide (x = ("enumerate" : Str)) && (glB c x && (noStar y && (!isWalk a && chkE a c y)))
    | _ => false)
  | .zip a b, c, e => (match e with
    | .Call (.Name x _) [y, z] [] _ => decide (x = ("zip" : Str)) && (glB c x && (noStar y && (noStar z && ((!isWalk a && chkE a c y) && (!isWalk b && chkE b c z)))))
    | _ => false)
def chkEs : List E → SC → List Expr → Bool
  | [], _, [] => true
  | m :: ms, c, e :: es => (!isWalk m && chkE m c e) && chkEs ms c es
  | _, _, _ => false
def chkBs : List E → SC → List Expr → Bool
  | [], _, _ => false
  | [m], c, [e] => !isWalk m && (isTst m && chkE m c e)
  | m :: m2 :: ms, c, e :: e2 :: es => (!isWalk m && (isTst m && chkE m c e)) && chkBs (m2 :: ms) c (e2 :: es)
  | _, _, _ => false
end
end Mp
set_option Elab.async false
set_option linter.all false
set_option maxRecDepth 100000
set_option maxHeartbeats 2000000
/-! Mp13: what the checker takes is right: expressions -/
namespace Mp
open PySem PySem.Spec PyProof.Rows L2 RZ

def tgOk (m : E) (tg : Expr) : Bool := !needTup m || !notTup tg
structure Snd (Φ : Nat → List D → M D) (ca : Nat → Addr) (X : Cx) (W : WX) (m : E) (e : Expr) : Prop where
  pe : isWalk m = false → PE X e (tW Φ ca X.K m W)
  pi : ∀ tg, tgOk m tg = true → PI X tg e (tI Φ ca X.K m W)
  pt : isTst m = true → PT X e (tTst Φ ca X.K m W)
section
variable {Φ : Nat → List D → M D} {ca : Nat → Addr} {cx : CXT} {X : Cx} {c : SC} {W : WX} {m : E} {e : Expr}
theorem Snd.pd (s : Snd Φ ca X W m e) (h : isWalk m = false) : PE X e (tD Φ ca X.K m W) := toD (s.pe h)
theorem snd_v (hp : plainT e = true) (h : PE X e (tW Φ ca X.K m W)) : Snd Φ ca X W m e := ⟨fun _ => h, fun _ _ => i_seq h, fun _ => t_val (toD h) (true_is hp)⟩
theorem snd_t (h : PE X e (tW Φ ca X.K m W)) (ht : PT X e (tTst Φ ca X.K m W)) : Snd Φ ca X W m e := ⟨fun _ => h, fun _ _ => i_seq h, fun _ => ht⟩
theorem snd_i (h1 : isWalk m = true) (h2 : isTst m = false) (h : ∀ tg, tgOk m tg = true → PI X tg e (tI Φ ca X.K m W)) : Snd Φ ca X W m e := ⟨fun z => (by rw [h1] at z; cases z), h, fun z => (by rw [h2] at z; cases z)⟩
theorem Live.gl (L : Live cx c Φ ca X) {x : Str} (h : glB c x = true) : c.names.lookup x = some .globalImplicit ∧ Gl X x := by
  unfold glB at h
  split at h
  · rename_i z; exact ⟨z, L.kinds _ _ z (by decide)⟩
  · cases h
theorem dbg_ok {x : Str} (h : dbg x = true) : (x == ("__debug__" : Str)) = false := by
  unfold dbg at h; simpa using h
theorem vis_ok {x : Str} (h : visB c x = true) : c.names.lookup x = some .local ∨ c.names.lookup x = some .cell ∨ c.names.lookup x = some .free := by
  unfold visB at h
  split at h <;> first
    | (rename_i z; exact .inl z)
    | (rename_i z; exact .inr (.inl z))
    | (rename_i z; exact .inr (.inr z))
    | cases h
theorem sto_ok {i : Nat} {x : Str} (h : stoB c i x = true) : Sto c i x := by
  unfold stoB at h
  simp only [Bool.and_eq_true, decide_eq_true_eq] at h
  refine ⟨h.1, ?_⟩
  have h := h.2
  unfold locB at h
  split at h <;> first
    | (rename_i z; exact .inl z)
    | (rename_i z; exact .inr z)
    | cases h
theorem eqS_ok {d d' : D} (h : eqS d d' = true) : d' = d := by
  unfold eqS at h
  split at h <;> simp_all
theorem small_line {n : Nat} (h : n ≤ 1000) : n ≤ sizeLine := Nat.le_trans h (by decide)
theorem few_ok {b : Expr} {pos : Pos} {env : Env} (hs : starEach (b :: []) env = (false, eval b env) :: starEach [] env) : ((backTo pos (starEach (b :: []) env)).all (fun x => !x.1) && (backToKw pos (keywordEach [] env)).all (fun x => x.1.isSome)
      && decide ((b :: ([] : List Expr)).length + ([] : List Keyword).length + (if ([] : List Keyword).isEmpty then 0 else 1) < 30)) = true := by
  rw [hs]; rfl
theorem tgs_ok (L : Live cx c Φ ca X) : ∀ {is : List Nat} {es : List Expr}, tgsB c is es = true → PGs X es (gsM X.K is) ∧ (assignEach es X.env).length = is.length ∧ (assignEach es X.env).findIdx? (·.1) = none
  | [], [], _ => ⟨gs_nil, rfl, rfl⟩
  | [], _ :: _, h => by simp [tgsB] at h
  | i :: is, [], h => by simp [tgsB] at h
  | i :: is, e :: es, h => by
    cases e <;> simp only [tgsB, Bool.and_eq_true, Bool.false_eq_true] at h
    rename_i x p
    obtain ⟨h1, h2⟩ := h
    obtain ⟨a, b, d⟩ := tgs_ok L h2
    have ea : assignEach (.Name x p :: es) X.env = (false, assign (.Name x p) X.env) :: assignEach es X.env := rfl
    refine ⟨gs_cons (g_one L (sto_ok h1)) a (by rw [ea]; rfl), by rw [ea]; simp [b], ?_⟩
    rw [ea, List.findIdx?_cons]
    simp [d]
theorem tg_ok (L : Live cx c Φ ca X) {t : Tg} {e : Expr} (h : tgB c t e = true) : PG X e (gM X.K t) := by
  cases t with
  | one i =>
    cases e <;> simp only [tgB, Bool.false_eq_true] at h
    exact g_one L (sto_ok h)
  | many is =>
    cases e <;> simp only [tgB, Bool.false_eq_true] at h
    obtain ⟨a, b, d⟩ := tgs_ok L h
    exact g_many L a b d
theorem own_map (own : List Nat) : (ownN c own).map (·.2) = own := by
  unfold ownN
  induction own with
  | nil => rfl
  | cons i is ih => simp_all
theorem bool2 {a b : Bool} (h : (a && b) = true) : a = true ∧ b = true := by simpa using h
theorem bnot {a : Bool} (h : (!a) = true) : a = false := by simpa using h
theorem cst_ok {d : D} {k : Const} {j : Nat} {p : Pos} (h : cstB d k = true) : PE X (.Constant k j p) (tW Φ ca X.K (.cst d) W) := by
  cases d <;> cases k <;> simp only [cstB, Bool.false_eq_true, decide_eq_true_eq, beq_iff_eq] at h
  · exact w_non
  · subst h; exact w_bl
  · subst h; exact w_int
  · subst h; exact w_str
theorem chk_len : ∀ {ms : List E} {c : SC} {es : List Expr}, chkEs ms c es = true → ms.length = es.length
  | [], c, [], _ => rfl
  | [], c, _ :: _, h => by simp [chkEs] at h
  | m :: ms, c, [], h => by simp [chkEs] at h
  | m :: ms, c, e :: es, h => by
    simp only [chkEs] at h
    simp [chk_len (bool2 h).2]
theorem t_isN (ng : Bool) {a : Expr} {ma : E} {k : Nat} {p2 pos : Pos} (ha : PE X a (tD Φ ca X.K ma W)) : PT X (.Compare a [if ng then .IsNot else .Is] [.Constant .none k p2] pos) (tTst Φ ca X.K (.isN ng ma) W) := by
  have key : ∀ (x : V) (dx : D) (ρ : List Addr) (H : Hp), Rep X.K ρ H dx x → isND dx = decide (x = .non) := by
    intro x dx ρ H r
    cases dx with
    | ref n => obtain ⟨a, e, _⟩ := r; subst e; simp [isND]
    | tup xs => obtain ⟨a, vs, e, _⟩ := r; subst e; simp [isND]
    | fro xs => obtain ⟨a, vs, e, _⟩ := r; subst e; simp [isND]
    | _ => cases r; simp [isND]
  cases ng with
  | false =>
    refine (pt_cmp (pc_isN ha)).weak fun σ H Q ⟨ρ, en, h, r, q, p⟩ => ?_
    obtain ⟨ρ', en', h', r', q', p'⟩ := one (Φ := Φ) (ma := ma) (W := W) (f := fun x h => R.ok (Rv.val (.bl (xor false (isND x)))) h) anti_W r q (tst_to p)
    refine ⟨ρ', en', h', r', q', p'.imp fun x H1 ⟨dx, ρ1, h1, r1, _, rx, p1⟩ => ?_⟩
    obtain ⟨k, e, z⟩ := p1.at r1 (v := .bl (xor false (isND dx))) rfl
    cases e
    refine ⟨_, rfl, ?_⟩
    rw [← key x dx ρ1 H1 rx]
    simpa using z
  | true =>
    refine (pt_cmp (pc_notN ha)).weak fun σ H Q ⟨ρ, en, h, r, q, p⟩ => ?_
    obtain ⟨ρ', en', h', r', q', p'⟩ := one (Φ := Φ) (ma := ma) (W := W) (f := fun x h => R.ok (Rv.val (.bl (xor true (isND x)))) h) anti_W r q (tst_to p)
    refine ⟨ρ', en', h', r', q', p'.imp fun x H1 ⟨dx, ρ1, h1, r1, _, rx, p1⟩ => ?_⟩
    obtain ⟨k, e, z⟩ := p1.at r1 (v := .bl (xor true (isND dx))) rfl
    cases e
    refine ⟨_, rfl, ?_⟩
    rw [← key x dx ρ1 H1 rx]
    simpa using z
theorem ix_ev {a b : E} {en : En} {h : Hh} : evW Φ (.index a b) en h = bd (bd (evW Φ a en h) settle) fun l h => bd (isLst l h) fun _ h => bd (bd (evW Φ b en h) settle) fun y h => val (lift (indexO h l y) h) := by
  simp only [evW]
  congr 1
  funext l h
  congr 1
  funext u h
  congr 1
  funext y h
  cases indexO h l y <;> rfl
mutual
theorem snd : ∀ (m : E) {c : SC} {X : Cx} {W : WX} {e : Expr}, Live cx c Φ ca X → (∀ σ, PassesAt cx X σ (WE W σ)) → chkE m c e = true → Snd Φ ca X W m e
  | .var i, c, X, W, e, L, tk, h => by
    cases e <;> simp only [chkE, Bool.false_eq_true] at h
    obtain ⟨h1, h⟩ := bool2 h
    obtain ⟨h2, h⟩ := bool2 h
    obtain ⟨h3, h4⟩ := bool2 h
    exact snd_v rfl (w_var L (of_decide_eq_true h1) (vis_ok h2) (dbg_ok h3) (bnot h4))
  | .cst d, c, X, W, e, L, tk, h => by
    cases e <;> simp only [chkE, Bool.false_eq_true] at h
    exact snd_v rfl (cst_ok h)
  | .glb y d, c, X, W, e, L, tk, h => by
    cases e <;> simp only [chkE, Bool.false_eq_true] at h
    obtain ⟨h1, h⟩ := bool2 h
    obtain ⟨h2, h⟩ := bool2 h
    obtain ⟨h3, h4⟩ := bool2 h
    have h1 := of_decide_eq_true h1
    subst h1
    unfold conB at h3
    split at h3
    · rename_i d' hd
      have := eqS_ok h3
      subst this
      exact snd_v rfl (w_glb L (L.gl h2).1 hd (dbg_ok h4))
    · cases h3
  | .tup es, c, X, W, e, L, tk, h => by
    cases e <;> simp only [chkE, Bool.false_eq_true] at h
    obtain ⟨h1, h⟩ := bool2 h
    obtain ⟨h2, h3⟩ := bool2 h
    exact snd_v rfl (w_tup (snds es L tk h2 h3) (small_line (of_decide_eq_true h1)))
  | .lst es, c, X, W, e, L, tk, h => by
    cases e <;> simp only [chkE, Bool.false_eq_true] at h
    obtain ⟨h1, h⟩ := bool2 h
    obtain ⟨h2, h3⟩ := bool2 h
    exact snd_v rfl (w_lst (snds es L tk h2 h3) (small_line (of_decide_eq_true h1)))
  | .bin op a b, c, X, W, e, L, tk, h => by
    cases e <;> simp only [chkE, Bool.false_eq_true] at h
    obtain ⟨h1, h⟩ := bool2 h
    obtain ⟨h2, h3⟩ := bool2 h
    obtain ⟨a1, a2⟩ := bool2 h2
    obtain ⟨b1, b2⟩ := bool2 h3
    exact snd_v rfl (w_op2 (or_bin (of_decide_eq_true h1)) ((snd a L tk a2).pd (bnot a1)) ((snd b L tk b2).pd (bnot b1)) fun _ _ => rfl)
  | .neg a, c, X, W, e, L, tk, h => by
    cases e <;> simp only [chkE, Bool.false_eq_true] at h
    rename_i op x p
    cases op <;> simp only [Bool.false_eq_true] at h
    obtain ⟨a1, a2⟩ := bool2 h
    exact snd_v rfl (w_neg ((snd a L tk a2).pd (bnot a1)))
  | .not a, c, X, W, e, L, tk, h => by
    cases e <;> simp only [chkE, Bool.false_eq_true] at h
    rename_i op x p
    cases op <;> simp only [Bool.false_eq_true] at h
    obtain ⟨a1, a2⟩ := bool2 h
    obtain ⟨a3, a2⟩ := bool2 a2
    exact snd_t (w_not ((snd a L tk a2).pd (bnot a1))) (t_not ((snd a L tk a2).pt a3))
  | .cmp op a b, c, X, W, e, L, tk, h => by
    cases e <;> simp only [chkE, Bool.false_eq_true] at h
    rename_i x os ys p
    split at h
    · rename_i o y he
      injection he with e1 e2 e3 e4
      subst e1 e2 e3 e4
      obtain ⟨h1, h⟩ := bool2 h
      obtain ⟨h2, h⟩ := bool2 h
      obtain ⟨h3, h4⟩ := bool2 h
      obtain ⟨a1, a2⟩ := bool2 h3
      obtain ⟨b1, b2⟩ := bool2 h4
      exact snd_t (w_cmp2 (or_cmp (of_decide_eq_true h1) L.room) ((snd a L tk a2).pd (bnot a1)) ((snd b L tk b2).pd (bnot b1)) (bnot h2) fun _ _ => rfl)
        (t_cmp2 (or_cmp (of_decide_eq_true h1) L.room) ((snd a L tk a2).pd (bnot a1)) ((snd b L tk b2).pd (bnot b1)) (bnot h2) fun _ _ => rfl)
    · cases h
  | .chain op op' a b d, c, X, W, e, L, tk, h => by
    cases e <;> simp only [chkE, Bool.false_eq_true] at h
    rename_i x os ys p
    split at h
    · rename_i o o' y z he
      injection he with e1 e2 e3 e4
      subst e1 e2 e3 e4
      obtain ⟨h1, h⟩ := bool2 h
      obtain ⟨h1', h⟩ := bool2 h
      obtain ⟨h2, h⟩ := bool2 h
      obtain ⟨h3, h⟩ := bool2 h
      obtain ⟨h4, h5⟩ := bool2 h
      obtain ⟨a1, a2⟩ := bool2 h3
      obtain ⟨b1, b2⟩ := bool2 h4
      obtain ⟨d1, d2⟩ := bool2 h5
      exact snd_t (w_chain L.room (of_decide_eq_true h1) (of_decide_eq_true h1') ((snd a L tk a2).pd (bnot a1)) ((snd b L tk b2).pd (bnot b1)) ((snd d L tk d2).pd (bnot d1)) (bnot h2))
        (t_chain L.room (of_decide_eq_true h1) (of_decide_eq_true h1') ((snd a L tk a2).pd (bnot a1)) ((snd b L tk b2).pd (bnot b1)) ((snd d L tk d2).pd (bnot d1)) (bnot h2))
    · cases h
  | .isN ng a, c, X, W, e, L, tk, h => by
    cases e <;> simp only [chkE, Bool.false_eq_true] at h
    rename_i x os ys p
    split at h
    · rename_i o k p2 p' he
      injection he with e1 e2 e3 e4
      subst e1 e2 e3 e4
      obtain ⟨h1, h⟩ := bool2 h
      obtain ⟨a1, a2⟩ := bool2 h
      cases ng <;> cases o <;> simp only [isB, Bool.not_true, Bool.not_false, Bool.false_eq_true] at h1
      · exact snd_t (w_isN ((snd a L tk a2).pd (bnot a1))) (t_isN false ((snd a L tk a2).pd (bnot a1)))
      · exact snd_t (w_notN ((snd a L tk a2).pd (bnot a1))) (t_isN true ((snd a L tk a2).pd (bnot a1)))
    · cases h
  | .isIn ng a b, c, X, W, e, L, tk, h => by
    cases e <;> simp only [chkE, Bool.false_eq_true] at h
    rename_i x os ys p
    split at h
    · rename_i o y p' he
      injection he with e1 e2 e3 e4
      subst e1 e2 e3 e4
      obtain ⟨h1, h⟩ := bool2 h
      obtain ⟨h2, h⟩ := bool2 h
      obtain ⟨h3, h4⟩ := bool2 h
      obtain ⟨a1, a2⟩ := bool2 h3
      obtain ⟨b1, b2⟩ := bool2 h4
      have eo : o = (if ng then CmpOp.NotIn else CmpOp.In) := by
        cases ng <;> cases o <;> simp_all [inB]
      subst eo
      exact snd_t (w_cmp2 (or_in L.room) ((snd a L tk a2).pd (bnot a1)) ((snd b L tk b2).pd (bnot b1)) (bnot h2) fun _ _ => rfl)
        (t_cmp2 (or_in L.room) ((snd a L tk a2).pd (bnot a1)) ((snd b L tk b2).pd (bnot b1)) (bnot h2) fun _ _ => rfl)
    · cases h
  | .and es, c, X, W, e, L, tk, h => by
    cases e <;> simp only [chkE, Bool.false_eq_true] at h
    rename_i op xs p
    cases op <;> simp only [Bool.false_eq_true] at h
    obtain ⟨h1, h2⟩ := sndA es L tk h p
    exact snd_t h1 h2.pt
  | .or es, c, X, W, e, L, tk, h => by
    cases e <;> simp only [chkE, Bool.false_eq_true] at h
    rename_i op xs p
    cases op <;> simp only [Bool.false_eq_true] at h
    obtain ⟨h1, h2⟩ := sndO es L tk h p
    exact snd_t h1 h2.pt
  | .ite d a b, c, X, W, e, L, tk, h => by
    cases e <;> simp only [chkE, Bool.false_eq_true] at h
    obtain ⟨h1, h⟩ := bool2 h
    obtain ⟨h3, h4⟩ := bool2 h
    obtain ⟨d1, d2⟩ := bool2 h1
    obtain ⟨d3, d2⟩ := bool2 d2
    obtain ⟨a1, a2⟩ := bool2 h3
    obtain ⟨b1, b2⟩ := bool2 h4
    have w := w_ite (pos := by assumption) ((snd d L tk d2).pt d3) ((snd a L tk a2).pd (bnot a1)) ((snd b L tk b2).pd (bnot b1))
    exact ⟨fun _ => w, fun _ _ => i_seq w, fun z => by cases z⟩
  | .idx a b, c, X, W, e, L, tk, h => by
    cases e <;> simp only [chkE, Bool.false_eq_true] at h
    obtain ⟨h1, h⟩ := bool2 h
    obtain ⟨h3, h4⟩ := bool2 h
    obtain ⟨a1, a2⟩ := bool2 h3
    obtain ⟨b1, b2⟩ := bool2 h4
    exact snd_v rfl (w_idx ((snd a L tk a2).pd (bnot a1)) ((snd b L tk b2).pd (bnot b1)) (plain_ix h1))
  | .sl a lo hi, c, X, W, e, L, tk, h => by
    cases e <;> simp only [chkE, Bool.false_eq_true] at h
    rename_i x sl p
    cases sl <;> try (simp only [Bool.false_eq_true] at h)
    rename_i l u s p2
    cases s with
    | some s => cases h
    | none =>
      obtain ⟨h1, h⟩ := bool2 h
      obtain ⟨h2, h3⟩ := bool2 h
      obtain ⟨a1, a2⟩ := bool2 h1
      refine snd_v rfl (w_sl ((snd a L tk a2).pd (bnot a1)) ?_ ?_)
      · cases l with
        | none =>
          have : lo = .nopart := by
            cases lo <;> simp only [isNop, Bool.false_eq_true] at h2; rfl
          subst this
          exact pt_none
        | some l =>
          obtain ⟨b1, b2⟩ := bool2 h2
          obtain ⟨b2, b3⟩ := bool2 b2
          exact pt_some (bnot b1) ((snd lo L tk b3).pd (bnot b2))
      · cases u with
        | none =>
          have : hi = .nopart := by
            cases hi <;> simp only [isNop, Bool.false_eq_true] at h3; rfl
          subst this
          exact pt_none
        | some l =>
          obtain ⟨b1, b2⟩ := bool2 h3
          obtain ⟨b2, b3⟩ := bool2 b2
          exact pt_some (bnot b1) ((snd hi L tk b3).pd (bnot b2))
  | .nopart, c, X, W, e, L, tk, h => by simp only [chkE, Bool.false_eq_true] at h
  | .call f es, c, X, W, e, L, tk, h => by
    cases e <;> simp only [chkE, Bool.false_eq_true] at h
    rename_i fn xs ks p
    split at h
    · rename_i x p1 xs' p' he
      injection he with e1 e2 e3 e4
      subst e1 e2 e3 e4
      obtain ⟨h1, h⟩ := bool2 h
      obtain ⟨h2, h⟩ := bool2 h
      obtain ⟨h3, h⟩ := bool2 h
      obtain ⟨h4, h⟩ := bool2 h
      obtain ⟨h5, h6⟩ := bool2 h
      refine snd_v rfl (w_call L tk (of_decide_eq_true (bool2 h1).1) (bool2 h1).2 (of_decide_eq_true h2) rfl (chk_len h6) (L.gl h3).1 (dbg_ok h4) (snds es L tk h5 h6) (fun e r er => ?_) fun e r er => ?_)
      · subst er
        rw [List.all_cons] at h5
        exact star_cons (bool2 h5).1 _ _
      · subst er
        rw [List.all_cons] at h5
        exact back_any (bool2 h5).2
    · cases h
  | .sq f a, c, X, W, e, L, tk, h => by
    cases e <;> simp only [chkE, Bool.false_eq_true] at h
    rename_i fn xs ks p
    split at h
    · rename_i x p1 y p' he
      injection he with e1 e2 e3 e4
      subst e1 e2 e3 e4
      obtain ⟨h1, h⟩ := bool2 h
      obtain ⟨h2, h⟩ := bool2 h
      obtain ⟨h3, h⟩ := bool2 h
      obtain ⟨a1, a2⟩ := bool2 h
      have h1 := of_decide_eq_true h1
      subst h1
      exact snd_v rfl (w_sq L ⟨(L.gl h2).2, star_cons h3 _ _, rfl⟩ ((snd a L tk a2).pe (bnot a1)))
    · cases h
  | .bi f es, c, X, W, e, L, tk, h => by
    cases e <;> simp only [chkE, Bool.false_eq_true] at h
    rename_i fn xs ks p
    split at h
    · rename_i x p1 y ys p' he
      injection he with e1 e2 e3 e4
      subst e1 e2 e3 e4
      obtain ⟨h1, h⟩ := bool2 h
      obtain ⟨h2, h⟩ := bool2 h
      obtain ⟨h3, h4⟩ := bool2 h
      have h1 := of_decide_eq_true h1
      subst h1
      have h5 := h3
      rw [List.all_cons] at h5
      exact snd_v rfl (w_bi L ⟨(L.gl h2).2, star_cons (bool2 h5).1 _ _, back_any (bool2 h5).2⟩ (snds es L tk h3 h4))
    · cases h
  | .isi a t, c, X, W, e, L, tk, h => by
    cases e <;> simp only [chkE, Bool.false_eq_true] at h
    rename_i fn xs ks p
    split at h
    · rename_i x p1 y z p2 p' he
      injection he with e1 e2 e3 e4
      subst e1 e2 e3 e4
      obtain ⟨h1, h⟩ := bool2 h
      obtain ⟨h2, h⟩ := bool2 h
      obtain ⟨h3, h⟩ := bool2 h
      obtain ⟨h4, h⟩ := bool2 h
      obtain ⟨h5, h⟩ := bool2 h
      obtain ⟨a1, a2⟩ := bool2 h
      have h1 := of_decide_eq_true h1
      have h3 := of_decide_eq_true h3
      subst h1 h3
      exact snd_v rfl (w_isi L ⟨(L.gl h2).2, star_cons h5 _ _, rfl⟩ (L.gl h4).2 rfl ((snd a L tk a2).pd (bnot a1)))
    · cases h
  | .app a b, c, X, W, e, L, tk, h => by
    cases e <;> simp only [chkE, Bool.false_eq_true] at h
    rename_i fn xs ks p
    split at h
    · rename_i x n ap y p' he
      injection he with e1 e2 e3 e4
      subst e1 e2 e3 e4
      obtain ⟨h1, h⟩ := bool2 h
      obtain ⟨h2, h⟩ := bool2 h
      obtain ⟨h3, h⟩ := bool2 h
      obtain ⟨h4, h⟩ := bool2 h
      obtain ⟨h5, h6⟩ := bool2 h
      obtain ⟨a1, a2⟩ := bool2 h5
      obtain ⟨b1, b2⟩ := bool2 h6
      have h1 := of_decide_eq_true h1
      subst h1
      have hs := star_cons h4 [] X.env
      exact snd_v rfl (w_meth1 PySem.F.slot_list_append PySem.F.type_list_append mt_app ((snd a L tk a2).pd (bnot a1)) ((snd b L tk b2).pd (bnot b1)) (base_is h2) (few_ok hs) (by simpa using of_decide_eq_true h3) hs fun _ _ => rfl)
    · cases h
  | .popI a b, c, X, W, e, L, tk, h => by
    cases e <;> simp only [chkE, Bool.false_eq_true] at h
    rename_i fn xs ks p
    split at h
    · rename_i x n ap y p' he
      injection he with e1 e2 e3 e4
      subst e1 e2 e3 e4
      obtain ⟨h1, h⟩ := bool2 h
      obtain ⟨h2, h⟩ := bool2 h
      obtain ⟨h3, h⟩ := bool2 h
      obtain ⟨h4, h⟩ := bool2 h
      obtain ⟨h5, h6⟩ := bool2 h
      obtain ⟨a1, a2⟩ := bool2 h5
      obtain ⟨b1, b2⟩ := bool2 h6
      have h1 := of_decide_eq_true h1
      subst h1
      have hs := star_cons h4 [] X.env
      exact snd_v rfl (w_meth1 PySem.F.slot_list_pop PySem.F.type_list_pop mt_popI ((snd a L tk a2).pd (bnot a1)) ((snd b L tk b2).pd (bnot b1)) (base_is h2) (few_ok hs) (by simpa using of_decide_eq_true h3) hs fun _ _ => rfl)
    · cases h
  | .index a b, c, X, W, e, L, tk, h => by
    cases e <;> simp only [chkE, Bool.false_eq_true] at h
    rename_i fn xs ks p
    split at h
    · rename_i x n ap y p' he
      injection he with e1 e2 e3 e4
      subst e1 e2 e3 e4
      obtain ⟨h1, h⟩ := bool2 h
      obtain ⟨h2, h⟩ := bool2 h
      obtain ⟨h3, h⟩ := bool2 h
      obtain ⟨h4, h⟩ := bool2 h
      obtain ⟨h5, h6⟩ := bool2 h
      obtain ⟨a1, a2⟩ := bool2 h5
      obtain ⟨b1, b2⟩ := bool2 h6
      have h1 := of_decide_eq_true h1
      subst h1
      have hs := star_cons h4 [] X.env
      exact snd_v rfl (w_meth1 PySem.F.slot_list_index PySem.F.type_list_index (mt_idx L.room) ((snd a L tk a2).pd (bnot a1)) ((snd b L tk b2).pd (bnot b1)) (base_is h2) (few_ok hs) (by simpa using of_decide_eq_true h3) hs fun en h => ix_ev)
    · cases h
  | .split a b, c, X, W, e, L, tk, h => by
    cases e <;> simp only [chkE, Bool.false_eq_true] at h
    rename_i fn xs ks p
    split at h
    · rename_i x n ap y p' he
      injection he with e1 e2 e3 e4
      subst e1 e2 e3 e4
      obtain ⟨h1, h⟩ := bool2 h
      obtain ⟨h2, h⟩ := bool2 h
      obtain ⟨h3, h⟩ := bool2 h
      obtain ⟨h4, h⟩ := bool2 h
      obtain ⟨h5, h6⟩ := bool2 h
      obtain ⟨a1, a2⟩ := bool2 h5
      obtain ⟨b1, b2⟩ := bool2 h6
      have h1 := of_decide_eq_true h1
      subst h1
      have hs := star_cons h4 [] X.env
      exact snd_v rfl (w_split ((snd a L tk a2).pd (bnot a1)) ((snd b L tk b2).pd (bnot b1)) (base_is h2) (by simpa using of_decide_eq_true h3) hs)
    · cases h
  | .comp own t it cd d v, c, X, W, e, L, tk, h => by
    cases e <;> simp only [chkE, Bool.false_eq_true] at h
    rename_i elt gs scope p
    split at h
    · rename_i elt' g scope' p' he
      injection he with e1 e2 e3 e4
      subst e1 e2 e3 e4
      obtain ⟨h0, h⟩ := bool2 h
      obtain ⟨h1, h⟩ := bool2 h
      obtain ⟨h2, h⟩ := bool2 h
      obtain ⟨h3, h⟩ := bool2 h
      obtain ⟨h4, h⟩ := bool2 h
      obtain ⟨h5, h⟩ := bool2 h
      obtain ⟨h6, h⟩ := bool2 h
      obtain ⟨h7, h8⟩ := bool2 h
      obtain ⟨v1, v2⟩ := bool2 h8
      obtain ⟨tg, iter, ifs, as⟩ := g
      simp only at h0 h1 h2 h3 h4 h5 h6 h7 v2
      have h0 := of_decide_eq_true h0
      subst h0
      have w : PE X (.ListComp elt [⟨tg, iter, ifs, 0⟩] scope p) (tW Φ ca X.K (.comp ((ownN c own).map (·.2)) t it cd d v) W) := by
        refine w_comp L h1 (fun i hi => ?_) ((snd it L tk h6).pi tg h5) (fun s H C cl fp => tg_ok (L.blk scope s H C cl fp) h4) (fun s H C cl fp => ?_) (fun s H C cl fp => ?_) (set_ne h3)
        · rw [own_map]
          exact of_decide_eq_true (List.all_eq_true.mp h2 i hi)
        · have L' := L.blk scope s H C cl fp
          cases cd with
          | true =>
            match ifs, h7 with
            | [], h7 => cases h7
            | [z], h7 =>
              obtain ⟨d1, d2⟩ := bool2 h7
              obtain ⟨d3, d2⟩ := bool2 d2
              exact pts_one ((snd d L' (L.pa0 scope s H C cl fp) d2).pt d3)
            | _ :: _ :: _, h7 => cases h7
          | false =>
            match ifs, h7 with
            | [], _ => exact pts_nil
            | _ :: _, h7 => cases h7
        · exact (snd v (L.blk scope s H C cl fp) (L.pa0 scope s H C cl fp) v2).pd (bnot v1)
      rw [own_map] at w
      exact snd_v rfl w
    · cases h
  | .lenset own t it cd d v, c, X, W, e, L, tk, h => by
    cases e <;> simp only [chkE, Bool.false_eq_true] at h
    rename_i fn xs ks p
    split at h
    · rename_i x p1 elt g scope p2 p' he
      injection he with e1 e2 e3 e4
      subst e1 e2 e3 e4
      obtain ⟨hn, hh⟩ := bool2 h
      clear h
      obtain ⟨hx, hg⟩ := bool2 hn
      clear hn
      have hx := of_decide_eq_true hx
      subst hx
      obtain ⟨h0, h⟩ := bool2 hh
      obtain ⟨h1, h⟩ := bool2 h
      obtain ⟨h2, h⟩ := bool2 h
      obtain ⟨h3, h⟩ := bool2 h
      obtain ⟨h4, h⟩ := bool2 h
      obtain ⟨h5, h⟩ := bool2 h
      obtain ⟨h6, h⟩ := bool2 h
      obtain ⟨h7, h8⟩ := bool2 h
      obtain ⟨v1, v2⟩ := bool2 h8
      obtain ⟨tg, iter, ifs, as⟩ := g
      simp only at h0 h1 h2 h3 h4 h5 h6 h7 v2
      have h0 := of_decide_eq_true h0
      subst h0
      have w : PE X (.Call (.Name "len" p1) [.SetComp elt [⟨tg, iter, ifs, 0⟩] scope p2] [] p) (tW Φ ca X.K (.lenset ((ownN c own).map (·.2)) t it cd d v) W) := by
        refine w_lenset L (L.gl hg).2 h1 (fun i hi => ?_) ((snd it L tk h6).pi tg h5) (fun s H C cl fp => tg_ok (L.blk scope s H C cl fp) h4) (fun s H C cl fp => ?_) (fun s H C cl fp => ?_) (set_ne h3)
        · rw [own_map]
          exact of_decide_eq_true (List.all_eq_true.mp h2 i hi)
        · have L' := L.blk scope s H C cl fp
          cases cd with
          | true =>
            match ifs, h7 with
            | [], h7 => cases h7
            | [z], h7 =>
              obtain ⟨d1, d2⟩ := bool2 h7
              obtain ⟨d3, d2⟩ := bool2 d2
              exact pts_one ((snd d L' (L.pa0 scope s H C cl fp) d2).pt d3)
            | _ :: _ :: _, h7 => cases h7
          | false =>
            match ifs, h7 with
            | [], _ => exact pts_nil
            | _ :: _, h7 => cases h7
        · exact (snd v (L.blk scope s H C cl fp) (L.pa0 scope s H C cl fp) v2).pd (bnot v1)
      rw [own_map] at w
      exact snd_v rfl w
    · cases h
  | .sortset own t it cd d v, c, X, W, e, L, tk, h => by
    cases e <;> simp only [chkE, Bool.false_eq_true] at h
    rename_i fn xs ks p
    split at h
    · rename_i x p1 elt g scope p2 p' he
      injection he with e1 e2 e3 e4
      subst e1 e2 e3 e4
      obtain ⟨hn, hh⟩ := bool2 h
      clear h
      obtain ⟨hx, hg⟩ := bool2 hn
      clear hn
      have hx := of_decide_eq_true hx
      subst hx
      obtain ⟨h0, h⟩ := bool2 hh
      obtain ⟨h1, h⟩ := bool2 h
      obtain ⟨h2, h⟩ := bool2 h
      obtain ⟨h3, h⟩ := bool2 h
      obtain ⟨h4, h⟩ := bool2 h
      obtain ⟨h5, h⟩ := bool2 h
      obtain ⟨h6, h⟩ := bool2 h
      obtain ⟨h7, h8⟩ := bool2 h
      obtain ⟨v1, v2⟩ := bool2 h8
      obtain ⟨tg, iter, ifs, as⟩ := g
      simp only at h0 h1 h2 h3 h4 h5 h6 h7 v2
      have h0 := of_decide_eq_true h0
      subst h0
      have w : PE X (.Call (.Name "sorted" p1) [.SetComp elt [⟨tg, iter, ifs, 0⟩] scope p2] [] p) (tW Φ ca X.K (.sortset ((ownN c own).map (·.2)) t it cd d v) W) := by
        refine w_sortset L (L.gl hg).2 h1 (fun i hi => ?_) ((snd it L tk h6).pi tg h5) (fun s H C cl fp => tg_ok (L.blk scope s H C cl fp) h4) (fun s H C cl fp => ?_) (fun s H C cl fp => ?_) (set_ne h3)
        · rw [own_map]
          exact of_decide_eq_true (List.all_eq_true.mp h2 i hi)
        · have L' := L.blk scope s H C cl fp
          cases cd with
          | true =>
            match ifs, h7 with
            | [], h7 => cases h7
            | [z], h7 =>
              obtain ⟨d1, d2⟩ := bool2 h7
              obtain ⟨d3, d2⟩ := bool2 d2
              exact pts_one ((snd d L' (L.pa0 scope s H C cl fp) d2).pt d3)
            | _ :: _ :: _, h7 => cases h7
          | false =>
            match ifs, h7 with
            | [], _ => exact pts_nil
            | _ :: _, h7 => cases h7
        · exact (snd v (L.blk scope s H C cl fp) (L.pa0 scope s H C cl fp) v2).pd (bnot v1)
      rw [own_map] at w
      exact snd_v rfl w
    · cases h
  | .rng1 a, c, X, W, e, L, tk, h => by
    cases e <;> simp only [chkE, Bool.false_eq_true] at h
    rename_i fn xs ks p
    split at h
    · rename_i x p1 y p' he
      injection he with e1 e2 e3 e4
      subst e1 e2 e3 e4
      obtain ⟨h1, h⟩ := bool2 h
      obtain ⟨h2, h⟩ := bool2 h
      obtain ⟨h3, h⟩ := bool2 h
      obtain ⟨a1, a2⟩ := bool2 h
      have h1 := of_decide_eq_true h1
      subst h1
      exact snd_i rfl rfl fun tg _ => i_rng1 L (L.gl h2).2 (star_cons h3 _ _) ((snd a L tk a2).pd (bnot a1))
    · cases h
  | .rng2 a b, c, X, W, e, L, tk, h => by
    cases e <;> simp only [chkE, Bool.false_eq_true] at h
    rename_i fn xs ks p
    split at h
    · rename_i x p1 y z p' he
      injection he with e1 e2 e3 e4
      subst e1 e2 e3 e4
      obtain ⟨h1, h⟩ := bool2 h
      obtain ⟨h2, h⟩ := bool2 h
      obtain ⟨h3, h⟩ := bool2 h
      obtain ⟨h4, h⟩ := bool2 h
      obtain ⟨h5, h6⟩ := bool2 h
      obtain ⟨a1, a2⟩ := bool2 h5
      obtain ⟨b1, b2⟩ := bool2 h6
      have h1 := of_decide_eq_true h1
      subst h1
      exact snd_i rfl rfl fun tg _ => i_rng2 L (L.gl h2).2 (star_cons h3 _ _) (star_cons h4 _ _) ((snd a L tk a2).pd (bnot a1)) ((snd b L tk b2).pd (bnot b1))
    · cases h
  | .enum a, c, X, W, e, L, tk, h => by
    cases e <;> simp only [chkE, Bool.false_eq_true] at h
    rename_i fn xs ks p
    split at h
    · rename_i x p1 y p' he
      injection he with e1 e2 e3 e4
      subst e1 e2 e3 e4
      obtain ⟨h1, h⟩ := bool2 h
      obtain ⟨h2, h⟩ := bool2 h
      obtain ⟨h3, h⟩ := bool2 h
      obtain ⟨a1, a2⟩ := bool2 h
      have h1 := of_decide_eq_true h1
      subst h1
      refine snd_i rfl rfl fun tg ht => ?_
      cases tg <;> simp only [tgOk, needTup, notTup, Bool.not_true, Bool.or_self, Bool.false_eq_true] at ht
      exact i_enum L (L.gl h2).2 (star_cons h3 _ _) ((snd a L tk a2).pe (bnot a1))
    · cases h
  | .zip a b, c, X, W, e, L, tk, h => by
    cases e <;> simp only [chkE, Bool.false_eq_true] at h
    rename_i fn xs ks p
    split at h
    · rename_i x p1 y z p' he
      injection he with e1 e2 e3 e4
      subst e1 e2 e3 e4
      obtain ⟨h1, h⟩ := bool2 h
      obtain ⟨h2, h⟩ := bool2 h
      obtain ⟨h3, h⟩ := bool2 h
      obtain ⟨h4, h⟩ := bool2 h
      obtain ⟨h5, h6⟩ := bool2 h
      obtain ⟨a1, a2⟩ := bool2 h5
      obtain ⟨b1, b2⟩ := bool2 h6
      have h1 := of_decide_eq_true h1
      subst h1
      refine snd_i rfl rfl fun tg ht => ?_
      cases tg <;> simp only [tgOk, needTup, notTup, Bool.not_true, Bool.or_self, Bool.false_eq_true] at ht
      refine i_zip L (L.gl h2).2 (star_cons h3 _ _) (star_cons h4 _ _) ?_ ((snd a L tk a2).pe (bnot a1)) ((snd b L tk b2).pe (bnot b1))
      rw [star_cons h4]; rfl
    · cases h
theorem snds : ∀ (ms : List E) {c : SC} {X : Cx} {W : WX} {es : List Expr}, Live cx c Φ ca X → (∀ σ, PassesAt cx X σ (WE W σ)) → es.all noStar = true → chkEs ms c es = true → PA X es (tDs Φ ca X.K ms W)
  | [], c, X, W, [], L, tk, _, h => a_nil
  | [], c, X, W, _ :: _, L, tk, _, h => by simp [chkEs] at h
  | m :: ms, c, X, W, [], L, tk, _, h => by simp [chkEs] at h
  | m :: ms, c, X, W, e :: es, L, tk, hs, h => by
    simp only [chkEs] at h
    obtain ⟨h1, h2⟩ := bool2 h
    obtain ⟨a1, a2⟩ := bool2 h1
    rw [List.all_cons] at hs
    exact a_cons ((snd m L tk a2).pd (bnot a1)) (snds ms L tk (bool2 hs).2 h2) (star_cons (bool2 hs).1 _ _)
theorem sndA : ∀ (ms : List E) {c : SC} {X : Cx} {W : WX} {es : List Expr}, Live cx c Φ ca X → (∀ σ, PassesAt cx X σ (WE W σ)) → chkBs ms c es = true → ∀ pos, PE X (.BoolOp .And es pos) (tW Φ ca X.K (.and ms) W) ∧ PW X (.BoolOp .And es pos) (tTst Φ ca X.K (.and ms) W)
  | [], c, X, W, es, L, tk, h, pos => by simp [chkBs] at h
  | [m], c, X, W, es, L, tk, h, pos => by
    match es, h with
    | [], h => simp [chkBs] at h
    | [e], h =>
      simp only [chkBs] at h
      obtain ⟨a1, a2⟩ := bool2 h
      obtain ⟨a3, a2⟩ := bool2 a2
      exact ⟨v_and1 ((snd m L tk a2).pd (bnot a1)), t_and1 ((snd m L tk a2).pt a3)⟩
    | _ :: _ :: _, h => simp [chkBs] at h
  | m :: m2 :: ms, c, X, W, es, L, tk, h, pos => by
    match es, h with
    | [], h => simp [chkBs] at h
    | [e], h => simp [chkBs] at h
    | e :: e2 :: es, h =>
      simp only [chkBs] at h
      obtain ⟨h1, h2⟩ := bool2 h
      obtain ⟨a1, a2⟩ := bool2 h1
      obtain ⟨a3, a2⟩ := bool2 a2
      obtain ⟨r1, r2⟩ := sndA (m2 :: ms) L tk h2 pos
      exact ⟨v_and2 ((snd m L tk a2).pd (bnot a1)) r1, t_and2 ((snd m L tk a2).pt a3) r2⟩
theorem sndO : ∀ (ms : List E) {c : SC} {X : Cx} {W : WX} {es : List Expr}, Live cx c Φ ca X → (∀ σ, PassesAt cx X σ (WE W σ)) → chkBs ms c es = true → ∀ pos, PE X (.BoolOp .Or es pos) (tW Φ ca X.K (.or ms) W) ∧ PW X (.BoolOp .Or es pos) (tTst Φ ca X.K (.or ms) W)
  | [], c, X, W, es, L, tk, h, pos => by simp [chkBs] at h
  | [m], c, X, W, es, L, tk, h, pos => by
    match es, h with
    | [], h => simp [chkBs] at h
    | [e], h =>
      simp only [chkBs] at h
      obtain ⟨a1, a2⟩ := bool2 h
      obtain ⟨a3, a2⟩ := bool2 a2
      exact ⟨v_or1 ((snd m L tk a2).pd (bnot a1)), t_or1 ((snd m L tk a2).pt a3)⟩
    | _ :: _ :: _, h => simp [chkBs] at h
  | m :: m2 :: ms, c, X, W, es, L, tk, h, pos => by
    match es, h with
    | [], h => simp [chkBs] at h
    | [e], h => simp [chkBs] at h
    | e :: e2 :: es, h =>
      simp only [chkBs] at h
      obtain ⟨h1, h2⟩ := bool2 h
      obtain ⟨a1, a2⟩ := bool2 h1
      obtain ⟨a3, a2⟩ := bool2 a2
      obtain ⟨r1, r2⟩ := sndO (m2 :: ms) L tk h2 pos
      exact ⟨v_or2 ((snd m L tk a2).pd (bnot a1)) r1, t_or2 ((snd m L tk a2).pt a3) r2⟩
end
end
end Mp
set_option Elab.async false
set_option linter.all false
set_option maxRecDepth 100000
set_option maxHeartbeats 2000000
/-! MpX: an own exception: class C(.. ValueError): def __init__(self, f): super().__init__('..'); self.f = f -/
namespace PySem
namespace MpX
open PySem.W PySem.Calls PyProof.Rows PySem.HandSPX

def exA (f : Str) (p1 p2 : Pos) : Arguments := { posonlyargs := [], args := [{ arg := "self", annotation := none, pos := p1 }, { arg := f, annotation := none, pos := p2 }], vararg := none, kwonlyargs := [], kw_defaults := [], kwarg := none, defaults := [] }
def exB (f txt : Str) (k : Nat) (q : Nat → Pos) : List Stmt := [.Expr (.Call (.Attribute (.Call (.Name "super" (q 0)) [] [] (q 1)) "__init__" (q 2)) [.Constant (.str txt) k (q 3)] [] (q 4)) (q 5), .Assign [.Attribute (.Name "self" (q 6)) f (q 7)] (.Name f (q 8)) (q 9)]
def exS (f : Str) : Scope := { kind := .function, names := [(PySem.Str.ofString "self", .local), (f, .local), (PySem.Str.ofString "__class__", .free), (PySem.Str.ofString "super", .globalImplicit)], isGenerator := false, isCoroutine := false, more := [] }
/-- what the written part says of the class, at C, of its __init__, at fI, its code record, at cda, its cell, at cc -/
structure ExTxt (P : Program) (K : Frag) (f : Str) (C fI cda cc : Addr) : Prop where
  cls : ∃ nm q N bs bm sn sub ab col dd k0 k1 k2 k3 k5, K.lookup C = some (excClassObj nm q C N bs bm true sn sub ab col dd k0 k1 k2 k3 k5 "ValueError.__new__") ∧ refsVE bm = true
  sa : findIn K (.ref C) "__setattr__" = some (some (.builtin "object.__setattr__"))
  noN : findIn K (.ref C) f = some none
  iC : findIn K (.ref C) "__init__" = some (some (.ref fI))
  tC : typeIn K (.ref fI) = some (.type "function")
  kC : keepIn K (.ref C) = true
  exC : subIn K (.ref C) (.type "BaseException") = some true
  veC : subIn K (.ref C) (.type "ValueError") = some true
  tyC : typeIn K (.ref C) = some (.type "type")
  fn : ∃ (oc : Value) (od : Option Addr) (doc pm : Value) (an : Option Addr) (ct : Value) (osl : Array (Option Value)) (qual txt : Str) (k : Nat) (p1 p2 : Pos) (q : Nat → Pos),
    K.lookup fI = some ⟨oc, od, .func (ksFn "__init__" qual (exA f p1 p2) (exB f txt k q) (exS f) .none .none doc pm an (.ref cda) ct cc), osl⟩ ∧ codeIn K (.ref cda) qual = true ∧ ((q 2).endLine == (q 4).line) = true
  code : ∃ ccl cdd vs ccs file tf, K.lookup cda = some ⟨ccl, cdd, .fields vs, ccs⟩ ∧ vs[2]? = some (.str file tf) ∧ ((P.main.file : Str) == file) = true
  cell : ∃ cl cld csl, K.lookup cc = some ⟨cl, cld, .cell (some (.ref C)), csl⟩
  self : mroIn K C (.ref C) = some true
  up : ks_superIn K C C "__init__" = some (some (.builtin "ValueError.__init__"))
  tp : nsIn K cStatics "thirdparty.any" = some none
  top : (P.main.scope.names.lookup ("super" : Str)).isSome = false
  f1 : (("self" : Str) == f) = false
  f2 : (("__class__" : Str) == f) = false
  f3 : (("super" : Str) == f) = false
  f4 : (f == ("__debug__" : Str)) = false
  f5 : (f == ("self" : Str)) = false
  bind : ∀ (qual txt : Str) (k : Nat) (p1 p2 : Pos) (q : Nat → Pos) (doc pm : Value) (an : Option Addr) (ct : Value) (s : Shared) (a b : Value), BindsTo s (ksFn "__init__" qual (exA f p1 p2) (exB f txt k q) (exS f) .none .none doc pm an (.ref cda) ct cc) ⟨[a, b], []⟩ [("self", a), (f, b)]
section
variable {prog : Program} {w : World} {A : Around} {E : Value → Shared → Prop} {h : Heap} {g : Array GenState} {d : Drawn} {t : Nat} {os : OsState}
theorem mc_eq {o : PySem.Expr} {name : Str} {apos pos : Pos} {z : Str} {k : Nat} {p3 : Pos} {env : Env} (hl : (apos.endLine == pos.line) = true) : eval (.Call (.Attribute o name apos) [.Constant (.str z) k p3] [] pos) env = (do
      let ov ← attributeBase o name env (eval o env)
      standAt apos.atName
      let (f, first) ← holding [ov] (getMethod ov name (do return (← importBound o env).getD true))
      callWith pos f first (backTo pos (starEach [.Constant (.str z) k p3] env)) []) := by
  show (do
    let ov ← attributeBase o name env (eval o env)
    standAt apos.atName
    methodCall o name apos pos env ov 1 (backTo pos (starEach [.Constant (.str z) k p3] env)) []) = _
  have h1 : methodCallForm 1 (backTo pos (starEach [.Constant (.str z) k p3] env)) [] = true := rfl
  have h2 : methodCallPos true o env apos pos = pure pos := by
    unfold methodCallPos
    rw [hl]; rfl
  unfold methodCall calleeOf
  rw [h1]
  simp only [if_true, h2, pure_bind]
/-- the wrapper is called -/
theorem call_mw {nm q : Str} {C N : Addr} {bs bm : List Value} {hdct : Bool} {sn : List Str} {sub : List Value} {ab : Bool} {col : Option Bool} {dd : Option Addr} {k0 k1 k2 k3 k5 : Option Value} {u e t0 : Addr} {rest : List Value} {Q : Value → Shared → Prop}
    (hC : h.get? C = some (excClassObj nm q C N bs bm hdct sn sub ab col dd k0 k1 k2 k3 k5 "ValueError.__new__")) (he : h.get? e = some (excO C t0)) (hu : h.get? u = some (kxs_mw "ValueError.__init__" e)) (hrest : rest.length ≤ sizeLine)
    (hq : ∀ h' t1, (∀ b o, b ≠ e → h.get? b = some o → h'.get? b = some o) → h'.get? e = some (excO C t1) → Q .none ⟨h', g, d, t, os⟩) : wpAny (model prog w) A (call (.ref u) rest) Q E ⟨h, g, d, t, os⟩ := by
  refine wpAny_call (codeAny_of_tree ?_)
  show wpAny _ A.in1 (callAny (.ref u) ⟨rest, []⟩) _ _ _
  simp only [callAny]
  refine wpAny_bind (wpAny_load hu ?_)
  simp only [kxs_mw, show (Value.type "method-wrapper" == Value.type "method" || Value.type "method-wrapper" == Value.type "builtin_function_or_method" || Value.type "method-wrapper" == Value.type "method-wrapper") = true by decide, if_true]
  refine KFB.if_so (by decide) ?_
  refine wpAny_bind (check_bound_init F.excBase_ValueError.toExcCallFacts hC he rfl ?_)
  refine wpAny_bind (wpAny_pure (wpAny_pure ?_))
  refine ⟨plainId_quiet F.excBase_ValueError.init.plain _, codeAny_builtin F.excBase_ValueError.initEntry ?_⟩
  rw [Around.under_plainId F.excBase_ValueError.init.plain _]
  exact exc_init_tree (cls := .ref C) (t0 := t0) (dv := none) (c2 := .none) (c3 := .none) (b4 := .bool false) he hrest fun h' k e' _ => hq h' _ k e'
end
/-- what __init__ leaves of a fresh exception at x -/
structure InitEnd (h h' : Heap) (x C dx : Addr) (f : Str) (v : Value) : Prop where
  keep : ∀ b o, b ≠ x → h.get? b = some o → h'.get? b = some o
  obj : ∃ t1, h'.get? x = some { cls := .ref C, dict := some dx, data := .fields #[.ref t1, .none, .none, .none, .bool false, .none] }
  dbig : h.objs.size ≤ dx
  dne : dx ≠ x
  ns : h'.Ns1 dx (fun y => if y = f then some v else none)
section
variable {prog : Program} {w : World} {A : Around} {E : Value → Shared → Prop} {R : Result → Shared → Prop} {s : Shared} {K : Frag} {mg mb : Str → Option Value} {f : Str} {C fI cda cc : Addr}
theorem ex_init (T : ExTxt prog K f C fI cda cc) {x t0 : Addr} {v : Value} (X : K.In s.heap) (hlim : s.heap.NoLimit) (hg : s.heap.Ns mainGlobals mg) (hmiss : mg "super" = none) (hb : s.heap.Ns builtinsNs mb) (hv : mb "super" = some (.type "super"))
    (hx : s.heap.get? x = some (excO C t0)) (hnx : K.lookup x = none) (hroom : A.depth < recursionLimit)
    (hq : ∀ h' tk dx, InitEnd s.heap h' x C dx f v → R (.ok (.ret .none)) { s with heap := h', toks := tk }) :
    codeAny (model prog w) A (.call (.ref fI) ⟨[.ref x, v], []⟩) R s := by
  obtain ⟨oc, od, doc, pm, an, ct, osl, qual, txt, k, p1, p2, q, ho, hcd, hline⟩ := T.fn
  obtain ⟨nm, qn, N, bs, bm, sn, sub, ab, col, dd, k0, k1, k2, k3, k5, hC, hbm⟩ := T.cls
  obtain ⟨ccl, cdd, vs, ccs, file, tf, hcda, hvs, hfile⟩ := T.code
  obtain ⟨ccl2, ccd2, ccs2, hcc⟩ := T.cell
  have hcl : clsIn K C = some { name := nm, bases := bs, mro := .ref C :: bm, ns := N, qualname := qn, hasDict := true, slotNames := sn, subclasses := sub, abstract := ab, collection := col, hasDel := false } := by unfold clsIn; rw [hC] <;> rfl
  have hxC : x ≠ C := fun z => by rw [z, hC] at hnx; cases hnx
  obtain ⟨hp, g, d, tk, os⟩ := s
  have lk1 : (exS f).names.lookup ("self" : Str) = some .local := by rfl
  have lk2 : (exS f).names.lookup f = some .local := by
    show List.lookup f ((PySem.Str.ofString "self", NameKind.local) :: (f, .local) :: _) = _
    rw [List.lookup_cons, T.f5, List.lookup_cons_self]
  have lk3 : (exS f).names.lookup ("__class__" : Str) = some .free := by
    show List.lookup ("__class__" : Str) ((PySem.Str.ofString "self", NameKind.local) :: (f, .local) :: (PySem.Str.ofString "__class__", .free) :: _) = _
    rw [List.lookup_cons, show (("__class__" : Str) == PySem.Str.ofString "self") = false from by decide, List.lookup_cons, T.f2, List.lookup_cons_self]
  have lk4 : (exS f).names.lookup ("super" : Str) = some .globalImplicit := by
    show List.lookup ("super" : Str) ((PySem.Str.ofString "self", NameKind.local) :: (f, .local) :: (PySem.Str.ofString "__class__", .free) :: (PySem.Str.ofString "super", .globalImplicit) :: _) = _
    rw [List.lookup_cons, show (("super" : Str) == PySem.Str.ofString "self") = false from by decide, List.lookup_cons, T.f3, List.lookup_cons, show (("super" : Str) == PySem.Str.ofString "__class__") = false from by decide, List.lookup_cons_self]
  refine ks_codeAny_call_defAt (binds := [("self", .ref x), (f, v)]) hroom (X _ _ ho) rfl hlim (codeRec_of X hcd) rfl (T.bind _ _ _ _ _ _ _ _ _ _ _ _ _) (fun y hy e => ?_) (fun y hy => ?_) (fun h₁ hns hk₁ => ?_) rfl rfl rfl
  · simp only [exS, List.mem_cons, List.not_mem_nil, or_false] at hy
    rcases hy with rfl | rfl | rfl | rfl <;> cases e
  · simp only [List.mem_cons, List.not_mem_nil, or_false] at hy
    rcases hy with rfl | rfl
    · exact lk1
    · exact lk2
  have X₁ : K.In h₁ := X.keeps hk₁
  have hx₁ := hk₁ _ _ hx
  have self_ : (List.reverse [(("self" : Str), Value.ref x), (f, v)]).lookup ("self" : Str) = some (.ref x) := by
    show List.lookup ("self" : Str) [(f, v), ("self", .ref x)] = _
    rw [List.lookup_cons, T.f1, List.lookup_cons_self]
  have f_ : (List.reverse [(("self" : Str), Value.ref x), (f, v)]).lookup f = some v := by
    show List.lookup f [(f, v), ("self", .ref x)] = _
    rw [List.lookup_cons_self]
  have X2 := X₁
  have oC := X₁ _ _ hC
  refine ks_wpAt_execs_cons (ks_wpAt_Expr_any (ks_wpAt_MethodCall (he := mc_eq hline) (ks_wpAt_super_base lk4 lk3 (by decide) rfl (X₁ _ _ ho) rfl rfl rfl (X₁ _ _ hcda) rfl hvs hfile T.top
    (ks_loadName_global rfl lk4 (loadGlobal_builtin (env := callEnv (ksFn "__init__" qual (exA f p1 p2) (exB f txt k q) (exS f) .none .none doc pm an (.ref cda) ct cc) hp.objs.size fI) (hg.keeps hk₁) hmiss (hb.keeps hk₁) hv ⟨rfl,
      wpAny_loadName_free rfl lk3 rfl ⟨_, X₁ _ _ hcc, rfl⟩ (wpAny_loadName_local rfl lk1 hns self_ (ks_wpAny_isType_cls oC rfl ⟨rfl, ks_wpAny_call_super oC rfl hx₁ rfl (fun c e => (by cases e)) (looks_mroIn X₁ T.self) (fun h2 e2 k2 => ?_)⟩))⟩)))))
  -- the method bound
  have X2 : K.In h2 := X₁.keeps k2
  have hx2 := k2 _ _ hx₁
  have I2 : InstAt h2 x (excO C t0) C none := ⟨hx2, rfl, rfl, trivial⟩
  have hm := T.up
  unfold ks_superIn at hm
  rw [hcl, Option.bind_some] at hm
  refine kxs_getMethod kxs_ValueError e2 (looks_opaque X2 T.tp) (l₀ := .ref C :: bm) (fun A Q E s k q => wpAny_bind ((looks_clsIn X2 hcl) A _ E s k (wpAny_pure q))) rfl X2 hm (I2.type.andThen (looks_subIn X2 T.veC)) hxC (by decide) ?_
  have k3 : ∀ b o, h2.get? b = some o → (h2.push (kxs_mw "ValueError.__init__" x)).get? b = some o := fun b o e => Heap.get?_push_of_some _ e
  have eu : (h2.push (kxs_mw "ValueError.__init__" x)).get? h2.objs.size = some (kxs_mw "ValueError.__init__" x) := Heap.get?_push_size _ rfl
  refine kxs_callWith (i := "ValueError.__init__") (x := x) rfl (evalArgs_plain (spliced_cons (Constant_str (k := k) (pos := q 3) (spliced_nil ⟨eu, ?_⟩))))
  refine call_mw (k3 _ _ (k2 _ _ oC)) (k3 _ _ hx2) eu (by show 1 ≤ sizeLine; decide) fun h4 t1 k4 e4 => ?_
  have hLx : hp.objs.size ≠ x := Nat.ne_of_gt (Heap.lt_size hx)
  have kA : ∀ b o, b ≠ x → hp.get? b = some o → h4.get? b = some o := fun b o n e => k4 b o n (k3 b o (k2 b o (hk₁ b o e)))
  have kB : ∀ b o, b ≠ x → h₁.get? b = some o → h4.get? b = some o := fun b o n e => k4 b o n (k3 b o (k2 b o e))
  have X4 : K.In h4 := fun a o e => kA a o (fun z => by rw [z, hnx] at e; cases e) (X a o e)
  have hns4 : h4.Ns hp.objs.size (fun y => (List.reverse [(("self" : Str), Value.ref x), (f, v)]).lookup y) := hns.at fun o e => kB _ _ hLx e
  refine ks_wpAt_execs_cons (ks_wpAt_Assign_Attr (wpAt_of_wpAny (ldc rfl lk2 hns4 f_ (ldc rfl lk1 hns4 self_ ?_ ) T.f4)))
  refine set_plain X4 (ox := excO C t1) (od := none) ⟨e4, rfl, rfl, trivial⟩ T.sa ?_
  refine exc_osa X4 e4 hcl (show refsVE (.ref C :: bm) = true from hbm) rfl T.noN (fun h5 tk5 dx k5 dn dne hx5 hn5 => ?_)
  refine wpAt_of_wpAny (wpAny_execs_nil ?_)
  have z : hp.objs.size < h4.objs.size := hns4.lt
  exact hq h5 tk5 dx ⟨fun b o hb e => k5 b o hb (kA b o hb e), ⟨t1, hx5⟩, Nat.le_of_lt (Nat.lt_of_lt_of_le z dn), dne, hn5⟩
/-- a made exception -/
structure OwnMade (h h' : Heap) (e C d : Addr) (f : Str) (v : Value) : Prop where
  keep : ∀ b o, h.get? b = some o → h'.get? b = some o
  new : h.objs.size ≤ e
  obj : ∃ t1, h'.get? e = some { cls := .ref C, dict := some d, data := .fields #[.ref t1, .none, .none, .none, .bool false, .none] }
  dbig : h.objs.size ≤ d
  dne : d ≠ e
  ns : h'.Ns1 d (fun y => if y = f then some v else none)
theorem ex_made (T : ExTxt prog K f C fI cda cc) {v : Value} (X : K.In s.heap) (hlim : s.heap.NoLimit) (hg : s.heap.Ns mainGlobals mg) (hmiss : mg "super" = none) (hb : s.heap.Ns builtinsNs mb) (hv : mb "super" = some (.type "super")) (hroom : A.depth + 1 < recursionLimit)
    (hq : ∀ h' tk e d, OwnMade s.heap h' e C d f v → R (.ok (.ret (.ref e))) { s with heap := h', toks := tk }) : codeAny (model prog w) A (.call (.ref C) ⟨[v], []⟩) R s := by
  obtain ⟨nm, q, N, bs, bm, sn, sub, ab, col, dd, k0, k1, k2, k3, k5, hC, hbm⟩ := T.cls
  obtain ⟨hp, g, dr, tk, os⟩ := s
  have up : ∀ b o, hp.get? b = some o → ((hp.push (kdv_tup [v])).push (excO C hp.objs.size)).get? b = some o := fun b o e => Heap.get?_push_of_some _ (Heap.get?_push_of_some _ e)
  have hget : ((hp.push (kdv_tup [v])).push (excO C hp.objs.size)).get? (hp.objs.size + 1) = some (excO C hp.objs.size) := by heap_get
  have hnx : K.lookup (hp.objs.size + 1) = none := by
    cases e : K.lookup (hp.objs.size + 1) with
    | none => rfl
    | some o => exact absurd (Nat.lt_of_succ_lt (Heap.lt_size (show hp.get? (hp.objs.size + 1) = some o from X _ _ e))) (Nat.lt_irrefl _)
  refine call_own F.excBase_ValueError (fun X => refsVE_contains X bm hbm) (X _ _ hC) (looks_findIn X T.iC) (fun self => bind_fn X self T.tC) (by show 1 ≤ sizeLine; decide) ?_
  refine ex_init (s := ⟨(hp.push (kdv_tup [v])).push (excO C hp.objs.size), g, dr, tk, os⟩) T (X.keeps up) (hlim.keeps up) (hg.keeps up) hmiss (hb.keeps up) hv hget hnx hroom fun h' tk' dx ⟨k', hx, dn, dne, hns⟩ => ?_
  have old : ∀ b o, hp.get? b = some o → h'.get? b = some o := fun b o e => k' b o (Nat.ne_of_lt (Nat.lt_succ_of_lt (Heap.lt_size e))) (up b o e)
  have z : hp.objs.size ≤ dx := by
    have dn := dn
    rw [Heap.size_push, Heap.size_push] at dn
    omega
  exact ⟨rfl, hq h' tk' (hp.objs.size + 1) dx ⟨old, Nat.le_succ _, hx, z, dne, hns⟩⟩
end
end MpX
end PySem
namespace Mp
open PySem PySem.Spec PyProof.Rows L2 RZ PySem.MpX
section
variable {X : Cx} {f : Str} {C fI cda cc : Addr}
theorem relO_one {v : V} {v' : Value} (r : RelV v v') (f g : Str) : RelO (List.lookup g [(f, v)]) (if g = f then some v' else none) := by
  rw [lookup_put f g v []]
  by_cases h : g = f
  · rw [if_pos h, if_pos h]; exact r
  · rw [if_neg h, if_neg h]; trivial
/-- C(e) -/
def tMkX (C : Addr) (f : Str) (ta : TA) : L2.St → Hp → XK → Prop := fun σ H Q => ta σ H fun vs H1 => ∃ v, vs = [v] ∧ ∀ d, H1 d = none → Q (.ref C) (some d) (upd H1 d (.xd [(f, v)]))
theorem pmk_ex {a : Expr} {ta : TA} {x : Str} {p pos : Pos} (T : ExTxt X.prog X.K f C fI cda cc) (hd : X.A.depth + 1 < recursionLimit) (gC : X.mg x = some (.ref C)) (gs : X.mg "super" = none) (ha : PA X [a] ta) (hg : Gl X x) (hx : (x == ("__debug__" : Str)) = false)
    (he : starEach (a :: []) X.env = (false, eval a X.env) :: starEach [] X.env) : L2H.PMk5 X (.Call (.Name x p) [a] [] pos) (tMkX C f ta) := by
  intro pins s σ H Q I h
  refine wpAny_Call_Name_kw (ld_glob I hg gC ?_ hx)
  refine PySem.W.callWith_K (h₀ := X.base) I.ok.mod.kin T.kC (thn (ha.run pos pins s σ H _ I h) fun us s1 ⟨vs, H1, I1, r1, v, ev, q1⟩ => ?_) he rfl
  subst ev
  refine ⟨I1.kIn, ?_⟩
  obtain ⟨v', rfl, rv⟩ := vals1 r1
  show wpAny _ _ (call (.ref C) [v']) _ _ _
  have hlim := I1.nolimit
  obtain ⟨mb, hb1, hb2⟩ := I1.ok.mod.blt
  have hgl := I1.ok.mod.glob.keeps I1.bk
  have hbl := hb1.keeps I1.bk
  have hsv : mb "super" = some (.type "super") := (hb2 _ (by decide)).trans (by first | boot_by_name | rfl | kernel_rfl)
  obtain ⟨hp, g, dr, tk, os⟩ := s1
  refine wpAny_call (ex_made T I1.kIn hlim hgl gs hbl hsv hd fun h' tk' e d M => ?_)
  obtain ⟨t1, hoe⟩ := M.obj
  have hns := M.ns
  obtain ⟨G', g1, g2⟩ := restrict h' fun b => decide (b ≠ e)
  have gk : ∀ b, b ≠ e → G'.get? b = h'.get? b := fun b hb => g1 b (decide_eq_true hb)
  have ge : G'.get? e = none := g2 e (by simp)
  have old : ∀ b o, hp.get? b = some o → G'.get? b = some o := fun b o q => (gk b (Nat.ne_of_lt (Nat.lt_of_lt_of_le (Heap.lt_size q) M.new))).trans (M.keep b o q)
  have ob : ObjOk X.prog X.w (upd H1 d (.xd [(f, v)])) G' d (.xd [(f, v)]) := ⟨_, hns.at (fun o q => (gk d M.dne).trans q), fun g => relO_one rv f g⟩
  have J : Inv X pins σ (upd H1 d (.xd [(f, v)])) ⟨G', g, dr, tk', os⟩ := I1.laid (t' := tk') old M.dbig ob
  refine ⟨⟨e, _, _, ⟨G', g, dr, tk', os⟩, _, .ref C, some d, rfl, J, fun b o q => ?_, ge, hoe, ⟨rfl, rfl, fun vs q => ?_⟩, rfl, rfl, ?_, rfl, I1.bare, raises_own T.exC T.tyC, q1 d (I1.hok.fresh M.dbig)⟩, fun a oe vs ea hgt hdt => ?_⟩
  · by_cases hb : b = e
    · have q' : G'.get? b = some o := q
      rw [hb, ge] at q'; cases q'
    · exact (gk b hb).symm.trans q
  · cases q; rfl
  · rw [upd_ne (Ne.symm M.dne)]
    exact I1.hok.fresh M.new
  · cases ea
    have hgt' : h'.get? e = some oe := hgt
    rw [hoe] at hgt'
    cases hgt'
    cases hdt
    show (4 : Nat) < 6
    decide
end
end Mp
set_option Elab.async false
set_option linter.all false
set_option maxRecDepth 100000
set_option maxHeartbeats 4000000
/-! MpY: isinstance of a caught error with fields; what a suite asks of it -/
namespace PySem
namespace MpX
open PySem.W PySem.Calls PyProof.Rows PySem.HandSPX
section
variable {prog : Program} {w : World} {A : Around} {E : Value → Shared → Prop} {s : Shared} {K : Frag} {x D : Addr} {ox : Obj} {od : Option Obj}
theorem find_cls (hd : hasDictIn K D = true) (ha : findIn K (.ref D) "__class__" = some (some (.builtin "object.__class__"))) (hn : specialIn K (.builtin "object.__class__") "__get__" = some (some (.builtin "getset_descriptor.__get__"))) (ht : takesIn K (.builtin "object.__class__") = some true) :
    findObj K D od "__class__" = some (.bind (.builtin "getset_descriptor.__get__") (.builtin "object.__class__")) := by
  obtain ⟨cd, hc, _⟩ := any_some hd
  unfold findObj
  rw [hc, Option.bind_some, ha, Option.bind_some]
  simp [hn, ht]
/-- e.__class__, e with or without a dict -/
theorem ask_cls {Q : Option Value → Shared → Prop} (C : L2.ExcC K D) (X : K.In s.heap) (I : InstAt s.heap x ox D od) (h : Q (some (.ref D)) { s with toks := s.toks + 1 }) : wpAny (model prog w) A (getAttr? (.ref x) "__class__") Q E s := by
  obtain ⟨hp, g, d, t, os⟩ := s
  have T0 := I.type (M := model prog w)
  have G1 := looks_findIn (M := model prog w) X C.hg
  have G2 := looks_findIn (M := model prog w) X C.hk
  have G3 := looks_find (M := model prog w) X I (find_cls C.hd C.ha C.hn C.ht)
  have below : Looks (model prog w) hp (isInstance (.ref x) (.type "BaseException")) true := T0.andThen (looks_subIn X C.hs)
  have n2 : (Value.builtin "BaseException.__getattribute__" == Value.builtin "object.__getattribute__") = false := by decide +kernel
  unfold getAttr? getAttrBy? getAttrBy
  refine wpAny_bind (wpAny_mkText (wpAny_bind (wpAny_attempt (wpAny_holding (wpAny_bind (T0.at (wpAny_bind (G1.at ?_))))))))
  show wpAny _ _ (if (onTheHeap (Value.ref D) && Value.builtin "BaseException.__getattribute__" == Value.builtin "object.__getattribute__") = true then _ else _) _ _ _
  rw [n2, Bool.and_false, if_neg Bool.false_ne_true]
  unfold getAttrByItsOwn hookBefore
  refine wpAny_bind ?_
  rw [if_pos (show onTheHeap (Value.ref D) = true from rfl)]
  refine G2.at (wpAny_bind (wpAny_attempt (wpAny_holding ?_)))
  unfold callGetattribute
  rw [show (false && onTheHeap (Value.builtin "BaseException.__getattribute__")) = false from rfl, if_neg Bool.false_ne_true]
  unfold boundAndCalled
  rw [PySem.F.excAttr_ValueError.ga.bind (.ref x)]
  refine wpAny_bind (wpAny_pure ?_)
  show wpAny _ _ (call (.builtin "BaseException.__getattribute__") [.ref x, .str "__class__" t]) _ _ _
  refine wpAny_call (codeAny_call_builtin PySem.F.excAttr_ValueError.ga.plain PySem.F.entry_bexc_ga ?_)
  refine @check_slot (model prog w) _ _ ⟨hp, g, d, t + 1, os⟩ "BaseException.__getattribute__" "BaseException" "__getattribute__" (.ref x) [.str "__class__" t] [] _ (by decide +kernel) (by decide +kernel) below (PySem.F.args_bexc_ga (.ref x) (.str "__class__" t)) ?_
  unfold Builtin.«object.__getattribute__»
  refine wpAny_bind (wpAny_of_eq (a := ((Value.ref x : Value), [Value.str "__class__" t])) (by first | rfl | (simp only [slotArgs]; rfl)) ?_)
  refine wpAny_bind (wpAny_pure (wpAny_bind (T0.at (wpAny_bind (G3.at ?_)))))
  show wpAny _ _ (holding [Value.builtin "object.__class__"] (call (.builtin "getset_descriptor.__get__") [.builtin "object.__class__", .ref x, .ref D]) >>= ret) _ _ _
  refine wpAny_bind (wpAny_holding (wpAny_call (class_get (s := ⟨hp, g, d, t + 1, os⟩) (ox := ox) (od := od) X I C.hm ?_)))
  refine wpAny_pure ?_
  show wpAny _ _ (handedOut (.ref D)) _ _ _
  rw [handedOut_of (v := .ref D) rfl]
  first
    | exact wpAny_pure (wpAny_pure h)
    | exact wpAny_pure h
    | exact wpAny_pure (wpAny_bind (wpAny_pure (wpAny_pure h)))
theorem kitx_od (C : L2.ExcC K D) : KitX K (.ref x) (.ref D) (fun h => InstAt h x ox D od) where
  ty := fun _ _ _ I => I.type
  it := fun M h X _ => by
    obtain ⟨cdD, hcD, _⟩ := any_some C.hd
    obtain ⟨oD, h1, h2⟩ : ∃ oD, h.get? D = some oD ∧ oD.data = .cls cdD := by
      unfold clsIn at hcD
      split at hcD
      · rename_i c d cd' sl ho
        cases hcD
        exact ⟨_, X _ _ ho, rfl⟩
      · cases hcD
    intro A Q E s k q
    obtain ⟨hp, g, d, t, os⟩ := s
    exact ks_wpAny_isType_cls (k _ _ h1) h2 q
  ne := fun h tp dd its n sl X htp => (handS_kitx_exc (x := x) (ox := ox) C.hg C.hk C.hs C.hd C.ha C.hn C.ht C.hm).ne h tp dd its n sl X htp
  ca := fun X I k => ask_cls C X I k
end
end MpX
end PySem
namespace Mp
open PySem PySem.Spec PyProof.Rows L2 RZ PySem.MpX
section
variable {X : Cx} {a D : Addr} {oe : Obj} {pn : List (Addr × Obj)}
/-- isinstance(e, c), e the caught error, with its dict -/
theorem call_isD {dd : Option Addr} (C : ExcC X.K D) (hz : Zc (.ref D) dd oe) (hf : ∃ vs, oe.data = .fields vs) : CallR (X.suite a ((a, oe) :: pn)) (.builtin "isinstance") (fun xs H Q => rIsE X.K D a xs H Q ∧ ∀ d, dd = some d → ∃ fs, H d = some (.xd fs)) := by
  intro pins s σ H xs us Q I r ⟨⟨c, cv, b, e0, hcv, e, q⟩, hdd⟩
  subst e0
  cases r with
  | cons rx rr =>
    cases rr with
    | cons rt rr =>
      cases rr
      cases rx
      have ec := hcv _ rt
      subst ec
      obtain ⟨hget, _⟩ := I.pin (a, oe) (List.mem_append.mpr (.inl List.mem_cons_self))
      obtain ⟨vs, hv⟩ := hf
      have no : PySem.W.notCls oe = true := by unfold PySem.W.notCls; rw [hv]
      obtain ⟨od, J⟩ : ∃ od, PySem.W.InstAt s.heap a oe D od := by
        cases dd with
        | none => exact ⟨none, hget, hz.1, no, by rw [hz.2]; trivial⟩
        | some d =>
          obtain ⟨fs, hx⟩ := hdd d rfl
          obtain ⟨mA, hns, hr⟩ : ObjOk X.prog X.w H s.heap d (.xd fs) := I.hok d _ hx
          obtain ⟨o, ho, _⟩ := lookIn_ns hns
          exact ⟨some o, hget, hz.1, no, by rw [hz.2]; exact ho⟩
      exact PySem.W.kia_one (kitx_od C) I.kIn J e (fun z => nomatch z) fun tk => ⟨.bl b, H, I.kept (t' := tk) fun _ _ z => z, rfl, q⟩
end
end Mp
set_option Elab.async false
set_option linter.all false
set_option maxRecDepth 100000
set_option maxHeartbeats 2000000
/-! MpZ: raise, try -/
namespace Mp
open PySem PySem.Spec PyProof.Rows L2 RZ PySem.MpX

/-- what the written part says of the exception classes -/
structure ExF (P : Program) (xs : XS) (excs : List Str) (K : PySem.W.Frag) (mg : Str → Option Value) (ca : Nat → Addr) : Prop where
  nm : ∀ k x, excs[k]? = some x → mg x = some (.ref (ca k))
  len : excs.length = xs.n
  mak : ∀ k f, k < xs.n → xs.flds k = [f] → ∃ fI cda cc, ExTxt P K f (ca k) fI cda cc
  ex : ∀ j, j < xs.n → ExcC K (ca j) ∧ XfC K (ca j)
  exm : ∀ j k, j < xs.n → k < xs.n → PySem.W.exmOne K (.ref (ca j)) (.ref (ca k)) = some (xs.isx j k)
  kit : ∀ j k, j < xs.n → k < xs.n → PySem.W.kitOne K (.ref (ca j)) (.ref (ca k)) = some (xs.isx j k)
  kitv : ∀ j, j < xs.n → PySem.W.kitOne K (.ref (ca j)) (.type "ValueError") = some (xs.isx j xs.n)
  sup : mg "super" = none
  ve : mg "ValueError" = none
section
variable {xs : XS} {Φ : Nat → List D → M D} {ca : Nat → Addr} {cx : CXT} {X : Cx} {c : SC} {W : XK}
/-! ### raise -/
structure Flav (cx : CXT) (X : Cx) (W : XK) : Prop where
  pa : ∀ σ, PassesAt cx X σ (WE (WW W) σ)
  rz : ∀ (e : Expr) (t : L2.St → Hp → XK → Prop) (pos : Pos), L2N.PMk X e t → PS X (.Raise (some e) none pos) (fun _ σ H => t σ H fun cls d H' => W cls d H')
theorem mkx_err {K : PySem.W.Frag} {ρ : List Addr} {H : Hp} {h : Hh} {k : Nat} {f : Str} {ds : List D} {vs : List V} {Q : SV → Hp → Prop} (r : HR K ρ H h) (hf : xs.flds k = [f]) (rx : Reps K ρ H ds vs) (p : Po K ca (RlS K) ρ H W (mkX xs k ds h) Q) :
    ∃ v, vs = [v] ∧ ∀ d, H d = none → W (.ref (ca k)) (some d) (upd H d (.xd [(f, v)])) := by
  unfold mkX at p
  rw [hf] at p
  split at p
  · rename_i hl
    match ds, rx, hl, p with
    | [], _, hl, _ => simp at hl
    | [d], ⟨v, t, e1, q1, e2⟩, _, p =>
      cases e2
      subst e1
      refine ⟨v, rfl, fun a ha => ?_⟩
      have g : Ge ρ H ρ (upd H a (.xd [(f, v)])) := Ge.new ha r
      exact p ρ _ _ _ g (r.new ha) ⟨rfl, a, _, rfl, upd_same, v, [], rfl, q1.mono g r, rfl⟩
    | _ :: _ :: _, _, hl, _ => simp at hl
  · exact p.elim
theorem s_raise (L : Live cx c Φ ca X) (F : Flav cx X W) (G : ExF X.prog xs c.excs X.K X.mg ca) {k : Nat} {x f : Str} {a : Expr} {m : E} {p pos pos2 : Pos} (hk : c.excs[k]? = some x) (hf : xs.flds k = [f]) (hg : Gl X x) (hx : (x == ("__debug__" : Str)) = false) (ha : PE X a (tD Φ ca X.K m (WW W))) (hs : noStar a = true) :
    PS X (.Raise (some (.Call (.Name x p) [a] [] pos)) none pos2) (tS xs Φ ca X.K (.raise k [m]) W) := by
  have hkn : k < xs.n := by rw [← G.len]; exact (List.getElem?_eq_some_iff.mp hk).1
  obtain ⟨fI, cda, cc, T⟩ := G.mak k f hkn hf
  have hd : X.A.depth + 1 < recursionLimit := by have := L.room.dp; omega
  refine (F.rz _ _ pos2 (pmk_ex T hd (G.nm _ _ hk) G.sup (a_cons ha a_nil (star_cons hs _ _)) hg hx (star_cons hs _ _)).pmk).weak fun D σ H ⟨ρ, en, h, r, q, pp⟩ => ?_
  exact ⟨ρ, en, h, r, q, (pp.bind anti_S).imp fun vs H1 ⟨ds, ρ1, h1, g, r1, rx, p1⟩ => mkx_err r1 hf rx p1⟩
theorem cst_pe {X : Cx} {d : D} {k : Const} {j : Nat} {p : Pos} {t : TE} (h : cstB d k = true) (w : ∀ σ H Q, t σ H Q → ∀ v, (∀ ρ H', Rep X.K ρ H' d v) → Q v H) : PE X (.Constant k j p) t := by
  cases d <;> cases k <;> simp only [cstB, Bool.false_eq_true, decide_eq_true_eq, beq_iff_eq] at h
  · exact pe_non.weak fun σ H Q q => w σ H Q q _ fun _ _ => rfl
  · subst h; exact pe_bl.weak fun σ H Q q => w σ H Q q _ fun _ _ => rfl
  · subst h; exact pe_int.weak fun σ H Q q => w σ H Q q _ fun _ _ => rfl
  · subst h; exact pe_str.weak fun σ H Q q => w σ H Q q _ fun _ _ => rfl
/-! ### what a suite asks of its error -/
/-- the error x is the one at a, class cls, dict d, told by the state -/
structure XAt (xs : XS) (K : PySem.W.Frag) (ca : Nat → Addr) (a : Addr) (cls : Value) (d : Option Addr) (sl : Nat) (x : Xn) (ρ : List Addr) (h : Hh) (σ : L2.St) (H : Hp) : Prop where
  r : HR K ρ H h
  xr : XR K ca ρ H x cls d
  lt : x.cls < xs.n
  s : σ[sl]? = some (some (.ref a))
theorem XAt.mono {a : Addr} {cls : Value} {d : Option Addr} {sl : Nat} {x : Xn} {K : PySem.W.Frag} {ρ : List Addr} {h : Hh} {σ : L2.St} {H H' : Hp} (A : XAt xs K ca a cls d sl x ρ h σ H) (g : Ge ρ H ρ H') (r : HR K ρ H' h) : XAt xs K ca a cls d sl x ρ h σ H' := by
  obtain ⟨x1, d', vs, x2, x3, x4⟩ := A.xr
  refine ⟨r, ⟨x1, d', vs, x2, g.keep d' _ (fun m => ?_) x3, ?_⟩, A.lt, A.s⟩
  · obtain ⟨ws, w⟩ := A.r.cell_some m
    rw [x3] at w; cases w
  · have key : ∀ {fs : List (Str × D)} {vs : List (Str × V)}, FsR K ρ H fs vs → FsR K ρ H' fs vs := by
      intro fs
      induction fs with
      | nil => intro vs q; exact q
      | cons z fs ih => intro vs q; obtain ⟨v, t, e1, q1, q2⟩ := q; exact ⟨v, t, e1, q1.mono g A.r, ih q2⟩
    exact key x4
def tHv (xs : XS) (K : PySem.W.Frag) (ca : Nat → Addr) (a : Addr) (cls : Value) (d : Option Addr) (sl : Nat) (he : HE) : TE := fun σ H Q => ∃ x ρ h dv, XAt xs K ca a cls d sl x ρ h σ H ∧ evHE xs x he = some dv ∧ ∀ v H', Ge ρ H ρ H' → HR K ρ H' h → Rep K ρ H' dv v → Q v H'
def tHvs (xs : XS) (K : PySem.W.Frag) (ca : Nat → Addr) (a : Addr) (cls : Value) (d : Option Addr) (sl : Nat) (he : List HE) : TA := fun σ H Q => ∃ x ρ h dv, XAt xs K ca a cls d sl x ρ h σ H ∧ evHE.evHEs xs x he = some dv ∧ ∀ v H', Ge ρ H ρ H' → HR K ρ H' h → Reps K ρ H' dv v → Q v H'
def tHt (xs : XS) (K : PySem.W.Frag) (ca : Nat → Addr) (a : Addr) (cls : Value) (d : Option Addr) (sl : Nat) (he : HE) : TT := fun σ H Q => ∃ x ρ h b, XAt xs K ca a cls d sl x ρ h σ H ∧ evHE xs x he = some (.bl b) ∧ Q b H
mutual
def chkHv (xs : XS) (n : Str) : HE → Expr → Bool
  | .cst d, e => (match e with
    | .Constant k _ _ => cstB d k
    | _ => false)
  | .fld k f, e => (match e with
    | .Attribute (.Name y _) g _ => decide (y = n) && (decide (f = g) && (decide (xs.flds k = [f]) && decide (k < xs.n)))
    | _ => false)
  | .tup es, e => (match e with
    | .Tuple ys _ _ => decide (es.length ≤ 1000) && (ys.all noStar && chkHvs xs n es ys)
    | _ => false)
  | .isx _, _ => false
  | .not _, _ => false
  | .and _ _, _ => false
def chkHvs (xs : XS) (n : Str) : List HE → List Expr → Bool
  | [], [] => true
  | m :: ms, e :: es => chkHv xs n m e && chkHvs xs n ms es
  | _, _ => false
end
def clsB (c : SC) (xs : XS) (k : Nat) (y : Str) : Bool := (decide (c.excs[k]? = some y) && dbg y) || (decide (k = xs.n) && decide (y = ("ValueError" : Str)))
def chkHt (c : SC) (xs : XS) (n : Str) : HE → Expr → Bool
  | .isx k, e => (match e with
    | .Call (.Name i _) [.Name y _, .Name z _] [] _ => decide (i = ("isinstance" : Str)) && (decide (y = n) && (glB c i && (glB c z && clsB c xs k z)))
    | _ => false)
  | .not a, e => (match e with
    | .UnaryOp .Not x _ => chkHt c xs n a x
    | _ => false)
  | .and a b, e => (match e with
    | .BoolOp .And [x, y] _ => chkHt c xs n a x && chkHt c xs n b y
    | _ => false)
  | _, _ => false
theorem fsr_look {K : PySem.W.Frag} {ρ : List Addr} {H : Hp} {f : Str} {d : D} : ∀ {fs : List (Str × D)} {vs : List (Str × V)}, FsR K ρ H fs vs → fs.lookup f = some d → ∃ v, vs.lookup f = some v ∧ Rep K ρ H d v
  | [], _, _, e => by cases e
  | (g, d') :: fs, _, q, e => by
    obtain ⟨v, t, rfl, q1, q2⟩ := q
    rw [List.lookup_cons] at e ⊢
    cases hb : f == g with
    | true => rw [hb] at e; cases e; exact ⟨v, rfl, q1⟩
    | false => rw [hb] at e; exact fsr_look q2 e
theorem hes_len {x : Xn} : ∀ {es : List HE} {ds : List D}, evHE.evHEs xs x es = some ds → ds.length = es.length
  | [], _, e => by cases e; rfl
  | m :: es, ds, e => by
    simp only [evHE.evHEs] at e
    split at e
    · rename_i d1 ds1 e1 e2; cases e; simp [hes_len e2]
    · cases e
section
variable {a : Addr} {oe : Obj} {cls : Value} {d : Option Addr} {pn : List (Addr × Obj)} {n : Str} {sl : Nat}
mutual
theorem h_val (L : Live cx c Φ ca X) (G : ExF X.prog xs c.excs X.K X.mg ca) (hN : X.N[sl]? = some n) (hl : X.env.scope.names.lookup n = some .local) (h1 : (n == ("__debug__" : Str)) = false) (h2 : (n == ("__classdict__" : Str)) = false) (hz : Zc cls d oe) (hf : ∃ vs, oe.data = .fields vs) :
    ∀ (he : HE) {e : Expr}, chkHv xs n he e = true → PE (X.suite a ((a, oe) :: pn)) e (tHv xs X.K ca a cls d sl he)
  | .cst k, e, h => by
    cases e <;> simp only [chkHv, Bool.false_eq_true] at h
    exact cst_pe (X := X.suite a ((a, oe) :: pn)) h fun σ H Q ⟨x, ρ, hh, dv, A, e, q⟩ v rv => by
      cases e
      exact q v H (Ge.refl _ _) A.r (rv _ _)
  | .fld k f, e, h => by
    cases e <;> simp only [chkHv, Bool.false_eq_true] at h
    rename_i o g p
    cases o <;> simp only [Bool.false_eq_true] at h
    rename_i y p1
    simp only [Bool.and_eq_true, decide_eq_true_eq] at h
    obtain ⟨rfl, rfl, hfl, hk⟩ := h
    obtain ⟨fI, cda, cc, T⟩ := G.mak k f hk hfl
    have pv : PE (X.suite a ((a, oe) :: pn)) (.Name y p1) (tVar sl) := pe_var (X := X.suite a ((a, oe) :: pn)) hN (.inl hl) h1 h2
    refine (pe_xf (G.ex k hk).2 T.noN hz hf pv rfl).weak fun σ H Q ⟨x, ρ, hh, dv, A, e, q⟩ => ?_
    simp only [evHE] at e
    split at e
    · rename_i ek
      obtain ⟨x1, d', vs, x2, x3, x4⟩ := A.xr
      obtain ⟨v, l1, l2⟩ := fsr_look x4 e
      exact ⟨_, A.s, rfl, by rw [x1, ek], d', vs, v, x2, x3, l1, q v H (Ge.refl _ _) A.r l2⟩
    · cases e
  | .tup es, e, h => by
    cases e <;> simp only [chkHv, Bool.false_eq_true] at h
    obtain ⟨b1, h⟩ := bool2 h
    obtain ⟨b2, b3⟩ := bool2 h
    refine (pe_tup (h_vals L G hN hl h1 h2 hz hf es b2 b3)).weak fun σ H Q ⟨x, ρ, hh, dv, A, e, q⟩ => ?_
    simp only [evHE, Option.map_eq_some_iff] at e
    obtain ⟨ds, e, rfl⟩ := e
    refine ⟨x, ρ, hh, ds, A, e, fun vs H1 g r1 t => ⟨?_, fun b hb => ?_⟩⟩
    · rw [t.length, hes_len e]
      exact small_line (of_decide_eq_true b1)
    · have g1 : Ge ρ H1 ρ (upd H1 b (.tup vs)) := Ge.new hb r1
      exact q _ _ (g.trans r1 g1) (r1.new hb) ⟨b, vs, rfl, .inl (.inl upd_same), t.mono g1 r1⟩
  | .isx _, _, h => by simp [chkHv] at h
  | .not _, _, h => by simp [chkHv] at h
  | .and _ _, _, h => by simp [chkHv] at h
theorem h_vals (L : Live cx c Φ ca X) (G : ExF X.prog xs c.excs X.K X.mg ca) (hN : X.N[sl]? = some n) (hl : X.env.scope.names.lookup n = some .local) (h1 : (n == ("__debug__" : Str)) = false) (h2 : (n == ("__classdict__" : Str)) = false) (hz : Zc cls d oe) (hf : ∃ vs, oe.data = .fields vs) :
    ∀ (hs : List HE) {es : List Expr}, es.all noStar = true → chkHvs xs n hs es = true → PA (X.suite a ((a, oe) :: pn)) es (tHvs xs X.K ca a cls d sl hs)
  | [], [], _, _ => pa_nil.weak fun σ H Q ⟨x, ρ, hh, dv, A, e, q⟩ => by
    cases e
    exact q [] H (Ge.refl _ _) A.r rfl
  | [], _ :: _, _, h => by simp [chkHvs] at h
  | m :: ms, [], _, h => by simp [chkHvs] at h
  | m :: ms, e :: es, hst, h => by
    simp only [chkHvs] at h
    obtain ⟨b1, b2⟩ := bool2 h
    rw [List.all_cons] at hst
    obtain ⟨s1, s2⟩ := bool2 hst
    refine (pa_cons (h_val L G hN hl h1 h2 hz hf m b1) (h_vals L G hN hl h1 h2 hz hf ms s2 b2) (star_cons s1 _ _)).weak fun σ H Q ⟨x, ρ, hh, dv, A, e, q⟩ => ?_
    simp only [evHE.evHEs] at e
    split at e
    · rename_i d1 ds e1 e2
      cases e
      refine ⟨x, ρ, hh, d1, A, e1, fun v H1 g1 r1 q1 => ⟨x, ρ, hh, ds, A.mono g1 r1, e2, fun vs H2 g2 r2 q2 => q (v :: vs) H2 (g1.trans r1 g2) r2 ⟨v, vs, rfl, q1.mono g2 r1, q2⟩⟩⟩
    · cases e
end
theorem cls_of {cls : Value} {K : PySem.W.Frag} {ρ : List Addr} {h : Hh} {σ : L2.St} {H : Hp} {x : Xn} (A : XAt xs K ca a cls d sl x ρ h σ H) : cls = .ref (ca x.cls) ∧ ∀ d', d = some d' → ∃ fs, H d' = some (.xd fs) := by
  obtain ⟨x1, d', vs, x2, x3, x4⟩ := A.xr
  exact ⟨x1, fun d2 e => by rw [x2] at e; cases e; exact ⟨vs, x3⟩⟩
/-- isinstance of the error, its class known -/
theorem isx_at (L : Live cx c Φ ca X) (G : ExF X.prog xs c.excs X.K X.mg ca) (hN : X.N[sl]? = some n) (hl : X.env.scope.names.lookup n = some .local) (h1 : (n == ("__debug__" : Str)) = false) (h2 : (n == ("__classdict__" : Str)) = false) {j : Nat} (hj : j < xs.n) (hz : Zc (.ref (ca j)) d oe) (hf : ∃ vs, oe.data = .fields vs)
    {k : Nat} {z : Str} {p0 p1 p2 p3 : Pos} (hgi : Gl X "isinstance") (hgz : Gl X z) (hk : clsB c xs k z = true) :
    PE (X.suite a ((a, oe) :: pn)) (.Call (.Name "isinstance" p0) [.Name n p1, .Name z p2] [] p3) fun σ H Q => σ[sl]? = some (some (.ref a)) ∧ (∀ d', d = some d' → ∃ fs, H d' = some (.xd fs)) ∧ Q (.bl (xs.isx j k)) H := by
  have pv : PE (X.suite a ((a, oe) :: pn)) (.Name n p1) (tVar sl) := pe_var (X := X.suite a ((a, oe) :: pn)) hN (.inl hl) h1 h2
  have hmi : (X.suite a ((a, oe) :: pn)).mg "isinstance" = none := L.blt _ (by decide +kernel)
  unfold clsB at hk
  simp only [Bool.or_eq_true, Bool.and_eq_true, decide_eq_true_eq] at hk
  rcases hk with ⟨hk, hdz⟩ | ⟨hk, hz2⟩
  · have hkn : k < xs.n := by rw [← G.len]; exact (List.getElem?_eq_some_iff.mp hk).1
    have pc : PE (X.suite a ((a, oe) :: pn)) (.Name z p2) (tC (.ref (ca k))) := pe_glob (X := X.suite a ((a, oe) :: pn)) hgz (G.nm k z hk) rfl (dbg_ok hdz)
    refine (pe_callB (X := X.suite a ((a, oe) :: pn)) (call_isD (G.ex j hj).1 hz hf) hgi hmi boot_isinstance (pa_cons pv (pa_cons pc pa_nil rfl) rfl) (by decide +kernel) (by decide +kernel) rfl rfl).weak fun σ H Q ⟨s1, s2, q⟩ => ?_
    exact ⟨_, s1, ⟨_, .ref (ca k), _, rfl, fun u r => r, G.kit j k hj hkn, q⟩, s2⟩
  · subst hz2
    have pc : PE (X.suite a ((a, oe) :: pn)) (.Name "ValueError" p2) (tC (.ty "ValueError")) := pe_bltn (X := X.suite a ((a, oe) :: pn)) hgz G.ve PyProof.Rows.Boot.«ValueError» rfl (by decide) (by decide)
    refine (pe_callB (X := X.suite a ((a, oe) :: pn)) (call_isD (G.ex j hj).1 hz hf) hgi hmi boot_isinstance (pa_cons pv (pa_cons pc pa_nil rfl) rfl) (by decide +kernel) (by decide +kernel) rfl rfl).weak fun σ H Q ⟨s1, s2, q⟩ => ?_
    refine ⟨_, s1, ⟨_, .type "ValueError", _, rfl, fun u r => r, G.kitv j hj, ?_⟩, s2⟩
    rw [← hk]; exact q
theorem h_test (L : Live cx c Φ ca X) (G : ExF X.prog xs c.excs X.K X.mg ca) (hN : X.N[sl]? = some n) (hl : X.env.scope.names.lookup n = some .local) (h1 : (n == ("__debug__" : Str)) = false) (h2 : (n == ("__classdict__" : Str)) = false) (hz : Zc cls d oe) (hf : ∃ vs, oe.data = .fields vs) :
    ∀ (he : HE) {e : Expr}, chkHt c xs n he e = true → PT (X.suite a ((a, oe) :: pn)) e (tHt xs X.K ca a cls d sl he)
  | .cst _, _, h => by simp [chkHt] at h
  | .fld _ _, _, h => by simp [chkHt] at h
  | .tup _, _, h => by simp [chkHt] at h
  | .isx k, e, h => by
    cases e <;> simp only [chkHt, Bool.false_eq_true] at h
    rename_i fn ys ks p
    split at h
    · rename_i i p0 y p1 z p2 p' he
      injection he with e1 e2 e3 e4
      subst e1 e2 e3 e4
      obtain ⟨b1, h⟩ := bool2 h
      obtain ⟨b2, h⟩ := bool2 h
      obtain ⟨b3, h⟩ := bool2 h
      obtain ⟨b4, b5⟩ := bool2 h
      have b1 := of_decide_eq_true b1
      have b2 := of_decide_eq_true b2
      subst b1 b2
      refine ⟨fun pins s σ H Q I ⟨x, ρ, hh, b, A, e, q⟩ => ?_⟩
      obtain ⟨c1, c2⟩ := cls_of A
      cases e
      have pe := isx_at (a := a) (oe := oe) (d := d) (pn := pn) L G hN hl h1 h2 A.lt (by rw [← c1]; exact hz) hf (p0 := p0) (p1 := p1) (p2 := p2) (p3 := p) (L.gl b3).2 (L.gl b4).2 b5
      exact (pt_val pe).run pins s σ H Q I ⟨A.s, c2, _, rfl, q⟩
    · cases h
  | .not k, e, h => by
    cases e <;> simp only [chkHt, Bool.false_eq_true] at h
    rename_i op y p
    cases op <;> simp only [Bool.false_eq_true] at h
    refine (pt_not (h_test L G hN hl h1 h2 hz hf k h)).weak fun σ H Q ⟨x, ρ, hh, b, A, e, q⟩ => ?_
    simp only [evHE] at e
    split at e
    · rename_i b' e1
      cases e
      exact ⟨x, ρ, hh, b', A, e1, q⟩
    · cases e
  | .and k1 k2, e, h => by
    cases e <;> simp only [chkHt, Bool.false_eq_true] at h
    rename_i op ys p
    split at h
    · rename_i y1 y2 p' he
      injection he with e1 e2 e3
      subst e1 e2 e3
      obtain ⟨b1, b2⟩ := bool2 h
      refine ((pw_and (h_test L G hN hl h1 h2 hz hf k1 b1) (pw_and1 (h_test L G hN hl h1 h2 hz hf k2 b2))).pt).weak fun σ H Q ⟨x, ρ, hh, b, A, e, q⟩ => ?_
      simp only [evHE] at e
      split at e
      · rename_i e1
        exact ⟨x, ρ, hh, true, A, e1, iteT ⟨x, ρ, hh, b, A, e, q⟩⟩
      · rename_i e1
        cases e
        exact ⟨x, ρ, hh, false, A, e1, iteF q⟩
      · cases e
    · cases h
end
/-! ### try -/
/-- a context in which a try may stand -/
structure TryX (cx : CXT) (c : SC) (Φ : Nat → List D → M D) (ca : Nat → Addr) (X : Cx) (W : XK) : Prop where
  st : X.stack = X.env :: X.outer
  fr : X.env.frame = some X.env.locals
  e2 : cx = L2.CX X.prog X.w
  tk : L2.Takes X (WW W)
  ln : Live (L2N.CX X.prog X.w) { c with fl := c.nf } Φ ca X
  ow : ∀ hd, PassesOwnAt (model X.prog X.w) (X.A.mark hd) X.A X.env X.xe
theorem Live.tr {cx' : CXT} {c' : SC} (L : Live cx' c' Φ ca X) (pn : List (Addr × Obj)) (xe : Value → Shared → Prop) : Live cx' c' Φ ca (X.tr pn xe) := ⟨L.N, L.nd, L.kinds, L.frees, L.fnc, L.calm, L.room, L.blt, L.fn, L.cx0, L.con⟩
theorem EnR.unset2 {K : PySem.W.Frag} {ρ : List Addr} {H : Hp} {en : En} {σ : L2.St} {i : Nat} {v : Option V} (q : EnR K ρ H en σ) : EnR K ρ H (en.set i none) ((σ.set i v).set i none) := by
  rw [List.set_set]; exact q.unset
/-- try: return m; except C as n: if t: return v -/
theorem s_tryC (L : Live cx c Φ ca X) (G : ExF X.prog xs c.excs X.K X.mg ca) (Y : TryX cx c Φ ca X W) {k sl : Nat} {x n : Str} {m : E} {e et ev : Expr} {ce ve : HE} {np p1 p2 p3 p4 p5 : Pos} (hk : c.excs[k]? = some x) (hg : Gl X x) (hx : (x == ("__debug__" : Str)) = false) (hN : c.N[sl]? = some n) (hl : c.names.lookup n = some .local)
    (h1 : (n == ("__debug__" : Str)) = false) (h2 : (n == ("__classdict__" : Str)) = false) (hm : isWalk m = false) (he : chkE m c e = true) (ht : chkHt c xs n ce et = true) (hv : chkHv xs n ve ev = true) :
    PS X (.Try [.Return (some e) p1] [.ExceptHandler (some (.Name x np)) (some n) [.If et [.Return (some ev) p2] [] p3] p4] [] [] p5) (tS xs Φ ca X.K (.try_ (.ret m) k sl (.cond ce ve)) W) := by
  have hXN : X.N[sl]? = some n := by rw [L.N]; exact hN
  have hXl : X.env.scope.names.lookup n = some .local := L.kinds _ _ hl (by decide)
  have hkn : k < xs.n := by rw [← G.len]; exact (List.getElem?_eq_some_iff.mp hk).1
  have base := ps_try_as (X := X) (i := sl) (c := .ref (ca k)) (np := np) (pos' := p4) (pos := p5) (body := [.Return (some e) p1]) (tb := fun W => tRet (tD Φ ca X.K m W)) (ts := fun a cls d => tIfS (tHt xs X.K ca a cls d sl ce) (tRet (tHv xs X.K ca a cls d sl ve)) tNext) (Wout := WW W) (b₀ := .If et [.Return (some ev) p2] [] p3) (suite := [])
    Y.st Y.fr (L.N ▸ L.nd) hXN hXl ⟨hg, hx, .inl (G.nm k x hk)⟩ Y.tk
    (fun W' pn xe tk _ => pss_one (ps_ret ((snd m (L.tr pn xe) (fun σ => by rw [Y.e2]; exact L2.passAt tk σ) he).pd hm)))
    (fun a oe cls d pn hz hf => pss_one (ps_if (h_test L G hXN hXl h1 h2 hz hf ce ht) (pss_one (ps_ret (h_val L G hXN hXl h1 h2 hz hf ve hv))) pss_nil))
  refine base.weak fun D σ H ⟨ρ, en, h, r, q, p⟩ => ?_
  refine ⟨ρ, en, h, r, q, ?_⟩
  have p : Po X.K ca (RlS X.K) ρ H W (tryR (bd (bd (evW Φ m en h) settle) fun d h => .ok (Fl.rt d, en) h) fun x h => if x.cls < xs.n then (if xs.isx x.cls k then bd (handM xs x (.cond ce ve) sl en h) fun q h => .ok (q.1, q.2.set sl none) h else .err x h) else .bad) (DQ D) := p
  revert p
  generalize bd (evW Φ m en h) settle = rr
  intro p
  cases rr with
  | ok dv h1 => exact fun ρ' H' v g r' rv => (show Po X.K ca (RlS X.K) ρ H W (.ok (Fl.rt dv, en) h1) (DQ D) from p) ρ' H' (SV.rt v) g r' rv
  | bad => exact p.elim
  | err x0 h1 =>
    intro ρ' H' cls dx g r' xr
    have p : Po X.K ca (RlS X.K) ρ H W (if x0.cls < xs.n then (if xs.isx x0.cls k then bd (handM xs x0 (.cond ce ve) sl en h1) fun q h => .ok (q.1, q.2.set sl none) h else .err x0 h1) else .bad) (DQ D) := p
    split at p
    · rename_i hlt
      refine ⟨xs.isx x0.cls k, by rw [xr.1]; exact G.exm _ _ hlt hkn, fun hb a0 ha0 => ?_, fun hb => ?_⟩
      · rw [hb, if_pos rfl] at p
        simp only [handM] at p
        split at p
        · rename_i hsl
          have hsl' : sl < σ.length := by rw [← q.len]; exact hsl
          have A : XAt xs X.K ca a0 cls dx sl x0 ρ' h1 (σ.set sl (some (.ref a0))) H' := ⟨r', xr, hlt, List.getElem?_set_self hsl'⟩
          split at p
          · rename_i et1
            split at p
            · rename_i dv ev1
              refine ⟨x0, ρ', h1, true, A, et1, iteT ?_⟩
              refine ⟨x0, ρ', h1, dv, A, ev1, fun v H2 g2 r2 rv => ?_⟩
              exact (show Po X.K ca (RlS X.K) ρ H W (.ok (Fl.rt dv, en.set sl none) h1) (DQ D) from p) ρ' H2 (SV.rt v) (g.trans r' g2) r2 rv
            · exact p.elim
          · rename_i et1
            refine ⟨x0, ρ', h1, false, A, et1, iteF ?_⟩
            exact (show Po X.K ca (RlS X.K) ρ H W (.ok (Fl.nx, en.set sl none) h1) (DQ D) from p) ρ' H' (SV.nx _) g r' (q.mono g r).unset2
          · exact p.elim
        · exact p.elim
      · rw [hb, if_neg Bool.false_ne_true] at p
        exact p ρ' H' cls dx g r' xr
    · exact p.elim
/-- try: return m; except C: raise C2(k) from None -/
theorem s_tryR (L : Live cx c Φ ca X) (G : ExF X.prog xs c.excs X.K X.mg ca) (Y : TryX cx c Φ ca X W) {k sl k2 : Nat} {x x2 f : Str} {m : E} {e : Expr} {dk : D} {ck : Const} {j j2 : Nat} {np p1 p2 p3 p4 p5 p6 p7 p8 : Pos} (hk : c.excs[k]? = some x) (hg : Gl X x) (hx : (x == ("__debug__" : Str)) = false)
    (hk2 : c.excs[k2]? = some x2) (hf2 : xs.flds k2 = [f]) (hg2 : Gl X x2) (hx2 : (x2 == ("__debug__" : Str)) = false) (hc : cstB dk ck = true) (hm : isWalk m = false) (he : chkE m { c with fl := c.nf } e = true) :
    PS X (.Try [.Return (some e) p1] [.ExceptHandler (some (.Name x np)) none [.Raise (some (.Call (.Name x2 p2) [.Constant ck j p3] [] p4)) (some (.Constant .none j2 p5)) p6] p7] [] [] p8) (tS xs Φ ca X.K (.try_ (.ret m) k sl (.re k2 dk)) W) := by
  have hkn : k < xs.n := by rw [← G.len]; exact (List.getElem?_eq_some_iff.mp hk).1
  have hkn2 : k2 < xs.n := by rw [← G.len]; exact (List.getElem?_eq_some_iff.mp hk2).1
  obtain ⟨fI, cda, cc, T⟩ := G.mak k2 f hkn2 hf2
  have hd : X.A.depth + 1 < recursionLimit := by have := L.room.dp; omega
  have base := L2H.ps_try_onlyX (X := X) (c := .ref (ca k)) (np := np) (pos' := p7) (pos := p8) (body := [.Return (some e) p1]) (tb := fun W => tRet (tD Φ ca X.K m W)) (ts := fun a cls d => fun _ σ H => tMkX (ca k2) f (tCons (fun _ H Q => ∀ v, (∀ ρ H', Rep X.K ρ H' dk v) → Q v H) tNil) σ H fun cls d H' => WW W cls d σ H') (Wout := WW W)
    (b₀ := .Raise (some (.Call (.Name x2 p2) [.Constant ck j p3] [] p4)) (some (.Constant .none j2 p5)) p6) (suite := [])
    Y.st Y.fr ⟨hg, hx, .inl (G.nm k x hk)⟩ Y.ow Y.tk
    (fun W' pn xe tk _ _ => pss_one (ps_ret ((snd m (Y.ln.tr pn xe) (fun σ => L2N.passAt tk σ) he).pd hm)))
    (fun a oe cls d pn hz hf tk hot => pss_one (L2H.ps_raiseHN hot tk (pmk_ex (X := L2H.suiteX X a ((a, oe) :: pn)) T hd (G.nm _ _ hk2) G.sup (pa_cons (cst_pe hc fun σ H Q q v rv => q v rv) pa_nil rfl) hg2 hx2 rfl)))
  refine base.weak fun D σ H ⟨ρ, en, h, r, q, p⟩ => ?_
  refine ⟨ρ, en, h, r, q, ?_⟩
  have p : Po X.K ca (RlS X.K) ρ H W (tryR (bd (bd (evW Φ m en h) settle) fun d h => .ok (Fl.rt d, en) h) fun x h => if x.cls < xs.n then (if xs.isx x.cls k then bd (mkX xs k2 [dk] h) fun q h => .ok (q.1, q.2.set sl none) h else .err x h) else .bad) (DQ D) := p
  revert p
  generalize bd (evW Φ m en h) settle = rr
  intro p
  cases rr with
  | ok dv h1 => exact fun ρ' H' v g r' rv => (show Po X.K ca (RlS X.K) ρ H W (.ok (Fl.rt dv, en) h1) (DQ D) from p) ρ' H' (SV.rt v) g r' rv
  | bad => exact p.elim
  | err x0 h1 =>
    intro ρ' H' cls dx g r' xr
    have p : Po X.K ca (RlS X.K) ρ H W (if x0.cls < xs.n then (if xs.isx x0.cls k then bd (mkX xs k2 [dk] h1) fun q h => .ok (q.1, q.2.set sl none) h else .err x0 h1) else .bad) (DQ D) := p
    split at p
    · rename_i hlt
      refine ⟨xs.isx x0.cls k, by rw [xr.1]; exact G.exm _ _ hlt hkn, fun hb a0 ha0 => ?_, fun hb => ?_⟩
      · rw [hb, if_pos rfl] at p
        refine fun v rv => ⟨v, rfl, fun a ha => ?_⟩
        have g2 : Ge ρ' H' ρ' (upd H' a (.xd [(f, v)])) := Ge.new ha r'
        simp only [mkX, hf2, List.length_cons, List.length_nil, if_true] at p
        exact (show Po X.K ca (RlS X.K) ρ H W (.err ⟨k2, [(f, dk)]⟩ h1) (DQ D) from p) ρ' _ _ _ (g.trans r' g2) (r'.new ha) ⟨rfl, a, _, rfl, upd_same, v, [], rfl, rv _ _, rfl⟩
      · rw [hb, if_neg Bool.false_ne_true] at p
        exact p ρ' H' cls dx g r' xr
    · exact p.elim
end
end Mp
set_option Elab.async false
set_option linter.all false
set_option maxRecDepth 100000
set_option maxHeartbeats 2000000
/-! Mp14: what the checker takes is right: statements, defs -/
namespace Mp
open PySem PySem.Spec PyProof.Rows L2 RZ PySem.MpX

/-! ### the checker: statements -/
def notSub (c : SC) : Expr → Expr → Bool
  | tg, e => match e with
    | .Tuple _ _ _ => (match tg with
      | .Tuple ts _ _ => !(ts.length == 2 || ts.length == 3) || ts.any fun
        | .Name x _ => (match c.names.lookup x with | some .cell => true | _ => false)
        | _ => false
      | _ => false)
    | _ => true
def isComp : E → Bool
  | .comp _ _ _ _ _ _ => true
  | _ => false
def lcLine (y : Str) (py : Pos) : Expr → Bool
  | .ListComp _ _ scope pos => decide (py.line = pos.line) && !(scope.names.any fun (n, k) => n == y && (k == .local || k == .cell))
  | _ => false
def celOnly (c : SC) (x : Str) : Bool := match c.names.lookup x with
  | some .cell => true
  | _ => false
def parB (x y : Str) (px py : Pos) (a b : Expr) : Bool := !(x == y) && (decide (px.line = py.line) && (noStar a && (noStar b && (!([a, b].all (foldedForSure 8)) && !([a, b].all (constantsAlone 8))))))
def locOnly (c : SC) (x : Str) : Bool := match c.names.lookup x with
  | some .local => true
  | _ => false
def oneF (xs : XS) (k : Nat) : Bool := match xs.flds k with
  | [_] => true
  | _ => false
def excB (c : SC) (k : Nat) (x : Str) : Bool := decide (c.excs[k]? = some x) && (glB c x && dbg x)
def chkTry (c : SC) (xs : XS) (k sl : Nat) (hd : HS) (m : E) (st : Stmt) : Bool := match hd with
  | .cond ce ve => (match st with
    | .Try [.Return (some e) _] [.ExceptHandler (some (.Name x _)) (some n) [.If et [.Return (some ev) _] [] _] _] [] [] _ =>
      excB c k x && (decide (c.N[sl]? = some n) && (locOnly c n && (dbg n && (!(n == ("__classdict__" : Str)) && ((!isWalk m && chkE m c e) && (chkHt c xs n ce et && chkHv xs n ve ev))))))
    | _ => false)
  | .re k2 dk => (match st with
    | .Try [.Return (some e) _] [.ExceptHandler (some (.Name x _)) none [.Raise (some (.Call (.Name x2 _) [.Constant ck _ _] [] _)) (some (.Constant .none _ _)) _] _] [] [] _ =>
      excB c k x && (excB c k2 x2 && (oneF xs k2 && (cstB dk ck && (!isWalk m && chkE m { c with fl := c.nf } e))))
    | _ => false)
  | .ret _ => false
def chkRaise (c : SC) (xs : XS) (k : Nat) (es : List E) (st : Stmt) : Bool := match es with
  | [m] => (match st with
    | .Raise (some (.Call (.Name x _) [a] [] _)) none _ => excB c k x && (oneF xs k && (noStar a && (!isWalk m && chkE m c a)))
    | _ => false)
  | _ => false
mutual
def chkS (xs : XS) : S → SC → Stmt → Bool
  | .asg i m, c, st => (match st with
    | .Assign [.Name x px] e _ => !isWalk m && (chkE m c e && (stoB c i x && (notComp e || (celOnly c x || (isComp m && (locOnly c x && lcLine x px e))))))
    | _ => false)
  | .asgT is m, c, st => (match st with
    | .Assign [.Tuple ts k p] e _ => !isWalk m && (chkE m c e && (tgsB c is ts && (notComp e && notSub c (.Tuple ts k p) e)))
    | _ => false)
  | .par i j a b, c, st => (match st with
    | .Assign [.Tuple [.Name x px, .Name y py] _ _] (.Tuple [e, f] _ _) _ => (!isWalk a && chkE a c e) && ((!isWalk b && chkE b c f) && (decide (c.N[i]? = some x) && (decide (c.N[j]? = some y) && (locOnly c x && (locOnly c y && (!decide (i = j) && parB x y px py e f))))))
    | _ => false)
  | .setI o i m, c, st => (match st with
    | .Assign [.Subscript x y _] e _ => (!isWalk o && chkE o c x) && ((!isWalk i && chkE i c y) && ((!isWalk m && chkE m c e) && (notSlice y && notComp e)))
    | _ => false)
  | .addI o i m, c, st => (match st with
    | .AugAssign (.Subscript x y _) .Add e _ => (!isWalk o && chkE o c x) && ((!isWalk i && chkE i c y) && ((!isWalk m && chkE m c e) && notSlice y))
    | _ => false)
  | .ex m, c, st => (match st with
    | .Expr e _ => !isWalk m && (chkE m c e && notComp e)
    | _ => false)
  | .ret m, c, st => (match st with
    | .Return (some e) _ => !isWalk m && chkE m c e
    | _ => false)
  | .ifs m a b, c, st => (match st with
    | .If e x y _ => (!isWalk m && (isTst m && chkE m c e)) && (chkSs xs a c x && chkSs xs b c y)
    | _ => false)
  | .for_ t it b, c, st => (match st with
    | .For tg e x [] _ => tgB c t tg && ((!needTup it || !notTup tg) && (chkE it c e && (notSet e && chkSs xs b c x)))
    | _ => false)
  | .while_ m b, c, st => (match st with
    | .While e x [] _ => (!isWalk m && (isTst m && chkE m c e)) && chkSs xs b c x
    | _ => false)
  | .raise k es, c, st => chkRaise c xs k es st
  | .try_ b k sl hd, c, st => (match b with
    | .ret m => c.tr && chkTry c xs k sl hd m st
    | _ => false)
  | .pass, _, st => (match st with
    | .Pass _ => true
    | _ => false)
  | .brk, _, st => (match st with
    | .Break _ => true
    | _ => false)
  | .cnt, _, st => (match st with
    | .Continue _ => true
    | _ => false)
def chkSs (xs : XS) : List S → SC → List Stmt → Bool
  | [], _, [] => true
  | m :: ms, c, s :: ss => chkS xs m c s && chkSs xs ms c ss
  | _, _, _ => false
end
/-- a context of a def's body -/
structure LiveS (cx : CXT) (c : SC) (xs : XS) (Φ : Nat → List D → M D) (ca : Nat → Addr) (X : Cx) (W : XK) : Prop where
  L : Live cx c Φ ca X
  F : Flav cx X W
  G : ExF X.prog xs c.excs X.K X.mg ca
  Y : c.tr = true → TryX cx c Φ ca X W
  own : PassesOwn (model X.prog X.w) X.A X.env X.xe
  kind : X.env.scope.kind = .function
section
variable {xs : XS} {Φ : Nat → List D → M D} {ca : Nat → Addr} {cx : CXT} {X : Cx} {c : SC} {W : XK}
theorem pureIf {α : Type} {b : Bool} {x y : Sem α} (h : b = true) : (if b = true then x else y) = x := if_pos h
theorem swap_none {tg e : Expr} (L : Live cx c Φ ca X) (h : notSub c tg e = true) : swappedStores [tg] e X.env = pure none := by
  cases e with
  | Tuple vs k p =>
    cases tg with
    | Tuple ts k2 p2 =>
      simp only [notSub, Bool.or_eq_true, List.any_eq_true] at h
      simp only [swappedStores]
      split
      · rfl
      · rename_i h1
        rcases h with h | ⟨t, ht, hc⟩
        · exfalso; exact h1 (by simp only [Bool.or_eq_true]; exact .inl (.inl h))
        · split
          · rfl
          · split
            · rfl
            · rename_i h2 h3
              exfalso
              simp only [Bool.or_eq_true, not_or, bne_iff_ne, ne_eq, Decidable.not_not] at h3
              have hl := h3.1
              cases t <;> simp only [Bool.false_eq_true] at hc
              rename_i x p3
              split at hc
              · rename_i hx
                have kx := L.kinds x _ hx (by decide)
                have kx : X.env.kindOf x = some .cell := kx
                have := List.filterMap_length_eq_length.mp hl _ ht
                simp [kx] at this
              · cases hc
    | _ => cases h
  | _ => cases tg <;> rfl
theorem loc_only {x : Str} (h : locOnly c x = true) : c.names.lookup x = some .local := by
  unfold locOnly at h
  split at h
  · assumption
  · cases h
theorem block_fn {env : Env} (hk : env.scope.kind = .function) : env.blockKind = .function := by unfold Env.blockKind; rw [hk]; rfl
theorem par_swap {x y : Str} {px py pt pt2 : Pos} {kt k2 : Nat} {a b : Expr} (L : Live cx c Φ ca X) (hk : X.env.scope.kind = .function) (hx : locOnly c x = true) (hy : locOnly c y = true) (h : parB x y px py a b = true) :
    swappedStores [.Tuple [.Name x px, .Name y py] kt pt] (.Tuple [a, b] k2 pt2) X.env = pure (some [x, y]) := by
  have kx : X.env.kindOf x = some .local := L.kinds x _ (loc_only hx) (by decide)
  have ky : X.env.kindOf y = some .local := L.kinds y _ (loc_only hy) (by decide)
  simp only [parB, Bool.and_eq_true, decide_eq_true_eq, Bool.not_eq_true'] at h
  obtain ⟨h1, h2, h3, h4, h5, h6⟩ := h
  have hn2 : ¬ x = y := by simpa using h1
  have h7 : (y == x) = false := by
    simp only [beq_eq_false_iff_ne, ne_eq]; exact fun z => hn2 z.symm
  simp only [swappedStores]
  split
  · rename_i z; simp [block_fn hk] at z
  · split
    · rename_i z
      exfalso
      simp only [List.any_cons, List.any_nil] at z
      split at z
      · cases h3
      · split at z
        · cases h4
        · cases z
    · split
      · rename_i z
        exfalso
        simp [kx, ky, Expr.pos, h2, List.eraseDups_cons, h7, h1] at z
      · split
        · rename_i z; rw [h5] at z; cases z
        · split
          · rename_i z; rw [h6] at z; cases z
          · simp [kx, ky, Expr.pos, h2]
theorem swaps_cel {e : Expr} {x : Str} {px : Pos} {l : Nat} (L : Live cx c Φ ca X) (h : celOnly c x = true) : swapsWith e (some (.Name x px)) l X.env = pure false := by
  unfold celOnly at h
  split at h
  · rename_i hx
    have kx : X.env.kindOf x = some .cell := L.kinds x _ hx (by decide)
    cases e <;> first
      | rfl
      | (unfold swapsWith; simp [kx, show (NameKind.cell == NameKind.local) = false from rfl])
  · cases h
theorem sole_no {t e : Expr} {l : Nat} {env : Env} (h : notComp e = true) : swapsWithSole [t] e l env = pure false := swaps_no h
theorem is_comp {m : E} (h : isComp m = true) : ∃ own t it cd d v, m = .comp own t it cd d v := by
  cases m <;> first
    | exact ⟨_, _, _, _, _, _, rfl⟩
    | cases h
def ifsB (c' : SC) (cd : Bool) (d : E) (ifs : List Expr) : Bool := match cd, ifs with
  | true, [z] => !isWalk d && (isTst d && chkE d c' z)
  | false, [] => true
  | _, _ => false
theorem comp_inv {own : List Nat} {t : Tg} {it : E} {cd : Bool} {d v : E} {e : Expr} (h : chkE (.comp own t it cd d v) c e = true) : ∃ elt tg iter ifs scope p, e = .ListComp elt [⟨tg, iter, ifs, 0⟩] scope p ∧ blkB c scope (ownN c own) = true ∧
    ((tgs t).all (fun i => decide (i ∈ own))) = true ∧ notSet iter = true ∧ tgB { c with names := scope.names } t tg = true ∧ (!needTup it || !notTup tg) = true ∧ chkE it c iter = true ∧
    ifsB { c with names := scope.names } cd d ifs = true ∧ (!isWalk v && chkE v { c with names := scope.names } elt) = true := by
  simp only [chkE] at h
  split at h
  · rename_i elt g scope p
    obtain ⟨g0, h⟩ := bool2 h
    obtain ⟨g1, h⟩ := bool2 h
    obtain ⟨g2, h⟩ := bool2 h
    obtain ⟨g3, h⟩ := bool2 h
    obtain ⟨g4, h⟩ := bool2 h
    obtain ⟨g5, h⟩ := bool2 h
    obtain ⟨g6, h⟩ := bool2 h
    obtain ⟨g7, g8⟩ := bool2 h
    obtain ⟨tg, iter, ifs, as⟩ := g
    have g0 : as = 0 := of_decide_eq_true g0
    subst g0
    exact ⟨elt, tg, iter, ifs, scope, p, rfl, g1, g2, g3, g4, g5, g6, g7, g8⟩
  · cases h
theorem ifs_ok {c' : SC} {X' : Cx} {cd : Bool} {d : E} {ifs : List Expr} (L' : Live cx c' Φ ca X') (pa : ∀ σ, PassesAt cx X' σ (WE (fun _ _ _ _ => False) σ)) (h : ifsB c' cd d ifs = true) : PTs X' ifs (tIfs (Φ := Φ) (ca := ca) X'.K cd d) := by
  cases cd with
  | true =>
    match ifs, h with
    | [], h => cases h
    | [z], h =>
      obtain ⟨d1, d2⟩ := bool2 h
      obtain ⟨d3, d2⟩ := bool2 d2
      exact pts_one ((snd d L' pa d2).pt d3)
    | _ :: _ :: _, h => cases h
  | false =>
    match ifs, h with
    | [], _ => exact pts_nil
    | _ :: _, h => cases h
theorem one_f {k : Nat} (h : oneF xs k = true) : ∃ f, xs.flds k = [f] := by
  unfold oneF at h
  split at h
  · rename_i f e; exact ⟨f, e⟩
  · cases h
theorem exc_b (L : Live cx c Φ ca X) {k : Nat} {x : Str} (h : excB c k x = true) : c.excs[k]? = some x ∧ Gl X x ∧ (x == ("__debug__" : Str)) = false := by
  unfold excB at h
  obtain ⟨h1, h⟩ := bool2 h
  obtain ⟨h2, h3⟩ := bool2 h
  exact ⟨of_decide_eq_true h1, (L.gl h2).2, dbg_ok h3⟩
theorem raise_ok (V : LiveS cx c xs Φ ca X W) {k : Nat} {es : List E} {st : Stmt} (h : chkRaise c xs k es st = true) : PS X st (tS xs Φ ca X.K (.raise k es) W) := by
  unfold chkRaise at h
  split at h
  · split at h
    · obtain ⟨h1, h⟩ := bool2 h
      obtain ⟨h2, h⟩ := bool2 h
      obtain ⟨h3, h⟩ := bool2 h
      obtain ⟨h4, h5⟩ := bool2 h
      obtain ⟨a1, a2, a3⟩ := exc_b V.L h1
      obtain ⟨f, hf⟩ := one_f h2
      exact s_raise V.L V.F V.G a1 hf a2 a3 ((snd _ V.L V.F.pa h5).pd (bnot h4)) h3
    · cases h
  · cases h
theorem try_ok (V : LiveS cx c xs Φ ca X W) {k sl : Nat} {hd : HS} {m : E} {st : Stmt} (ht : c.tr = true) (h : chkTry c xs k sl hd m st = true) : PS X st (tS xs Φ ca X.K (.try_ (.ret m) k sl hd) W) := by
  unfold chkTry at h
  split at h
  · split at h
    · obtain ⟨h1, h⟩ := bool2 h
      obtain ⟨h2, h⟩ := bool2 h
      obtain ⟨h3, h⟩ := bool2 h
      obtain ⟨h4, h⟩ := bool2 h
      obtain ⟨h5, h⟩ := bool2 h
      obtain ⟨h6, h⟩ := bool2 h
      obtain ⟨h7, h8⟩ := bool2 h
      obtain ⟨h9, h10⟩ := bool2 h6
      obtain ⟨a1, a2, a3⟩ := exc_b V.L h1
      exact s_tryC V.L V.G (V.Y ht) a1 a2 a3 (of_decide_eq_true h2) (loc_only h3) (dbg_ok h4) (bnot h5) (bnot h9) h10 h7 h8
    · cases h
  · split at h
    · obtain ⟨h1, h⟩ := bool2 h
      obtain ⟨h2, h⟩ := bool2 h
      obtain ⟨h3, h⟩ := bool2 h
      obtain ⟨h4, h⟩ := bool2 h
      obtain ⟨h5, h6⟩ := bool2 h
      obtain ⟨a1, a2, a3⟩ := exc_b V.L h1
      obtain ⟨b1, b2, b3⟩ := exc_b V.L h2
      obtain ⟨f, hf⟩ := one_f h3
      exact s_tryR V.L V.G (V.Y ht) a1 a2 a3 b1 hf b2 b3 h4 (bnot h5) h6
    · cases h
  · cases h
mutual
theorem sndS : ∀ (m : S) {st : Stmt}, LiveS cx c xs Φ ca X W → chkS xs m c st = true → PS X st (tS xs Φ ca X.K m W)
  | .asg i m, st, V, h => by
    cases st <;> simp only [chkS, Bool.false_eq_true] at h
    rename_i ts e p
    split at h
    · rename_i x px e' p' he
      injection he with e1 e2 e3
      subst e1 e2 e3
      obtain ⟨h1, h⟩ := bool2 h
      obtain ⟨h2, h⟩ := bool2 h
      obtain ⟨h3, h⟩ := bool2 h
      by_cases hn : notComp e = true
      · exact s_asg V.L (sto_ok h3) ((snd m V.L V.F.pa h2).pd (bnot h1)) (swaps_no hn)
      · simp only [hn, Bool.false_or] at h
        by_cases hcel : celOnly c x = true
        · exact s_asg V.L (sto_ok h3) ((snd m V.L V.F.pa h2).pd (bnot h1)) (swaps_cel V.L hcel)
        simp only [hcel, Bool.false_or] at h
        obtain ⟨h4, h⟩ := bool2 h
        obtain ⟨h5, h6⟩ := bool2 h
        obtain ⟨own, t, it, cd, d, v, rfl⟩ := is_comp h4
        obtain ⟨elt, tg, iter, ifs, scope, p3, rfl, g1, g2, g3, g4, g5, g6, g7, g8⟩ := comp_inv h2
        obtain ⟨v1, v2⟩ := bool2 g8
        simp only [lcLine, Bool.and_eq_true, decide_eq_true_eq, Bool.not_eq_true'] at h6
        have s3 := sto_ok h3
        have w := s_asgC (xs := xs) (Φ := Φ) (ca := ca) (W := W) (me := v) (mc := d) (cd := cd) (t := t) (own := ownN c own) (mi := it) (elt := elt) (ifs := ifs) (spos := p) (i := i) (y := x) (py := px) (pos := p3) V.L s3.1 (loc_only h5) V.kind (by simpa using h6.1) h6.2 g1 (fun i hi => by rw [own_map]; exact of_decide_eq_true (List.all_eq_true.mp g2 i hi))
          ((snd it V.L V.F.pa g6).pi tg g5) (fun s H C cl fp => tg_ok (V.L.blk scope s H C cl fp) g4) (fun s H C cl fp => ifs_ok (V.L.blk scope s H C cl fp) (V.L.pa0 scope s H C cl fp) g7) (fun s H C cl fp => (snd v (V.L.blk scope s H C cl fp) (V.L.pa0 scope s H C cl fp) v2).pd (bnot v1)) (set_ne g3)
        rw [own_map] at w
        exact w
    · cases h
  | .asgT is m, st, V, h => by
    cases st <;> simp only [chkS, Bool.false_eq_true] at h
    rename_i ts e p
    split at h
    · rename_i ts k p2 e' p' he
      injection he with e1 e2 e3
      subst e1 e2 e3
      obtain ⟨h1, h⟩ := bool2 h
      obtain ⟨h2, h⟩ := bool2 h
      obtain ⟨h3, h⟩ := bool2 h
      obtain ⟨h4, h5⟩ := bool2 h
      exact s_asgT ((snd m V.L V.F.pa h2).pd (bnot h1)) (tg_ok (t := .many is) V.L h3) (sole_no h4) (swap_none V.L h5) rfl
    · cases h
  | .par i j a b, st, V, h => by
    cases st <;> simp only [chkS, Bool.false_eq_true] at h
    rename_i ts e p
    split at h
    · rename_i x px y py kt pt e' f k2 pt2 p' he
      injection he with e1 e2 e3
      subst e1 e2 e3
      obtain ⟨h1, h⟩ := bool2 h
      obtain ⟨h2, h⟩ := bool2 h
      obtain ⟨h3, h⟩ := bool2 h
      obtain ⟨h4, h⟩ := bool2 h
      obtain ⟨h5, h⟩ := bool2 h
      obtain ⟨h6, h⟩ := bool2 h
      obtain ⟨h7, h8⟩ := bool2 h
      obtain ⟨a1, a2⟩ := bool2 h1
      obtain ⟨b1, b2⟩ := bool2 h2
      have h9 := h8
      simp only [parB, Bool.and_eq_true] at h9
      exact s_par V.L (of_decide_eq_true h3) (of_decide_eq_true h4) (loc_only h5) (loc_only h6) (by simpa using h7) (a_cons ((snd a V.L V.F.pa a2).pd (bnot a1)) (a_cons ((snd b V.L V.F.pa b2).pd (bnot b1)) a_nil (star_cons h9.2.2.2.1 _ _)) (star_cons h9.2.2.1 _ _))
        (par_swap V.L V.kind h5 h6 h8) rfl
    · cases h
  | .setI o i m, st, V, h => by
    cases st <;> simp only [chkS, Bool.false_eq_true] at h
    rename_i ts e p
    split at h
    · rename_i x y p2 e' p' he
      injection he with e1 e2 e3
      subst e1 e2 e3
      obtain ⟨h1, h⟩ := bool2 h
      obtain ⟨h2, h⟩ := bool2 h
      obtain ⟨h3, h⟩ := bool2 h
      obtain ⟨h4, h5⟩ := bool2 h
      obtain ⟨a1, a2⟩ := bool2 h1
      obtain ⟨b1, b2⟩ := bool2 h2
      obtain ⟨d1, d2⟩ := bool2 h3
      refine s_setI ((snd o V.L V.F.pa a2).pd (bnot a1)) ((snd i V.L V.F.pa b2).pd (bnot b1)) ((snd m V.L V.F.pa d2).pd (bnot d1)) (sub_asg h4) (sole_no h5) ?_ rfl
      cases e <;> rfl
    · cases h
  | .addI o i m, st, V, h => by
    cases st <;> simp only [chkS, Bool.false_eq_true] at h
    rename_i tg op e p
    split at h
    · rename_i x y p2 e' p' he
      injection he with e1 e2 e3 e4
      subst e1 e2 e3 e4
      obtain ⟨h1, h⟩ := bool2 h
      obtain ⟨h2, h⟩ := bool2 h
      obtain ⟨h3, h4⟩ := bool2 h
      obtain ⟨a1, a2⟩ := bool2 h1
      obtain ⟨b1, b2⟩ := bool2 h2
      obtain ⟨d1, d2⟩ := bool2 h3
      exact s_addI ((snd o V.L V.F.pa a2).pd (bnot a1)) ((snd i V.L V.F.pa b2).pd (bnot b1)) ((snd m V.L V.F.pa d2).pd (bnot d1)) (aug_store h4)
    · cases h
  | .ex m, st, V, h => by
    cases st <;> simp only [chkS, Bool.false_eq_true] at h
    obtain ⟨h1, h⟩ := bool2 h
    obtain ⟨h2, h3⟩ := bool2 h
    exact s_ex ((snd m V.L V.F.pa h2).pd (bnot h1)) (swaps_no h3)
  | .ret m, st, V, h => by
    cases st <;> simp only [chkS, Bool.false_eq_true] at h
    rename_i o p
    cases o <;> simp only [Bool.false_eq_true] at h
    obtain ⟨h1, h2⟩ := bool2 h
    exact s_ret ((snd m V.L V.F.pa h2).pd (bnot h1))
  | .ifs m a b, st, V, h => by
    cases st <;> simp only [chkS, Bool.false_eq_true] at h
    obtain ⟨h1, h⟩ := bool2 h
    obtain ⟨h2, h3⟩ := bool2 h
    obtain ⟨a1, a2⟩ := bool2 h1
    obtain ⟨a3, a2⟩ := bool2 a2
    exact s_ifs ((snd m V.L V.F.pa a2).pt a3) (sndSs a V h2) (sndSs b V h3)
  | .for_ t it b, st, V, h => by
    cases st <;> simp only [chkS, Bool.false_eq_true] at h
    rename_i tg e x orelse p
    split at h
    · rename_i tg' e' x' p' he
      injection he with e1 e2 e3 e4 e5
      subst e1 e2 e3 e4 e5
      obtain ⟨h1, h⟩ := bool2 h
      obtain ⟨h2, h⟩ := bool2 h
      obtain ⟨h3, h⟩ := bool2 h
      obtain ⟨h4, h5⟩ := bool2 h
      exact s_for V.own V.L.calm ((snd it V.L V.F.pa h3).pi _ h2) (tg_ok V.L h1) (sndSs b V h5) (set_ne h4)
    · cases h
  | .while_ m b, st, V, h => by
    cases st <;> simp only [chkS, Bool.false_eq_true] at h
    rename_i e x orelse p
    split at h
    · rename_i e' x' p' he
      injection he with e1 e2 e3 e4
      subst e1 e2 e3 e4
      obtain ⟨h1, h2⟩ := bool2 h
      obtain ⟨a1, a2⟩ := bool2 h1
      obtain ⟨a3, a2⟩ := bool2 a2
      exact s_while V.own ((snd m V.L V.F.pa a2).pt a3) (sndSs b V h2)
    · cases h
  | .raise k es, st, V, h => by
    simp only [chkS] at h
    exact raise_ok V h
  | .try_ b k sl hd, st, V, h => by
    simp only [chkS] at h
    cases b <;> simp only [Bool.false_eq_true] at h
    obtain ⟨h1, h2⟩ := bool2 h
    exact try_ok V h1 h2
  | .pass, st, V, h => by
    cases st <;> simp only [chkS, Bool.false_eq_true] at h
    exact s_pass
  | .brk, st, V, h => by
    cases st <;> simp only [chkS, Bool.false_eq_true] at h
    exact s_brk
  | .cnt, st, V, h => by
    cases st <;> simp only [chkS, Bool.false_eq_true] at h
    exact s_cnt
theorem sndSs : ∀ (ms : List S) {ss : List Stmt}, LiveS cx c xs Φ ca X W → chkSs xs ms c ss = true → PSs X ss (tSs xs Φ ca X.K ms W)
  | [], [], V, _ => ss_nil
  | [], _ :: _, V, h => by simp [chkSs] at h
  | m :: ms, [], V, h => by simp [chkSs] at h
  | m :: ms, s :: ss, V, h => by
    simp only [chkSs] at h
    obtain ⟨h1, h2⟩ := bool2 h
    exact ss_cons (sndS m V h1) (sndSs ms V h2)
end
end
end Mp
set_option Elab.async false
set_option linter.all false
set_option maxRecDepth 100000
set_option maxHeartbeats 2000000
/-! Mp15: defs -/
namespace Mp
open PySem PySem.Spec PyProof.Rows L2 RZ PySem.MpX

section
variable {K : PySem.W.Frag} {ca : Nat → Addr} {cx : CXT} {ρ ρ' : List Addr} {H H' : Hp} {h h' : Hh} {W : XK}
mutual
theorem clos_rep {e : List Addr} {n : Nat} (hn : n = ρ.length) : ∀ {d : D} {v : V}, closD n d = true → Rep K (ρ ++ e) H d v → Rep K ρ H d v
  | .non, _, _, q => q
  | .bl _, _, _, q => q
  | .int _, _, _, q => q
  | .str _, _, _, q => q
  | .tup xs, _, c, q => by
    obtain ⟨a, vs, e1, s, t⟩ := q
    simp only [closD] at c
    exact ⟨a, vs, e1, s, clos_reps hn c t⟩
  | .fro xs, _, c, q => by
    obtain ⟨a, vs, e1, s, t⟩ := q
    simp only [closD] at c
    exact ⟨a, vs, e1, s, clos_reps hn c t⟩
  | .ref k, _, c, q => by
    obtain ⟨a, e1, s⟩ := q
    simp only [closD, decide_eq_true_eq] at c
    exact ⟨a, e1, by rw [List.getElem?_append_left (by omega)] at s; exact s⟩
theorem clos_reps {e : List Addr} {n : Nat} (hn : n = ρ.length) : ∀ {ds : List D} {vs : List V}, closDs n ds = true → Reps K (ρ ++ e) H ds vs → Reps K ρ H ds vs
  | [], _, _, q => q
  | d :: ds, _, c, q => by
    simp only [closDs, Bool.and_eq_true] at c
    obtain ⟨v, t, e1, q1, q2⟩ := q
    exact ⟨v, t, e1, clos_rep hn c.1 q1, clos_reps hn c.2 q2⟩
end
theorem clos_hr {e : List Addr} (r : HR K (ρ ++ e) H h) (c : (h.take ρ.length).all (closC ρ.length) = true) : HR K ρ H (h.take ρ.length) := by
  have hl := r.len
  rw [List.length_append] at hl
  refine ⟨by rw [List.length_take]; omega, (List.nodup_append.mp r.nd).1, fun i a x e1 e2 => ?_⟩
  have hi : i < ρ.length := (List.getElem?_eq_some_iff.mp e1).1
  have hm := List.all_eq_true.mp c x (List.mem_of_getElem? e2)
  rw [List.getElem?_take_of_lt hi] at e2
  have q := r.cell i a x (by rw [List.getElem?_append_left hi]; exact e1) e2
  cases x with
  | lst ds => obtain ⟨vs, e3, t⟩ := q; exact ⟨vs, e3, clos_reps rfl hm t⟩
  | dct kvs => exact q.elim
theorem clos_fs {e : List Addr} : ∀ {fs : List (Str × D)} {vs : List (Str × V)}, closDs ρ.length (fs.map (·.2)) = true → FsR K (ρ ++ e) H fs vs → FsR K ρ H fs vs
  | [], _, _, q => q
  | (f, d) :: fs, _, c, q => by
    obtain ⟨v, t, e1, q1, q2⟩ := q
    simp only [List.map_cons, closDs, Bool.and_eq_true] at c
    exact ⟨v, t, e1, clos_rep rfl c.1 q1, clos_fs c.2 q2⟩
theorem po_leave {r : R D} {Q : VK} (hr : HR K ρ H h) (p : Po K ca (RlD K) ρ H W (leave h.length r) Q) : Po K ca (RlD K) ρ H W r Q := by
  have hl := hr.len
  cases r with
  | ok d h' =>
    intro ρ' H' v g r' q
    simp only [leave] at p
    split at p
    · rename_i c
      obtain ⟨c1, c2⟩ := bool2 c
      rw [← hl] at c1 c2 p
      obtain ⟨⟨e, rfl, he⟩, k⟩ := id g
      exact p ρ H' v ⟨⟨[], by simp, fun _ z => by simp at z⟩, k⟩ (clos_hr r' c2) (clos_rep rfl c1 q)
    · exact p ρ' H' v g r' q
  | err x h' =>
    intro ρ' H' cls dx g r' q
    simp only [leave] at p
    split at p
    · rename_i c
      obtain ⟨c1, c2⟩ := bool2 c
      rw [← hl] at c1 c2 p
      obtain ⟨⟨e, rfl, he⟩, k⟩ := id g
      obtain ⟨x1, d, vs, x2, x3, x4⟩ := q
      exact p ρ H' cls dx ⟨⟨[], by simp, fun _ z => by simp at z⟩, k⟩ (clos_hr r' c2) ⟨x1, d, vs, x2, x3, clos_fs c1 x4⟩
    · exact p ρ' H' cls dx g r' q
  | bad => exact p
theorem start_en {N : List Str} {np : Nat} : ∀ {ds : List D} {vs : List V}, Reps K ρ H ds vs → EnR K ρ H (ds.map some ++ List.replicate (N.length - ds.length) none) (L2.start N vs) := by
  intro ds vs t
  have hl := t.length
  refine ⟨by simp [L2.start, hl], fun i d e => ?_⟩
  by_cases hi : i < ds.length
  · rw [List.getElem?_append_left (by simpa using hi), List.getElem?_map] at e
    cases ed : ds[i]? with
    | none => rw [ed] at e; cases e
    | some d' =>
      rw [ed] at e
      cases e
      obtain ⟨v, e1, e2⟩ := t.get ed
      refine ⟨v, ?_, e2⟩
      unfold L2.start
      rw [List.getElem?_append_left (by simp; omega), List.getElem?_map, e1]; rfl
  · rw [List.getElem?_append_right (by simpa using hi), List.getElem?_replicate] at e
    split at e <;> cases e
end
/-- what the checker asks of a def -/
def nfOf (nfl : List Bool) (i : Nat) : Bool := nfl.getD i false
def ctxOf (defs : List MDef) (consts : List (Str × D)) (excs : List Str) (nfl : List Bool) (i : Nat) (d : MDef) (scope : Scope) : SC :=
  ⟨d.N, scope.names, defs.map (fun (d : MDef) => (d.name, d.np)), i, consts, excs, fun g => !nfOf nfl i || nfOf nfl g, nfOf nfl, !nfOf nfl i⟩
def parOk (scope : Scope) (x : Str) : Bool := match scope.names.lookup x with
  | some .local => true
  | some .cell => true
  | _ => false
def notFree : NameKind → Bool
  | .free => false
  | _ => true
def chkDef (xs : XS) (defs : List MDef) (consts : List (Str × D)) (excs : List Str) (nfl : List Bool) (i : Nat) (d : MDef) (scope : Scope) (body : List Stmt) : Bool :=
  (match scope.kind with | .function => true | _ => false) && (!scope.isCoroutine && (!scope.isGenerator && (decide d.N.Nodup && (decide (d.np ≤ d.N.length) && ((d.N.take d.np).all (parOk scope) && (scope.names.all (fun y => notFree y.2) &&
    chkSs xs d.body (ctxOf defs consts excs nfl i d scope) body))))))
theorem names_free {names : List (Str × NameKind)} (h : names.all (fun y => notFree y.2) = true) (x : Str) : names.lookup x ≠ some .free := by
  intro e
  have := List.all_eq_true.mp h _ (PySem.mem_of_lookup e)
  cases this
/-- the program's facts -/
structure Pg (defs : List MDef) (consts : List (Str × D)) (K : PySem.W.Frag) (mg : Str → Option Value) (fns : List He.DefD) : Prop where
  blt : ∀ x ∈ bltNames, mg x = none
  con : ∀ x d, consts.lookup x = some d → ∃ v u, scalV d = some v ∧ mg x = some u ∧ RelV v u
  fn : ∀ (i : Nat) (d : MDef), defs[i]? = some d → ∃ (f : Addr) (fd : FuncData) (dd : He.DefD), fns[i]? = some dd ∧ mg d.name = some (.ref f) ∧ FunD K dd.name dd.qual dd.params dd.body dd.scope [] [] f fd ∧ Binds K fd (d.N.take d.np) []
section
variable {P : Program} {w : World} {K : PySem.W.Frag} {mg : Str → Option Value} {base : Heap} {ca : Nat → Addr} {cx : CXT} {xs : XS}
theorem phi_lt {defs : List MDef} {m g : Nat} (h : g < m) : phi xs defs m g = phi xs defs (g + 1) g := by
  induction m with
  | zero => omega
  | succ m ih =>
    by_cases e : g = m
    · subst e; rfl
    · have : phi xs defs (m + 1) g = phi xs defs m g := by
        simp only [phi, if_neg e]
      rw [this, ih (by omega)]
theorem phi_at {defs : List MDef} {g : Nat} {d : MDef} (h : defs[g]? = some d) : phi xs defs (g + 1) g = runDef xs (phi xs defs g) d := by
  simp only [phi, if_true, h]
theorem n_to_l {outer : List Env} {H : Hp} {s s' : Shared} {E : XK} {u : Value} (h : L2N.CX P w outer H s E u s') : L2.CX P w outer H s E u s' := by
  obtain ⟨a, B, H', cls, d, e1, fl, r⟩ := h
  exact ⟨a, B, H', cls, d, e1, L2H.flyingZ_imp (fun o z => z.zc) fl, r⟩
theorem fn_weak {k : Nat} {f : Addr} {fd : FuncData} {ps : List Str} {sp : Sp} (F : FnOk P w K mg base (L2N.CX P w) k f fd ps sp) : FnOk P w K mg base (L2.CX P w) k f fd ps sp :=
  ⟨F.len, fun A outer s H args us vs Q E hr e0 hb hv hs => codeAny_mono (F.run A outer s H args us vs Q E hr e0 hb hv hs) fun r s' hq => by
    cases r with
    | error e => exact n_to_l hq
    | ok fl => cases fl <;> exact hq⟩
theorem cx0_l {outer : List Env} {H : Hp} {s s' : Shared} {u : Value} (h : L2.CX P w outer H s (fun _ _ _ => False) u s') : False := cx_false h
theorem cx0_n {outer : List Env} {H : Hp} {s s' : Shared} {u : Value} (h : L2N.CX P w outer H s (fun _ _ _ => False) u s') : False := cx_false (n_to_l h)
theorem pmk_w {X : Cx} {e : Expr} {t : L2.St → Hp → XK → Prop} (h : L2N.PMk X e t) : L2.PMk X e t := fun pins s σ H Q I q => thn (h pins s σ H Q I q) fun u s' ⟨a, oe, vs, sI, H', cls, d, e1, J, k, n1, g1, z, r⟩ => ⟨a, oe, vs, sI, H', cls, d, e1, J, k, n1, g1, z.zc, r⟩
/-- the two sorts of contexts of a def's body -/
def cxF (P : Program) (w : World) (n : Bool) : CXT := match n with
  | true => L2N.CX P w
  | false => L2.CX P w
/-- a def that the checker takes keeps its promise -/
theorem def_ok {defs : List MDef} {consts : List (Str × D)} {fns : List He.DefD} {excs : List Str} {nfl : List Bool} (G : Pg defs consts K mg fns) (GE : ExF P xs excs K mg ca)
    (chk : ∀ (i : Nat) (d : MDef) (dd : He.DefD), defs[i]? = some d → fns[i]? = some dd → chkDef xs defs consts excs nfl i d dd.scope dd.body = true) :
    ∀ (i : Nat) (d : MDef), defs[i]? = some d → ∀ (f : Addr) (fd : FuncData) (dd : He.DefD), fns[i]? = some dd → FunD K dd.name dd.qual dd.params dd.body dd.scope [] [] f fd → FnOk P w K mg base (cxF P w (nfOf nfl i)) (i + 9) f fd (d.N.take d.np) (spF K ca d.np (phi xs defs (i + 1) i)) := by
  intro i
  induction i using Nat.strongRecOn with
  | ind i ih =>
    intro d hd f fd dd hdd F
    have c := chk i d dd hd hdd
    unfold chkDef at c
    obtain ⟨c1, c⟩ := bool2 c
    obtain ⟨c2, c⟩ := bool2 c
    obtain ⟨c3, c⟩ := bool2 c
    obtain ⟨c4, c⟩ := bool2 c
    obtain ⟨c5, c⟩ := bool2 c
    obtain ⟨c6, c⟩ := bool2 c
    obtain ⟨c7, c8⟩ := bool2 c
    have kd : dd.scope.kind = .function := by
      split at c1
      · assumption
      · cases c1
    have c5 := of_decide_eq_true c5
    have S : FnScope d.N (d.N.take d.np) dd.scope := by
      refine ⟨kd, bnot c2, bnot c3, of_decide_eq_true c4, ?_, fun x hx => ?_, fun y hy e => ?_⟩
      · rw [List.length_take]
        congr 1
        omega
      · have := List.all_eq_true.mp c6 x hx
        unfold parOk at this
        split at this
        · exact .inl (by assumption)
        · exact .inr (by assumption)
        · cases this
      · have := List.all_eq_true.mp c7 y hy
        rw [e] at this
        cases this
    have lenP : (d.N.take d.np).length = d.np := by rw [List.length_take]; omega
    -- the defs below, in either sort
    have low : ∀ g, g < i → ∀ x n, (defs.map (fun (d : MDef) => (d.name, d.np)))[g]? = some (x, n) → ∃ (f' : Addr) (fd' : FuncData) (ps : List Str), mg x = some (.ref f') ∧ PySem.W.keepIn K (.ref f') = true ∧ ps.length = n ∧ Binds K fd' ps [] ∧
        FnOk P w K mg base (cxF P w (nfOf nfl g)) (i + 8) f' fd' ps (spF K ca n (phi xs defs i g)) := fun g hg x n hx => by
      rw [List.getElem?_map] at hx
      cases hg' : defs[g]? with
      | none => rw [hg'] at hx; cases hx
      | some dg =>
        rw [hg'] at hx
        cases hx
        obtain ⟨f', fd', dd', e1, e2, F', B'⟩ := G.fn g dg hg'
        have ok := ih g hg dg hg' f' fd' dd' e1 F'
        rw [← phi_lt hg] at ok
        have cg := chk g dg dd' hg' e1
        unfold chkDef at cg
        have cg5 := of_decide_eq_true (bool2 (bool2 (bool2 (bool2 (bool2 cg).2).2).2).2).1
        exact ⟨f', fd', _, e2, F'.kp, by rw [List.length_take]; omega, B', ok.mono (by omega)⟩
    have lowN : ∀ g, g < i → nfOf nfl g = true → ∀ x n, (defs.map (fun (d : MDef) => (d.name, d.np)))[g]? = some (x, n) → ∃ (f' : Addr) (fd' : FuncData) (ps : List Str), mg x = some (.ref f') ∧ PySem.W.keepIn K (.ref f') = true ∧ ps.length = n ∧ Binds K fd' ps [] ∧
        FnOk P w K mg base (L2N.CX P w) (i + 8) f' fd' ps (spF K ca n (phi xs defs i g)) := fun g hg hn x n hx => by
      obtain ⟨f', fd', ps, a1, a2, a3, a4, a5⟩ := low g hg x n hx
      rw [hn] at a5
      exact ⟨f', fd', ps, a1, a2, a3, a4, a5⟩
    have lowL : ∀ g, g < i → ∀ x n, (defs.map (fun (d : MDef) => (d.name, d.np)))[g]? = some (x, n) → ∃ (f' : Addr) (fd' : FuncData) (ps : List Str), mg x = some (.ref f') ∧ PySem.W.keepIn K (.ref f') = true ∧ ps.length = n ∧ Binds K fd' ps [] ∧
        FnOk P w K mg base (L2.CX P w) (i + 8) f' fd' ps (spF K ca n (phi xs defs i g)) := fun g hg x n hx => by
      obtain ⟨f', fd', ps, a1, a2, a3, a4, a5⟩ := low g hg x n hx
      cases hn : nfOf nfl g with
      | true => rw [hn] at a5; exact ⟨f', fd', ps, a1, a2, a3, a4, fn_weak a5⟩
      | false => rw [hn] at a5; exact ⟨f', fd', ps, a1, a2, a3, a4, a5⟩
    refine F.ok S (fun vs H Q E h => ?_) (fun cdv A outer s H vs Q E hr h => ⟨tSs xs (phi xs defs i) ca K d.body E, ?_, ?_⟩)
    · obtain ⟨ds, ρ, hh, hl, _⟩ := h
      rw [hl, lenP]
    · cases hn : nfOf nfl i with
      | true =>
        have L : Live (L2N.CX P w) (ctxOf defs consts excs nfl i d dd.scope) (phi xs defs i) ca (cxOf (L2N.CX P w) P w K mg base d.N dd.qual dd.scope f cdv A outer s H E) :=
          ⟨rfl, of_decide_eq_true c4, fun x k e _ => e, fun x e => absurd e (names_free c7 x), fun _ _ => rfl, rfl, hr, G.blt, fun g x n hg hx hfl => lowN g hg (by
            have hfl : (!nfOf nfl i || nfOf nfl g) = true := hfl
            rw [hn] at hfl; simpa using hfl) x n hx, fun _ _ _ _ _ => cx0_n, G.con⟩
        exact sndSs d.body ⟨L, ⟨fun σ => L2N.passAt (L2N.takes_of rfl rfl rfl rfl) σ, fun e t pos h => L2N.ps_raise rfl (L2N.takes_of rfl rfl rfl rfl) h⟩, GE, fun z => (by
          have z : (!nfOf nfl i) = true := z
          rw [hn] at z; cases z), PassesOwn.leaving, kd⟩ c8
      | false =>
        have L : Live (L2.CX P w) (ctxOf defs consts excs nfl i d dd.scope) (phi xs defs i) ca (cxOf (L2.CX P w) P w K mg base d.N dd.qual dd.scope f cdv A outer s H E) :=
          ⟨rfl, of_decide_eq_true c4, fun x k e _ => e, fun x e => absurd e (names_free c7 x), fun _ _ => rfl, rfl, hr, G.blt, fun g x n hg hx _ => lowL g hg x n hx, fun _ _ _ _ _ => cx0_l, G.con⟩
        have LN : Live (L2N.CX P w) { ctxOf defs consts excs nfl i d dd.scope with fl := nfOf nfl } (phi xs defs i) ca (cxOf (L2.CX P w) P w K mg base d.N dd.qual dd.scope f cdv A outer s H E) :=
          ⟨rfl, of_decide_eq_true c4, fun x k e _ => e, fun x e => absurd e (names_free c7 x), fun _ _ => rfl, rfl, hr, G.blt, fun g x n hg hx hfl => lowN g hg hfl x n hx, fun _ _ _ _ _ => cx0_n, G.con⟩
        exact sndSs d.body ⟨L, ⟨fun σ => L2.passAt (L2.takes_of rfl rfl rfl rfl) σ, fun e t pos h => L2.ps_raise rfl (L2.takes_of rfl rfl rfl rfl) (pmk_w h)⟩, GE,
          fun _ => ⟨rfl, rfl, rfl, L2.takes_of rfl rfl rfl rfl, LN, fun hd => PassesOwnAt.leaving⟩, PassesOwn.leaving, kd⟩ c8
    · obtain ⟨ds, ρ, hh, hl, hR, t, p⟩ := h
      have hl2 := t.length
      rw [phi_at hd] at p
      unfold runDef at p
      rw [if_pos (by omega)] at p
      have p := po_leave hR p
      refine ⟨ρ, _, hh, hR, ?_, (p.bind (Rl := RlS K) anti_D).imp ?_⟩
      · have := start_en (N := d.N) (np := d.np) t
        rw [show ds.length = d.np by omega] at this
        exact this
      · intro sv H1 ⟨⟨fl, en2⟩, ρ1, h1, g, r1, rs, p1⟩
        cases fl with
        | nx =>
          have z := fun v rv => (show Po K ca (RlD K) ρ1 H1 E (.ok .non h1) Q from p1).at (v := v) r1 rv
          cases sv <;> first
          | exact rs.elim
          | exact z V.non rfl
        | rt dv =>
          have z := fun v rv => (show Po K ca (RlD K) ρ1 H1 E (.ok dv h1) Q from p1).at (v := v) r1 rv
          cases sv <;> first
          | exact rs.elim
          | exact z _ rs
        | bk => exact p1.elim
        | ct => exact p1.elim
end
end Mp
set_option Elab.async false
set_option linter.all false
set_option maxRecDepth 100000
set_option maxHeartbeats 2000000
/-! MpH: the head's Hook: defs, constants, own exceptions -/
namespace Mp
open PySem PySem.Spec PyProof.Rows L2 PySem.MpX

/-! ### an own exception's class, its __init__ -/
/-- one own exception: its name, its __init__ (if its fields are one) -/
structure ExD where
  name : Str
  fld : Option Str
  qual : Str
  args : Arguments
  body : List Stmt
  scope : Scope
abbrev XV : Type := Option (Str × Str × Arguments × FuncBody × Scope × Addr × List Str × Addr)
def iAd (K : PySem.W.Frag) (x : Str) : Addr := He.ma K (He.ga K x) "__init__"
def xW (K : PySem.W.Frag) (d : ExD) : XV := match d.fld with
  | none => none
  | some _ => (match K.lookup (iAd K d.name) with
    | some ⟨_, _, .func fd, _⟩ => some (fd.name, fd.qualname, fd.params, fd.body, fd.scope, fd.globals, fd.closure.map (·.1), fd.builtins)
    | _ => none)
def ExD.val (d : ExD) : XV := match d.fld with
  | none => none
  | some _ => some ("__init__", d.qual, d.args, .stmts d.body, d.scope, mainGlobals, ["__class__"], builtinsNs)
def clsBK (K : PySem.W.Frag) (C : Addr) : Bool := match K.lookup C with
  | some ⟨c, _, .cls cd, sl⟩ => (match cd.mro, sl.toList with
    | C' :: bm, [_, _, _, _, k4, _] => decide (c = .type "type") && (decide (C' = .ref C) && (decide (k4 = some (.builtin "ValueError.__new__")) && (!cd.hasDel && (cd.hasDict && HandSPX.refsVE bm))))
    | _, _ => false)
  | _ => false
theorem clsBK_ok {K : PySem.W.Frag} {C : Addr} (h : clsBK K C = true) : ∃ nm q N bs bm sn sub ab col dd k0 k1 k2 k3 k5, K.lookup C = some (excClassObj nm q C N bs bm true sn sub ab col dd k0 k1 k2 k3 k5 "ValueError.__new__") ∧ HandSPX.refsVE bm = true := by
  unfold clsBK at h
  split at h
  · rename_i c dd cd sl hl
    split at h
    · rename_i C' bm k0 k1 k2 k3 k4 k5 e1 e2
      obtain ⟨h1, h⟩ := bool2 h
      obtain ⟨h2, h⟩ := bool2 h
      obtain ⟨h3, h⟩ := bool2 h
      obtain ⟨h4, h⟩ := bool2 h
      obtain ⟨h5, h6⟩ := bool2 h
      replace h1 := of_decide_eq_true h1
      replace h2 := of_decide_eq_true h2
      replace h3 := of_decide_eq_true h3
      replace h4 := bnot h4
      obtain ⟨nm, bs, mro, N, q, hdct, sn, sub, ab, col, hdel⟩ := cd
      obtain ⟨sl⟩ := sl
      simp only at e1 e2 h4 h5
      subst e1 e2 h1 h2 h3 h4 h5
      exact ⟨nm, q, N, bs, bm, sn, sub, ab, col, dd, k0, k1, k2, k3, k5, hl, h6⟩
    · cases h
  · cases h
def codB (K : PySem.W.Frag) (file : Str) (cd : Value) : Bool := match cd with
  | .ref c => (match K.lookup c with
    | some ⟨_, _, .fields vs, _⟩ => (match (vs[2]? : Option Value) with
      | some (.str f _) => file == f
      | _ => false)
    | _ => false)
  | _ => false
def celB (K : PySem.W.Frag) (C : Addr) (cl : List (Str × Addr)) : Bool := match cl with
  | [(_, cc)] => (match K.lookup cc with
    | some ⟨_, _, .cell (some v), _⟩ => decide (v = .ref C)
    | _ => false)
  | _ => false
def iniB (K : PySem.W.Frag) (file : Str) (C fI : Addr) (qual : Str) : Bool := match K.lookup fI with
  | some ⟨_, _, .func fd, _⟩ => decide (fd.defaults = .none) && (decide (fd.kwdefaults = .none) && (PySem.W.codeIn K fd.code qual && (codB K file fd.code && celB K C fd.closure)))
  | _ => false
/-- of each class -/
def exB0 (K : PySem.W.Frag) (C : Addr) : Bool :=
  decide (PySem.W.findIn K (.ref C) "__class__" = some (some (.builtin "object.__class__"))) && (decide (PySem.W.specialIn K (.builtin "object.__class__") "__get__" = some (some (.builtin "getset_descriptor.__get__"))) && (decide (PySem.W.takesIn K (.builtin "object.__class__") = some true) &&
  (decide (PySem.W.mroIn K C (.type "object") = some true) && L2.xfB K C)))
/-- of a class with one field -/
def exB1 (K : PySem.W.Frag) (file : Str) (C fI : Addr) (f qual : Str) : Bool :=
  clsBK K C && (decide (PySem.W.findIn K (.ref C) "__setattr__" = some (some (.builtin "object.__setattr__"))) && (decide (PySem.W.findIn K (.ref C) f = some none) && (decide (PySem.W.findIn K (.ref C) "__init__" = some (some (.ref fI))) &&
  (decide (PySem.W.typeIn K (.ref fI) = some (.type "function")) && (PySem.W.keepIn K (.ref C) && (decide (PySem.W.subIn K (.ref C) (.type "BaseException") = some true) && (decide (PySem.W.subIn K (.ref C) (.type "ValueError") = some true) &&
  (decide (PySem.W.typeIn K (.ref C) = some (.type "type")) && (iniB K file C fI qual && (decide (PySem.W.mroIn K C (.ref C) = some true) && (decide (PySem.W.ks_superIn K C C "__init__" = some (some (.builtin "ValueError.__init__"))) && decide (PySem.W.nsIn K cStatics "thirdparty.any" = some none))))))))))))
def ExD.ok (K : PySem.W.Frag) (file : Str) (d : ExD) : Bool := exB0 K (He.ga K d.name) && (match d.fld with
  | none => true
  | some f => exB1 K file (He.ga K d.name) (iAd K d.name) f d.qual)
/-- the text's form -/
def ExT (d : ExD) (f : Str) : Prop := ∃ (txt : Str) (k : Nat) (p1 p2 : Pos) (q : Nat → Pos), d.args = exA f p1 p2 ∧ d.body = exB f txt k q ∧ d.scope = exS f ∧ ((q 2).endLine == (q 4).line) = true
def ExB (f : Str) : Prop := ∀ (qual txt : Str) (k : Nat) (p1 p2 : Pos) (q : Nat → Pos) (doc pm : Value) (an : Option Addr) (ct : Value) (s : Shared) (a b : Value) (cda cc : Addr), BindsTo s (PySem.W.ksFn "__init__" qual (exA f p1 p2) (exB f txt k q) (exS f) .none .none doc pm an (.ref cda) ct cc) ⟨[a, b], []⟩ [("self", a), (f, b)]
def fB (f : Str) : Bool := !(("self" : Str) == f) && (!(("__class__" : Str) == f) && (!(("super" : Str) == f) && (!(f == ("__debug__" : Str)) && !(f == ("self" : Str)))))
theorem exB0_ok {K : PySem.W.Frag} {C : Addr} (h : exB0 K C = true) : ExcC K C ∧ XfC K C := by
  unfold exB0 at h
  obtain ⟨h1, h⟩ := bool2 h
  obtain ⟨h2, h⟩ := bool2 h
  obtain ⟨h3, h⟩ := bool2 h
  obtain ⟨h4, h5⟩ := bool2 h
  have x := xfB_ok h5
  exact ⟨⟨x.ga, x.gg, x.exC, x.hdC, of_decide_eq_true h1, of_decide_eq_true h2, of_decide_eq_true h3, of_decide_eq_true h4⟩, x⟩
theorem codB_ok {K : PySem.W.Frag} {file : Str} {v : Value} (h : codB K file v = true) : ∃ cda, v = .ref cda ∧ ∃ ccl cdd vs ccs file' tf, K.lookup cda = some ⟨ccl, cdd, .fields vs, ccs⟩ ∧ vs[2]? = some (.str file' tf) ∧ (file == file') = true := by
  unfold codB at h
  split at h
  · rename_i c
    split at h
    · rename_i a b vs d hl
      split at h
      · rename_i f t hv
        exact ⟨c, rfl, _, _, _, _, f, t, hl, hv, h⟩
      · cases h
    · cases h
  · cases h
theorem celB_ok {K : PySem.W.Frag} {C : Addr} {cl : List (Str × Addr)} (h : celB K C cl = true) : ∃ x cc, cl = [(x, cc)] ∧ ∃ c1 c2 c3, K.lookup cc = some ⟨c1, c2, .cell (some (.ref C)), c3⟩ := by
  unfold celB at h
  split at h
  · rename_i x cc
    split at h
    · rename_i a b v d hl
      have h := of_decide_eq_true h
      subst h
      exact ⟨x, cc, rfl, _, _, _, hl⟩
    · cases h
  · cases h
theorem ex_ok {P : Program} {K : PySem.W.Frag} {d : ExD} {f : Str} (hf : d.fld = some f) (hv : xW K d = d.val) (hk : d.ok K P.main.file = true) (T : ExT d f) (B : ExB f) (ff : fB f = true) (ht : (P.main.scope.names.lookup ("super" : Str)).isSome = false) :
    ∃ cda cc, ExTxt P K f (He.ga K d.name) (iAd K d.name) cda cc := by
  unfold ExD.ok at hk
  obtain ⟨_, hk⟩ := bool2 hk
  simp only [hf] at hk
  unfold exB1 at hk
  obtain ⟨h1, hk⟩ := bool2 hk
  obtain ⟨h2, hk⟩ := bool2 hk
  obtain ⟨h3, hk⟩ := bool2 hk
  obtain ⟨h4, hk⟩ := bool2 hk
  obtain ⟨h5, hk⟩ := bool2 hk
  obtain ⟨h6, hk⟩ := bool2 hk
  obtain ⟨h7, hk⟩ := bool2 hk
  obtain ⟨h8, hk⟩ := bool2 hk
  obtain ⟨h9, hk⟩ := bool2 hk
  obtain ⟨h10, hk⟩ := bool2 hk
  obtain ⟨h11, hk⟩ := bool2 hk
  obtain ⟨h12, h13⟩ := bool2 hk
  unfold iniB at h10
  unfold xW ExD.val at hv
  simp only [hf] at hv
  split at h10
  · rename_i oc od fd osl hl
    rw [hl] at hv
    obtain ⟨n1, n2, n3, n4, n5, n6, n7, n8, n9, n10, n11, n12, n13, n14, n15⟩ := fd
    simp only [Option.some.injEq, Prod.mk.injEq] at hv
    obtain ⟨v1, v2, v3, v4, v5, v6, v7, v8⟩ := hv
    simp only at h10
    obtain ⟨g1, h10⟩ := bool2 h10
    obtain ⟨g2, h10⟩ := bool2 h10
    obtain ⟨g3, h10⟩ := bool2 h10
    obtain ⟨g4, g5⟩ := bool2 h10
    replace g1 := of_decide_eq_true g1
    replace g2 := of_decide_eq_true g2
    obtain ⟨cda, e1, q1⟩ := codB_ok g4
    obtain ⟨x, cc, e2, q2⟩ := celB_ok g5
    subst v1 v2 v3 v4 v5 v6 v8 g1 g2 e1 e2
    simp only [List.map_cons, List.map_nil, List.cons.injEq, and_true] at v7
    subst v7
    obtain ⟨txt, k, p1, p2, q, t1, t2, t3, t4⟩ := T
    rw [t1, t2, t3] at hl
    unfold fB at ff
    obtain ⟨f1, ff⟩ := bool2 ff
    obtain ⟨f2, ff⟩ := bool2 ff
    obtain ⟨f3, ff⟩ := bool2 ff
    obtain ⟨f4, f5⟩ := bool2 ff
    exact ⟨cda, cc, ⟨clsBK_ok h1, of_decide_eq_true h2, of_decide_eq_true h3, of_decide_eq_true h4, of_decide_eq_true h5, h6, of_decide_eq_true h7, of_decide_eq_true h8, of_decide_eq_true h9,
      ⟨oc, od, _, _, _, _, osl, d.qual, txt, k, p1, p2, q, hl, g3, t4⟩, q1, q2, of_decide_eq_true h11, of_decide_eq_true h12, of_decide_eq_true h13, ht, bnot f1, bnot f2, bnot f3, bnot f4, bnot f5, fun qual txt k p1 p2 q doc pm an ct s a b => B qual txt k p1 p2 q doc pm an ct s a b _ _⟩⟩
  · cases h10
/-! ### the Hook -/
def tblB (K : PySem.W.Frag) (xs : XS) (ca : Nat → Addr) : Bool := (List.range xs.n).all fun j => decide (PySem.W.kitOne K (.ref (ca j)) (.type "ValueError") = some (xs.isx j xs.n)) && (List.range xs.n).all fun k =>
  decide (PySem.W.exmOne K (.ref (ca j)) (.ref (ca k)) = some (xs.isx j k)) && decide (PySem.W.kitOne K (.ref (ca j)) (.ref (ca k)) = some (xs.isx j k))
def caOf (K : PySem.W.Frag) (ex : List ExD) (k : Nat) : Addr := He.ga K ((ex.map (·.name)).getD k "")
abbrev AlM : Type := Bool × List He.FnW × List XV
section
variable (fa : List He.Fa) (fn : List He.DefD) (ex : List ExD) (file : Str) (xs : XS)
def obsM (K : PySem.W.Frag) : AlM := ((fa.all fun f => f.ok K) && ((fn.all fun d => d.ok K) && ((ex.all fun d => d.ok K file) && tblB K xs (caOf K ex))), fn.map fun d => He.fnW K d.at_, ex.map fun d => xW K d)
def valM : AlM := (true, fn.map He.DefD.val, ex.map ExD.val)
def SaysM (K : PySem.W.Frag) : Prop := obsM fa fn ex file xs K = valM fn ex
def asM (g : Addr → Option Obj) (n : Nat) : List Addr := cStatics :: He.asD g n
def obsMG (n : Nat) (g : Addr → Option Obj) : AlM := obsM fa fn ex file xs (He.frG g (asM g n))
def hookM (n : Nat) : PySem.W.Hook where
  α := AlM
  obs := fun s => obsMG fa fn ex file xs n s.heap.get?
  val := fun _ => valM fn ex
  says := fun _ h => ∃ K : PySem.W.Frag, K.In h ∧ SaysM fa fn ex file xs K
  of := fun _ _ e => ⟨_, He.frG_in, e⟩
  keeps := fun _ _ _ ⟨K, hK, c⟩ k => ⟨K, PySem.W.Frag.In.keeps hK k, c⟩
end
theorem obsMG_eq {fa : List He.Fa} {fn : List He.DefD} {ex : List ExD} {file : Str} {xs : XS} {n : Nat} {g : Addr → Option Obj} {s : Shared} (h : ∀ a, g a = s.heap.get? a) : obsMG fa fn ex file xs n g = (hookM fa fn ex file xs n).obs s := by
  have e : g = s.heap.get? := funext h
  rw [e] <;> rfl
def conF (q : Str × D) : He.Fa := match q.2 with
  | .int i => .int q.1 i
  | .str s => .str q.1 s
  | _ => .keep q.1
/-- the facts asked for -/
def faOf (defs : List MDef) (consts : List (Str × D)) (ex : List ExD) : List He.Fa :=
  (defs.map fun d => .glo d.name) ++ ((ex.map fun d => .glo d.name) ++ (((("super" : Str) :: ("ValueError" : Str) :: bltNames).map .free) ++ consts.map conF))
def atB : List MDef → List He.DefD → Bool
  | [], [] => true
  | d :: ds, e :: es => decide (e.at_ = (d.name, none)) && ((e.dfl.isEmpty && e.kwd.isEmpty) && atB ds es)
  | _, _ => false
/-- how a def's arguments are bound -/
def Bd (d : MDef) (e : He.DefD) : Prop := ∀ (kV doc pm : Value) (an : Option Addr) (cdv ct : Value) (us : List Value), us.length = (d.N.take d.np).length → bindArgs (PySem.W.fnOf e.name e.qual e.params e.body e.scope .none kV doc pm an cdv ct) ⟨us, []⟩ = pure ((d.N.take d.np).zip us)
def AllB : List MDef → List He.DefD → Prop
  | [], [] => True
  | d :: ds, e :: es => Bd d e ∧ AllB ds es
  | _, _ => False
section
variable {fa : List He.Fa} {fn : List He.DefD} {ex : List ExD} {file : Str} {xs : XS} {K : PySem.W.Frag} {defs : List MDef} {consts : List (Str × D)} {h : Heap} {mg : Str → Option Value}
theorem SaysM.fact (c : SaysM fa fn ex file xs K) {f : He.Fa} (h : f ∈ fa) : f.ok K = true := by
  have c1 := (bool2 (congrArg (fun z : AlM => z.1) c)).1
  exact List.all_eq_true.mp c1 f h
theorem SaysM.def_ (c : SaysM fa fn ex file xs K) (i : Nat) {d : He.DefD} (h : fn[i]? = some d) : ∃ fd, FunD K d.name d.qual d.params d.body d.scope (d.dvs K) (d.kws K) (He.fAd K d.at_) fd := by
  have c2 := (bool2 (bool2 (congrArg (fun z : AlM => z.1) c)).2).1
  have e : fn.map (fun d => He.fnW K d.at_) = fn.map He.DefD.val := congrArg (fun z : AlM => z.2.1) c
  have e2 : (fn.map fun d => He.fnW K d.at_)[i]? = (fn.map He.DefD.val)[i]? := by rw [e]
  rw [List.getElem?_map, List.getElem?_map, h] at e2
  exact He.DefD.funD (Option.some.inj e2) (List.all_eq_true.mp c2 d (List.mem_of_getElem? h))
theorem SaysM.exc (c : SaysM fa fn ex file xs K) (i : Nat) {d : ExD} (h : ex[i]? = some d) : xW K d = d.val ∧ d.ok K file = true := by
  have c2 := (bool2 (bool2 (bool2 (congrArg (fun z : AlM => z.1) c)).2).2).1
  have e : ex.map (fun d => xW K d) = ex.map ExD.val := congrArg (fun z : AlM => z.2.2) c
  have e2 : (ex.map fun d => xW K d)[i]? = (ex.map ExD.val)[i]? := by rw [e]
  rw [List.getElem?_map, List.getElem?_map, h] at e2
  exact ⟨Option.some.inj e2, List.all_eq_true.mp c2 d (List.mem_of_getElem? h)⟩
theorem SaysM.tbl (c : SaysM fa fn ex file xs K) : tblB K xs (caOf K ex) = true := (bool2 (bool2 (bool2 (congrArg (fun z : AlM => z.1) c)).2).2).2
theorem atB_at : ∀ {ds : List MDef} {es : List He.DefD} {i : Nat} {d : MDef}, atB ds es = true → ds[i]? = some d → ∃ e, es[i]? = some e ∧ e.at_ = (d.name, none) ∧ e.dfl = [] ∧ e.kwd = []
  | [], [], i, d, _, h2 => by simp at h2
  | d0 :: ds, e0 :: es, i, d, h1, h2 => by
    simp only [atB] at h1
    obtain ⟨c1, c⟩ := bool2 h1
    obtain ⟨c2, c3⟩ := bool2 c
    obtain ⟨c4, c5⟩ := bool2 c2
    cases i with
    | zero =>
      cases h2
      exact ⟨e0, rfl, of_decide_eq_true c1, List.isEmpty_iff.mp c4, List.isEmpty_iff.mp c5⟩
    | succ i => exact atB_at (ds := ds) (es := es) (i := i) c3 (by simpa using h2)
  | [], _ :: _, _, _, h1, _ => by cases h1
  | _ :: _, [], _, _, h1, _ => by cases h1
theorem allB_at : ∀ {ds : List MDef} {es : List He.DefD} {i : Nat} {d : MDef} {e : He.DefD}, AllB ds es → ds[i]? = some d → es[i]? = some e → Bd d e
  | [], [], i, d, e, _, h2, _ => by simp at h2
  | d0 :: ds, e0 :: es, i, d, e, h1, h2, h3 => by
    cases i with
    | zero =>
      cases h2; cases h3
      exact h1.1
    | succ i => exact allB_at h1.2 (by simpa using h2) (by simpa using h3)
  | [], _ :: _, _, _, _, h1, _, _ => h1.elim
  | _ :: _, [], _, _, _, h1, _, _ => h1.elim
theorem pg_of (X : K.In h) (G : h.Ns mainGlobals mg) (c : SaysM (faOf defs consts ex) fn ex file xs K) (ha : atB defs fn = true) (hb : AllB defs fn) (hc : (consts.all fun q => match q.2 with
    | .int _ => true
    | .str _ => true
    | _ => false) = true) : Pg defs consts K mg fn := by
  refine ⟨fun x hx => ?_, fun x d hd => ?_, fun i d hd => ?_⟩
  · refine He.free_ok X G (c.fact (f := .free x) ?_)
    unfold faOf
    refine List.mem_append_right _ (List.mem_append_right _ (List.mem_append_left _ (List.mem_map.mpr ⟨x, ?_, rfl⟩)))
    exact List.mem_cons_of_mem _ (List.mem_cons_of_mem _ hx)
  · have hm := PySem.mem_of_lookup hd
    have h1 := List.all_eq_true.mp hc _ hm
    have hf : conF (x, d) ∈ faOf defs consts ex := by
      unfold faOf
      exact List.mem_append_right _ (List.mem_append_right _ (List.mem_append_right _ (List.mem_map.mpr ⟨(x, d), hm, rfl⟩)))
    cases d with
    | int i =>
      obtain ⟨t, e⟩ := He.int_ok X G (c.fact hf)
      exact ⟨.int i, _, rfl, e, t, rfl⟩
    | str s =>
      obtain ⟨t, e⟩ := He.str_ok X G (c.fact hf)
      exact ⟨.str s, _, rfl, e, t, rfl⟩
    | _ => cases h1
  · obtain ⟨e, he, h1, h2, h3⟩ := atB_at ha hd
    obtain ⟨fd, F⟩ := c.def_ i he
    have q1 : e.dvs K = [] := by unfold He.DefD.dvs; rw [h2]; rfl
    have q2 : e.kws K = [] := by unfold He.DefD.kws; rw [h3]; rfl
    rw [q1, q2, h1] at F
    refine ⟨He.ga K d.name, fd, e, he, ?_, F, F.bindsN (allB_at hb hd he)⟩
    refine He.glo_ok X G (c.fact (f := .glo d.name) ?_)
    unfold faOf
    exact List.mem_append_left _ (List.mem_map.mpr ⟨d, List.mem_of_getElem? hd, rfl⟩)
theorem exf_of {P : Program} (X : K.In h) (G : h.Ns mainGlobals mg) (c : SaysM (faOf defs consts ex) fn ex P.main.file xs K) (hn : ex.length = xs.n) (hs : (P.main.scope.names.lookup ("super" : Str)).isSome = false)
    (ht : ∀ (k : Nat) (d : ExD) (f : Str), ex[k]? = some d → xs.flds k = [f] → d.fld = some f ∧ ExT d f ∧ ExB f ∧ fB f = true) : ExF P xs (ex.map (·.name)) K mg (caOf K ex) := by
  have fr : ∀ x, x ∈ (("super" : Str) :: ("ValueError" : Str) :: bltNames) → mg x = none := fun x hx => by
    refine He.free_ok X G (c.fact (f := .free x) ?_)
    unfold faOf
    exact List.mem_append_right _ (List.mem_append_right _ (List.mem_append_left _ (List.mem_map.mpr ⟨x, hx, rfl⟩)))
  have tb := c.tbl
  unfold tblB at tb
  have tb1 : ∀ j, j < xs.n → _ := fun j hj => List.all_eq_true.mp tb j (List.mem_range.mpr hj)
  have tb2 : ∀ j k, j < xs.n → k < xs.n → _ := fun j k hj hk => List.all_eq_true.mp (bool2 (tb1 j hj)).2 k (List.mem_range.mpr hk)
  have at_ : ∀ k, k < xs.n → ∃ d, ex[k]? = some d ∧ caOf K ex k = He.ga K d.name := fun k hk => by
    have hk' : k < ex.length := by omega
    refine ⟨ex[k], List.getElem?_eq_getElem hk', ?_⟩
    unfold caOf
    rw [List.getD_eq_getElem?_getD, List.getElem?_map, List.getElem?_eq_getElem hk']; rfl
  refine ⟨fun k x hx => ?_, by simpa using hn, fun k f hk hf => ?_, fun j hj => ?_, fun j k hj hk => of_decide_eq_true (bool2 (tb2 j k hj hk)).1, fun j k hj hk => of_decide_eq_true (bool2 (tb2 j k hj hk)).2, fun j hj => of_decide_eq_true (bool2 (tb1 j hj)).1, fr _ (List.mem_cons_self ..), fr _ (List.mem_cons_of_mem _ (List.mem_cons_self ..))⟩
  · have e : caOf K ex k = He.ga K x := by
      unfold caOf
      rw [List.getD_eq_getElem?_getD, hx]; rfl
    rw [e]
    refine He.glo_ok X G (c.fact (f := .glo x) ?_)
    rw [List.getElem?_map] at hx
    obtain ⟨d, hd, rfl⟩ := Option.map_eq_some_iff.mp hx
    unfold faOf
    exact List.mem_append_right _ (List.mem_append_left _ (List.mem_map.mpr ⟨d, List.mem_of_getElem? hd, rfl⟩))
  · obtain ⟨d, hd, e⟩ := at_ k hk
    obtain ⟨h1, h2, h3, h4⟩ := ht k d f hd hf
    obtain ⟨g1, g2⟩ := c.exc k hd
    obtain ⟨cda, cc, T⟩ := ex_ok h1 g1 g2 h2 h3 h4 hs
    exact ⟨_, cda, cc, e ▸ T⟩
  · obtain ⟨d, hd, e⟩ := at_ j hj
    obtain ⟨_, g2⟩ := c.exc j hd
    rw [e]
    exact exB0_ok (bool2 g2).1
end
/-- a law over a head by facts; what may be let out may lean on the world -/
theorem walk_M {l : PySem.W.OpenLaw} {n k : Nat} {q : Program} {loose : List Str} {XP : (Str → Option Value) → Heap → Prop} {YP : World → Heap → Prop} {d : DefRec} {CX : World → CXT} {x : Str}
    (lm : l.most = some n) (nl : n ≤ sizeLine) (df : d.params.defaults = []) (rm : Room k callerA)
    (G : ∀ (w : World) (mg : Str → Option Value) (fa : Addr) (h : Heap), YP w h → h.Ns mainGlobals mg → mg d.name = some (.ref fa) →
      ∃ (K : PySem.W.Frag) (fd : FuncData) (sp : Sp), K.In h ∧ (∀ (s : Shared) (u : Value), BindsTo s fd ⟨[u], []⟩ [(x, u)]) ∧
        (∀ (H : Hp) (a : Addr) (ns : List Int), ns.length ≤ n → Only H → SqL K H a (ns.map V.int) → sp [.ref a] H (fun v _ => v = .bl true) fun _ _ _ => False) ∧
        ∀ base : Heap, K.In base → base.Ns mainGlobals mg → FnOk l.prog w K mg base (CX w) k fa fd [x] sp)
    (no : ∀ (w : World) (H : Hp) (s : Shared) (e : Value) (s' : Shared), CX w [] H s (fun _ _ _ => False) e s' → False) :
    PySem.W.WalkO q loose XP YP l.row.toRowW d [] (fun f vs => PySem.call f vs) := by
  refine Att.attach_call lm df fun w s0 s1 mg mb fa o pm cd doc a vs ns gd yy ho hdd hcc gm obj iv len gs => ?_
  obtain ⟨K, fd, sp, inK, bnd, pr, fo⟩ := G w mg fa _ yy gd.T.g gm
  exact law_call inK gd.T.g gd.T.b gd.T.builtins gd.T.nolimit gs obj iv (Nat.le_trans len nl) rm fo bnd (fun H oh sq => pr H a ns len oh sq) fun H e s' => no w H s1 e s'
/-- the script's list is no cell -/
theorem sqf_of {K : PySem.W.Frag} {H : Hp} {a : Addr} {vs : List V} (o : Only H) (s : SqL K H a vs) : SqF K H a vs := by
  rcases s with (q | q) | q
  · rcases o a with z | ⟨_, _, z⟩ <;> rw [z] at q <;> cases q
  · exact .inl q
  · exact .inr q
theorem reps_int {K : PySem.W.Frag} {ρ : List Addr} {H : Hp} : ∀ ns : List Int, Reps K ρ H (ns.map .int) (ns.map V.int)
  | [] => rfl
  | n :: ns => ⟨.int n, _, rfl, rfl, reps_int ns⟩
/-- the law's promise -/
theorem law_sp {K : PySem.W.Frag} {ca : Nat → Addr} {F : List D → M D} {H : Hp} {a : Addr} {ns : List Int} (o : Only H) (s : SqL K H a (ns.map V.int)) (p : ∃ h, F [.fro (ns.map .int)] [] = .ok (.bl true) h) :
    spF K ca 1 F [.ref a] H (fun v _ => v = .bl true) fun _ _ _ => False := by
  obtain ⟨h, e⟩ := p
  refine ⟨[.fro (ns.map .int)], [], [], rfl, ⟨rfl, List.nodup_nil, fun _ _ _ z => by simp at z⟩, ⟨.ref a, [], rfl, ⟨a, _, rfl, sqf_of o s, reps_int ns⟩, rfl⟩, ?_⟩
  rw [e]
  intro ρ' H' v _ _ r
  exact r
end Mp
set_option Elab.async false
set_option linter.all false
set_option maxRecDepth 1000000
set_option maxHeartbeats 0
namespace Tx
open PySem Mp
def d0 : MDef := ⟨"_law_begin", 1, ["script", "cell"], [(.ret (.lst [(.comp [1] (.one 1) (.var 0) false (.cst .non) (.bi .int [(.var 1)])), (.cst (.int 0)), (.cst (.int 0)), (.cst (.int 7)), (.cst (.int 3))]))]⟩
def d1 : MDef := ⟨"_law_draw", 2, ["d", "many", "size", "found", "cell"], [(.ifs (.cmp .gt (.idx (.var 0) (.cst (.int 2))) (.cst (.int 0))) [(.asg 3 (.idx (.var 0) (.cst (.int 2)))), (.setI (.var 0) (.cst (.int 2)) (.bin .fdiv (.var 3) (.var 1))), (.ret (.bin .mod (.bi .int [(.var 3)]) (.var 1)))] []), (.asg 2 (.cst (.int 0))), (.ifs (.cmp .lt (.idx (.var 0) (.cst (.int 1))) (.sq .len (.idx (.var 0) (.cst (.int 0))))) [(.asg 4 (.idx (.idx (.var 0) (.cst (.int 0))) (.idx (.var 0) (.cst (.int 1))))), (.asg 2 (.bin .add (.bin .mul (.cst (.int 2)) (.bi .abs [(.var 4)])) (.bi .int [(.cmp .lt (.var 4) (.cst (.int 0)))])))] []), (.addI (.var 0) (.cst (.int 1)) (.cst (.int 1))), (.ifs (.cmp .ge (.var 2) (.bin .mul (.cst (.int 2)) (.bin .pow (.cst (.int 10)) (.cst (.int 18))))) [(.asg 3 (.bin .mod (.bi .int [(.bin .fdiv (.var 2) (.cst (.int 2)))]) (.bin .shl (.cst (.int 1)) (.cst (.int 6000))))), (.setI (.var 0) (.cst (.int 2)) (.bin .fdiv (.var 3) (.var 1))), (.ret (.bin .mod (.bi .int [(.var 3)]) (.var 1)))] []), (.setI (.var 0) (.cst (.int 3)) (.bin .mod (.bi .int [(.bin .add (.bin .add (.bin .add (.bin .mul (.idx (.var 0) (.cst (.int 3))) (.cst (.int 48271))) (.bin .mul (.bin .mod (.bi .int [(.var 2)]) (.cst (.int 2147483629))) (.cst (.int 16807)))) (.bin .mul (.idx (.var 0) (.cst (.int 1))) (.cst (.int 69621)))) (.cst (.int 11)))]) (.cst (.int 2147483647)))), (.ret (.bin .mod (.bi .int [(.bin .fdiv (.idx (.var 0) (.cst (.int 3))) (.cst (.int 16)))]) (.var 1)))]⟩
def d2 : MDef := ⟨"_law_pool", 0, ["text"], [(.asg 0 (.cst (.str "a b2 sum left r k0 carry z9z full tail n m8 aa busy cnt p t4 even2 ab1 head u v2 w lowest high mid "))), (.asg 0 (.bin .add (.var 0) (.cst (.str "s t e f g h i j k x y q7 deep turn gate l5 hold next1 o c0 d two zz1 near far9 last ring2 ")))), (.ret (.split (.bin .add (.var 0) (.cst (.str "aaaaaaa8 b c1 top2 net3 row col7 v"))) (.cst (.str " "))))]⟩
def d3 : MDef := ⟨"_law_rare", 2, ["d", "many"], [(.ret (.cmp .eq (.call 1 [(.var 0), (.var 1)]) (.bin .fdiv (.var 1) (.cst (.int 2)))))]⟩
def d4 : MDef := ⟨"_law_pop", 2, ["d", "row"], [(.ret (.popI (.var 1) (.call 1 [(.var 0), (.sq .len (.var 1))])))]⟩
def d5 : MDef := ⟨"_law_token", 1, ["d", "kind"], [(.asg 1 (.call 1 [(.var 0), (.cst (.int 4))])), (.ifs (.cmp .eq (.var 1) (.cst (.int 0))) [(.ret (.call 1 [(.var 0), (.cst (.int 9973))]))] []), (.ifs (.cmp .eq (.var 1) (.cst (.int 1))) [(.ret (.bin .sub (.cst (.int 9972)) (.call 1 [(.var 0), (.cst (.int 3))])))] []), (.ret (.call 1 [(.var 0), (.cst (.int 12))]))]⟩
def d6 : MDef := ⟨"_law_block", 3, ["d", "names", "phases", "high", "times", "k"], [(.asg 3 (.ite (.call 3 [(.var 0), (.cst (.int 7))]) (.cst (.int 61)) (.cst (.int 8)))), (.asg 4 (.sq .tuple (.comp [5] (.one 5) (.rng1 (.var 2)) false (.cst .non) (.call 1 [(.var 0), (.var 3)])))), (.ret (.tup [(.call 4 [(.var 0), (.var 1)]), (.var 4), (.tup [(.call 5 [(.var 0)]), (.call 5 [(.var 0)])])]))]⟩
def d7 : MDef := ⟨"_law_blocks", 3, ["d", "many", "phases", "names", "k"], [(.asg 3 (.call 2 [])), (.ret (.sq .tuple (.comp [4] (.one 4) (.rng1 (.var 1)) false (.cst .non) (.call 6 [(.var 0), (.var 3), (.bin .add (.cst (.int 1)) (.call 1 [(.var 0), (.var 2)]))]))))]⟩
def d8 : MDef := ⟨"_law_gcd", 2, ["one", "other", "step"], [(.par 0 1 (.bi .abs [(.var 0)]) (.bi .abs [(.var 1)])), (.for_ (.one 2) (.rng1 (.cst (.int 4000))) [(.ifs (.cmp .eq (.var 1) (.cst (.int 0))) [(.ret (.var 0))] []), (.par 0 1 (.var 1) (.bin .mod (.bi .int [(.var 0)]) (.var 1)))]), (.ret (.var 0))]⟩
def d9 : MDef := ⟨"_law_split", 3, ["d", "total", "phases", "row", "step", "k"], [(.asg 3 (.comp [5] (.one 5) (.rng1 (.var 2)) false (.cst .non) (.cst (.int 0)))), (.for_ (.one 4) (.rng1 (.var 1)) [(.asg 5 (.call 1 [(.var 0), (.var 2)])), (.ifs (.cmp .ge (.idx (.var 3) (.var 5)) (.cst (.int 12))) [(.asg 5 (.index (.var 3) (.sq .min (.var 3))))] []), (.setI (.var 3) (.var 5) (.bin .add (.idx (.var 3) (.var 5)) (.cst (.int 1))))]), (.ret (.sq .tuple (.var 3)))]⟩
def d10 : MDef := ⟨"_law_rates", 6, ["d", "source", "target", "cycles", "blocks", "most", "part", "often", "gives", "takes"], [(.asg 6 (.call 8 [(.idx (.var 3) (.var 1)), (.idx (.var 3) (.var 2))])), (.asg 7 (.bin .add (.cst (.int 1)) (.call 1 [(.var 0), (.var 5)]))), (.asg 8 (.call 9 [(.var 0), (.bin .mul (.var 7) (.bin .fdiv (.idx (.var 3) (.var 2)) (.var 6))), (.sq .len (.idx (.idx (.var 4) (.var 1)) (.cst (.int 1))))])), (.asg 9 (.call 9 [(.var 0), (.bin .mul (.var 7) (.bin .fdiv (.idx (.var 3) (.var 1)) (.var 6))), (.sq .len (.idx (.idx (.var 4) (.var 2)) (.cst (.int 1))))])), (.ret (.tup [(.var 8), (.var 9)]))]⟩
def d11 : MDef := ⟨"_law_start_many", 4, ["d", "mode", "backward", "full"], [(.ifs (.cmp .eq (.var 1) (.cst (.int 0))) [(.ifs (.var 2) [(.ret (.bin .add (.var 3) (.bin .mul (.call 1 [(.var 0), (.cst (.int 2))]) (.call 1 [(.var 0), (.cst (.int 3))]))))] []), (.ret (.bin .mul (.call 1 [(.var 0), (.cst (.int 2))]) (.call 1 [(.var 0), (.cst (.int 3))])))] []), (.ifs (.cmp .eq (.var 1) (.cst (.int 1))) [(.ifs (.var 2) [(.ret (.bi .max [(.cst (.int 0)), (.bin .sub (.var 3) (.call 1 [(.var 0), (.cst (.int 3))]))]))] []), (.ret (.bin .mul (.call 1 [(.var 0), (.cst (.int 2))]) (.call 1 [(.var 0), (.cst (.int 3))])))] []), (.ret (.call 1 [(.var 0), (.bin .add (.cst (.int 1)) (.bi .min [(.var 3), (.cst (.int 8))]))]))]⟩
def d12 : MDef := ⟨"_law_tokens", 2, ["d", "many", "k"], [(.ret (.sq .tuple (.comp [2] (.one 2) (.rng1 (.var 1)) false (.cst .non) (.call 5 [(.var 0)]))))]⟩
def d13 : MDef := ⟨"_law_graph", 6, ["d", "many", "queues", "phases", "most", "mode", "blocks", "cycles", "part", "one", "rows", "k", "counts", "full", "start", "ends", "gives", "takes"], [(.asg 6 (.call 7 [(.var 0), (.var 1), (.var 3)])), (.asg 7 (.comp [11] (.one 11) (.rng1 (.var 1)) false (.cst .non) (.bin .add (.cst (.int 1)) (.call 1 [(.var 0), (.var 4)])))), (.asg 8 (.cst (.int 0))), (.for_ (.one 9) (.var 7) [(.asg 8 (.call 8 [(.var 8), (.var 9)]))]), (.asg 7 (.comp [9] (.one 9) (.var 7) false (.cst .non) (.bin .fdiv (.var 9) (.var 8)))), (.asg 10 (.lst [])), (.for_ (.one 11) (.rng1 (.var 2)) [(.ifs (.cmp .lt (.var 11) (.bin .sub (.var 1) (.cst (.int 1)))) [(.asg 15 (.lst [(.bin .add (.var 11) (.cst (.int 1))), (.call 1 [(.var 0), (.bin .add (.var 11) (.cst (.int 1)))])])), (.ifs (.cmp .gt (.call 1 [(.var 0), (.cst (.int 3))]) (.cst (.int 0))) [(.asg 15 (.lst [(.idx (.var 15) (.cst (.int 1))), (.idx (.var 15) (.cst (.int 0)))]))] [])] [(.asg 15 (.lst [(.call 1 [(.var 0), (.var 1)]), (.call 1 [(.var 0), (.var 1)])]))]), (.asgT [16, 17] (.call 10 [(.var 0), (.idx (.var 15) (.cst (.int 0))), (.idx (.var 15) (.cst (.int 1))), (.var 7), (.var 6), (.bin .add (.cst (.int 1)) (.call 1 [(.var 0), (.cst (.int 2))]))])), (.asg 13 (.bin .mul (.sq .sum (.var 17)) (.idx (.var 7) (.idx (.var 15) (.cst (.int 1)))))), (.asg 14 (.call 11 [(.var 0), (.var 5), (.cmp .ge (.idx (.var 15) (.cst (.int 0))) (.idx (.var 15) (.cst (.int 1)))), (.var 13)])), (.ex (.app (.var 10) (.tup [(.idx (.var 15) (.cst (.int 0))), (.var 16), (.idx (.var 15) (.cst (.int 1))), (.var 17), (.call 12 [(.var 0), (.bi .min [(.cst (.int 60)), (.var 14)])])])))]), (.asg 12 (.sq .tuple (.comp [11] (.one 11) (.rng1 (.var 1)) false (.cst .non) (.bin .mul (.idx (.var 7) (.var 11)) (.sq .len (.idx (.idx (.var 6) (.var 11)) (.cst (.int 1)))))))), (.ret (.tup [(.tup [(.var 6), (.sq .tuple (.var 10))]), (.var 12)]))]⟩
def d14 : MDef := ⟨"_law_world", 2, ["d", "size", "many", "graph", "counts"], [(.asg 2 (.bin .add (.cst (.int 1)) (.call 1 [(.var 0), (.cst (.int 4))]))), (.ifs (.cmp .eq (.var 1) (.cst (.int 7))) [(.asg 2 (.bin .add (.cst (.int 6)) (.call 1 [(.var 0), (.cst (.int 7))])))] []), (.asgT [3, 4] (.call 13 [(.var 0), (.var 2), (.call 1 [(.var 0), (.bin .add (.var 2) (.cst (.int 3)))]), (.cst (.int 3)), (.cst (.int 3)), (.call 1 [(.var 0), (.cst (.int 3))])])), (.ret (.var 3))]⟩
def d15 : MDef := ⟨"_law_spot", 2, ["d", "graph", "kind"], [(.asg 2 (.call 1 [(.var 0), (.cst (.int 4))])), (.ifs (.and [(.cmp .lt (.var 2) (.cst (.int 2))), (.cmp .gt (.sq .len (.idx (.var 1) (.cst (.int 1)))) (.cst (.int 0)))]) [(.ret (.tup [(.idx (.lst [(.cst (.str "start")), (.cst (.str "rates"))]) (.var 2)), (.call 1 [(.var 0), (.sq .len (.idx (.var 1) (.cst (.int 1))))])]))] []), (.ret (.tup [(.idx (.lst [(.cst (.str "times")), (.cst (.str "deed"))]) (.bin .mod (.bi .int [(.var 2)]) (.cst (.int 2)))), (.call 1 [(.var 0), (.sq .len (.idx (.var 1) (.cst (.int 0))))])]))]⟩
def d16 : MDef := ⟨"_law_deed_at", 3, ["d", "graph", "spot", "queue", "gives", "takes", "word", "place", "size", "many", "part", "k"], [(.asgT [6, 7] (.var 2)), (.ifs (.cmp .eq (.var 6) (.cst (.str "deed"))) [(.ret (.tup [(.var 6), (.var 7), (.tup [(.call 5 [(.var 0)]), (.call 5 [(.var 0)])])]))] []), (.ifs (.cmp .eq (.var 6) (.cst (.str "times"))) [(.asg 8 (.sq .len (.idx (.idx (.idx (.var 1) (.cst (.int 0))) (.var 7)) (.cst (.int 1))))), (.ifs (.cmp .eq (.call 1 [(.var 0), (.cst (.int 4))]) (.cst (.int 0))) [(.asg 8 (.bin .add (.cst (.int 1)) (.call 1 [(.var 0), (.cst (.int 6))])))] []), (.ret (.tup [(.var 6), (.var 7), (.sq .tuple (.comp [11] (.one 11) (.rng1 (.var 8)) false (.cst .non) (.call 1 [(.var 0), (.cst (.int 61))])))]))] []), (.ifs (.cmp .eq (.var 6) (.cst (.str "start"))) [(.asg 9 (.call 1 [(.var 0), (.cst (.int 4))])), (.ifs (.call 3 [(.var 0), (.cst (.int 8))]) [(.asg 9 (.bin .add (.cst (.int 59)) (.call 1 [(.var 0), (.cst (.int 3))])))] []), (.ret (.tup [(.var 6), (.var 7), (.call 12 [(.var 0), (.var 9)])]))] []), (.asg 3 (.idx (.idx (.var 1) (.cst (.int 1))) (.var 7))), (.asg 4 (.call 9 [(.var 0), (.bin .add (.cst (.int 1)) (.call 1 [(.var 0), (.cst (.int 6))])), (.sq .len (.idx (.var 3) (.cst (.int 1))))])), (.asg 5 (.call 9 [(.var 0), (.bin .add (.cst (.int 1)) (.call 1 [(.var 0), (.cst (.int 6))])), (.sq .len (.idx (.var 3) (.cst (.int 3))))])), (.ifs (.call 3 [(.var 0), (.cst (.int 8))]) [(.asg 4 (.sq .tuple (.comp [10] (.one 10) (.var 4) false (.cst .non) (.cst (.int 12)))))] []), (.ret (.tup [(.var 6), (.var 7), (.var 4), (.var 5)]))]⟩
def d17 : MDef := ⟨"_law_pick", 2, ["d", "row"], [(.ret (.idx (.var 1) (.call 1 [(.var 0), (.sq .len (.var 1))])))]⟩
def d18 : MDef := ⟨"_law_bent", 3, ["d", "graph", "deed", "way", "row", "odd", "k", "part"], [(.asg 3 (.call 1 [(.var 0), (.cst (.int 9))])), (.ifs (.cmp .eq (.var 3) (.cst (.int 0))) [(.ret (.bin .add (.tup [(.call 17 [(.var 0), (.lst [(.cst (.str "time")), (.cst (.str "Times")), (.cst (.str "starts")), (.cst (.str "rate")), (.cst (.str "block")), (.cst (.str "")), (.cst .non), (.cst (.int 0)), (.tup [(.cst (.str "start"))])])])]) (.sl (.var 2) (.cst (.int 1)) .nopart)))] []), (.ifs (.cmp .eq (.var 3) (.cst (.int 1))) [(.asg 5 (.call 17 [(.var 0), (.lst [(.neg (.cst (.int 1))), (.sq .len (.idx (.var 1) (.cst (.int 0)))), (.sq .len (.idx (.var 1) (.cst (.int 1)))), (.cst (.bl true)), (.cst (.bl false)), (.cst .non), (.cst (.str "0")), (.tup [(.cst (.int 0))]), (.bin .pow (.cst (.int 10)) (.cst (.int 9)))])])), (.ret (.bin .add (.tup [(.idx (.var 2) (.cst (.int 0))), (.var 5)]) (.sl (.var 2) (.cst (.int 2)) .nopart)))] []), (.ifs (.cmp .eq (.var 3) (.cst (.int 2))) [(.ret (.sl (.var 2) .nopart (.neg (.cst (.int 1)))))] []), (.ifs (.cmp .eq (.var 3) (.cst (.int 3))) [(.ret (.bin .add (.var 2) (.tup [(.idx (.var 2) (.neg (.cst (.int 1))))])))] []), (.ifs (.cmp .eq (.var 3) (.cst (.int 4))) [(.ret (.call 17 [(.var 0), (.lst [(.sq .list (.var 2)), (.cst .non), (.cst (.int 7)), (.cst (.str "")), (.cst (.str "times")), (.tup []), (.tup [(.cst (.str "times"))]), (.tup [(.cst (.str "rates")), (.cst (.int 0))]), (.idx (.var 2) (.cst (.int 0)))])]))] []), (.asg 4 (.sq .list (.idx (.var 2) (.neg (.cst (.int 1)))))), (.ifs (.cmp .eq (.var 3) (.cst (.int 5))) [(.ex (.app (.var 4) (.call 1 [(.var 0), (.cst (.int 2))])))] [(.ifs (.cmp .eq (.var 3) (.cst (.int 6))) [(.asg 4 (.comp [7] (.one 7) (.var 4) false (.cst .non) (.cst (.int 0))))] [(.ifs (.cmp .gt (.sq .len (.var 4)) (.cst (.int 0))) [(.asg 6 (.call 1 [(.var 0), (.sq .len (.var 4))])), (.ifs (.cmp .eq (.var 3) (.cst (.int 7))) [(.ex (.popI (.var 4) (.var 6)))] [(.setI (.var 4) (.var 6) (.call 17 [(.var 0), (.lst [(.neg (.cst (.int 1))), (.cst (.int 13)), (.cst (.int 61)), (.cst (.int 9973)), (.cst (.int 9972)), (.cst (.bl true)), (.cst .non), (.cst (.str "1")), (.tup [(.cst (.int 1))]), (.bin .pow (.cst (.int 10)) (.cst (.int 20)))])]))])] [])])]), (.ret (.bin .add (.sl (.var 2) .nopart (.neg (.cst (.int 1)))) (.tup [(.sq .tuple (.var 4))])))]⟩
def d19 : MDef := ⟨"_law_time", 1, ["d", "kind"], [(.asg 1 (.call 1 [(.var 0), (.cst (.int 8))])), (.ifs (.cmp .eq (.var 1) (.cst (.int 0))) [(.ret (.bin .sub (.bin .pow (.cst (.int 10)) (.cst (.int 6))) (.call 1 [(.var 0), (.cst (.int 2))])))] []), (.ifs (.cmp .eq (.var 1) (.cst (.int 1))) [(.ret (.cst (.int 0)))] []), (.ret (.call 1 [(.var 0), (.cst (.int 6))]))]⟩
def d20 : MDef := ⟨"_law_facts", 3, ["d", "graph", "size", "many", "some_bent", "spot", "found", "k", "deed"], [(.asg 3 (.call 1 [(.var 0), (.cst (.int 8))])), (.ifs (.cmp .eq (.var 2) (.cst (.int 13))) [(.asg 3 (.bin .add (.cst (.int 38)) (.call 1 [(.var 0), (.cst (.int 3))])))] []), (.asg 4 (.cmp .eq (.call 1 [(.var 0), (.cst (.int 3))]) (.cst (.int 0)))), (.asg 5 (.call 15 [(.var 0), (.var 1)])), (.asg 6 (.lst [])), (.for_ (.one 7) (.rng1 (.var 3)) [(.ifs (.cmp .eq (.call 1 [(.var 0), (.cst (.int 2))]) (.cst (.int 0))) [(.asg 5 (.call 15 [(.var 0), (.var 1)]))] []), (.asg 8 (.call 16 [(.var 0), (.var 1), (.var 5)])), (.ifs (.and [(.var 4), (.cmp .eq (.call 1 [(.var 0), (.cst (.int 3))]) (.cst (.int 0)))]) [(.asg 8 (.call 18 [(.var 0), (.var 1), (.var 8)]))] []), (.ex (.app (.var 6) (.tup [(.call 19 [(.var 0)]), (.call 19 [(.var 0)]), (.var 8)])))]), (.ret (.sq .tuple (.var 6)))]⟩
def d21 : MDef := ⟨"_law_is_int", 1, ["thing"], [(.ret (.and [(.isi (.var 0) .int), (.not (.isi (.var 0) .bool))]))]⟩
def d22 : MDef := ⟨"_law_is_ints", 1, ["row", "part"], [(.ret (.and [(.isi (.var 0) .tuple), (.sq .all (.comp [1] (.one 1) (.var 0) false (.cst .non) (.call 21 [(.var 1)])))]))]⟩
def d23 : MDef := ⟨"_law_row", 5, ["thing", "low", "high", "least", "most", "part"], [(.ifs (.or [(.not (.call 22 [(.var 0)])), (.not (.chain .le .le (.var 3) (.sq .len (.var 0)) (.var 4)))]) [(.ret (.cst (.bl false)))] []), (.ret (.sq .all (.comp [5] (.one 5) (.var 0) false (.cst .non) (.chain .le .le (.var 1) (.var 5) (.var 2)))))]⟩
def d24 : MDef := ⟨"_law_block_after", 2, ["graph", "deed", "blocks", "joined", "name", "times", "own", "queue"], [(.asg 2 (.sq .list (.idx (.var 0) (.cst (.int 0))))), (.ifs (.or [(.cmp .ne (.sq .len (.var 1)) (.cst (.int 3))), (.not (.call 21 [(.idx (.var 1) (.cst (.int 1)))])), (.not (.chain .le .lt (.cst (.int 0)) (.idx (.var 1) (.cst (.int 1))) (.sq .len (.var 2))))]) [(.ret (.cst .non))] []), (.asgT [4, 5, 6] (.idx (.var 2) (.idx (.var 1) (.cst (.int 1))))), (.ifs (.cmp .eq (.idx (.var 1) (.cst (.int 0))) (.cst (.str "deed"))) [(.ifs (.not (.call 23 [(.idx (.var 1) (.cst (.int 2))), (.cst (.int 0)), (.cst (.int 9972)), (.cst (.int 2)), (.cst (.int 2))])) [(.ret (.cst .non))] []), (.setI (.var 2) (.idx (.var 1) (.cst (.int 1))) (.tup [(.var 4), (.var 5), (.idx (.var 1) (.cst (.int 2)))])), (.ret (.tup [(.sq .tuple (.var 2)), (.idx (.var 0) (.cst (.int 1)))]))] []), (.ifs (.not (.call 23 [(.idx (.var 1) (.cst (.int 2))), (.cst (.int 0)), (.cst (.int 60)), (.cst (.int 1)), (.cst (.int 6))])) [(.ret (.cst .non))] []), (.asg 3 (.comp [7] (.one 7) (.idx (.var 0) (.cst (.int 1))) true (.or [(.cmp .eq (.idx (.var 7) (.cst (.int 0))) (.idx (.var 1) (.cst (.int 1)))), (.cmp .eq (.idx (.var 7) (.cst (.int 2))) (.idx (.var 1) (.cst (.int 1))))]) (.var 7))), (.ifs (.and [(.cmp .ne (.sq .len (.idx (.var 1) (.cst (.int 2)))) (.sq .len (.var 5))), (.cmp .gt (.sq .len (.var 3)) (.cst (.int 0)))]) [(.ret (.cst .non))] []), (.setI (.var 2) (.idx (.var 1) (.cst (.int 1))) (.tup [(.var 4), (.idx (.var 1) (.cst (.int 2))), (.var 6)])), (.ret (.tup [(.sq .tuple (.var 2)), (.idx (.var 0) (.cst (.int 1)))]))]⟩
def d25 : MDef := ⟨"_law_rates_fit", 2, ["row", "old"], [(.ret (.and [(.call 23 [(.var 0), (.cst (.int 0)), (.cst (.int 12)), (.sq .len (.var 1)), (.sq .len (.var 1))]), (.cmp .gt (.sq .sum (.var 0)) (.cst (.int 0)))]))]⟩
def d26 : MDef := ⟨"_law_queue_after", 2, ["graph", "deed", "queues", "source", "gives", "target", "takes", "start"], [(.asg 2 (.sq .list (.idx (.var 0) (.cst (.int 1))))), (.ifs (.or [(.not (.call 21 [(.idx (.var 1) (.cst (.int 1)))])), (.not (.chain .le .lt (.cst (.int 0)) (.idx (.var 1) (.cst (.int 1))) (.sq .len (.var 2))))]) [(.ret (.cst .non))] []), (.asgT [3, 4, 5, 6, 7] (.idx (.var 2) (.idx (.var 1) (.cst (.int 1))))), (.ifs (.cmp .eq (.idx (.var 1) (.cst (.int 0))) (.cst (.str "start"))) [(.ifs (.or [(.cmp .ne (.sq .len (.var 1)) (.cst (.int 3))), (.not (.call 23 [(.idx (.var 1) (.cst (.int 2))), (.cst (.int 0)), (.cst (.int 9972)), (.cst (.int 0)), (.cst (.int 60))]))]) [(.ret (.cst .non))] []), (.setI (.var 2) (.idx (.var 1) (.cst (.int 1))) (.tup [(.var 3), (.var 4), (.var 5), (.var 6), (.idx (.var 1) (.cst (.int 2)))])), (.ret (.tup [(.idx (.var 0) (.cst (.int 0))), (.sq .tuple (.var 2))]))] []), (.ifs (.or [(.cmp .ne (.sq .len (.var 1)) (.cst (.int 4))), (.not (.call 25 [(.idx (.var 1) (.cst (.int 2))), (.var 4)])), (.not (.call 25 [(.idx (.var 1) (.cst (.int 3))), (.var 6)]))]) [(.ret (.cst .non))] []), (.setI (.var 2) (.idx (.var 1) (.cst (.int 1))) (.tup [(.var 3), (.idx (.var 1) (.cst (.int 2))), (.var 5), (.idx (.var 1) (.cst (.int 3))), (.var 7)])), (.ret (.tup [(.idx (.var 0) (.cst (.int 0))), (.sq .tuple (.var 2))]))]⟩
def d27 : MDef := ⟨"_law_after", 2, ["graph", "deed"], [(.ifs (.or [(.not (.isi (.var 1) .tuple)), (.cmp .lt (.sq .len (.var 1)) (.cst (.int 3)))]) [(.ret (.cst .non))] []), (.ifs (.or [(.cmp .eq (.idx (.var 1) (.cst (.int 0))) (.cst (.str "times"))), (.cmp .eq (.idx (.var 1) (.cst (.int 0))) (.cst (.str "deed")))]) [(.ret (.call 24 [(.var 0), (.var 1)]))] []), (.ifs (.or [(.cmp .eq (.idx (.var 1) (.cst (.int 0))) (.cst (.str "start"))), (.cmp .eq (.idx (.var 1) (.cst (.int 0))) (.cst (.str "rates")))]) [(.ret (.call 26 [(.var 0), (.var 1)]))] []), (.ret (.cst .non))]⟩
def d28 : MDef := ⟨"_law_due", 4, ["graph", "facts", "moment", "known", "rows", "row", "k"], [(.asg 4 (.sq .sorted (.comp [6] (.one 6) (.rng1 (.sq .len (.var 1))) false (.cst .non) (.tup [(.idx (.idx (.var 1) (.var 6)) (.cst (.int 1))), (.idx (.idx (.var 1) (.var 6)) (.cst (.int 0))), (.var 6)])))), (.for_ (.one 5) (.var 4) [(.ifs (.and [(.cmp .le (.idx (.var 5) (.cst (.int 0))) (.var 2)), (.cmp .le (.idx (.var 5) (.cst (.int 1))) (.var 3)), (.isN true (.var 0))]) [(.asg 0 (.call 27 [(.var 0), (.idx (.idx (.var 1) (.idx (.var 5) (.cst (.int 2)))) (.cst (.int 2)))]))] [])]), (.ifs (.isN false (.var 0)) [(.ret (.tup [(.cst (.str "bad")), (.cst (.str "fact"))]))] []), (.ret (.tup [(.cst (.str "seen")), (.var 0)]))]⟩
def d29 : MDef := ⟨"_law_with_late", 5, ["d", "graph", "facts", "moment", "known", "found", "ways", "k", "deed", "at", "told", "since"], [(.asg 5 (.var 2)), (.asg 6 (.lst [])), (.ifs (.cmp .lt (.var 4) (.bin .pow (.cst (.int 10)) (.cst (.int 6)))) [(.ex (.app (.var 6) (.cst (.int 0))))] []), (.ifs (.cmp .lt (.var 3) (.bin .pow (.cst (.int 10)) (.cst (.int 6)))) [(.ex (.app (.var 6) (.cst (.int 1))))] []), (.for_ (.one 7) (.rng1 (.bin .add (.cst (.int 1)) (.call 1 [(.var 0), (.cst (.int 3))]))) [(.ifs (.and [(.cmp .gt (.sq .len (.var 6)) (.cst (.int 0))), (.cmp .lt (.sq .len (.var 5)) (.cst (.int 40)))]) [(.asg 8 (.call 16 [(.var 0), (.var 1), (.call 15 [(.var 0), (.var 1)])])), (.ifs (.cmp .eq (.call 1 [(.var 0), (.cst (.int 3))]) (.cst (.int 0))) [(.asg 8 (.call 18 [(.var 0), (.var 1), (.var 8)]))] []), (.par 10 11 (.call 19 [(.var 0)]) (.call 19 [(.var 0)])), (.ifs (.cmp .eq (.call 17 [(.var 0), (.var 6)]) (.cst (.int 0))) [(.asg 10 (.bin .add (.bin .add (.var 4) (.cst (.int 1))) (.call 1 [(.var 0), (.bi .min [(.cst (.int 3)), (.bin .sub (.bin .pow (.cst (.int 10)) (.cst (.int 6))) (.var 4))])])))] [(.asg 11 (.bin .add (.bin .add (.var 3) (.cst (.int 1))) (.call 1 [(.var 0), (.bi .min [(.cst (.int 3)), (.bin .sub (.bin .pow (.cst (.int 10)) (.cst (.int 6))) (.var 3))])])))]), (.asg 9 (.call 1 [(.var 0), (.bin .add (.sq .len (.var 5)) (.cst (.int 1)))])), (.asg 5 (.bin .add (.bin .add (.sl (.var 5) .nopart (.var 9)) (.tup [(.tup [(.var 10), (.var 11), (.var 8)])])) (.sl (.var 5) (.var 9) .nopart)))] [])]), (.ret (.var 5))]⟩
def d30 : MDef := ⟨"_law_near", 3, ["d", "facts", "part", "found"], [(.ifs (.or [(.cmp .eq (.sq .len (.var 1)) (.cst (.int 0))), (.cmp .eq (.call 1 [(.var 0), (.cst (.int 4))]) (.cst (.int 0)))]) [(.ret (.call 19 [(.var 0)]))] []), (.asg 3 (.bin .sub (.bin .add (.idx (.call 17 [(.var 0), (.var 1)]) (.var 2)) (.call 1 [(.var 0), (.cst (.int 3))])) (.cst (.int 1)))), (.ret (.bi .max [(.cst (.int 0)), (.bi .min [(.bin .pow (.cst (.int 10)) (.cst (.int 6))), (.var 3)])]))]⟩
def d31 : MDef := ⟨"whole", 3, ["thing", "low", "high"], [(.ret (.and [(.isi (.var 0) .int), (.not (.isi (.var 0) .bool)), (.chain .le .le (.var 1) (.var 0) (.var 2))]))]⟩
def d32 : MDef := ⟨"is_fact", 1, ["thing"], [(.ifs (.or [(.not (.isi (.var 0) .tuple)), (.cmp .ne (.sq .len (.var 0)) (.cst (.int 3)))]) [(.ret (.cst (.bl false)))] []), (.ret (.and [(.call 31 [(.idx (.var 0) (.cst (.int 0))), (.cst (.int 0)), (.glb "MOST_MOMENT" (.int 1000000))]), (.call 31 [(.idx (.var 0) (.cst (.int 1))), (.cst (.int 0)), (.glb "MOST_MOMENT" (.int 1000000))])]))]⟩
def d33 : MDef := ⟨"check_facts", 1, ["facts", "good", "fact"], [(.asg 1 (.and [(.isi (.var 0) .tuple), (.cmp .le (.sq .len (.var 0)) (.glb "MOST_FACTS" (.int 40)))])), (.ifs (.or [(.not (.var 1)), (.not (.sq .all (.comp [2] (.one 2) (.var 0) false (.cst .non) (.call 32 [(.var 2)]))))]) [(.raise 1 [(.cst (.str "facts"))])] [])]⟩
def d34 : MDef := ⟨"edges", 2, ["facts", "known", "moments", "fact", "moment"], [(.ex (.call 33 [(.var 0)])), (.ifs (.not (.call 31 [(.var 1), (.cst (.int 0)), (.glb "MOST_MOMENT" (.int 1000000))])) [(.raise 1 [(.cst (.str "known"))])] []), (.asg 2 (.bin .add (.lst [(.cst (.int 0))]) (.comp [3] (.one 3) (.var 0) true (.cmp .le (.idx (.var 3) (.cst (.int 0))) (.var 1)) (.idx (.var 3) (.cst (.int 1)))))), (.ret (.sq .tuple (.sortset [4] (.one 4) (.var 2) false (.cst .non) (.var 4))))]⟩
def d35 : MDef := ⟨"_law_edges", 2, ["facts", "known", "error"], [(.try_ (.ret (.tup [(.cst (.str "edges")), (.call 34 [(.var 0), (.var 1)])])) 0 2 (.cond (.and (.isx 1) (.not (.isx 2))) (.tup [(.cst (.str "bad")), (.fld 1 "part")]))), (.ret (.tup [(.cst (.str "other")), (.cst (.str ""))]))]⟩
def d36 : MDef := ⟨"is_numbers", 3, ["thing", "low", "high", "part"], [(.ifs (.not (.isi (.var 0) .tuple)) [(.ret (.cst (.bl false)))] []), (.ret (.sq .all (.comp [3] (.one 3) (.var 0) false (.cst .non) (.call 31 [(.var 3), (.var 1), (.var 2)]))))]⟩
def d37 : MDef := ⟨"is_rates", 2, ["thing", "size"], [(.ifs (.or [(.not (.call 36 [(.var 0), (.cst (.int 0)), (.glb "MOST_RATE" (.int 12))])), (.cmp .ne (.sq .len (.var 0)) (.var 1))]) [(.ret (.cst (.bl false)))] []), (.ret (.cmp .gt (.sq .sum (.var 0)) (.cst (.int 0))))]⟩
def d38 : MDef := ⟨"is_start", 1, ["thing"], [(.ret (.and [(.call 36 [(.var 0), (.cst (.int 0)), (.bin .sub (.glb "MODULUS" (.int 9973)) (.cst (.int 1)))]), (.cmp .le (.sq .len (.var 0)) (.glb "MOST_START" (.int 60)))]))]⟩
def d39 : MDef := ⟨"is_queue", 2, ["thing", "blocks", "last", "source", "gives", "target", "takes", "start"], [(.ifs (.or [(.not (.isi (.var 0) .tuple)), (.cmp .ne (.sq .len (.var 0)) (.cst (.int 5)))]) [(.ret (.cst (.bl false)))] []), (.asgT [3, 4, 5, 6, 7] (.var 0)), (.asg 2 (.bin .sub (.sq .len (.var 1)) (.cst (.int 1)))), (.ifs (.or [(.not (.call 31 [(.var 3), (.cst (.int 0)), (.var 2)])), (.not (.call 31 [(.var 5), (.cst (.int 0)), (.var 2)]))]) [(.ret (.cst (.bl false)))] []), (.ifs (.not (.call 37 [(.var 4), (.sq .len (.idx (.idx (.var 1) (.var 3)) (.cst (.int 1))))])) [(.ret (.cst (.bl false)))] []), (.ret (.and [(.call 37 [(.var 6), (.sq .len (.idx (.idx (.var 1) (.var 5)) (.cst (.int 1))))]), (.call 38 [(.var 7)])]))]⟩
def d40 : MDef := ⟨"is_name", 1, ["thing", "sign"], [(.ifs (.or [(.not (.isi (.var 0) .str)), (.not (.chain .le .le (.cst (.int 1)) (.sq .len (.var 0)) (.glb "MOST_NAME" (.int 16))))]) [(.ret (.cst (.bl false)))] []), (.ret (.and [(.isIn false (.idx (.var 0) (.cst (.int 0))) (.glb "LETTERS" (.str "abcdefghijklmnopqrstuvwxyz"))), (.sq .all (.comp [1] (.one 1) (.var 0) false (.cst .non) (.isIn false (.var 1) (.glb "SIGNS" (.str "abcdefghijklmnopqrstuvwxyz0123456789_.")))))]))]⟩
def d41 : MDef := ⟨"is_times", 1, ["thing"], [(.ret (.and [(.call 36 [(.var 0), (.cst (.int 0)), (.glb "MOST_TIME" (.int 60))]), (.chain .le .le (.cst (.int 1)) (.sq .len (.var 0)) (.glb "MOST_PHASES" (.int 6)))]))]⟩
def d42 : MDef := ⟨"is_deed", 1, ["thing"], [(.ret (.and [(.call 36 [(.var 0), (.cst (.int 0)), (.bin .sub (.glb "MODULUS" (.int 9973)) (.cst (.int 1)))]), (.cmp .eq (.sq .len (.var 0)) (.cst (.int 2)))]))]⟩
def d43 : MDef := ⟨"is_block", 1, ["thing"], [(.ifs (.or [(.not (.isi (.var 0) .tuple)), (.cmp .ne (.sq .len (.var 0)) (.cst (.int 3)))]) [(.ret (.cst (.bl false)))] []), (.ret (.and [(.call 40 [(.idx (.var 0) (.cst (.int 0)))]), (.call 41 [(.idx (.var 0) (.cst (.int 1)))]), (.call 42 [(.idx (.var 0) (.cst (.int 2)))])]))]⟩
def d44 : MDef := ⟨"is_graph", 1, ["thing", "blocks", "queues", "queue", "block"], [(.ifs (.or [(.not (.isi (.var 0) .tuple)), (.cmp .ne (.sq .len (.var 0)) (.cst (.int 2)))]) [(.ret (.cst (.bl false)))] []), (.asgT [1, 2] (.var 0)), (.ifs (.or [(.not (.isi (.var 1) .tuple)), (.not (.chain .le .le (.cst (.int 1)) (.sq .len (.var 1)) (.glb "MOST_BLOCKS" (.int 60))))]) [(.ret (.cst (.bl false)))] []), (.ifs (.or [(.not (.isi (.var 2) .tuple)), (.cmp .gt (.sq .len (.var 2)) (.glb "MOST_QUEUES" (.int 160)))]) [(.ret (.cst (.bl false)))] []), (.ifs (.not (.sq .all (.comp [4] (.one 4) (.var 1) false (.cst .non) (.call 43 [(.var 4)])))) [(.ret (.cst (.bl false)))] []), (.ifs (.cmp .ne (.lenset [4] (.one 4) (.var 1) false (.cst .non) (.idx (.var 4) (.cst (.int 0)))) (.sq .len (.var 1))) [(.ret (.cst (.bl false)))] []), (.ret (.sq .all (.comp [3] (.one 3) (.var 2) false (.cst .non) (.call 39 [(.var 3), (.var 1)]))))]⟩
def d45 : MDef := ⟨"check_graph", 1, ["graph"], [(.ifs (.not (.call 44 [(.var 0)])) [(.raise 1 [(.cst (.str "graph"))])] [])]⟩
def d46 : MDef := ⟨"is_place", 2, ["thing", "many"], [(.ret (.call 31 [(.var 0), (.cst (.int 0)), (.bin .sub (.var 1) (.cst (.int 1)))]))]⟩
def d47 : MDef := ⟨"with_block", 3, ["graph", "number", "block", "blocks"], [(.asg 3 (.idx (.var 0) (.cst (.int 0)))), (.ret (.tup [(.bin .add (.bin .add (.sl (.var 3) .nopart (.var 1)) (.tup [(.var 2)])) (.sl (.var 3) (.bin .add (.var 1) (.cst (.int 1))) .nopart)), (.idx (.var 0) (.cst (.int 1)))]))]⟩
def d48 : MDef := ⟨"changed_block", 4, ["graph", "word", "number", "part", "name", "times", "deed"], [(.asgT [4, 5, 6] (.idx (.idx (.var 0) (.cst (.int 0))) (.var 2))), (.ifs (.cmp .eq (.var 1) (.cst (.str "times"))) [(.ret (.call 47 [(.var 0), (.var 2), (.tup [(.var 4), (.var 3), (.var 6)])]))] []), (.ret (.call 47 [(.var 0), (.var 2), (.tup [(.var 4), (.var 5), (.var 3)])]))]⟩
def d49 : MDef := ⟨"with_queue", 3, ["graph", "number", "queue", "queues"], [(.asg 3 (.idx (.var 0) (.cst (.int 1)))), (.ret (.tup [(.idx (.var 0) (.cst (.int 0))), (.bin .add (.bin .add (.sl (.var 3) .nopart (.var 1)) (.tup [(.var 2)])) (.sl (.var 3) (.bin .add (.var 1) (.cst (.int 1))) .nopart))]))]⟩
def d50 : MDef := ⟨"changed_queue", 2, ["graph", "deed", "source", "gives", "target", "takes", "start"], [(.asgT [2, 3, 4, 5, 6] (.idx (.idx (.var 0) (.cst (.int 1))) (.idx (.var 1) (.cst (.int 1))))), (.ifs (.cmp .eq (.idx (.var 1) (.cst (.int 0))) (.cst (.str "start"))) [(.ret (.call 49 [(.var 0), (.idx (.var 1) (.cst (.int 1))), (.tup [(.var 2), (.var 3), (.var 4), (.var 5), (.idx (.var 1) (.cst (.int 2)))])]))] []), (.ret (.call 49 [(.var 0), (.idx (.var 1) (.cst (.int 1))), (.tup [(.var 2), (.idx (.var 1) (.cst (.int 2))), (.var 4), (.idx (.var 1) (.cst (.int 3))), (.var 6)])]))]⟩
def d51 : MDef := ⟨"changed", 2, ["graph", "deed", "found"], [(.ex (.call 45 [(.var 0)])), (.ifs (.or [(.not (.isi (.var 1) .tuple)), (.isIn true (.sq .len (.var 1)) (.tup [(.cst (.int 3)), (.cst (.int 4))]))]) [(.raise 1 [(.cst (.str "deed"))])] []), (.asg 2 (.cst .non)), (.ifs (.and [(.isIn false (.idx (.var 1) (.cst (.int 0))) (.tup [(.cst (.str "times")), (.cst (.str "deed"))])), (.cmp .eq (.sq .len (.var 1)) (.cst (.int 3))), (.call 46 [(.idx (.var 1) (.cst (.int 1))), (.sq .len (.idx (.var 0) (.cst (.int 0))))])]) [(.asg 2 (.call 48 [(.var 0), (.idx (.var 1) (.cst (.int 0))), (.idx (.var 1) (.cst (.int 1))), (.idx (.var 1) (.cst (.int 2)))]))] [(.ifs (.call 46 [(.idx (.var 1) (.cst (.int 1))), (.sq .len (.idx (.var 0) (.cst (.int 1))))]) [(.ifs (.or [(.and [(.cmp .eq (.idx (.var 1) (.cst (.int 0))) (.cst (.str "start"))), (.cmp .eq (.sq .len (.var 1)) (.cst (.int 3)))]), (.and [(.cmp .eq (.idx (.var 1) (.cst (.int 0))) (.cst (.str "rates"))), (.cmp .eq (.sq .len (.var 1)) (.cst (.int 4)))])]) [(.asg 2 (.call 50 [(.var 0), (.var 1)]))] [])] [])]), (.ifs (.or [(.isN false (.var 2)), (.not (.call 44 [(.var 2)]))]) [(.raise 1 [(.cst (.str "deed"))])] []), (.ret (.var 2))]⟩
def d52 : MDef := ⟨"with_fact", 2, ["graph", "deed"], [(.try_ (.ret (.call 51 [(.var 0), (.var 1)])) 1 2 (.re 1 (.str "fact")))]⟩
def d53 : MDef := ⟨"seen", 4, ["graph", "facts", "moment", "known", "rows", "since", "told", "place", "fact"], [(.ex (.call 45 [(.var 0)])), (.ex (.call 33 [(.var 1)])), (.ifs (.not (.call 31 [(.var 2), (.cst (.int 0)), (.glb "MOST_MOMENT" (.int 1000000))])) [(.raise 1 [(.cst (.str "moment"))])] []), (.ifs (.not (.call 31 [(.var 3), (.cst (.int 0)), (.glb "MOST_MOMENT" (.int 1000000))])) [(.raise 1 [(.cst (.str "known"))])] []), (.asg 4 (.comp [7, 8] (.many [7, 8]) (.enum (.var 1)) false (.cst .non) (.tup [(.idx (.var 8) (.cst (.int 1))), (.idx (.var 8) (.cst (.int 0))), (.var 7)]))), (.for_ (.many [5, 6, 7]) (.sq .sorted (.var 4)) [(.ifs (.and [(.cmp .le (.var 5) (.var 2)), (.cmp .le (.var 6) (.var 3))]) [(.asg 0 (.call 52 [(.var 0), (.idx (.idx (.var 1) (.var 7)) (.cst (.int 2)))]))] [])]), (.ret (.var 0))]⟩
def d54 : MDef := ⟨"_law_asked", 4, ["graph", "facts", "moment", "known", "error"], [(.try_ (.ret (.tup [(.cst (.str "seen")), (.call 53 [(.var 0), (.var 1), (.var 2), (.var 3)])])) 0 4 (.cond (.and (.isx 1) (.not (.isx 2))) (.tup [(.cst (.str "bad")), (.fld 1 "part")]))), (.ret (.tup [(.cst (.str "other")), (.cst (.str ""))]))]⟩
def d55 : MDef := ⟨"_law_changed", 2, ["graph", "deed", "error"], [(.try_ (.ret (.tup [(.cst (.str "left")), (.call 51 [(.var 0), (.var 1)])])) 0 2 (.cond (.and (.isx 1) (.isx 3)) (.tup [(.cst (.str "bad")), (.fld 1 "part")]))), (.ret (.tup [(.cst (.str "other")), (.cst (.str ""))]))]⟩
def d56 : MDef := ⟨"_law_edges_due", 2, ["facts", "known", "row", "fact"], [(.asg 2 (.lst [(.cst (.int 0))])), (.for_ (.one 3) (.var 0) [(.ifs (.and [(.cmp .le (.idx (.var 3) (.cst (.int 0))) (.var 1)), (.isIn true (.idx (.var 3) (.cst (.int 1))) (.var 2))]) [(.ex (.app (.var 2) (.idx (.var 3) (.cst (.int 1)))))] [])]), (.ret (.sq .tuple (.sq .sorted (.var 2))))]⟩
def d57 : MDef := ⟨"_law_shuffled", 2, ["d", "row", "left", "found", "k"], [(.asg 2 (.sq .list (.var 1))), (.asg 3 (.lst [])), (.for_ (.one 4) (.rng1 (.sq .len (.var 2))) [(.ex (.app (.var 3) (.popI (.var 2) (.call 1 [(.var 0), (.sq .len (.var 2))]))))]), (.ret (.var 3))]⟩
def d58 : MDef := ⟨"_law_edges_hold", 4, ["d", "graph", "facts", "known", "row", "told", "places", "k", "last"], [(.asg 4 (.call 56 [(.var 2), (.var 3)])), (.asg 5 (.call 34 [(.var 2), (.var 3)])), (.ifs (.or [(.not (.call 22 [(.var 5)])), (.cmp .ne (.var 5) (.var 4))]) [(.ret (.cst (.bl false)))] []), (.asg 6 (.comp [7] (.one 7) (.rng1 (.sq .len (.var 4))) false (.cst .non) (.var 7))), (.ifs (.cmp .gt (.sq .len (.var 4)) (.cst (.int 8))) [(.asg 6 (.sl (.call 57 [(.var 0), (.var 6)]) .nopart (.cst (.int 6))))] []), (.for_ (.one 7) (.var 6) [(.ifs (.cmp .ne (.call 54 [(.var 1), (.var 2), (.idx (.var 4) (.var 7)), (.var 3)]) (.call 28 [(.var 1), (.var 2), (.idx (.var 4) (.var 7)), (.var 3)])) [(.ret (.cst (.bl false)))] [])]), (.asg 7 (.call 1 [(.var 0), (.sq .len (.var 4))])), (.asg 8 (.bin .pow (.cst (.int 10)) (.cst (.int 6)))), (.ifs (.cmp .lt (.bin .add (.var 7) (.cst (.int 1))) (.sq .len (.var 4))) [(.asg 8 (.bin .sub (.idx (.var 4) (.bin .add (.var 7) (.cst (.int 1)))) (.cst (.int 1))))] []), (.ret (.cmp .eq (.call 54 [(.var 1), (.var 2), (.var 8), (.var 3)]) (.call 28 [(.var 1), (.var 2), (.idx (.var 4) (.var 7)), (.var 3)])))]⟩
def d59 : MDef := ⟨"_law_odd_facts", 3, ["d", "facts", "deed", "kind", "odd", "part", "at"], [(.asg 3 (.call 1 [(.var 0), (.cst (.int 8))])), (.ifs (.cmp .eq (.var 3) (.cst (.int 0))) [(.ret (.sq .list (.var 1)))] []), (.ifs (.cmp .eq (.var 3) (.cst (.int 1))) [(.ret (.call 17 [(.var 0), (.lst [(.cst .non), (.cst (.int 0)), (.cst (.str "")), (.cst (.str "facts")), (.tup [(.cst (.int 0)), (.cst (.int 0)), (.var 2)]), (.tup [(.tup [(.cst (.int 0)), (.cst (.int 0)), (.var 2)]), (.cst .non)])])]))] []), (.asg 4 (.lst [(.tup [(.cst (.int 0)), (.cst (.int 0))]), (.tup [(.cst (.int 0))]), (.tup []), (.cst .non), (.tup [(.neg (.cst (.int 1))), (.cst (.int 0)), (.var 2)]), (.tup [(.cst (.int 0)), (.neg (.cst (.int 1))), (.var 2)]), (.tup [(.bin .add (.bin .pow (.cst (.int 10)) (.cst (.int 6))) (.cst (.int 1))), (.cst (.int 0)), (.var 2)]), (.tup [(.cst (.int 0)), (.bin .add (.bin .pow (.cst (.int 10)) (.cst (.int 6))) (.cst (.int 1))), (.var 2)])])), (.asg 4 (.bin .add (.var 4) (.lst [(.tup [(.cst (.bl true)), (.cst (.int 0)), (.var 2)]), (.tup [(.cst (.int 0)), (.cst (.bl false)), (.var 2)]), (.tup [(.cst (.int 0)), (.cst .non), (.var 2)]), (.lst [(.cst (.int 0)), (.cst (.int 0)), (.var 2)]), (.tup [(.cst (.int 0)), (.cst (.int 0)), (.var 2), (.var 2)]), (.tup [(.cst (.str "0")), (.cst (.int 0)), (.var 2)])]))), (.asg 5 (.sl (.var 1) .nopart (.cst (.int 39)))), (.asg 6 (.call 1 [(.var 0), (.bin .add (.sq .len (.var 5)) (.cst (.int 1)))])), (.ret (.bin .add (.bin .add (.sl (.var 5) .nopart (.var 6)) (.tup [(.call 17 [(.var 0), (.var 4)])])) (.sl (.var 5) (.var 6) .nopart)))]⟩
def d60 : MDef := ⟨"_law_odd_graph", 2, ["d", "graph", "kind", "blocks", "queues", "part"], [(.asgT [3, 4] (.var 1)), (.asg 2 (.call 1 [(.var 0), (.cst (.int 5))])), (.ifs (.cmp .eq (.var 2) (.cst (.int 0))) [(.ret (.sq .list (.var 1)))] []), (.ifs (.cmp .eq (.var 2) (.cst (.int 1))) [(.ret (.bin .add (.var 1) (.tup [(.tup [])])))] []), (.ifs (.cmp .eq (.var 2) (.cst (.int 2))) [(.ret (.tup [(.tup []), (.tup [])]))] []), (.ifs (.cmp .eq (.var 2) (.cst (.int 3))) [(.ret (.tup [(.bin .add (.var 3) (.tup [(.idx (.var 3) (.cst (.int 0)))])), (.var 4)]))] []), (.ret (.tup [(.var 3), (.bin .add (.var 4) (.tup [(.tup [(.cst (.int 0)), (.sq .tuple (.comp [5] (.one 5) (.idx (.idx (.var 3) (.cst (.int 0))) (.cst (.int 1))) false (.cst .non) (.cst (.int 1)))), (.sq .len (.var 3)), (.tup [(.cst (.int 1))]), (.tup [])])]))]))]⟩
def d61 : MDef := ⟨"_law_refusals_hold", 3, ["d", "graph", "facts", "deed", "odd", "rows", "other", "told", "full", "more", "k"], [(.asg 3 (.call 16 [(.var 0), (.var 1), (.call 15 [(.var 0), (.var 1)])])), (.asg 4 (.call 17 [(.var 0), (.lst [(.neg (.cst (.int 1))), (.bin .add (.bin .pow (.cst (.int 10)) (.cst (.int 6))) (.cst (.int 1))), (.cst (.bl true)), (.cst (.bl false)), (.cst .non), (.cst (.str "5")), (.tup [(.cst (.int 5))]), (.bin .pow (.cst (.int 10)) (.cst (.int 30)))])])), (.asg 5 (.call 59 [(.var 0), (.var 2), (.var 3)])), (.asg 6 (.call 60 [(.var 0), (.var 1)])), (.asg 7 (.lst [(.call 54 [(.var 6), (.var 5), (.var 4), (.var 4)]), (.call 54 [(.var 1), (.var 5), (.var 4), (.var 4)])])), (.ifs (.cmp .ne (.var 7) (.lst [(.tup [(.cst (.str "bad")), (.cst (.str "graph"))]), (.tup [(.cst (.str "bad")), (.cst (.str "facts"))])])) [(.ret (.cst (.bl false)))] []), (.asg 7 (.lst [(.call 54 [(.var 1), (.var 2), (.var 4), (.var 4)]), (.call 54 [(.var 1), (.var 2), (.bin .pow (.cst (.int 10)) (.cst (.int 6))), (.var 4)])])), (.ifs (.cmp .ne (.var 7) (.lst [(.tup [(.cst (.str "bad")), (.cst (.str "moment"))]), (.tup [(.cst (.str "bad")), (.cst (.str "known"))])])) [(.ret (.cst (.bl false)))] []), (.asg 7 (.lst [(.call 35 [(.var 5), (.var 4)]), (.call 35 [(.var 2), (.var 4)]), (.call 55 [(.var 6), (.cst .non)])])), (.ifs (.cmp .ne (.var 7) (.lst [(.tup [(.cst (.str "bad")), (.cst (.str "facts"))]), (.tup [(.cst (.str "bad")), (.cst (.str "known"))]), (.tup [(.cst (.str "bad")), (.cst (.str "graph"))])])) [(.ret (.cst (.bl false)))] []), (.asg 8 (.sq .tuple (.comp [10] (.one 10) (.rng1 (.cst (.int 40))) false (.cst .non) (.tup [(.cst (.int 1)), (.cst (.int 1)), (.var 3)])))), (.ifs (.or [(.cmp .ne (.call 54 [(.var 1), (.var 8), (.cst (.int 0)), (.bin .pow (.cst (.int 10)) (.cst (.int 6)))]) (.tup [(.cst (.str "seen")), (.var 1)])), (.cmp .ne (.call 35 [(.var 8), (.cst (.int 1))]) (.tup [(.cst (.str "edges")), (.tup [(.cst (.int 0)), (.cst (.int 1))])]))]) [(.ret (.cst (.bl false)))] []), (.asg 9 (.bin .add (.var 8) (.tup [(.tup [(.cst (.int 1)), (.cst (.int 1)), (.var 3)])]))), (.ret (.and [(.cmp .eq (.call 54 [(.var 1), (.var 9), (.cst (.int 0)), (.cst (.int 0))]) (.tup [(.cst (.str "bad")), (.cst (.str "facts"))])), (.cmp .eq (.call 35 [(.var 9), (.cst (.int 1))]) (.tup [(.cst (.str "bad")), (.cst (.str "facts"))]))]))]⟩
def d62 : MDef := ⟨"law", 1, ["script", "d", "size", "graph", "facts", "fact", "moment", "known", "due", "late", "left"], [(.asg 1 (.call 0 [(.var 0)])), (.asg 2 (.call 1 [(.var 1), (.cst (.int 32))])), (.asg 3 (.call 14 [(.var 1), (.var 2)])), (.asg 4 (.call 20 [(.var 1), (.var 3), (.var 2)])), (.for_ (.one 5) (.sl (.var 4) .nopart (.cst (.int 8))) [(.asg 10 (.call 27 [(.var 3), (.idx (.var 5) (.cst (.int 2)))])), (.asg 8 (.ite (.isN false (.var 10)) (.tup [(.cst (.str "bad")), (.cst (.str "deed"))]) (.tup [(.cst (.str "left")), (.var 10)]))), (.ifs (.cmp .ne (.call 55 [(.var 3), (.idx (.var 5) (.cst (.int 2)))]) (.var 8)) [(.ret (.cst (.bl false)))] [])]), (.asg 6 (.bi .max [(.call 30 [(.var 1), (.var 4), (.cst (.int 1))]), (.call 30 [(.var 1), (.var 4), (.cst (.int 1))])])), (.asg 7 (.bi .max [(.call 30 [(.var 1), (.var 4), (.cst (.int 0))]), (.call 30 [(.var 1), (.var 4), (.cst (.int 0))])])), (.asg 8 (.call 28 [(.var 3), (.var 4), (.var 6), (.var 7)])), (.ifs (.or [(.cmp .ne (.call 54 [(.var 3), (.var 4), (.var 6), (.var 7)]) (.var 8)), (.not (.call 58 [(.var 1), (.var 3), (.var 4), (.var 7)]))]) [(.ret (.cst (.bl false)))] []), (.asg 9 (.call 29 [(.var 1), (.var 3), (.var 4), (.var 6), (.var 7)])), (.ifs (.cmp .ne (.call 35 [(.var 9), (.var 7)]) (.tup [(.cst (.str "edges")), (.call 56 [(.var 9), (.var 7)])])) [(.ret (.cst (.bl false)))] []), (.ifs (.or [(.cmp .ne (.call 54 [(.var 3), (.var 9), (.var 6), (.var 7)]) (.var 8)), (.not (.call 61 [(.var 1), (.var 3), (.var 4)]))]) [(.ret (.cst (.bl false)))] []), (.ret (.cmp .eq (.call 54 [(.var 3), (.var 4), (.var 6), (.var 7)]) (.var 8)))]⟩
def defs : List MDef := [d0, d1, d2, d3, d4, d5, d6, d7, d8, d9, d10, d11, d12, d13, d14, d15, d16, d17, d18, d19, d20, d21, d22, d23, d24, d25, d26, d27, d28, d29, d30, d31, d32, d33, d34, d35, d36, d37, d38, d39, d40, d41, d42, d43, d44, d45, d46, d47, d48, d49, d50, d51, d52, d53, d54, d55, d56, d57, d58, d59, d60, d61, d62]
def consts : List (Str × D) := [("LETTERS", (.str "abcdefghijklmnopqrstuvwxyz")), ("SIGNS", (.str "abcdefghijklmnopqrstuvwxyz0123456789_.")), ("MODULUS", (.int 9973)), ("MOST_PHASES", (.int 6)), ("MOST_TIME", (.int 60)), ("MOST_RATE", (.int 12)), ("MOST_START", (.int 60)), ("MOST_BLOCKS", (.int 60)), ("MOST_QUEUES", (.int 160)), ("MOST_NAME", (.int 16)), ("MOST_FACTS", (.int 40)), ("MOST_MOMENT", (.int 1000000))]
def excs : List Str := ["RateError", "BadThing", "TooMany"]
def xs : XS := ⟨3, fun j k => (([[true, false, false, true], [true, true, false, true], [true, false, true, true]] : List (List Bool)).getD j []).getD k false, fun j => ([[], ["part"], ["limit"]] : List (List Str)).getD j []⟩
def nfl : List Bool := [true, true, true, true, true, true, true, true, true, true, true, true, true, true, true, true, true, true, true, true, true, true, true, true, true, true, true, true, true, true, true, true, true, true, true, false, true, true, true, true, true, true, true, true, true, true, true, true, true, true, true, true, false, false, false, false, true, true, false, true, true, false, false]
end Tx

namespace Tx
abbrev i__law_begin : Nat := 0
abbrev i__law_draw : Nat := 1
abbrev i__law_pool : Nat := 2
abbrev i__law_rare : Nat := 3
abbrev i__law_pop : Nat := 4
abbrev i__law_token : Nat := 5
abbrev i__law_block : Nat := 6
abbrev i__law_blocks : Nat := 7
abbrev i__law_gcd : Nat := 8
abbrev i__law_split : Nat := 9
abbrev i__law_rates : Nat := 10
abbrev i__law_start_many : Nat := 11
abbrev i__law_tokens : Nat := 12
abbrev i__law_graph : Nat := 13
abbrev i__law_world : Nat := 14
abbrev i__law_spot : Nat := 15
abbrev i__law_deed_at : Nat := 16
abbrev i__law_pick : Nat := 17
abbrev i__law_bent : Nat := 18
abbrev i__law_time : Nat := 19
abbrev i__law_facts : Nat := 20
abbrev i__law_is_int : Nat := 21
abbrev i__law_is_ints : Nat := 22
abbrev i__law_row : Nat := 23
abbrev i__law_block_after : Nat := 24
abbrev i__law_rates_fit : Nat := 25
abbrev i__law_queue_after : Nat := 26
abbrev i__law_after : Nat := 27
abbrev i__law_due : Nat := 28
abbrev i__law_with_late : Nat := 29
abbrev i__law_near : Nat := 30
abbrev i_whole : Nat := 31
abbrev i_is_fact : Nat := 32
abbrev i_check_facts : Nat := 33
abbrev i_edges : Nat := 34
abbrev i__law_edges : Nat := 35
abbrev i_is_numbers : Nat := 36
abbrev i_is_rates : Nat := 37
abbrev i_is_start : Nat := 38
abbrev i_is_queue : Nat := 39
abbrev i_is_name : Nat := 40
abbrev i_is_times : Nat := 41
abbrev i_is_deed : Nat := 42
abbrev i_is_block : Nat := 43
abbrev i_is_graph : Nat := 44
abbrev i_check_graph : Nat := 45
abbrev i_is_place : Nat := 46
abbrev i_with_block : Nat := 47
abbrev i_changed_block : Nat := 48
abbrev i_with_queue : Nat := 49
abbrev i_changed_queue : Nat := 50
abbrev i_changed : Nat := 51
abbrev i_with_fact : Nat := 52
abbrev i_seen : Nat := 53
abbrev i__law_asked : Nat := 54
abbrev i__law_changed : Nat := 55
abbrev i__law_edges_due : Nat := 56
abbrev i__law_shuffled : Nat := 57
abbrev i__law_edges_hold : Nat := 58
abbrev i__law_odd_facts : Nat := 59
abbrev i__law_odd_graph : Nat := 60
abbrev i__law_refusals_hold : Nat := 61
abbrev i_law : Nat := 62
end Tx
set_option Elab.async false
set_option linter.all false
set_option maxRecDepth 1000000
set_option maxHeartbeats 0

namespace Tx
open PySem Mp L2
def top (i : Nat) : Stmt := PySem.Challenge.pw_ratewarrant_k97_whole_two_times.main.body.getD i (.Pass ⟨0, 0, 0, 0⟩)
def inTop (i : Nat) : Stmt := match top i with
  | .ClassDef _ _ _ (b :: _) _ _ _ _ _ _ _ => b
  | s => s
theorem c0 : chkDef xs defs consts excs nfl 0 d0 (defScope (top 41)) (defBody (top 41)) = true := by decide +kernel
theorem c1 : chkDef xs defs consts excs nfl 1 d1 (defScope (top 42)) (defBody (top 42)) = true := by decide +kernel
theorem c2 : chkDef xs defs consts excs nfl 2 d2 (defScope (top 47)) (defBody (top 47)) = true := by decide +kernel
theorem c3 : chkDef xs defs consts excs nfl 3 d3 (defScope (top 45)) (defBody (top 45)) = true := by decide +kernel
theorem c4 : chkDef xs defs consts excs nfl 4 d4 (defScope (top 44)) (defBody (top 44)) = true := by decide +kernel
theorem c5 : chkDef xs defs consts excs nfl 5 d5 (defScope (top 52)) (defBody (top 52)) = true := by decide +kernel
theorem c6 : chkDef xs defs consts excs nfl 6 d6 (defScope (top 54)) (defBody (top 54)) = true := by decide +kernel
theorem c7 : chkDef xs defs consts excs nfl 7 d7 (defScope (top 55)) (defBody (top 55)) = true := by decide +kernel
theorem c8 : chkDef xs defs consts excs nfl 8 d8 (defScope (top 50)) (defBody (top 50)) = true := by decide +kernel
theorem c9 : chkDef xs defs consts excs nfl 9 d9 (defScope (top 51)) (defBody (top 51)) = true := by decide +kernel
theorem c10 : chkDef xs defs consts excs nfl 10 d10 (defScope (top 56)) (defBody (top 56)) = true := by decide +kernel
theorem c11 : chkDef xs defs consts excs nfl 11 d11 (defScope (top 57)) (defBody (top 57)) = true := by decide +kernel
theorem c12 : chkDef xs defs consts excs nfl 12 d12 (defScope (top 53)) (defBody (top 53)) = true := by decide +kernel
theorem c13 : chkDef xs defs consts excs nfl 13 d13 (defScope (top 58)) (defBody (top 58)) = true := by decide +kernel
theorem c14 : chkDef xs defs consts excs nfl 14 d14 (defScope (top 64)) (defBody (top 64)) = true := by decide +kernel
theorem c15 : chkDef xs defs consts excs nfl 15 d15 (defScope (top 65)) (defBody (top 65)) = true := by decide +kernel
theorem c16 : chkDef xs defs consts excs nfl 16 d16 (defScope (top 66)) (defBody (top 66)) = true := by decide +kernel
theorem c17 : chkDef xs defs consts excs nfl 17 d17 (defScope (top 43)) (defBody (top 43)) = true := by decide +kernel
theorem c18 : chkDef xs defs consts excs nfl 18 d18 (defScope (top 67)) (defBody (top 67)) = true := by decide +kernel
theorem c19 : chkDef xs defs consts excs nfl 19 d19 (defScope (top 68)) (defBody (top 68)) = true := by decide +kernel
theorem c20 : chkDef xs defs consts excs nfl 20 d20 (defScope (top 69)) (defBody (top 69)) = true := by decide +kernel
theorem c21 : chkDef xs defs consts excs nfl 21 d21 (defScope (top 48)) (defBody (top 48)) = true := by decide +kernel
theorem c22 : chkDef xs defs consts excs nfl 22 d22 (defScope (top 49)) (defBody (top 49)) = true := by decide +kernel
theorem c23 : chkDef xs defs consts excs nfl 23 d23 (defScope (top 59)) (defBody (top 59)) = true := by decide +kernel
theorem c24 : chkDef xs defs consts excs nfl 24 d24 (defScope (top 60)) (defBody (top 60)) = true := by decide +kernel
theorem c25 : chkDef xs defs consts excs nfl 25 d25 (defScope (top 61)) (defBody (top 61)) = true := by decide +kernel
theorem c26 : chkDef xs defs consts excs nfl 26 d26 (defScope (top 62)) (defBody (top 62)) = true := by decide +kernel
theorem c27 : chkDef xs defs consts excs nfl 27 d27 (defScope (top 63)) (defBody (top 63)) = true := by decide +kernel
theorem c28 : chkDef xs defs consts excs nfl 28 d28 (defScope (top 71)) (defBody (top 71)) = true := by decide +kernel
theorem c29 : chkDef xs defs consts excs nfl 29 d29 (defScope (top 77)) (defBody (top 77)) = true := by decide +kernel
theorem c30 : chkDef xs defs consts excs nfl 30 d30 (defScope (top 70)) (defBody (top 70)) = true := by decide +kernel
theorem c31 : chkDef xs defs consts excs nfl 31 d31 (defScope (top 15)) (defBody (top 15)) = true := by decide +kernel
theorem c32 : chkDef xs defs consts excs nfl 32 d32 (defScope (top 35)) (defBody (top 35)) = true := by decide +kernel
theorem c33 : chkDef xs defs consts excs nfl 33 d33 (defScope (top 36)) (defBody (top 36)) = true := by decide +kernel
theorem c34 : chkDef xs defs consts excs nfl 34 d34 (defScope (top 39)) (defBody (top 39)) = true := by decide +kernel
theorem c35 : chkDef xs defs consts excs nfl 35 d35 (defScope (top 75)) (defBody (top 75)) = true := by decide +kernel
theorem c36 : chkDef xs defs consts excs nfl 36 d36 (defScope (top 16)) (defBody (top 16)) = true := by decide +kernel
theorem c37 : chkDef xs defs consts excs nfl 37 d37 (defScope (top 21)) (defBody (top 21)) = true := by decide +kernel
theorem c38 : chkDef xs defs consts excs nfl 38 d38 (defScope (top 22)) (defBody (top 22)) = true := by decide +kernel
theorem c39 : chkDef xs defs consts excs nfl 39 d39 (defScope (top 23)) (defBody (top 23)) = true := by decide +kernel
theorem c40 : chkDef xs defs consts excs nfl 40 d40 (defScope (top 17)) (defBody (top 17)) = true := by decide +kernel
theorem c41 : chkDef xs defs consts excs nfl 41 d41 (defScope (top 18)) (defBody (top 18)) = true := by decide +kernel
theorem c42 : chkDef xs defs consts excs nfl 42 d42 (defScope (top 19)) (defBody (top 19)) = true := by decide +kernel
theorem c43 : chkDef xs defs consts excs nfl 43 d43 (defScope (top 20)) (defBody (top 20)) = true := by decide +kernel
theorem c44 : chkDef xs defs consts excs nfl 44 d44 (defScope (top 24)) (defBody (top 24)) = true := by decide +kernel
theorem c45 : chkDef xs defs consts excs nfl 45 d45 (defScope (top 25)) (defBody (top 25)) = true := by decide +kernel
theorem c46 : chkDef xs defs consts excs nfl 46 d46 (defScope (top 26)) (defBody (top 26)) = true := by decide +kernel
theorem c47 : chkDef xs defs consts excs nfl 47 d47 (defScope (top 30)) (defBody (top 30)) = true := by decide +kernel
theorem c48 : chkDef xs defs consts excs nfl 48 d48 (defScope (top 32)) (defBody (top 32)) = true := by decide +kernel
theorem c49 : chkDef xs defs consts excs nfl 49 d49 (defScope (top 31)) (defBody (top 31)) = true := by decide +kernel
theorem c50 : chkDef xs defs consts excs nfl 50 d50 (defScope (top 33)) (defBody (top 33)) = true := by decide +kernel
theorem c51 : chkDef xs defs consts excs nfl 51 d51 (defScope (top 34)) (defBody (top 34)) = true := by decide +kernel
theorem c52 : chkDef xs defs consts excs nfl 52 d52 (defScope (top 38)) (defBody (top 38)) = true := by decide +kernel
theorem c53 : chkDef xs defs consts excs nfl 53 d53 (defScope (top 37)) (defBody (top 37)) = true := by decide +kernel
theorem c54 : chkDef xs defs consts excs nfl 54 d54 (defScope (top 74)) (defBody (top 74)) = true := by decide +kernel
theorem c55 : chkDef xs defs consts excs nfl 55 d55 (defScope (top 73)) (defBody (top 73)) = true := by decide +kernel
theorem c56 : chkDef xs defs consts excs nfl 56 d56 (defScope (top 72)) (defBody (top 72)) = true := by decide +kernel
theorem c57 : chkDef xs defs consts excs nfl 57 d57 (defScope (top 46)) (defBody (top 46)) = true := by decide +kernel
theorem c58 : chkDef xs defs consts excs nfl 58 d58 (defScope (top 76)) (defBody (top 76)) = true := by decide +kernel
theorem c59 : chkDef xs defs consts excs nfl 59 d59 (defScope (top 78)) (defBody (top 78)) = true := by decide +kernel
theorem c60 : chkDef xs defs consts excs nfl 60 d60 (defScope (top 79)) (defBody (top 79)) = true := by decide +kernel
theorem c61 : chkDef xs defs consts excs nfl 61 d61 (defScope (top 80)) (defBody (top 80)) = true := by decide +kernel
theorem c62 : chkDef xs defs consts excs nfl 62 d62 (defScope (top 81)) (defBody (top 81)) = true := by decide +kernel
def n0 : He.DefD := ⟨("_law_begin", none), "_law_begin", "_law_begin", defArgs (top 41), defBody (top 41), defScope (top 41), [], []⟩
def n1 : He.DefD := ⟨("_law_draw", none), "_law_draw", "_law_draw", defArgs (top 42), defBody (top 42), defScope (top 42), [], []⟩
def n2 : He.DefD := ⟨("_law_pool", none), "_law_pool", "_law_pool", defArgs (top 47), defBody (top 47), defScope (top 47), [], []⟩
def n3 : He.DefD := ⟨("_law_rare", none), "_law_rare", "_law_rare", defArgs (top 45), defBody (top 45), defScope (top 45), [], []⟩
def n4 : He.DefD := ⟨("_law_pop", none), "_law_pop", "_law_pop", defArgs (top 44), defBody (top 44), defScope (top 44), [], []⟩
def n5 : He.DefD := ⟨("_law_token", none), "_law_token", "_law_token", defArgs (top 52), defBody (top 52), defScope (top 52), [], []⟩
def n6 : He.DefD := ⟨("_law_block", none), "_law_block", "_law_block", defArgs (top 54), defBody (top 54), defScope (top 54), [], []⟩
def n7 : He.DefD := ⟨("_law_blocks", none), "_law_blocks", "_law_blocks", defArgs (top 55), defBody (top 55), defScope (top 55), [], []⟩
def n8 : He.DefD := ⟨("_law_gcd", none), "_law_gcd", "_law_gcd", defArgs (top 50), defBody (top 50), defScope (top 50), [], []⟩
def n9 : He.DefD := ⟨("_law_split", none), "_law_split", "_law_split", defArgs (top 51), defBody (top 51), defScope (top 51), [], []⟩
def n10 : He.DefD := ⟨("_law_rates", none), "_law_rates", "_law_rates", defArgs (top 56), defBody (top 56), defScope (top 56), [], []⟩
def n11 : He.DefD := ⟨("_law_start_many", none), "_law_start_many", "_law_start_many", defArgs (top 57), defBody (top 57), defScope (top 57), [], []⟩
def n12 : He.DefD := ⟨("_law_tokens", none), "_law_tokens", "_law_tokens", defArgs (top 53), defBody (top 53), defScope (top 53), [], []⟩
def n13 : He.DefD := ⟨("_law_graph", none), "_law_graph", "_law_graph", defArgs (top 58), defBody (top 58), defScope (top 58), [], []⟩
def n14 : He.DefD := ⟨("_law_world", none), "_law_world", "_law_world", defArgs (top 64), defBody (top 64), defScope (top 64), [], []⟩
def n15 : He.DefD := ⟨("_law_spot", none), "_law_spot", "_law_spot", defArgs (top 65), defBody (top 65), defScope (top 65), [], []⟩
def n16 : He.DefD := ⟨("_law_deed_at", none), "_law_deed_at", "_law_deed_at", defArgs (top 66), defBody (top 66), defScope (top 66), [], []⟩
def n17 : He.DefD := ⟨("_law_pick", none), "_law_pick", "_law_pick", defArgs (top 43), defBody (top 43), defScope (top 43), [], []⟩
def n18 : He.DefD := ⟨("_law_bent", none), "_law_bent", "_law_bent", defArgs (top 67), defBody (top 67), defScope (top 67), [], []⟩
def n19 : He.DefD := ⟨("_law_time", none), "_law_time", "_law_time", defArgs (top 68), defBody (top 68), defScope (top 68), [], []⟩
def n20 : He.DefD := ⟨("_law_facts", none), "_law_facts", "_law_facts", defArgs (top 69), defBody (top 69), defScope (top 69), [], []⟩
def n21 : He.DefD := ⟨("_law_is_int", none), "_law_is_int", "_law_is_int", defArgs (top 48), defBody (top 48), defScope (top 48), [], []⟩
def n22 : He.DefD := ⟨("_law_is_ints", none), "_law_is_ints", "_law_is_ints", defArgs (top 49), defBody (top 49), defScope (top 49), [], []⟩
def n23 : He.DefD := ⟨("_law_row", none), "_law_row", "_law_row", defArgs (top 59), defBody (top 59), defScope (top 59), [], []⟩
def n24 : He.DefD := ⟨("_law_block_after", none), "_law_block_after", "_law_block_after", defArgs (top 60), defBody (top 60), defScope (top 60), [], []⟩
def n25 : He.DefD := ⟨("_law_rates_fit", none), "_law_rates_fit", "_law_rates_fit", defArgs (top 61), defBody (top 61), defScope (top 61), [], []⟩
def n26 : He.DefD := ⟨("_law_queue_after", none), "_law_queue_after", "_law_queue_after", defArgs (top 62), defBody (top 62), defScope (top 62), [], []⟩
def n27 : He.DefD := ⟨("_law_after", none), "_law_after", "_law_after", defArgs (top 63), defBody (top 63), defScope (top 63), [], []⟩
def n28 : He.DefD := ⟨("_law_due", none), "_law_due", "_law_due", defArgs (top 71), defBody (top 71), defScope (top 71), [], []⟩
def n29 : He.DefD := ⟨("_law_with_late", none), "_law_with_late", "_law_with_late", defArgs (top 77), defBody (top 77), defScope (top 77), [], []⟩
def n30 : He.DefD := ⟨("_law_near", none), "_law_near", "_law_near", defArgs (top 70), defBody (top 70), defScope (top 70), [], []⟩
def n31 : He.DefD := ⟨("whole", none), "whole", "whole", defArgs (top 15), defBody (top 15), defScope (top 15), [], []⟩
def n32 : He.DefD := ⟨("is_fact", none), "is_fact", "is_fact", defArgs (top 35), defBody (top 35), defScope (top 35), [], []⟩
def n33 : He.DefD := ⟨("check_facts", none), "check_facts", "check_facts", defArgs (top 36), defBody (top 36), defScope (top 36), [], []⟩
def n34 : He.DefD := ⟨("edges", none), "edges", "edges", defArgs (top 39), defBody (top 39), defScope (top 39), [], []⟩
def n35 : He.DefD := ⟨("_law_edges", none), "_law_edges", "_law_edges", defArgs (top 75), defBody (top 75), defScope (top 75), [], []⟩
def n36 : He.DefD := ⟨("is_numbers", none), "is_numbers", "is_numbers", defArgs (top 16), defBody (top 16), defScope (top 16), [], []⟩
def n37 : He.DefD := ⟨("is_rates", none), "is_rates", "is_rates", defArgs (top 21), defBody (top 21), defScope (top 21), [], []⟩
def n38 : He.DefD := ⟨("is_start", none), "is_start", "is_start", defArgs (top 22), defBody (top 22), defScope (top 22), [], []⟩
def n39 : He.DefD := ⟨("is_queue", none), "is_queue", "is_queue", defArgs (top 23), defBody (top 23), defScope (top 23), [], []⟩
def n40 : He.DefD := ⟨("is_name", none), "is_name", "is_name", defArgs (top 17), defBody (top 17), defScope (top 17), [], []⟩
def n41 : He.DefD := ⟨("is_times", none), "is_times", "is_times", defArgs (top 18), defBody (top 18), defScope (top 18), [], []⟩
def n42 : He.DefD := ⟨("is_deed", none), "is_deed", "is_deed", defArgs (top 19), defBody (top 19), defScope (top 19), [], []⟩
def n43 : He.DefD := ⟨("is_block", none), "is_block", "is_block", defArgs (top 20), defBody (top 20), defScope (top 20), [], []⟩
def n44 : He.DefD := ⟨("is_graph", none), "is_graph", "is_graph", defArgs (top 24), defBody (top 24), defScope (top 24), [], []⟩
def n45 : He.DefD := ⟨("check_graph", none), "check_graph", "check_graph", defArgs (top 25), defBody (top 25), defScope (top 25), [], []⟩
def n46 : He.DefD := ⟨("is_place", none), "is_place", "is_place", defArgs (top 26), defBody (top 26), defScope (top 26), [], []⟩
def n47 : He.DefD := ⟨("with_block", none), "with_block", "with_block", defArgs (top 30), defBody (top 30), defScope (top 30), [], []⟩
def n48 : He.DefD := ⟨("changed_block", none), "changed_block", "changed_block", defArgs (top 32), defBody (top 32), defScope (top 32), [], []⟩
def n49 : He.DefD := ⟨("with_queue", none), "with_queue", "with_queue", defArgs (top 31), defBody (top 31), defScope (top 31), [], []⟩
def n50 : He.DefD := ⟨("changed_queue", none), "changed_queue", "changed_queue", defArgs (top 33), defBody (top 33), defScope (top 33), [], []⟩
def n51 : He.DefD := ⟨("changed", none), "changed", "changed", defArgs (top 34), defBody (top 34), defScope (top 34), [], []⟩
def n52 : He.DefD := ⟨("with_fact", none), "with_fact", "with_fact", defArgs (top 38), defBody (top 38), defScope (top 38), [], []⟩
def n53 : He.DefD := ⟨("seen", none), "seen", "seen", defArgs (top 37), defBody (top 37), defScope (top 37), [], []⟩
def n54 : He.DefD := ⟨("_law_asked", none), "_law_asked", "_law_asked", defArgs (top 74), defBody (top 74), defScope (top 74), [], []⟩
def n55 : He.DefD := ⟨("_law_changed", none), "_law_changed", "_law_changed", defArgs (top 73), defBody (top 73), defScope (top 73), [], []⟩
def n56 : He.DefD := ⟨("_law_edges_due", none), "_law_edges_due", "_law_edges_due", defArgs (top 72), defBody (top 72), defScope (top 72), [], []⟩
def n57 : He.DefD := ⟨("_law_shuffled", none), "_law_shuffled", "_law_shuffled", defArgs (top 46), defBody (top 46), defScope (top 46), [], []⟩
def n58 : He.DefD := ⟨("_law_edges_hold", none), "_law_edges_hold", "_law_edges_hold", defArgs (top 76), defBody (top 76), defScope (top 76), [], []⟩
def n59 : He.DefD := ⟨("_law_odd_facts", none), "_law_odd_facts", "_law_odd_facts", defArgs (top 78), defBody (top 78), defScope (top 78), [], []⟩
def n60 : He.DefD := ⟨("_law_odd_graph", none), "_law_odd_graph", "_law_odd_graph", defArgs (top 79), defBody (top 79), defScope (top 79), [], []⟩
def n61 : He.DefD := ⟨("_law_refusals_hold", none), "_law_refusals_hold", "_law_refusals_hold", defArgs (top 80), defBody (top 80), defScope (top 80), [], []⟩
def n62 : He.DefD := ⟨("law", none), "law", "law", defArgs (top 81), defBody (top 81), defScope (top 81), [], []⟩
def fn : List He.DefD := [n0, n1, n2, n3, n4, n5, n6, n7, n8, n9, n10, n11, n12, n13, n14, n15, n16, n17, n18, n19, n20, n21, n22, n23, n24, n25, n26, n27, n28, n29, n30, n31, n32, n33, n34, n35, n36, n37, n38, n39, n40, n41, n42, n43, n44, n45, n46, n47, n48, n49, n50, n51, n52, n53, n54, n55, n56, n57, n58, n59, n60, n61, n62]
def ex : List ExD := [⟨"RateError", none, "RateError.__init__", defArgs (inTop 1), defBody (inTop 1), defScope (inTop 1)⟩, ⟨"BadThing", some "part", "BadThing.__init__", defArgs (inTop 2), defBody (inTop 2), defScope (inTop 2)⟩, ⟨"TooMany", some "limit", "TooMany.__init__", defArgs (inTop 3), defBody (inTop 3), defScope (inTop 3)⟩]
theorem b0 : Bd d0 n0 := fun _ _ _ _ _ _ us hl => match us, hl with | [_], _ => rfl
theorem b1 : Bd d1 n1 := fun _ _ _ _ _ _ us hl => match us, hl with | [_, _], _ => rfl
theorem b2 : Bd d2 n2 := fun _ _ _ _ _ _ us hl => match us, hl with | [], _ => rfl
theorem b3 : Bd d3 n3 := fun _ _ _ _ _ _ us hl => match us, hl with | [_, _], _ => rfl
theorem b4 : Bd d4 n4 := fun _ _ _ _ _ _ us hl => match us, hl with | [_, _], _ => rfl
theorem b5 : Bd d5 n5 := fun _ _ _ _ _ _ us hl => match us, hl with | [_], _ => rfl
theorem b6 : Bd d6 n6 := fun _ _ _ _ _ _ us hl => match us, hl with | [_, _, _], _ => rfl
theorem b7 : Bd d7 n7 := fun _ _ _ _ _ _ us hl => match us, hl with | [_, _, _], _ => rfl
theorem b8 : Bd d8 n8 := fun _ _ _ _ _ _ us hl => match us, hl with | [_, _], _ => rfl
theorem b9 : Bd d9 n9 := fun _ _ _ _ _ _ us hl => match us, hl with | [_, _, _], _ => rfl
theorem b10 : Bd d10 n10 := fun _ _ _ _ _ _ us hl => match us, hl with | [_, _, _, _, _, _], _ => rfl
theorem b11 : Bd d11 n11 := fun _ _ _ _ _ _ us hl => match us, hl with | [_, _, _, _], _ => rfl
theorem b12 : Bd d12 n12 := fun _ _ _ _ _ _ us hl => match us, hl with | [_, _], _ => rfl
theorem b13 : Bd d13 n13 := fun _ _ _ _ _ _ us hl => match us, hl with | [_, _, _, _, _, _], _ => rfl
theorem b14 : Bd d14 n14 := fun _ _ _ _ _ _ us hl => match us, hl with | [_, _], _ => rfl
theorem b15 : Bd d15 n15 := fun _ _ _ _ _ _ us hl => match us, hl with | [_, _], _ => rfl
theorem b16 : Bd d16 n16 := fun _ _ _ _ _ _ us hl => match us, hl with | [_, _, _], _ => rfl
theorem b17 : Bd d17 n17 := fun _ _ _ _ _ _ us hl => match us, hl with | [_, _], _ => rfl
theorem b18 : Bd d18 n18 := fun _ _ _ _ _ _ us hl => match us, hl with | [_, _, _], _ => rfl
theorem b19 : Bd d19 n19 := fun _ _ _ _ _ _ us hl => match us, hl with | [_], _ => rfl
theorem b20 : Bd d20 n20 := fun _ _ _ _ _ _ us hl => match us, hl with | [_, _, _], _ => rfl
theorem b21 : Bd d21 n21 := fun _ _ _ _ _ _ us hl => match us, hl with | [_], _ => rfl
theorem b22 : Bd d22 n22 := fun _ _ _ _ _ _ us hl => match us, hl with | [_], _ => rfl
theorem b23 : Bd d23 n23 := fun _ _ _ _ _ _ us hl => match us, hl with | [_, _, _, _, _], _ => rfl
theorem b24 : Bd d24 n24 := fun _ _ _ _ _ _ us hl => match us, hl with | [_, _], _ => rfl
theorem b25 : Bd d25 n25 := fun _ _ _ _ _ _ us hl => match us, hl with | [_, _], _ => rfl
theorem b26 : Bd d26 n26 := fun _ _ _ _ _ _ us hl => match us, hl with | [_, _], _ => rfl
theorem b27 : Bd d27 n27 := fun _ _ _ _ _ _ us hl => match us, hl with | [_, _], _ => rfl
theorem b28 : Bd d28 n28 := fun _ _ _ _ _ _ us hl => match us, hl with | [_, _, _, _], _ => rfl
theorem b29 : Bd d29 n29 := fun _ _ _ _ _ _ us hl => match us, hl with | [_, _, _, _, _], _ => rfl
theorem b30 : Bd d30 n30 := fun _ _ _ _ _ _ us hl => match us, hl with | [_, _, _], _ => rfl
theorem b31 : Bd d31 n31 := fun _ _ _ _ _ _ us hl => match us, hl with | [_, _, _], _ => rfl
theorem b32 : Bd d32 n32 := fun _ _ _ _ _ _ us hl => match us, hl with | [_], _ => rfl
theorem b33 : Bd d33 n33 := fun _ _ _ _ _ _ us hl => match us, hl with | [_], _ => rfl
theorem b34 : Bd d34 n34 := fun _ _ _ _ _ _ us hl => match us, hl with | [_, _], _ => rfl
theorem b35 : Bd d35 n35 := fun _ _ _ _ _ _ us hl => match us, hl with | [_, _], _ => rfl
theorem b36 : Bd d36 n36 := fun _ _ _ _ _ _ us hl => match us, hl with | [_, _, _], _ => rfl
theorem b37 : Bd d37 n37 := fun _ _ _ _ _ _ us hl => match us, hl with | [_, _], _ => rfl
theorem b38 : Bd d38 n38 := fun _ _ _ _ _ _ us hl => match us, hl with | [_], _ => rfl
theorem b39 : Bd d39 n39 := fun _ _ _ _ _ _ us hl => match us, hl with | [_, _], _ => rfl
theorem b40 : Bd d40 n40 := fun _ _ _ _ _ _ us hl => match us, hl with | [_], _ => rfl
theorem b41 : Bd d41 n41 := fun _ _ _ _ _ _ us hl => match us, hl with | [_], _ => rfl
theorem b42 : Bd d42 n42 := fun _ _ _ _ _ _ us hl => match us, hl with | [_], _ => rfl
theorem b43 : Bd d43 n43 := fun _ _ _ _ _ _ us hl => match us, hl with | [_], _ => rfl
theorem b44 : Bd d44 n44 := fun _ _ _ _ _ _ us hl => match us, hl with | [_], _ => rfl
theorem b45 : Bd d45 n45 := fun _ _ _ _ _ _ us hl => match us, hl with | [_], _ => rfl
theorem b46 : Bd d46 n46 := fun _ _ _ _ _ _ us hl => match us, hl with | [_, _], _ => rfl
theorem b47 : Bd d47 n47 := fun _ _ _ _ _ _ us hl => match us, hl with | [_, _, _], _ => rfl
theorem b48 : Bd d48 n48 := fun _ _ _ _ _ _ us hl => match us, hl with | [_, _, _, _], _ => rfl
theorem b49 : Bd d49 n49 := fun _ _ _ _ _ _ us hl => match us, hl with | [_, _, _], _ => rfl
theorem b50 : Bd d50 n50 := fun _ _ _ _ _ _ us hl => match us, hl with | [_, _], _ => rfl
theorem b51 : Bd d51 n51 := fun _ _ _ _ _ _ us hl => match us, hl with | [_, _], _ => rfl
theorem b52 : Bd d52 n52 := fun _ _ _ _ _ _ us hl => match us, hl with | [_, _], _ => rfl
theorem b53 : Bd d53 n53 := fun _ _ _ _ _ _ us hl => match us, hl with | [_, _, _, _], _ => rfl
theorem b54 : Bd d54 n54 := fun _ _ _ _ _ _ us hl => match us, hl with | [_, _, _, _], _ => rfl
theorem b55 : Bd d55 n55 := fun _ _ _ _ _ _ us hl => match us, hl with | [_, _], _ => rfl
theorem b56 : Bd d56 n56 := fun _ _ _ _ _ _ us hl => match us, hl with | [_, _], _ => rfl
theorem b57 : Bd d57 n57 := fun _ _ _ _ _ _ us hl => match us, hl with | [_, _], _ => rfl
theorem b58 : Bd d58 n58 := fun _ _ _ _ _ _ us hl => match us, hl with | [_, _, _, _], _ => rfl
theorem b59 : Bd d59 n59 := fun _ _ _ _ _ _ us hl => match us, hl with | [_, _, _], _ => rfl
theorem b60 : Bd d60 n60 := fun _ _ _ _ _ _ us hl => match us, hl with | [_, _], _ => rfl
theorem b61 : Bd d61 n61 := fun _ _ _ _ _ _ us hl => match us, hl with | [_, _, _], _ => rfl
theorem b62 : Bd d62 n62 := fun _ _ _ _ _ _ us hl => match us, hl with | [_], _ => rfl
theorem allB : AllB defs fn := ⟨b0, b1, b2, b3, b4, b5, b6, b7, b8, b9, b10, b11, b12, b13, b14, b15, b16, b17, b18, b19, b20, b21, b22, b23, b24, b25, b26, b27, b28, b29, b30, b31, b32, b33, b34, b35, b36, b37, b38, b39, b40, b41, b42, b43, b44, b45, b46, b47, b48, b49, b50, b51, b52, b53, b54, b55, b56, b57, b58, b59, b60, b61, b62, trivial⟩
theorem chkAll (i : Nat) (d : MDef) (e : He.DefD) (hd : defs[i]? = some d) (he : fn[i]? = some e) : chkDef xs defs consts excs nfl i d e.scope e.body = true := by
  have hi : i < 63 := (List.getElem?_eq_some_iff.mp hd).1
  match i, hi with
  | 0, _ => cases hd; cases he; exact c0
  | 1, _ => cases hd; cases he; exact c1
  | 2, _ => cases hd; cases he; exact c2
  | 3, _ => cases hd; cases he; exact c3
  | 4, _ => cases hd; cases he; exact c4
  | 5, _ => cases hd; cases he; exact c5
  | 6, _ => cases hd; cases he; exact c6
  | 7, _ => cases hd; cases he; exact c7
  | 8, _ => cases hd; cases he; exact c8
  | 9, _ => cases hd; cases he; exact c9
  | 10, _ => cases hd; cases he; exact c10
  | 11, _ => cases hd; cases he; exact c11
  | 12, _ => cases hd; cases he; exact c12
  | 13, _ => cases hd; cases he; exact c13
  | 14, _ => cases hd; cases he; exact c14
  | 15, _ => cases hd; cases he; exact c15
  | 16, _ => cases hd; cases he; exact c16
  | 17, _ => cases hd; cases he; exact c17
  | 18, _ => cases hd; cases he; exact c18
  | 19, _ => cases hd; cases he; exact c19
  | 20, _ => cases hd; cases he; exact c20
  | 21, _ => cases hd; cases he; exact c21
  | 22, _ => cases hd; cases he; exact c22
  | 23, _ => cases hd; cases he; exact c23
  | 24, _ => cases hd; cases he; exact c24
  | 25, _ => cases hd; cases he; exact c25
  | 26, _ => cases hd; cases he; exact c26
  | 27, _ => cases hd; cases he; exact c27
  | 28, _ => cases hd; cases he; exact c28
  | 29, _ => cases hd; cases he; exact c29
  | 30, _ => cases hd; cases he; exact c30
  | 31, _ => cases hd; cases he; exact c31
  | 32, _ => cases hd; cases he; exact c32
  | 33, _ => cases hd; cases he; exact c33
  | 34, _ => cases hd; cases he; exact c34
  | 35, _ => cases hd; cases he; exact c35
  | 36, _ => cases hd; cases he; exact c36
  | 37, _ => cases hd; cases he; exact c37
  | 38, _ => cases hd; cases he; exact c38
  | 39, _ => cases hd; cases he; exact c39
  | 40, _ => cases hd; cases he; exact c40
  | 41, _ => cases hd; cases he; exact c41
  | 42, _ => cases hd; cases he; exact c42
  | 43, _ => cases hd; cases he; exact c43
  | 44, _ => cases hd; cases he; exact c44
  | 45, _ => cases hd; cases he; exact c45
  | 46, _ => cases hd; cases he; exact c46
  | 47, _ => cases hd; cases he; exact c47
  | 48, _ => cases hd; cases he; exact c48
  | 49, _ => cases hd; cases he; exact c49
  | 50, _ => cases hd; cases he; exact c50
  | 51, _ => cases hd; cases he; exact c51
  | 52, _ => cases hd; cases he; exact c52
  | 53, _ => cases hd; cases he; exact c53
  | 54, _ => cases hd; cases he; exact c54
  | 55, _ => cases hd; cases he; exact c55
  | 56, _ => cases hd; cases he; exact c56
  | 57, _ => cases hd; cases he; exact c57
  | 58, _ => cases hd; cases he; exact c58
  | 59, _ => cases hd; cases he; exact c59
  | 60, _ => cases hd; cases he; exact c60
  | 61, _ => cases hd; cases he; exact c61
  | 62, _ => cases hd; cases he; exact c62
theorem atAll : atB defs fn = true := by decide +kernel
theorem conAll : (consts.all fun q => match q.2 with
    | .int _ => true
    | .str _ => true
    | _ => false) = true := by decide +kernel
def pq (b : List Stmt) : Nat → Pos := match b with
  | [.Expr (.Call (.Attribute (.Call (.Name _ q0) _ _ q1) _ q2) [.Constant _ _ q3] _ q4) q5, .Assign [.Attribute (.Name _ q6) _ q7] (.Name _ q8) q9] => fun n => [q0, q1, q2, q3, q4, q5, q6, q7, q8, q9].getD n q0
  | _ => fun _ => ⟨0, 0, 0, 0⟩
def pa (a : Arguments) : Nat → Pos := fun n => (a.args.map (·.pos)).getD n ⟨0, 0, 0, 0⟩
def pt (b : List Stmt) : Str × Nat := match b with
  | .Expr (.Call _ [.Constant (.str t) k _] _ _) _ :: _ => (t, k)
  | _ => ("", 0)
theorem extI {d : ExD} {f : Str} (h1 : d.args = MpX.exA f (pa d.args 0) (pa d.args 1)) (h2 : d.body = MpX.exB f (pt d.body).1 (pt d.body).2 (pq d.body)) (h3 : d.scope = MpX.exS f) (h4 : ((pq d.body 2).endLine == (pq d.body 4).line) = true) : ExT d f := ⟨_, _, _, _, _, h1, h2, h3, h4⟩
theorem exAll (k : Nat) (d : ExD) (f : Str) (h1 : ex[k]? = some d) (h2 : xs.flds k = [f]) : d.fld = some f ∧ ExT d f ∧ ExB f ∧ fB f = true := by
  have hi : k < 3 := (List.getElem?_eq_some_iff.mp h1).1
  match k, hi with
  | 0, _ => cases h2
  | 1, _ => cases h1; cases h2; exact ⟨rfl, extI (by kernel_rfl) (by kernel_rfl) (by kernel_rfl) (by kernel_rfl), fun _ _ _ _ _ _ _ _ _ _ _ _ _ _ _ => .of_eq rfl, by decide +kernel⟩
  | 2, _ => cases h1; cases h2; exact ⟨rfl, extI (by kernel_rfl) (by kernel_rfl) (by kernel_rfl) (by kernel_rfl), fun _ _ _ _ _ _ _ _ _ _ _ _ _ _ _ => .of_eq rfl, by decide +kernel⟩
def fa : List He.Fa := faOf defs consts ex
abbrev R : PySem.W.OpenRow := PySem.W.OpenLaw.row PySem.Challenge.rw_ratewarrant_k97_whole_two_times
abbrev fil : Str := PySem.Challenge.pw_ratewarrant_k97_whole_two_times.main.file
abbrev hk : PySem.W.Hook := hookM fa fn ex fil xs 6
def ob (s : PySem.W.SharedT) : AlM := obsMG fa fn ex fil xs 6 (HandSHeadRun.getT s)
theorem ob_eq (s : PySem.W.SharedT) : ob s = hk.obs s.abs := obsMG_eq (HandSHeadRun.getT_eq s)
def names : List PySem.Str := (["__name__", "RateError", "BadThing", "TooMany", "LETTERS", "SIGNS", "MODULUS", "MOST_PHASES", "MOST_TIME", "MOST_RATE", "MOST_START", "MOST_BLOCKS", "MOST_QUEUES", "MOST_NAME", "whole", "is_numbers", "is_name", "is_times", "is_deed", "is_block", "is_rates", "is_start", "is_queue", "is_graph", "check_graph", "is_place", "MOST_FACTS", "MOST_MOMENT", "with_block", "with_queue"] : List PySem.Str) ++ (["changed_block", "changed_queue", "changed", "is_fact", "check_facts", "seen", "with_fact", "edges", "_law_begin", "_law_draw", "_law_pick", "_law_pop", "_law_rare", "_law_shuffled", "_law_pool", "_law_is_int", "_law_is_ints", "_law_gcd", "_law_split", "_law_token", "_law_tokens", "_law_block", "_law_blocks", "_law_rates", "_law_start_many", "_law_graph", "_law_row", "_law_block_after", "_law_rates_fit", "_law_queue_after"] : List PySem.Str) ++ (["_law_after", "_law_world", "_law_spot", "_law_deed_at", "_law_bent", "_law_time", "_law_facts", "_law_near", "_law_due", "_law_edges_due", "_law_changed", "_law_asked", "_law_edges", "_law_edges_hold", "_law_with_late", "_law_odd_facts", "_law_odd_graph", "_law_refusals_hold"] : List PySem.Str)
theorem run (w : World) : HandSHeadRun.RunEq R (PySem.W.view R.prog [81]) hk ob 8000 names w := by
  intro os
  kernel_rfl
abbrev Pure : Prop := ∀ ns : List Int, ns.length ≤ 63 → ∃ h, phi xs defs 63 62 [.fro (ns.map .int)] [] = .ok (.bl true) h
theorem facts {P : Program} {w : World} {K : PySem.W.Frag} {h : Heap} {mg : Str → Option Value} {f : Addr} (X : K.In h) (G : h.Ns mainGlobals mg) (hfa : mg ("law" : Str) = some (.ref f)) (c : SaysM fa fn ex P.main.file xs K) (hs : (P.main.scope.names.lookup ("super" : Str)).isSome = false) :
    ∃ fd : FuncData, (∀ (s : Shared) (v : Value), BindsTo s fd ⟨[v], []⟩ [("script", v)]) ∧ ∀ base : Heap, K.In base → base.Ns mainGlobals mg → FnOk P w K mg base (cxF P w (nfOf nfl 62)) 71 f fd ["script"] (spF K (caOf K ex) 1 (phi xs defs 63 62)) := by
  have PG := pg_of X G c atAll allB conAll
  have GE := exf_of (P := P) X G c rfl hs exAll
  obtain ⟨f', fd, dd, e1, e2, F, B⟩ := PG.fn 62 d62 rfl
  cases hfa.symm.trans e2
  cases e1
  refine ⟨fd, fun s v => FunD.bindsA (ps := ["script"]) F (fun _ _ _ _ _ _ us hl => match us, hl with | [_], _ => rfl) s [v] rfl, fun base _ _ => ?_⟩
  exact def_ok PG GE chkAll 62 d62 rfl _ _ _ rfl F
end Tx
set_option Elab.async false
set_option linter.all false
set_option maxRecDepth 1000000
set_option maxHeartbeats 0
open PySem PySem.W PySem.Calls PyProof.Rows in
theorem holds_of (pure : Tx.Pure) : PySem.Challenge.rw_ratewarrant_k97_whole_two_times.Holds := by
  w_on; o_law
  refine HandSHeadRun.head_any (r := Tx.R) (q := view Tx.R.prog [81]) (H := Tx.hk) (ob := Tx.ob) (M := 8000) (loose := Tx.names) (d := HandSHeadRun.topDef Tx.R.prog 81) (kwd := []) Tx.ob_eq
    (by kernel_rfl) (fun s => by kernel_rfl) Tx.run (by kernel_rfl) (by kernel_rfl) (by kernel_rfl) (by rfl) (by first | assumption | decide +kernel) (by decide +kernel) ⟨rfl, rfl, rfl, rfl, rfl, by decide +kernel⟩ ?hw ?hc
  case hw => w_witness2
  case hc =>
    refine Mp.walk_M (l := PySem.Challenge.rw_ratewarrant_k97_whole_two_times) (n := 63) (k := 71) (x := "script") (CX := L2.CX Tx.R.prog) rfl (by decide) (by kernel_rfl) ⟨rfl, by decide, by decide⟩ ?F (fun w H s e s' z => Mp.cx0_l z)
    intro w mg fa h Y G hm
    obtain ⟨K, KX, c⟩ := Y
    have hm2 : mg ("law" : PySem.Str) = some (.ref fa) := by
      have e : (HandSHeadRun.topDef Tx.R.prog 81).name = ("law" : PySem.Str) := by kernel_rfl
      rw [← e]
      exact hm
    obtain ⟨fd, hb, hF⟩ := Tx.facts (P := Tx.R.prog) (w := w) KX G hm2 c (by kernel_rfl)
    exact ⟨K, fd, _, KX, hb, fun H a ns hl hO hS => Mp.law_sp hO hS (pure ns hl), hF⟩
set_option Elab.async false
set_option linter.all false
set_option maxRecDepth 100000
set_option maxHeartbeats 2000000
/-! Q1: what the small language's texts keep, as conditions that compute -/
namespace Mp
open PySem

abbrev XQ := Xn → Hh → Prop
def Wp {α : Type} (r : R α) (Q : α → Hh → Prop) (X : XQ) : Prop := match r with
  | .ok a h => Q a h
  | .err x h => X x h
  | .bad => False
theorem Wp.imp {α : Type} {r : R α} {Q Q' : α → Hh → Prop} {X X' : XQ} (p : Wp r Q X) (q : ∀ a h, Q a h → Q' a h) (x : ∀ e h, X e h → X' e h) : Wp r Q' X' := by
  cases r with
  | ok a h => exact q a h p
  | err e h => exact x e h p
  | bad => exact p
theorem Wp.mp {α : Type} {r : R α} {Q Q' : α → Hh → Prop} {X : XQ} (p : Wp r Q X) (q : ∀ a h, Q a h → Q' a h) : Wp r Q' X := p.imp q fun _ _ z => z
theorem wp_bd {α β : Type} {r : R α} {f : α → Hh → R β} {Q : β → Hh → Prop} {X : XQ} (p : Wp r (fun a h => Wp (f a h) Q X) X) : Wp (bd r f) Q X := by
  cases r <;> exact p
/-- a call that is still to be told of -/
inductive CallP (r : R D) (Q : D → Hh → Prop) (X : XQ) : Prop where
  | mk (p : Wp r Q X)
  | no (f : False)
theorem CallP.ok {r : R D} {Q : D → Hh → Prop} {X : XQ} (p : CallP r Q X) : Wp r Q X := by
  cases p with
  | mk p => exact p
  | no f => exact f.elim
def boolK (d : D) (K : Bool → Prop) : Prop := match d with
  | .bl b => K b
  | _ => False
def setK : En → Nat → D → (En → Prop) → Prop
  | [], _, _, K => K []
  | _ :: xs, 0, d, K => K (some d :: xs)
  | x :: xs, n + 1, d, K => setK xs n d fun ys => K (x :: ys)
theorem setK_ok : ∀ {en : En} {i : Nat} {d : D} {K : En → Prop}, setK en i d K → K (en.set i (some d))
  | [], _, _, _, p => p
  | _ :: _, 0, _, _, p => p
  | _ :: xs, n + 1, d, K, p => setK_ok (en := xs) p
def nonK : En → Nat → (En → Prop) → Prop
  | [], _, K => K []
  | _ :: xs, 0, K => K (none :: xs)
  | x :: xs, n + 1, K => nonK xs n fun ys => K (x :: ys)
theorem nonK_ok : ∀ {en : En} {i : Nat} {K : En → Prop}, nonK en i K → K (en.set i none)
  | [], _, _, p => p
  | _ :: _, 0, _, p => p
  | _ :: xs, n + 1, K, p => nonK_ok (en := xs) p
def wipeK : List Nat → En → (En → Prop) → Prop
  | [], en, K => K en
  | v :: vs, en, K => wipeK vs en fun e2 => nonK e2 v K
theorem wipeK_ok : ∀ {vs : List Nat} {en : En} {K : En → Prop}, wipeK vs en K → K (wipeE en vs)
  | [], _, _, p => p
  | v :: vs, en, K, p => nonK_ok (wipeK_ok (vs := vs) p)
def optK (x : Option D) (K : D → Prop) : Prop := match x with
  | some d => K d
  | none => False
def getK : En → Nat → (D → Prop) → Prop
  | [], _, _ => False
  | x :: _, 0, K => optK x K
  | _ :: xs, n + 1, K => getK xs n K
theorem getK_ok : ∀ {en : En} {i : Nat} {K : D → Prop}, getK en i K → ∃ d, en[i]? = some (some d) ∧ K d
  | [], _, _, p => p.elim
  | some d :: _, 0, _, p => ⟨d, rfl, p⟩
  | none :: _, 0, _, p => p.elim
  | _ :: xs, n + 1, K, p => by
    obtain ⟨d, e, q⟩ := getK_ok (en := xs) (i := n) (K := K) p
    exact ⟨d, by simpa using e, q⟩
def setAllK : List Nat → List D → En → (En → Prop) → Prop
  | [], [], en, K => K en
  | i :: is, d :: ds, en, K => setK en i d fun en => setAllK is ds en K
  | _, _, _, _ => False
theorem setAllK_ok : ∀ {is : List Nat} {ds : List D} {en : En} {K : En → Prop}, setAllK is ds en K → ∃ en2, setAll en is ds = some en2 ∧ K en2
  | [], [], en, K, p => ⟨en, rfl, p⟩
  | i :: is, d :: ds, en, K, p => setAllK_ok (is := is) (setK_ok (K := fun en => setAllK is ds en K) p)
  | [], _ :: _, _, _, p => p.elim
  | _ :: _, [], _, _, p => p.elim
def bindK (t : Tg) (d : D) (en : En) (K : En → Prop) : Prop := match t with
  | .one i => setK en i d K
  | .many is => (match d with
    | .tup ds => setAllK is ds en K
    | _ => False)
theorem bindK_ok {t : Tg} {d : D} {en : En} {K : En → Prop} (p : bindK t d en K) : ∃ en2, bindT t d en = some en2 ∧ K en2 := by
  cases t with
  | one i => exact ⟨_, rfl, setK_ok p⟩
  | many is =>
    cases d with
    | tup ds => exact setAllK_ok p
    | _ => exact p.elim
def settleK (rv : Rv) (h : Hh) (Q : D → Hh → Prop) : Prop := match rv with
  | .val d => Q d h
  | .fresh ds => Q (.ref h.length) (h ++ [.lst ds])
  | .walk _ => False
def walkK (rv : Rv) (h : Hh) (K : Wk → Hh → Prop) : Prop := match rv with
  | .val d => (match d with
    | .tup xs => K ⟨xs, [], .tup⟩ h
    | .fro xs => K ⟨xs, [], .lst⟩ h
    | .ref a => ∃ xs, h[a]? = some (.lst xs) ∧ K ⟨xs, [(a, xs)], .lst⟩ h
    | .str z => z.length ≤ sizeLine ∧ K ⟨signsD z, [], .str⟩ h
    | _ => False)
  | .fresh ds => K ⟨ds, [], .lst⟩ h
  | .walk w => K w h
theorem settle_ok {r : R Rv} {Q : D → Hh → Prop} {X : XQ} (p : Wp r (fun rv h => settleK rv h Q) X) : Wp (bd r settle) Q X := wp_bd (p.mp fun rv h z => by cases rv <;> exact z)
theorem walk_ok {r : R Rv} {Q : Wk → Hh → Prop} {X : XQ} (p : Wp r (fun rv h => walkK rv h Q) X) : Wp (bd r walkOf) Q X := wp_bd (p.mp fun rv h z => by
  cases rv with
  | val d =>
    cases d with
    | tup xs => exact z
    | fro xs => exact z
    | ref a => obtain ⟨xs, e, q⟩ := z; simp only [walkOf, walkD, e]; exact q
    | str s => obtain ⟨e, q⟩ := z; simp only [walkOf, walkD, if_pos e]; exact q
    | _ => exact z.elim
  | fresh ds => exact z
  | walk w => exact z)
def binK (h : Hh) (op : Bop) (x y : D) (K : Rv → Prop) : Prop := match op with
  | .add => (match x, y with
    | .int i, .int j => K (.val (.int (i + j)))
    | .tup xs, .tup ys => xs.length + ys.length ≤ sizeLine ∧ K (.val (.tup (xs ++ ys)))
    | .str u, .str v => u.length + v.length ≤ sizeLine ∧ K (.val (.str (u ++ v)))
    | .ref a, .ref b => ∃ xs ys, h[a]? = some (.lst xs) ∧ h[b]? = some (.lst ys) ∧ xs.length + ys.length ≤ sizeLine ∧ K (.fresh (xs ++ ys))
    | _, _ => False)
  | .sub => (match x, y with
    | .int i, .int j => K (.val (.int (i - j)))
    | _, _ => False)
  | .mul => (match x, y with
    | .int i, .int j => mulOk i j = true ∧ K (.val (.int (i * j)))
    | _, _ => False)
  | .fdiv => (match x, y with
    | .int i, .int j => (0 < j ∧ j < 1073741824) ∧ K (.val (.int (i / j)))
    | _, _ => False)
  | .mod => (match x, y with
    | .int i, .int j => 0 < j ∧ K (.val (.int (i % j)))
    | _, _ => False)
  | op => ∃ rv, binR h op x y = some rv ∧ K rv
theorem binK_ok {h : Hh} {op : Bop} {x y : D} {K : Rv → Prop} (p : binK h op x y K) : ∃ rv, binR h op x y = some rv ∧ K rv := by
  cases op with
  | add =>
    cases x <;> cases y <;> first
    | exact p.elim
    | exact ⟨_, rfl, p⟩
    | (obtain ⟨e, q⟩ := p; exact ⟨_, by simp only [binR, binD, if_pos e, Option.map_some], q⟩)
    | (obtain ⟨xs, ys, e1, e2, e3, q⟩ := p; exact ⟨_, by simp only [binR, e1, e2, if_pos e3], q⟩)
  | sub =>
    cases x <;> cases y <;> first
    | exact p.elim
    | exact ⟨_, rfl, p⟩
  | mul =>
    cases x <;> cases y <;> first
    | exact p.elim
    | (obtain ⟨e, q⟩ := p; exact ⟨_, by simp only [binR, binD, if_pos e, Option.map_some], q⟩)
  | fdiv =>
    cases x <;> cases y <;> first
    | exact p.elim
    | (obtain ⟨e, q⟩ := p; exact ⟨_, by simp only [binR, binD, if_pos e, Option.map_some], q⟩)
  | mod =>
    cases x <;> cases y <;> first
    | exact p.elim
    | (obtain ⟨e, q⟩ := p; exact ⟨_, by simp only [binR, binD, if_pos e, Option.map_some], q⟩)
  | _ => exact p
def eqKi (h : Hh) (x : D) (j : Int) (K : Bool → Prop) : Prop := match x with
  | .int i => K (decide (i = j))
  | x => ∃ b, eqD h x (.int j) = some b ∧ K b
def eqKb (h : Hh) (x : D) (j : Bool) (K : Bool → Prop) : Prop := match x with
  | .bl i => K (decide (i = j))
  | x => ∃ b, eqD h x (.bl j) = some b ∧ K b
def eqKn (h : Hh) (x : D) (K : Bool → Prop) : Prop := match x with
  | .non => K true
  | x => ∃ b, eqD h x .non = some b ∧ K b
def eqK (h : Hh) (x y : D) (K : Bool → Prop) : Prop := match y with
  | .int j => eqKi h x j K
  | .bl j => eqKb h x j K
  | .non => eqKn h x K
  | y => ∃ b, eqD h x y = some b ∧ K b
theorem eqD_int (h : Hh) (i j : Int) : eqD h (.int i) (.int j) = some (decide (i = j)) := by
  show (if SeqAt.shaped (.int i) && SeqAt.shaped (.int j) then some (PyData.eqv (.int i) (.int j)) else none) = _
  rw [if_pos (by rfl)]
  simp only [PyData.eqv]
  rw [Bool.eq_iff_iff.mpr (by simp : (i == j) = true ↔ decide (i = j) = true)]
theorem eqD_bl (h : Hh) (i j : Bool) : eqD h (.bl i) (.bl j) = some (decide (i = j)) := by
  cases i <;> cases j <;> rfl
theorem eqK_ok {h : Hh} {x y : D} {K : Bool → Prop} (p : eqK h x y K) : ∃ b, eqD h x y = some b ∧ K b := by
  cases y with
  | int j => cases x <;> first | exact ⟨_, eqD_int h _ _, p⟩ | exact p
  | bl j => cases x <;> first | exact ⟨_, eqD_bl h _ _, p⟩ | exact p
  | non => cases x <;> first | exact ⟨_, rfl, p⟩ | exact p
  | _ => exact p
def cmpK (h : Hh) (op : Cop) (x y : D) (K : Bool → Prop) : Prop := match op with
  | .eq => eqK h x y K
  | .ne => eqK h x y fun b => K (!b)
  | .lt => (match x, y with
    | .int i, .int j => K (decide (i < j))
    | _, _ => False)
  | .le => (match x, y with
    | .int i, .int j => K (decide (i ≤ j))
    | _, _ => False)
  | .gt => (match x, y with
    | .int i, .int j => K (decide (j < i))
    | _, _ => False)
  | .ge => (match x, y with
    | .int i, .int j => K (decide (j ≤ i))
    | _, _ => False)
theorem cmpK_ok {h : Hh} {op : Cop} {x y : D} {K : Bool → Prop} (p : cmpK h op x y K) : ∃ b, cmpD h op x y = some b ∧ K b := by
  cases op with
  | eq => exact eqK_ok p
  | ne => obtain ⟨b, e, q⟩ := eqK_ok (K := fun b => K (!b)) p; exact ⟨!b, by simp only [cmpD, e, Option.map_some], q⟩
  | _ =>
    cases x <;> cases y <;> first
    | exact p.elim
    | exact ⟨_, rfl, p⟩
def negK (x : D) (K : D → Prop) : Prop := match x with
  | .int i => K (.int (-i))
  | _ => False
def notK (x : D) (K : D → Prop) : Prop := match x with
  | .bl b => K (.bl (!b))
  | _ => False
def isK (t : Ty) (x : D) (h : Hh) (K : Bool → Prop) : Prop := match x with
  | .ref a => ∃ xs, h[a]? = some (.lst xs) ∧ K (match t with | .list => true | _ => false)
  | .fro _ => False
  | .non => K false
  | .bl _ => K (match t with | .int => true | .bool => true | _ => false)
  | .int _ => K (match t with | .int => true | _ => false)
  | .str _ => K (match t with | .str => true | _ => false)
  | .tup _ => K (match t with | .tuple => true | _ => false)
theorem isK_ok {t : Ty} {x : D} {h : Hh} {K : Bool → Prop} (p : isK t x h K) : ∃ b, isD t x h = some b ∧ K b := by
  cases x with
  | ref a => obtain ⟨xs, e, q⟩ := p; exact ⟨_, by cases t <;> simp only [isD, e], q⟩
  | fro xs => exact p.elim
  | _ => exact ⟨_, by cases t <;> rfl, p⟩
def lstK (h : Hh) (l : D) (K : Nat → List D → Prop) : Prop := match l with
  | .ref a => ∃ xs, h[a]? = some (.lst xs) ∧ K a xs
  | _ => False
/-- what a comprehension gives for one item -/
noncomputable def bodyM (Φ : Nat → List D → M D) (cd : Bool) (c e : E) : En → M (Option D) := fun en1 h => match cd with
  | true => bd (bd (evW Φ c en1 h) settle) fun k h => (match k with
    | .bl true => bd (bd (evW Φ e en1 h) settle) fun y h => .ok (some y) h
    | .bl false => .ok none h
    | _ => .bad)
  | false => bd (bd (evW Φ e en1 h) settle) fun y h => .ok (some y) h
inductive CompP (Φ : Nat → List D → M D) (own : List Nat) (t : Tg) (cd : Bool) (c e : E) (w : Wk) (en : En) (h : Hh) (K : List D → Hh → Prop) (X : XQ) : Prop where
  | mk (p : Wp (compM own t (bodyM Φ cd c e) w en h) K X)
  | no (f : False)
theorem CompP.ok {Φ : Nat → List D → M D} {own : List Nat} {t : Tg} {cd : Bool} {c e : E} {w : Wk} {en : En} {h : Hh} {K : List D → Hh → Prop} {X : XQ} (p : CompP Φ own t cd c e w en h K X) : Wp (compM own t (bodyM Φ cd c e) w en h) K X := by
  cases p with
  | mk p => exact p
  | no f => exact f.elim
def sqK (f : Sq) (w : Wk) (K : Rv → Prop) : Prop := match w with
  | ⟨its, gd, kind⟩ => (match f with
    | .len => kind ≠ .other ∧ K (.val (.int its.length))
    | .list => (kind = .lst ∨ kind = .tup) ∧ K (.fresh its)
    | .tuple => (kind = .lst ∨ kind = .tup) ∧ K (.val (.tup its))
    | f => ∃ rv, sqR f ⟨its, gd, kind⟩ = some rv ∧ K rv)
theorem sqK_ok {f : Sq} {w : Wk} {K : Rv → Prop} (p : sqK f w K) : ∃ rv, sqR f w = some rv ∧ K rv := by
  obtain ⟨its, gd, kind⟩ := w
  cases f with
  | len => cases kind <;> first | exact ⟨_, rfl, p.2⟩ | exact absurd rfl p.1
  | list => cases kind <;> first | exact ⟨_, rfl, p.2⟩ | (rcases p.1 with q | q <;> cases q)
  | tuple => cases kind <;> first | exact ⟨_, rfl, p.2⟩ | (rcases p.1 with q | q <;> cases q)
  | _ => exact p
def rangeK (x y : D) (K : Wk → Prop) : Prop := match x, y with
  | .int i, .int j => (-(2 ^ 62) ≤ i ∧ i < 2 ^ 62 ∧ -(2 ^ 62) ≤ j ∧ j < 2 ^ 62) ∧ K ⟨rngD i j, [], .other⟩
  | _, _ => False
theorem rangeK_ok {x y : D} {h : Hh} {K : Wk → Hh → Prop} {X : XQ} (p : rangeK x y fun w => K w h) : Wp (rangeM x y h) K X := by
  cases x <;> cases y <;> first
  | exact p.elim
  | (obtain ⟨e, q⟩ := p; simp only [rangeM, if_pos e]; exact q)
def partK (np : Bool) (d : D) (K : Option Int → Prop) : Prop := match np with
  | true => K none
  | false => (match d with
    | .int i => K (some i)
    | _ => False)
theorem partK_ok {np : Bool} {d : D} {h : Hh} {K : Option Int → Hh → Prop} {X : XQ} (p : partK np d fun o => K o h) : Wp (partM np d h) K X := by
  cases np with
  | true => exact p
  | false => cases d <;> first | exact p.elim | exact p
def cutK (h : Hh) (x : D) (lo hi : Option Int) (K : Rv → Prop) : Prop := match x with
  | .tup xs => K (.val (.tup (cutD xs lo hi)))
  | .ref a => ∃ xs, h[a]? = some (.lst xs) ∧ K (.fresh (cutD xs lo hi))
  | _ => False
theorem cutK_ok {h : Hh} {x : D} {lo hi : Option Int} {K : Rv → Prop} (p : cutK h x lo hi K) : ∃ rv, cutR h x lo hi = some rv ∧ K rv := by
  cases x <;> first
  | exact p.elim
  | exact ⟨_, rfl, p⟩
  | (obtain ⟨xs, e, q⟩ := p; exact ⟨_, by simp only [cutR, e], q⟩)
def ixK (h : Hh) (x y : D) (K : D → Prop) : Prop := match x, y with
  | .tup xs, .int i => ∃ d, L2.atI xs i = some d ∧ K d
  | .ref a, .int i => ∃ xs, h[a]? = some (.lst xs) ∧ ∃ d, L2.atI xs i = some d ∧ K d
  | x, y => ∃ d, ixD h x y = some d ∧ K d
theorem ixK_ok {h : Hh} {x y : D} {K : D → Prop} (p : ixK h x y K) : ∃ d, ixD h x y = some d ∧ K d := by
  cases x <;> cases y <;> first
  | exact p
  | (obtain ⟨xs, e, d, e2, q⟩ := p; exact ⟨d, by simp only [ixD, e, e2], q⟩)
theorem lift_ok {α : Type} {o : Option α} {h : Hh} {Q : α → Hh → Prop} {X : XQ} (p : ∃ a, o = some a ∧ Q a h) : Wp (lift o h) Q X := by
  obtain ⟨a, rfl, q⟩ := p
  exact q
theorem valr_ok {r : R D} {K : Rv → Hh → Prop} {X : XQ} (p : Wp r (fun d h => K (.val d) h) X) : Wp (val r) K X := wp_bd p
abbrev X0 : XQ := fun _ _ => False
/-- what an expression keeps -/
def wR (Φ : Nat → List D → M D) : E → En → Hh → (Rv → Hh → Prop) → XQ → Prop
  | .var i, en, h, K, _ => getK en i fun d => K (.val d) h
  | .cst d, _, h, K, _ => K (.val d) h
  | .glb _ d, _, h, K, _ => K (.val d) h
  | .nopart, _, h, K, _ => K (.val .non) h
  | .tup es, en, h, K, X => wRs Φ es en h (fun ds h => K (.val (.tup ds)) h) X
  | .lst es, en, h, K, X => wRs Φ es en h (fun ds h => K (.fresh ds) h) X
  | .bin op a b, en, h, K, X => wR Φ a en h (fun rv h => settleK rv h fun x h => wR Φ b en h (fun rv h => settleK rv h fun y h => binK h op x y fun rv => K rv h) X) X
  | .neg a, en, h, K, X => wR Φ a en h (fun rv h => settleK rv h fun x h => negK x fun d => K (.val d) h) X
  | .cmp op a b, en, h, K, X => wR Φ a en h (fun rv h => settleK rv h fun x h => wR Φ b en h (fun rv h => settleK rv h fun y h => cmpK h op x y fun k => K (.val (.bl k)) h) X) X
  | .chain o o' a b c, en, h, K, X => wR Φ a en h (fun rv h => settleK rv h fun x h => wR Φ b en h (fun rv h => settleK rv h fun y h => cmpK h o x y fun k =>
      (k = true → wR Φ c en h (fun rv h => settleK rv h fun z h => cmpK h o' y z fun k => K (.val (.bl k)) h) X) ∧ (k = false → K (.val (.bl false)) h)) X) X
  | .isN ng a, en, h, K, X => wR Φ a en h (fun rv h => settleK rv h fun x h => K (.val (.bl (xor ng (isND x)))) h) X
  | .isIn ng a b, en, h, K, X => wR Φ a en h (fun rv h => settleK rv h fun x h => wR Φ b en h (fun rv h => settleK rv h fun y h => ∃ d, inD h ng x y = some d ∧ K (.val d) h) X) X
  | .and es, en, h, K, X => wAnd Φ es en h K X
  | .or es, en, h, K, X => wOr Φ es en h K X
  | .not a, en, h, K, X => wR Φ a en h (fun rv h => settleK rv h fun x h => notK x fun d => K (.val d) h) X
  | .ite c a b, en, h, K, X => wR Φ c en h (fun rv h => settleK rv h fun x h => boolK x fun k =>
      (k = true → wR Φ a en h (fun rv h => settleK rv h fun d h => K (.val d) h) X) ∧ (k = false → wR Φ b en h (fun rv h => settleK rv h fun d h => K (.val d) h) X)) X
  | .idx a i, en, h, K, X => wR Φ a en h (fun rv h => settleK rv h fun x h => wR Φ i en h (fun rv h => settleK rv h fun y h => ixK h x y fun d => K (.val d) h) X) X
  | .sl a lo hi, en, h, K, X => wR Φ a en h (fun rv h => settleK rv h fun x h => wR Φ lo en h (fun rv h => settleK rv h fun l h => partK (isNop lo) l fun l => wR Φ hi en h (fun rv h => settleK rv h fun u h => partK (isNop hi) u fun u => cutK h x l u fun rv => K rv h) X) X) X
  | .call f es, en, h, K, X => wRs Φ es en h (fun ds h => CallP (Φ f ds h) (fun d h => K (.val d) h) X) X
  | .sq f e, en, h, K, X => wR Φ e en h (fun rv h => walkK rv h fun w h => sqK f w fun rv => K rv h) X
  | .bi f es, en, h, K, X => wRs Φ es en h (fun ds h => ∃ d, biD f ds = some d ∧ K (.val d) h) X
  | .isi a t, en, h, K, X => wR Φ a en h (fun rv h => settleK rv h fun x h => isK t x h fun k => K (.val (.bl k)) h) X
  | .app o x, en, h, K, X => wR Φ o en h (fun rv h => settleK rv h fun l h => lstK h l fun a _ => wR Φ x en h (fun rv h => settleK rv h fun y h => ∃ xs, h[a]? = some (.lst xs) ∧ xs.length < sizeLine ∧ K (.val .non) (h.set a (.lst (xs ++ [y])))) X) X
  | .popI o i, en, h, K, X => wR Φ o en h (fun rv h => settleK rv h fun l h => lstK h l fun a _ => wR Φ i en h (fun rv h => settleK rv h fun y h => ∃ xs k z, h[a]? = some (.lst xs) ∧ y = .int (k : Nat) ∧ ((k : Nat) : Int) < 2 ^ 63 ∧ xs[k]? = some z ∧ K (.val z) (h.set a (.lst (xs.eraseIdx k)))) X) X
  | .index o x, en, h, K, X => wR Φ o en h (fun rv h => settleK rv h fun l h => lstK h l fun a _ => wR Φ x en h (fun rv h => settleK rv h fun y h => ∃ d, indexO h l y = some d ∧ K (.val d) h) X) X
  | .split o x, en, h, K, X => wR Φ o en h (fun rv h => settleK rv h fun l h => (∃ z, l = .str z) ∧ wR Φ x en h (fun rv h => settleK rv h fun y h => ∃ ds, splitO y l = some ds ∧ K (.fresh ds) h) X) X
  | .comp own t it cd c e, en, h, K, X => wR Φ it en h (fun rv h => walkK rv h fun w h => CompP Φ own t cd c e w en h (fun ds h => K (.fresh ds) h) X) X
  | .lenset own t it cd c e, en, h, K, X => wR Φ it en h (fun rv h => walkK rv h fun w h => CompP Φ own t cd c e w en h (fun ds h => ∃ rv, lensetO ds = some rv ∧ K rv h) X) X
  | .sortset own t it cd c e, en, h, K, X => wR Φ it en h (fun rv h => walkK rv h fun w h => CompP Φ own t cd c e w en h (fun ds h => ∃ rv, sortsetO ds = some rv ∧ K rv h) X) X
  | .rng1 n, en, h, K, X => wR Φ n en h (fun rv h => settleK rv h fun x h => rangeK (.int 0) x fun w => K (.walk w) h) X
  | .rng2 a b, en, h, K, X => wR Φ a en h (fun rv h => settleK rv h fun x h => wR Φ b en h (fun rv h => settleK rv h fun y h => rangeK x y fun w => K (.walk w) h) X) X
  | .enum e, en, h, K, X => wR Φ e en h (fun rv h => walkK rv h fun w h => (w.kind = .lst ∨ w.kind = .tup) ∧ K (.walk ⟨enumD 0 w.its, w.gd, .other⟩) h) X
  | .zip _ _, _, _, _, _ => False
where
wRs (Φ : Nat → List D → M D) : List E → En → Hh → (List D → Hh → Prop) → XQ → Prop
  | [], _, h, K, _ => K [] h
  | e :: es, en, h, K, X => wR Φ e en h (fun rv h => settleK rv h fun x h => wRs Φ es en h (fun xs h => K (x :: xs) h) X) X
wAnd (Φ : Nat → List D → M D) : List E → En → Hh → (Rv → Hh → Prop) → XQ → Prop
  | [], _, _, _, _ => False
  | [e], en, h, K, X => wR Φ e en h (fun rv h => settleK rv h fun d h => K (.val d) h) X
  | e :: e2 :: es, en, h, K, X => wR Φ e en h (fun rv h => settleK rv h fun x h => boolK x fun k => (k = true → wAnd Φ (e2 :: es) en h K X) ∧ (k = false → K (.val (.bl false)) h)) X
wOr (Φ : Nat → List D → M D) : List E → En → Hh → (Rv → Hh → Prop) → XQ → Prop
  | [], _, _, _, _ => False
  | [e], en, h, K, X => wR Φ e en h (fun rv h => settleK rv h fun d h => K (.val d) h) X
  | e :: e2 :: es, en, h, K, X => wR Φ e en h (fun rv h => settleK rv h fun x h => boolK x fun k => (k = true → K (.val (.bl true)) h) ∧ (k = false → wOr Φ (e2 :: es) en h K X)) X
end Mp
set_option Elab.async false
set_option linter.all false
set_option maxRecDepth 100000
set_option maxHeartbeats 4000000
/-! Q2: expressions are sound -/
namespace Mp
open PySem
theorem sx {r : R Rv} {f : D → Hh → R Rv} {K : Rv → Hh → Prop} {X : XQ} (p : Wp r (fun rv h => settleK rv h fun x h => Wp (f x h) K X) X) : Wp (bd (bd r settle) f) K X := wp_bd (settle_ok p)
theorem wx {r : R Rv} {f : Wk → Hh → R Rv} {K : Rv → Hh → Prop} {X : XQ} (p : Wp r (fun rv h => walkK rv h fun x h => Wp (f x h) K X) X) : Wp (bd (bd r walkOf) f) K X := wp_bd (walk_ok p)
theorem settleK_imp {rv : Rv} {h : Hh} {Q Q' : D → Hh → Prop} (p : settleK rv h Q) (q : ∀ d h, Q d h → Q' d h) : settleK rv h Q' := by
  cases rv with
  | val d => exact q _ _ p
  | fresh ds => exact q _ _ p
  | walk w => exact p
theorem walkK_imp {rv : Rv} {h : Hh} {Q Q' : Wk → Hh → Prop} (p : walkK rv h Q) (q : ∀ d h, Q d h → Q' d h) : walkK rv h Q' := by
  cases rv with
  | val d =>
    cases d with
    | tup xs => exact q _ _ p
    | fro xs => exact q _ _ p
    | ref a => obtain ⟨xs, e, p⟩ := p; exact ⟨xs, e, q _ _ p⟩
    | str z => exact ⟨p.1, q _ _ p.2⟩
    | _ => exact p.elim
  | fresh ds => exact q _ _ p
  | walk w => exact q _ _ p
/-- a step: e is settled, then on -/
theorem s1 {r : R Rv} {f : D → Hh → R Rv} {G : D → Hh → Prop} {K : Rv → Hh → Prop} {X : XQ} (p : Wp r (fun rv h => settleK rv h G) X) (q : ∀ d h, G d h → Wp (f d h) K X) : Wp (bd (bd r settle) f) K X := sx (p.mp fun _ _ z => settleK_imp z q)
theorem s2 {r : R Rv} {f : Wk → Hh → R Rv} {G : Wk → Hh → Prop} {K : Rv → Hh → Prop} {X : XQ} (p : Wp r (fun rv h => walkK rv h G) X) (q : ∀ d h, G d h → Wp (f d h) K X) : Wp (bd (bd r walkOf) f) K X := wx (p.mp fun _ _ z => walkK_imp z q)
theorem boolK_inv {d : D} {K : Bool → Prop} (p : boolK d K) : ∃ b, d = .bl b ∧ K b := by
  cases d <;> first | exact p.elim | exact ⟨_, rfl, p⟩
theorem lstK_inv {h : Hh} {l : D} {K : Nat → List D → Prop} (p : lstK h l K) : ∃ a xs, l = .ref a ∧ h[a]? = some (.lst xs) ∧ K a xs := by
  cases l <;> first | exact p.elim | (obtain ⟨xs, e, q⟩ := p; exact ⟨_, xs, rfl, e, q⟩)
theorem val1 {r : R Rv} {K : Rv → Hh → Prop} {X : XQ} (p : Wp r (fun rv h => settleK rv h fun d h => K (.val d) h) X) : Wp (val (bd r settle)) K X := valr_ok (settle_ok p)
theorem guardW {g : List (Nat × List D)} {h : Hh} {K : Unit → Hh → Prop} {X : XQ} (s : stays g h) (p : K () h) : Wp (guardM g h) K X := by
  unfold guardM
  rw [if_pos s]
  exact p
theorem noErrW {α : Type} {r : R α} {K : α → Hh → Prop} {X : XQ} (p : Wp r K X0) : Wp (noErr r) K X := by
  cases r <;> first | exact p | exact p.elim
theorem pixD_nat {k n : Nat} (h : k < n) (hk : ((k : Nat) : Int) < 2 ^ 63) : pixD ((k : Nat) : Int) n = some k := by
  have h0 : ((k : Nat) : Int) ≥ 0 := Int.natCast_nonneg k
  unfold pixD
  have hm : -(2 ^ 63) ≤ ((k : Nat) : Int) := by omega
  rw [if_pos ⟨hm, hk⟩]
  unfold seqIndex?
  have h1 : ¬ ((k : Nat) : Int) < 0 := by omega
  have h2 : ((k : Nat) : Int) < (n : Int) := by omega
  simp only [h1, if_false, h2, h0]
  simp
  try omega
theorem popM_aux {h : Hh} {a : Nat} {i : Int} {xs : List D} {z : D} {o : Option Nat} {k : Nat} (e : h[a]? = some (.lst xs)) (q : pixD i xs.length = o) (ho : o = some k) (ez : xs[k]? = some z) : popM (.ref a) (.int i) h = .ok z (h.set a (.lst (xs.eraseIdx k))) := by
  unfold popM
  simp only [e, q]
  subst ho
  simp only [ez]
theorem popM_eq {h : Hh} {a k : Nat} {xs : List D} {z : D} (e : h[a]? = some (.lst xs)) (hk : ((k : Nat) : Int) < 2 ^ 63) (ez : xs[k]? = some z) : popM (.ref a) (.int ((k : Nat) : Int)) h = .ok z (h.set a (.lst (xs.eraseIdx k))) := popM_aux e (pixD_nat (List.getElem?_eq_some_iff.mp ez).1 hk) rfl ez
def OkE (Φ : Nat → List D → M D) (e : E) : Prop := ∀ (en : En) (h : Hh) (K : Rv → Hh → Prop) (X : XQ), wR Φ e en h K X → Wp (evW Φ e en h) K X
def OkEs (Φ : Nat → List D → M D) (es : List E) : Prop := ∀ (en : En) (h : Hh) (K : List D → Hh → Prop) (X : XQ), wR.wRs Φ es en h K X → Wp (evW.evWs Φ es en h) K X
def OkA (Φ : Nat → List D → M D) (es : List E) : Prop := ∀ (en : En) (h : Hh) (K : Rv → Hh → Prop) (X : XQ), wR.wAnd Φ es en h K X → Wp (evW.evAnd Φ es en h) K X
def OkO (Φ : Nat → List D → M D) (es : List E) : Prop := ∀ (en : En) (h : Hh) (K : Rv → Hh → Prop) (X : XQ), wR.wOr Φ es en h K X → Wp (evW.evOr Φ es en h) K X
section
variable {Φ : Nat → List D → M D}
theorem cs0 (i : Nat)  : OkE Φ (.var i) := fun en h K X p => by
    obtain ⟨d, e, q⟩ := getK_ok p
    simp only [evW, e]
    exact q
theorem cs1 (d : D)  : OkE Φ (.cst d) := fun en h K X p => p
theorem cs2 (u1 : Str) (d : D)  : OkE Φ (.glb u1 d) := fun en h K X p => p
theorem cs3   : OkE Φ (.nopart) := fun en h K X p => p
theorem cs4 (es : List E) (i0 : OkEs Φ es) : OkE Φ (.tup es) := fun en h K X p => wp_bd (i0 en h _ X p)
theorem cs5 (es : List E) (i0 : OkEs Φ es) : OkE Φ (.lst es) := fun en h K X p => wp_bd (i0 en h _ X p)
theorem cs6 (op : Bop) (a : E) (b : E) (i0 : OkE Φ a) (i1 : OkE Φ b) : OkE Φ (.bin op a b) := fun en h K X p => s1 (i0 en h _ X p) fun x h z => s1 (i1 en h _ X z) fun y h z => lift_ok (binK_ok z)
theorem cs7 (a : E) (i0 : OkE Φ a) : OkE Φ (.neg a) := fun en h K X p => s1 (i0 en h _ X p) fun x h z => by cases x <;> first | exact z.elim | exact z
theorem cs8 (op : Cop) (a : E) (b : E) (i0 : OkE Φ a) (i1 : OkE Φ b) : OkE Φ (.cmp op a b) := fun en h K X p => s1 (i0 en h _ X p) fun x h z => s1 (i1 en h _ X z) fun y h z => by
    obtain ⟨k, e, q⟩ := cmpK_ok z
    exact lift_ok ⟨_, by rw [e]; rfl, q⟩
theorem cs9 (o : Cop) (o' : Cop) (a : E) (b : E) (c : E) (i0 : OkE Φ a) (i1 : OkE Φ b) (i2 : OkE Φ c) : OkE Φ (.chain o o' a b c) := fun en h K X p => s1 (i0 en h _ X p) fun x h z => s1 (i1 en h _ X z) fun y h z => by
    obtain ⟨k, e, q1, q2⟩ := cmpK_ok z
    refine wp_bd (lift_ok ⟨_, e, ?_⟩)
    cases k with
    | true =>
      refine s1 (i2 en h _ X (q1 rfl)) fun z h z2 => ?_
      obtain ⟨k, e, q⟩ := cmpK_ok z2
      exact lift_ok ⟨_, by rw [e]; rfl, q⟩
    | false => exact q2 rfl
theorem cs10 (ng : Bool) (a : E) (i0 : OkE Φ a) : OkE Φ (.isN ng a) := fun en h K X p => s1 (i0 en h _ X p) fun x h z => z
theorem cs11 (ng : Bool) (a : E) (b : E) (i0 : OkE Φ a) (i1 : OkE Φ b) : OkE Φ (.isIn ng a b) := fun en h K X p => s1 (i0 en h _ X p) fun x h z => s1 (i1 en h _ X z) fun y h z => by
    obtain ⟨d, e, q⟩ := z
    exact lift_ok ⟨_, by rw [e]; rfl, q⟩
theorem cs12 (es : List E) (i0 : OkA Φ es) : OkE Φ (.and es) := fun en h K X p => i0 en h K X p
theorem cs13 (es : List E) (i0 : OkO Φ es) : OkE Φ (.or es) := fun en h K X p => i0 en h K X p
theorem cs14 (a : E) (i0 : OkE Φ a) : OkE Φ (.not a) := fun en h K X p => s1 (i0 en h _ X p) fun x h z => by cases x <;> first | exact z.elim | exact z
theorem cs15 (c : E) (a : E) (b : E) (i0 : OkE Φ c) (i1 : OkE Φ a) (i2 : OkE Φ b) : OkE Φ (.ite c a b) := fun en h K X p => s1 (i0 en h _ X p) fun x h z => by
    obtain ⟨k, rfl, q1, q2⟩ := boolK_inv z
    cases k with
    | true => exact val1 (i1 en h _ X (q1 rfl))
    | false => exact val1 (i2 en h _ X (q2 rfl))
theorem cs16 (a : E) (i : E) (i0 : OkE Φ a) (i1 : OkE Φ i) : OkE Φ (.idx a i) := fun en h K X p => s1 (i0 en h _ X p) fun x h z => s1 (i1 en h _ X z) fun y h z => by
    obtain ⟨d, e, q⟩ := ixK_ok z
    exact lift_ok ⟨_, by rw [e]; rfl, q⟩
theorem cs17 (a : E) (lo : E) (hi : E) (i0 : OkE Φ a) (i1 : OkE Φ lo) (i2 : OkE Φ hi) : OkE Φ (.sl a lo hi) := fun en h K X p => s1 (i0 en h _ X p) fun x h z => wp_bd (wp_bd (settle_ok ((i1 en h _ X z).mp fun _ _ z => settleK_imp z fun l h z => partK_ok (by
      cases hn : isNop lo <;> rw [hn] at z
      · cases l <;> first | exact z.elim | exact wp_bd (wp_bd (settle_ok ((i2 en h _ X z).mp fun _ _ z => settleK_imp z fun u h z => partK_ok (by
          cases hm : isNop hi <;> rw [hm] at z
          · cases u <;> first | exact z.elim | exact lift_ok (cutK_ok z)
          · exact lift_ok (cutK_ok z)))))
      · exact wp_bd (wp_bd (settle_ok ((i2 en h _ X z).mp fun _ _ z => settleK_imp z fun u h z => partK_ok (by
          cases hm : isNop hi <;> rw [hm] at z
          · cases u <;> first | exact z.elim | exact lift_ok (cutK_ok z)
          · exact lift_ok (cutK_ok z)))))))))
theorem cs18 (f : Nat) (es : List E) (i0 : OkEs Φ es) : OkE Φ (.call f es) := fun en h K X p => wp_bd ((i0 en h _ X p).mp fun ds h z => valr_ok z.ok)
theorem cs19 (f : Sq) (e : E) (i0 : OkE Φ e) : OkE Φ (.sq f e) := fun en h K X p => s2 (i0 en h _ X p) fun w h z => lift_ok (sqK_ok z)
theorem cs20 (f : Bi) (es : List E) (i0 : OkEs Φ es) : OkE Φ (.bi f es) := fun en h K X p => wp_bd ((i0 en h _ X p).mp fun ds h z => by
    obtain ⟨d, e, q⟩ := z
    exact lift_ok ⟨_, by rw [e]; rfl, q⟩)
theorem cs21 (a : E) (t : Ty) (i0 : OkE Φ a) : OkE Φ (.isi a t) := fun en h K X p => s1 (i0 en h _ X p) fun x h z => by
    obtain ⟨b, e, q⟩ := isK_ok z
    exact lift_ok ⟨_, by rw [e]; rfl, q⟩
theorem cs22 (o : E) (x : E) (i0 : OkE Φ o) (i1 : OkE Φ x) : OkE Φ (.app o x) := fun en h K X p => s1 (i0 en h _ X p) fun l h z => by
    obtain ⟨a, xs, rfl, e, z⟩ := lstK_inv z
    simp only [isLst, e, bd_ok]
    refine s1 (i1 en h _ X z) fun y h z => valr_ok ?_
    obtain ⟨xs, e, hl, q⟩ := z
    simp only [appM, e, if_pos hl]
    exact q
theorem cs23 (o : E) (i : E) (i0 : OkE Φ o) (i1 : OkE Φ i) : OkE Φ (.popI o i) := fun en h K X p => s1 (i0 en h _ X p) fun l h z => by
    obtain ⟨a, xs, rfl, e, z⟩ := lstK_inv z
    simp only [isLst, e, bd_ok]
    refine s1 (i1 en h _ X z) fun y h z => valr_ok ?_
    obtain ⟨xs, k, z, e, rfl, hk, ez, q⟩ := z
    rw [popM_eq e hk ez]
    exact q
theorem cs24 (o : E) (x : E) (i0 : OkE Φ o) (i1 : OkE Φ x) : OkE Φ (.index o x) := fun en h K X p => s1 (i0 en h _ X p) fun l h z => by
    obtain ⟨a, xs, rfl, e, z⟩ := lstK_inv z
    simp only [isLst, e, bd_ok]
    refine s1 (i1 en h _ X z) fun y h z => ?_
    obtain ⟨d, e, q⟩ := z
    exact lift_ok ⟨_, by rw [e]; rfl, q⟩
theorem cs25 (o : E) (x : E) (i0 : OkE Φ o) (i1 : OkE Φ x) : OkE Φ (.split o x) := fun en h K X p => s1 (i0 en h _ X p) fun l h z => by
    obtain ⟨⟨s, rfl⟩, z⟩ := z
    simp only [isStr, bd_ok]
    refine s1 (i1 en h _ X z) fun y h z => ?_
    obtain ⟨d, e, q⟩ := z
    exact lift_ok ⟨_, by rw [e]; rfl, q⟩
theorem cs26 (own : List Nat) (t : Tg) (it : E) (cd : Bool) (c : E) (e : E) (i0 : OkE Φ it) (i1 : OkE Φ c) (i2 : OkE Φ e) : OkE Φ (.comp own t it cd c e) := fun en h K X p => s2 (i0 en h _ X p) fun w h z => wp_bd z.ok
theorem cs27 (own : List Nat) (t : Tg) (it : E) (cd : Bool) (c : E) (e : E) (i0 : OkE Φ it) (i1 : OkE Φ c) (i2 : OkE Φ e) : OkE Φ (.lenset own t it cd c e) := fun en h K X p => s2 (i0 en h _ X p) fun w h z => wp_bd (z.ok.mp fun ds h z => lift_ok z)
theorem cs28 (own : List Nat) (t : Tg) (it : E) (cd : Bool) (c : E) (e : E) (i0 : OkE Φ it) (i1 : OkE Φ c) (i2 : OkE Φ e) : OkE Φ (.sortset own t it cd c e) := fun en h K X p => s2 (i0 en h _ X p) fun w h z => wp_bd (z.ok.mp fun ds h z => lift_ok z)
theorem cs29 (n : E) (i0 : OkE Φ n) : OkE Φ (.rng1 n) := fun en h K X p => s1 (i0 en h _ X p) fun x h z => wp_bd (rangeK_ok z)
theorem cs30 (a : E) (b : E) (i0 : OkE Φ a) (i1 : OkE Φ b) : OkE Φ (.rng2 a b) := fun en h K X p => s1 (i0 en h _ X p) fun x h z => s1 (i1 en h _ X z) fun y h z => wp_bd (rangeK_ok z)
theorem cs31 (e : E) (i0 : OkE Φ e) : OkE Φ (.enum e) := fun en h K X p => s2 (i0 en h _ X p) fun w h z => by
    rw [if_pos z.1]
    exact z.2
theorem cs32 (u1 : E) (u2 : E)  : OkE Φ (.zip u1 u2) := fun en h K X p => p.elim
theorem cs33   : OkEs Φ [] := fun en h K X p => p
theorem cs34 (e : E) (es : List E) (i0 : OkE Φ e) (i1 : OkEs Φ es) : OkEs Φ (e :: es) := fun en h K X p => wp_bd (settle_ok ((i0 en h _ X p).mp fun _ _ z => settleK_imp z fun x h z => wp_bd ((i1 en h _ X z).mp fun xs h z => z)))
theorem cs35   : OkA Φ [] := fun en h K X p => p.elim
theorem cs36 (e : E) (i0 : OkE Φ e) : OkA Φ [e] := fun en h K X p => val1 (i0 en h _ X p)
theorem cs37 (e : E) (e2 : E) (es : List E) (i0 : OkE Φ e) (i1 : OkA Φ (e2 :: es)) : OkA Φ (e :: e2 :: es) := fun en h K X p => s1 (i0 en h _ X p) fun x h z => by
    obtain ⟨k, rfl, q1, q2⟩ := boolK_inv z
    cases k with
    | true => exact i1 en h K X (q1 rfl)
    | false => exact q2 rfl
theorem cs38   : OkO Φ [] := fun en h K X p => p.elim
theorem cs39 (e : E) (i0 : OkE Φ e) : OkO Φ [e] := fun en h K X p => val1 (i0 en h _ X p)
theorem cs40 (e : E) (e2 : E) (es : List E) (i0 : OkE Φ e) (i1 : OkO Φ (e2 :: es)) : OkO Φ (e :: e2 :: es) := fun en h K X p => s1 (i0 en h _ X p) fun x h z => by
    obtain ⟨k, rfl, q1, q2⟩ := boolK_inv z
    cases k with
    | true => exact q1 rfl
    | false => exact i1 en h K X (q2 rfl)
mutual
theorem wR_ok : ∀ e : E, OkE Φ e
  | .var i => cs0 i 
  | .cst d => cs1 d 
  | .glb u1 d => cs2 u1 d 
  | .nopart => cs3  
  | .tup es => cs4 es (wRs_ok es)
  | .lst es => cs5 es (wRs_ok es)
  | .bin op a b => cs6 op a b (wR_ok a) (wR_ok b)
  | .neg a => cs7 a (wR_ok a)
  | .cmp op a b => cs8 op a b (wR_ok a) (wR_ok b)
  | .chain o o' a b c => cs9 o o' a b c (wR_ok a) (wR_ok b) (wR_ok c)
  | .isN ng a => cs10 ng a (wR_ok a)
  | .isIn ng a b => cs11 ng a b (wR_ok a) (wR_ok b)
  | .and es => cs12 es (wAnd_ok es)
  | .or es => cs13 es (wOr_ok es)
  | .not a => cs14 a (wR_ok a)
  | .ite c a b => cs15 c a b (wR_ok c) (wR_ok a) (wR_ok b)
  | .idx a i => cs16 a i (wR_ok a) (wR_ok i)
  | .sl a lo hi => cs17 a lo hi (wR_ok a) (wR_ok lo) (wR_ok hi)
  | .call f es => cs18 f es (wRs_ok es)
  | .sq f e => cs19 f e (wR_ok e)
  | .bi f es => cs20 f es (wRs_ok es)
  | .isi a t => cs21 a t (wR_ok a)
  | .app o x => cs22 o x (wR_ok o) (wR_ok x)
  | .popI o i => cs23 o i (wR_ok o) (wR_ok i)
  | .index o x => cs24 o x (wR_ok o) (wR_ok x)
  | .split o x => cs25 o x (wR_ok o) (wR_ok x)
  | .comp own t it cd c e => cs26 own t it cd c e (wR_ok it) (wR_ok c) (wR_ok e)
  | .lenset own t it cd c e => cs27 own t it cd c e (wR_ok it) (wR_ok c) (wR_ok e)
  | .sortset own t it cd c e => cs28 own t it cd c e (wR_ok it) (wR_ok c) (wR_ok e)
  | .rng1 n => cs29 n (wR_ok n)
  | .rng2 a b => cs30 a b (wR_ok a) (wR_ok b)
  | .enum e => cs31 e (wR_ok e)
  | .zip u1 u2 => cs32 u1 u2 
theorem wRs_ok : ∀ es : List E, OkEs Φ es
  | [] => cs33  
  | e :: es => cs34 e es (wR_ok e) (wRs_ok es)
theorem wAnd_ok : ∀ es : List E, OkA Φ es
  | [] => cs35  
  | [e] => cs36 e (wR_ok e)
  | e :: e2 :: es => cs37 e e2 es (wR_ok e) (wAnd_ok (e2 :: es))
theorem wOr_ok : ∀ es : List E, OkO Φ es
  | [] => cs38  
  | [e] => cs39 e (wR_ok e)
  | e :: e2 :: es => cs40 e e2 es (wR_ok e) (wOr_ok (e2 :: es))
end
end
end Mp
set_option Elab.async false
set_option linter.all false
set_option maxRecDepth 100000
set_option maxHeartbeats 4000000
/-! Q3: statements, loops, comprehensions, defs -/
namespace Mp
open PySem
/-- what is to hold behind a row: it goes on, returns, breaks, continues -/
structure Ks where
  nx : En → Hh → Prop
  rt : D → Hh → Prop
  bk : En → Hh → Prop
  ct : En → Hh → Prop
def flK (K : Ks) (q : Fl × En) (h : Hh) : Prop := match q with
  | (.nx, en) => K.nx en h
  | (.rt d, _) => K.rt d h
  | (.bk, en) => K.bk en h
  | (.ct, en) => K.ct en h
inductive ForP (xs : XS) (Φ : Nat → List D → M D) (w : Wk) (t : Tg) (b : List S) (en : En) (h : Hh) (K : Ks) (X : XQ) : Prop where
  | mk (p : Wp (forM w.gd t (evS.evSs xs Φ b) w.its en h) (flK K) X)
  | no (f : False)
theorem ForP.ok {xs : XS} {Φ : Nat → List D → M D} {w : Wk} {t : Tg} {b : List S} {en : En} {h : Hh} {K : Ks} {X : XQ} (p : ForP xs Φ w t b en h K X) : Wp (forM w.gd t (evS.evSs xs Φ b) w.its en h) (flK K) X := by
  cases p with
  | mk p => exact p
  | no f => exact f.elim
inductive WhileP (xs : XS) (Φ : Nat → List D → M D) (c : E) (b : List S) (en : En) (h : Hh) (K : Ks) (X : XQ) : Prop where
  | mk (p : Wp (whileM (fun en h => bd (bd (evW Φ c en h) settle) boolM) (evS.evSs xs Φ b) en h) (flK K) X)
  | no (f : False)
theorem WhileP.ok {xs : XS} {Φ : Nat → List D → M D} {c : E} {b : List S} {en : En} {h : Hh} {K : Ks} {X : XQ} (p : WhileP xs Φ c b en h K X) : Wp (whileM (fun en h => bd (bd (evW Φ c en h) settle) boolM) (evS.evSs xs Φ b) en h) (flK K) X := by
  cases p with
  | mk p => exact p
  | no f => exact f.elim
def setK2 (h : Hh) (l i y : D) (K : Hh → Prop) : Prop := match l, i with
  | .ref a, .int k => ∃ xs j, h[a]? = some (.lst xs) ∧ L2.ixN xs.length k = some j ∧ K (h.set a (.lst (xs.set j y)))
  | _, _ => False
theorem setK2_ok {h : Hh} {l i y : D} {K : Hh → Prop} {X : XQ} (p : setK2 h l i y K) : Wp (setM l i y h) (fun _ h => K h) X := by
  cases l <;> cases i <;> first
  | exact p.elim
  | (obtain ⟨xs, j, e, e2, q⟩ := p; simp only [setM, e, e2]; exact q)
def getMK (h : Hh) (l i : D) (K : D → Prop) : Prop := match l, i with
  | .ref a, .int k => ∃ xs d, h[a]? = some (.lst xs) ∧ L2.atI xs k = some d ∧ K d
  | _, _ => False
theorem getMK_ok {h : Hh} {l i : D} {K : D → Hh → Prop} {X : XQ} (p : getMK h l i fun d => K d h) : Wp (getM l i h) K X := by
  cases l <;> cases i <;> first
  | exact p.elim
  | (obtain ⟨xs, j, e, e2, q⟩ := p; simp only [getM, e, e2]; exact q)
def addK (x y : D) (K : D → Prop) : Prop := match x, y with
  | .int i, .int j => K (.int (i + j))
  | _, _ => False
theorem addK_ok {h : Hh} {x y : D} {K : D → Hh → Prop} {X : XQ} (p : addK x y fun d => K d h) : Wp (addM x y h) K X := by
  cases x <;> cases y <;> first | exact p.elim | exact p
def mkK (xs : XS) (c : Nat) (ds : List D) (h : Hh) (X : XQ) : Prop := (xs.flds c).length = ds.length ∧ X ⟨c, (xs.flds c).zip ds⟩ h
theorem mkK_ok {xs : XS} {c : Nat} {ds : List D} {h : Hh} {Q : Fl × En → Hh → Prop} {X : XQ} (p : mkK xs c ds h X) : Wp (mkX xs c ds h) Q X := by
  simp only [mkX, if_pos p.1]
  exact p.2
/-- a handler -/
def handK (xs : XS) (x : Xn) (hd : HS) (sl : Nat) (en : En) (h : Hh) (K : Ks) (X : XQ) : Prop := match hd with
  | .ret e => ∃ d, evHE xs x e = some d ∧ sl < en.length ∧ K.rt d h
  | .cond c e => sl < en.length ∧ ∃ b, evHE xs x c = some (.bl b) ∧ (b = true → ∃ d, evHE xs x e = some d ∧ K.rt d h) ∧ (b = false → nonK en sl fun en => K.nx en h)
  | .re c d => mkK xs c [d] h X
def wS (xs : XS) (Φ : Nat → List D → M D) : S → En → Hh → Ks → XQ → Prop
  | .asg i e, en, h, K, X => wR Φ e en h (fun rv h => settleK rv h fun d h => setK en i d fun en => K.nx en h) X
  | .asgT is e, en, h, K, X => wR Φ e en h (fun rv h => settleK rv h fun d h => bindK (.many is) d en fun en => K.nx en h) X
  | .par i j a b, en, h, K, X => wR Φ a en h (fun rv h => settleK rv h fun x h => wR Φ b en h (fun rv h => settleK rv h fun y h => setK en i x fun en => setK en j y fun en => K.nx en h) X) X
  | .setI o i e, en, h, K, X => wR Φ e en h (fun rv h => settleK rv h fun y h => wR Φ o en h (fun rv h => settleK rv h fun l h => wR Φ i en h (fun rv h => settleK rv h fun k h => setK2 h l k y fun h => K.nx en h) X) X) X
  | .addI o i e, en, h, K, X => wR Φ o en h (fun rv h => settleK rv h fun l h => wR Φ i en h (fun rv h => settleK rv h fun k h => getMK h l k fun x => wR Φ e en h (fun rv h => settleK rv h fun y h => addK x y fun z => setK2 h l k z fun h => K.nx en h) X) X) X
  | .ex e, en, h, K, X => wR Φ e en h (fun rv h => settleK rv h fun _ h => K.nx en h) X
  | .ret e, en, h, K, X => wR Φ e en h (fun rv h => settleK rv h fun d h => K.rt d h) X
  | .ifs c a b, en, h, K, X => wR Φ c en h (fun rv h => settleK rv h fun x h => boolK x fun k => (k = true → wSs xs Φ a en h K X) ∧ (k = false → wSs xs Φ b en h K X)) X
  | .for_ t it b, en, h, K, X => wR Φ it en h (fun rv h => walkK rv h fun w h => ForP xs Φ w t b en h K X) X
  | .while_ c b, en, h, K, X => WhileP xs Φ c b en h K X
  | .raise c es, en, h, K, X => wR.wRs Φ es en h (fun ds h => mkK xs c ds h X) X
  | .try_ b c sl hd, en, h, K, X => wS xs Φ b en h K fun x h => x.cls < xs.n ∧ (xs.isx x.cls c = true → handK xs x hd sl en h K X) ∧ (xs.isx x.cls c = false → X x h)
  | .pass, en, h, K, _ => K.nx en h
  | .brk, en, h, K, _ => K.bk en h
  | .cnt, en, h, K, _ => K.ct en h
where wSs (xs : XS) (Φ : Nat → List D → M D) : List S → En → Hh → Ks → XQ → Prop
  | [], en, h, K, _ => K.nx en h
  | m :: ms, en, h, K, X => wS xs Φ m en h ⟨fun en h => wSs xs Φ ms en h K X, K.rt, K.bk, K.ct⟩ X

theorem t1 {α : Type} {r : R Rv} {f : D → Hh → R α} {G : D → Hh → Prop} {K : α → Hh → Prop} {X : XQ} (p : Wp r (fun rv h => settleK rv h G) X) (q : ∀ d h, G d h → Wp (f d h) K X) : Wp (bd (bd r settle) f) K X := wp_bd (settle_ok (p.mp fun _ _ z => settleK_imp z q))
theorem t2 {α : Type} {r : R Rv} {f : Wk → Hh → R α} {G : Wk → Hh → Prop} {K : α → Hh → Prop} {X : XQ} (p : Wp r (fun rv h => walkK rv h G) X) (q : ∀ d h, G d h → Wp (f d h) K X) : Wp (bd (bd r walkOf) f) K X := wp_bd (walk_ok (p.mp fun _ _ z => walkK_imp z q))
def OkS (xs : XS) (Φ : Nat → List D → M D) (m : S) : Prop := ∀ (en : En) (h : Hh) (K : Ks) (X : XQ), wS xs Φ m en h K X → Wp (evS xs Φ m en h) (flK K) X
def OkSs (xs : XS) (Φ : Nat → List D → M D) (ms : List S) : Prop := ∀ (en : En) (h : Hh) (K : Ks) (X : XQ), wS.wSs xs Φ ms en h K X → Wp (evS.evSs xs Φ ms en h) (flK K) X
theorem handK_ok {xs : XS} {x : Xn} {hd : HS} {sl : Nat} {en : En} {h : Hh} {K : Ks} {X : XQ} (p : handK xs x hd sl en h K X) :
    Wp (bd (handM xs x hd sl en h) fun q h => .ok (q.1, q.2.set sl none) h) (flK K) X := by
  cases hd with
  | ret e =>
    obtain ⟨d, e1, e2, q⟩ := p
    simp only [handM, e1, if_pos e2, bd_ok]
    exact q
  | cond c e =>
    obtain ⟨e2, b, e1, q1, q2⟩ := p
    cases b with
    | true =>
      obtain ⟨d, e3, q⟩ := q1 rfl
      simp only [handM, e1, if_pos e2, e3, bd_ok]
      exact q
    | false =>
      simp only [handM, e1, if_pos e2, bd_ok]
      exact nonK_ok (K := fun en => K.nx en h) (q2 rfl)
  | re c d => exact wp_bd (mkK_ok p)
section
variable {xs : XS} {Φ : Nat → List D → M D}
theorem cn0 (i : Nat) (e : E) : OkS xs Φ (.asg i e) := fun en h K X p => t1 (wR_ok e en h _ X p) fun d h z => setK_ok (K := fun en => K.nx en h) z
theorem cn1 (is : List Nat) (e : E) : OkS xs Φ (.asgT is e) := fun en h K X p => t1 (wR_ok e en h _ X p) fun d h z => by
    obtain ⟨en2, e, q⟩ := bindK_ok (K := fun en => K.nx en h) z
    simp only [e]
    exact q
theorem cn2 (i j : Nat) (a b : E) : OkS xs Φ (.par i j a b) := fun en h K X p => t1 (wR_ok a en h _ X p) fun d h z => t1 (wR_ok b en h _ X z) fun d2 h z => setK_ok (K := fun en => K.nx en h) (setK_ok (K := fun en => setK en j d2 fun en => K.nx en h) z)
theorem cn3 (o i e : E) : OkS xs Φ (.setI o i e) := fun en h K X p => t1 (wR_ok e en h _ X p) fun y h z => t1 (wR_ok o en h _ X z) fun l h z => t1 (wR_ok i en h _ X z) fun k h z => wp_bd (setK2_ok z)
theorem cn4 (o i e : E) : OkS xs Φ (.addI o i e) := fun en h K X p => t1 (wR_ok o en h _ X p) fun l h z => t1 (wR_ok i en h _ X z) fun k h z => wp_bd (getMK_ok (K := fun x h => Wp (bd (bd (evW Φ e en h) settle) fun y h => bd (addM x y h) fun z h => bd (setM l k z h) fun _ h => .ok (.nx, en) h) (flK K) X) (by
    cases l <;> cases k <;> first
    | exact z.elim
    | (obtain ⟨ys, d, e1, e2, z⟩ := z
       exact ⟨ys, d, e1, e2, t1 (wR_ok e en h _ X z) fun y h z => wp_bd (addK_ok (K := fun zz h => Wp (bd (setM _ _ zz h) fun _ h => .ok (.nx, en) h) (flK K) X) (by
         cases d <;> cases y <;> first | exact z.elim | exact wp_bd (setK2_ok z)))⟩)))
theorem cn5 (e : E) : OkS xs Φ (.ex e) := fun en h K X p => t1 (wR_ok e en h _ X p) fun d h z => z
theorem cn6 (e : E) : OkS xs Φ (.ret e) := fun en h K X p => t1 (wR_ok e en h _ X p) fun d h z => z
theorem cn7 (c : E) (a b : List S) (ia : OkSs xs Φ a) (ib : OkSs xs Φ b) : OkS xs Φ (.ifs c a b) := fun en h K X p => wp_bd (t1 (wR_ok c en h _ X p) fun d h z => by
    obtain ⟨k, rfl, q1, q2⟩ := boolK_inv z
    cases k with
    | true => exact ia en h K X (q1 rfl)
    | false => exact ib en h K X (q2 rfl))
theorem cn8 (t : Tg) (it : E) (b : List S) : OkS xs Φ (.for_ t it b) := fun en h K X p => t2 (wR_ok it en h _ X p) fun w h z => z.ok
theorem cn9 (c : E) (b : List S) : OkS xs Φ (.while_ c b) := fun en h K X p => p.ok
theorem cn10 (c : Nat) (es : List E) : OkS xs Φ (.raise c es) := fun en h K X p => wp_bd ((wRs_ok es en h _ X p).mp fun ds h z => mkK_ok z)
theorem cn11 (b : S) (c sl : Nat) (hd : HS) (ib : OkS xs Φ b) : OkS xs Φ (.try_ b c sl hd) := fun en h K X p => by
  have q := ib en h K _ p
  show Wp (tryR _ _) _ _
  generalize evS xs Φ b en h = r at q
  cases r with
  | ok a h => exact q
  | err x h =>
    obtain ⟨q1, q2, q3⟩ := q
    simp only [tryR, if_pos q1]
    by_cases hi : xs.isx x.cls c = true
    · rw [if_pos hi]; exact handK_ok (q2 hi)
    · rw [if_neg hi]; exact q3 (Bool.eq_false_iff.mpr hi)
  | bad => exact q
theorem cn12 : OkS xs Φ .pass := fun en h K X p => p
theorem cn13 : OkS xs Φ .brk := fun en h K X p => p
theorem cn14 : OkS xs Φ .cnt := fun en h K X p => p
theorem cn15 : OkSs xs Φ [] := fun en h K X p => p
theorem cn16 (m : S) (ms : List S) (i0 : OkS xs Φ m) (i1 : OkSs xs Φ ms) : OkSs xs Φ (m :: ms) := fun en h K X p => wp_bd ((i0 en h _ X p).mp fun q h z => by
  obtain ⟨fl, en2⟩ := q
  cases fl with
  | nx => exact i1 en2 h K X z
  | _ => exact z)
mutual
theorem wS_ok : ∀ m : S, OkS xs Φ m
  | .asg i e => cn0 i e
  | .asgT is e => cn1 is e
  | .par i j a b => cn2 i j a b
  | .setI o i e => cn3 o i e
  | .addI o i e => cn4 o i e
  | .ex e => cn5 e
  | .ret e => cn6 e
  | .ifs c a b => cn7 c a b (wSs_ok a) (wSs_ok b)
  | .for_ t it b => cn8 t it b
  | .while_ c b => cn9 c b
  | .raise c es => cn10 c es
  | .try_ b c sl hd => cn11 b c sl hd (wS_ok b)
  | .pass => cn12
  | .brk => cn13
  | .cnt => cn14
theorem wSs_ok : ∀ ms : List S, OkSs xs Φ ms
  | [] => cn15
  | m :: ms => cn16 m ms (wS_ok m) (wSs_ok ms)
end
/-- a loop by its invariant over what is left -/
theorem for_inv {w : Wk} {t : Tg} {b : List S} {en : En} {h : Hh} {K : Ks} {X : XQ} (I : List D → En → Hh → Prop) (h0 : I w.its en h)
    (hs : ∀ x rs en h, I (x :: rs) en h → stays w.gd h ∧ bindK t x en fun en1 => wS.wSs xs Φ b en1 h ⟨fun en h => I rs en h, K.rt, K.nx, fun en h => I rs en h⟩ X)
    (he : ∀ en h, I [] en h → stays w.gd h ∧ K.nx en h) : ForP xs Φ w t b en h K X := by
  refine ForP.mk ?_
  generalize w.its = its at h0
  induction its generalizing en h with
  | nil => exact wp_bd (guardW (he _ _ h0).1 (he _ _ h0).2)
  | cons x rs ih =>
    obtain ⟨s, q⟩ := hs _ _ _ _ h0
    refine wp_bd (guardW s ?_)
    obtain ⟨en1, e, q⟩ := bindK_ok q
    rw [e]
    refine wp_bd ((wSs_ok b en1 h _ X q).mp fun q h z => ?_)
    obtain ⟨fl, en2⟩ := q
    cases fl with
    | nx => exact ih z
    | ct => exact ih z
    | bk => exact z
    | rt d => exact z
def wBody (Φ : Nat → List D → M D) (cd : Bool) (c e : E) (en1 : En) (h : Hh) (G : Option D → Hh → Prop) : Prop := match cd with
  | true => wR Φ c en1 h (fun rv h => settleK rv h fun k h => boolK k fun k => (k = true → wR Φ e en1 h (fun rv h => settleK rv h fun y h => G (some y) h) X0) ∧ (k = false → G none h)) X0
  | false => wR Φ e en1 h (fun rv h => settleK rv h fun y h => G (some y) h) X0
theorem wBody_ok {cd : Bool} {c e : E} {en1 : En} {h : Hh} {G : Option D → Hh → Prop} (p : wBody Φ cd c e en1 h G) : Wp (bodyM Φ cd c e en1 h) G X0 := by
  cases cd with
  | true =>
    refine t1 (wR_ok c _ _ _ _ p) fun k h z => ?_
    obtain ⟨b, rfl, q1, q2⟩ := boolK_inv z
    cases b with
    | true => exact t1 (wR_ok e _ _ _ _ (q1 rfl)) fun _ _ z => z
    | false => exact q2 rfl
  | false => exact t1 (wR_ok e _ _ _ _ p) fun _ _ z => z
/-- a comprehension by its invariant: what is made, what is left -/
theorem compInv {own : List Nat} {t : Tg} {cd : Bool} {c e : E} {w : Wk} {en : En} {h : Hh} {K : List D → Hh → Prop} {X : XQ} (I : List D → List D → Hh → Prop) (hl : w.its.length ≤ sizeLine) (h0 : I [] w.its h)
    (hs : ∀ rs x ys h, I rs (x :: ys) h → stays w.gd h ∧ wipeK own en fun en0 => bindK t x en0 fun en1 => wBody Φ cd c e en1 h fun o h => I (rs ++ o.toList) ys h)
    (he : ∀ rs h, I rs [] h → stays w.gd h ∧ K rs h) : CompP Φ own t cd c e w en h K X := by
  refine CompP.mk ?_
  unfold compM
  rw [if_pos hl]
  refine noErrW ?_
  have key : ∀ (its rs : List D) (h : Hh) (K : List D → Hh → Prop), I rs its h → (∀ zs h, I (rs ++ zs) [] h → stays w.gd h ∧ K zs h) → Wp (compD w.gd (fun x h => (match bindT t x (wipeE en own) with
      | none => fun _ => R.bad
      | some en1 => bodyM Φ cd c e en1) h) its h) K X0 := by
    intro its
    induction its with
    | nil => intro rs h K i k; exact wp_bd (guardW (k [] h (by rw [List.append_nil]; exact i)).1 (k [] h (by rw [List.append_nil]; exact i)).2)
    | cons x ys ih =>
      intro rs h K i k
      obtain ⟨s, q⟩ := hs _ _ _ _ i
      obtain ⟨en1, e1, q⟩ := bindK_ok (wipeK_ok (K := fun en0 => bindK t x en0 fun en1 => wBody Φ cd c e en1 h fun o h => I (rs ++ o.toList) ys h) q)
      refine wp_bd (guardW s (wp_bd ?_))
      simp only [e1]
      refine (wBody_ok q).mp fun o h z => ?_
      cases o with
      | none => exact wp_bd ((ih rs h K (by simpa using z) k).mp fun r h z => z)
      | some y => exact wp_bd ((ih (rs ++ [y]) h (fun r h => K (y :: r) h) z fun zs h i => k (y :: zs) h (by simpa using i)).mp fun r h z => z)
  exact key w.its [] h K h0 fun zs h i => he zs h (by simpa using i)
end
/-! ### frames -/
/-- all old cells but those of S stand as they stood -/
structure Frm (S : List Nat) (h h' : Hh) : Prop where
  le : h.length ≤ h'.length
  eq : ∀ a, a < h.length → a ∉ S → h'[a]? = h[a]?
theorem Frm.refl {S : List Nat} {h : Hh} : Frm S h h := ⟨Nat.le_refl _, fun _ _ _ => rfl⟩
theorem Frm.trans {S : List Nat} {h h1 h2 : Hh} (p : Frm S h h1) (q : Frm S h1 h2) : Frm S h h2 := ⟨Nat.le_trans p.le q.le, fun a l n => (q.eq a (Nat.lt_of_lt_of_le l p.le) n).trans (p.eq a l n)⟩
theorem Frm.mono {S T : List Nat} {h h' : Hh} (p : Frm S h h') (s : ∀ a, a ∈ S → a ∈ T) : Frm T h h' := ⟨p.le, fun a l n => p.eq a l fun m => n (s a m)⟩
theorem Frm.get {S : List Nat} {h h' : Hh} (p : Frm S h h') {a : Nat} {c : Cell} (n : a ∉ S) (e : h[a]? = some c) : h'[a]? = some c := (p.eq a (List.getElem?_eq_some_iff.mp e).1 n).trans e
theorem Frm.take {S : List Nat} {h h' : Hh} (p : Frm S h h') : Frm S h (h'.take h.length) := ⟨by rw [List.length_take]; have := p.le; omega, fun a l n => by rw [List.getElem?_take_of_lt l]; exact p.eq a l n⟩
theorem Frm.app {S : List Nat} {h : Hh} (js : Hh) : Frm S h (h ++ js) := ⟨by rw [List.length_append]; omega, fun a l _ => List.getElem?_append_left l⟩
theorem Frm.set {S : List Nat} {h : Hh} {a : Nat} {c : Cell} (m : a ∈ S) : Frm S h (h.set a c) := ⟨by rw [List.length_set]; omega, fun b l n => List.getElem?_set_ne (fun e => n (by rw [← e]; exact m))⟩
/-- a cell that was not there may be written -/
theorem Frm.new {S T : List Nat} {h h1 h2 : Hh} (p : Frm S h h1) (q : Frm T h1 h2) (s : ∀ a, a ∈ T → a ∈ S ∨ h.length ≤ a) : Frm S h h2 := ⟨Nat.le_trans p.le q.le, fun a l n => (q.eq a (Nat.lt_of_lt_of_le l p.le) fun m => (s a m).elim n fun l2 => absurd l (Nat.not_lt.mpr l2)).trans (p.eq a l n)⟩
/-! ### defs -/
def Stab (h : Hh) (Q : D → Hh → Prop) : Prop := ∀ d h', Q d h' → closD h.length d = true → Q d (h'.take h.length)
def StabX (h : Hh) (X : XQ) : Prop := ∀ x h', X x h' → closDs h.length (x.fs.map (·.2)) = true → X x (h'.take h.length)
theorem phi_succ {xs : XS} {defs : List MDef} {n : Nat} (f : Nat) : phi xs defs (n + 1) f = if f = n then (match defs[n]? with
    | some d => runDef xs (phi xs defs n) d
    | none => fun _ _ => .bad) else phi xs defs n f := rfl
theorem phiLt {xs : XS} {defs : List MDef} {n f : Nat} (hf : f < n) : phi xs defs n f = match defs[f]? with
    | some d => runDef xs (phi xs defs f) d
    | none => fun _ _ => .bad := by
  induction n with
  | zero => omega
  | succ n ih =>
    rw [phi_succ]
    by_cases e : f = n
    · subst e; rw [if_pos rfl]
    · rw [if_neg e]; exact ih (by omega)
theorem leave_ok {h : Hh} {r : R D} {Q : D → Hh → Prop} {X : XQ} (st : Stab h Q) (sx : StabX h X) (p : Wp r Q X) : Wp (leave h.length r) Q X := by
  cases r with
  | ok d h' =>
    simp only [leave]
    split
    · rename_i c
      exact st d h' p (by simp only [Bool.and_eq_true] at c; exact c.1)
    · exact p
  | err x h' =>
    simp only [leave]
    split
    · rename_i c
      exact sx x h' p (by simp only [Bool.and_eq_true] at c; exact c.1)
    · exact p
  | bad => exact p
/-- a def's entry -/
theorem fn_ok {xs : XS} {defs : List MDef} {n f : Nat} {d : MDef} {args : List D} {h : Hh} {Q : D → Hh → Prop} {X : XQ} (hf : f < n) (hd : defs[f]? = some d) (hl : args.length = d.np) (st : Stab h Q) (sx : StabX h X)
    (p : wS.wSs xs (phi xs defs f) d.body (args.map some ++ List.replicate (d.N.length - d.np) none) h ⟨fun _ h' => Q .non h', Q, fun _ _ => False, fun _ _ => False⟩ X) : CallP (phi xs defs n f args h) Q X := by
  refine CallP.mk ?_
  rw [phiLt hf, hd]
  show Wp (runDef xs (phi xs defs f) d args h) Q X
  unfold runDef
  rw [if_pos hl]
  refine leave_ok st sx (wp_bd ((wSs_ok d.body _ h _ X p).mp fun q h z => ?_))
  obtain ⟨fl, en⟩ := q
  cases fl <;> first | exact z | exact z.elim
theorem stabX0 {h : Hh} : StabX h X0 := fun _ _ p _ => p
end Mp
set_option Elab.async false
set_option linter.all false
set_option maxRecDepth 100000
set_option maxHeartbeats 4000000
/-! Q3m: what is asked may be strengthened -/
namespace Mp
open PySem
theorem getK_imp {K K' : D → Prop} (q : ∀ d, K d → K' d) : ∀ {en : En} {i : Nat}, getK en i K → getK en i K'
  | [], _, p => p.elim
  | some _ :: _, 0, p => q _ p
  | none :: _, 0, p => p.elim
  | _ :: xs, n + 1, p => getK_imp q (en := xs) (i := n) p
theorem setK_imp : ∀ {en : En} {i : Nat} {d : D} {K K' : En → Prop}, setK en i d K → (∀ e, K e → K' e) → setK en i d K'
  | [], _, _, _, _, p, q => q _ p
  | _ :: _, 0, _, _, _, p, q => q _ p
  | _ :: xs, n + 1, d, K, K', p, q => setK_imp (en := xs) (i := n) p fun e => q _
theorem nonK_imp : ∀ {en : En} {i : Nat} {K K' : En → Prop}, nonK en i K → (∀ e, K e → K' e) → nonK en i K'
  | [], _, _, _, p, q => q _ p
  | _ :: _, 0, _, _, p, q => q _ p
  | _ :: xs, n + 1, K, K', p, q => nonK_imp (en := xs) (i := n) p fun e => q _
theorem setAllK_imp : ∀ {is : List Nat} {ds : List D} {en : En} {K K' : En → Prop}, setAllK is ds en K → (∀ e, K e → K' e) → setAllK is ds en K'
  | [], [], en, K, K', p, q => q _ p
  | i :: is, d :: ds, en, K, K', p, q => setK_imp (K := fun en => setAllK is ds en K) p fun e z => setAllK_imp (is := is) z q
  | [], _ :: _, _, _, _, p, _ => p.elim
  | _ :: _, [], _, _, _, p, _ => p.elim
theorem bindK_imp {t : Tg} {d : D} {en : En} {K K' : En → Prop} (p : bindK t d en K) (q : ∀ e, K e → K' e) : bindK t d en K' := by
  cases t with
  | one i => exact setK_imp p q
  | many is =>
    cases d with
    | tup ds => exact setAllK_imp (is := is) p q
    | _ => exact p.elim
theorem binK_imp {h : Hh} {op : Bop} {x y : D} {K K' : Rv → Prop} (p : binK h op x y K) (q : ∀ r, K r → K' r) : binK h op x y K' := by
  cases op with
  | add =>
    cases x <;> cases y <;> first
    | exact p.elim
    | exact q _ p
    | exact ⟨p.1, q _ p.2⟩
    | (obtain ⟨xs, ys, e1, e2, e3, p⟩ := p; exact ⟨xs, ys, e1, e2, e3, q _ p⟩)
  | sub => cases x <;> cases y <;> first | exact p.elim | exact q _ p
  | mul => cases x <;> cases y <;> first | exact p.elim | exact ⟨p.1, q _ p.2⟩
  | fdiv => cases x <;> cases y <;> first | exact p.elim | exact ⟨p.1, q _ p.2⟩
  | mod => cases x <;> cases y <;> first | exact p.elim | exact ⟨p.1, q _ p.2⟩
  | _ => obtain ⟨rv, e, p⟩ := p; exact ⟨rv, e, q _ p⟩
theorem negK_imp {x : D} {K K' : D → Prop} (p : negK x K) (q : ∀ r, K r → K' r) : negK x K' := by
  cases x <;> first | exact p.elim | exact q _ p
theorem notK_imp {x : D} {K K' : D → Prop} (p : notK x K) (q : ∀ r, K r → K' r) : notK x K' := by
  cases x <;> first | exact p.elim | exact q _ p
theorem boolK_imp {x : D} {K K' : Bool → Prop} (p : boolK x K) (q : ∀ r, K r → K' r) : boolK x K' := by
  cases x <;> first | exact p.elim | exact q _ p
theorem eqK_imp {h : Hh} {x y : D} {K K' : Bool → Prop} (p : eqK h x y K) (q : ∀ r, K r → K' r) : eqK h x y K' := by
  have ex : ∀ {A : Bool → Prop}, (∃ b, A b ∧ K b) → ∃ b, A b ∧ K' b := fun ⟨b, e, k⟩ => ⟨b, e, q _ k⟩
  cases y with
  | int j => cases x <;> first | exact q _ p | exact ex p
  | bl j => cases x <;> first | exact q _ p | exact ex p
  | non => cases x <;> first | exact q _ p | exact ex p
  | _ => exact ex p
theorem cmpK_imp {h : Hh} {op : Cop} {x y : D} {K K' : Bool → Prop} (p : cmpK h op x y K) (q : ∀ r, K r → K' r) : cmpK h op x y K' := by
  cases op with
  | eq => exact eqK_imp p q
  | ne => exact eqK_imp (K := fun b => K (!b)) p fun _ => q _
  | _ => cases x <;> cases y <;> first | exact p.elim | exact q _ p
theorem isK_imp {t : Ty} {x : D} {h : Hh} {K K' : Bool → Prop} (p : isK t x h K) (q : ∀ r, K r → K' r) : isK t x h K' := by
  cases x <;> first | exact p.elim | exact q _ p | (obtain ⟨xs, e, p⟩ := p; exact ⟨xs, e, q _ p⟩)
theorem lstK_imp {h : Hh} {l : D} {K K' : Nat → List D → Prop} (p : lstK h l K) (q : ∀ a b, K a b → K' a b) : lstK h l K' := by
  cases l <;> first | exact p.elim | (obtain ⟨xs, e, p⟩ := p; exact ⟨xs, e, q _ _ p⟩)
theorem rangeK_imp {x y : D} {K K' : Wk → Prop} (p : rangeK x y K) (q : ∀ r, K r → K' r) : rangeK x y K' := by
  cases x <;> cases y <;> first | exact p.elim | exact ⟨p.1, q _ p.2⟩
theorem partK_imp {np : Bool} {d : D} {K K' : Option Int → Prop} (p : partK np d K) (q : ∀ r, K r → K' r) : partK np d K' := by
  cases np with
  | true => exact q _ p
  | false => cases d <;> first | exact p.elim | exact q _ p
theorem cutK_imp {h : Hh} {x : D} {lo hi : Option Int} {K K' : Rv → Prop} (p : cutK h x lo hi K) (q : ∀ r, K r → K' r) : cutK h x lo hi K' := by
  cases x <;> first | exact p.elim | exact q _ p | (obtain ⟨xs, e, p⟩ := p; exact ⟨xs, e, q _ p⟩)
theorem ixK_imp {h : Hh} {x y : D} {K K' : D → Prop} (p : ixK h x y K) (q : ∀ r, K r → K' r) : ixK h x y K' := by
  cases x <;> cases y <;> first
  | (obtain ⟨d, e, p⟩ := p; exact ⟨d, e, q _ p⟩)
  | (obtain ⟨xs, e, d, e2, p⟩ := p; exact ⟨xs, e, d, e2, q _ p⟩)
theorem sqK_imp {f : Sq} {w : Wk} {K K' : Rv → Prop} (p : sqK f w K) (q : ∀ r, K r → K' r) : sqK f w K' := by
  obtain ⟨its, gd, kind⟩ := w
  cases f with
  | len => exact ⟨p.1, q _ p.2⟩
  | list => exact ⟨p.1, q _ p.2⟩
  | tuple => exact ⟨p.1, q _ p.2⟩
  | _ => obtain ⟨rv, e, p⟩ := p; exact ⟨rv, e, q _ p⟩
theorem CallP.imp {r : R D} {Q Q' : D → Hh → Prop} {X X' : XQ} (p : CallP r Q X) (q : ∀ d h, Q d h → Q' d h) (x : ∀ e h, X e h → X' e h) : CallP r Q' X' := .mk (p.ok.imp q x)
theorem ex_imp {α : Type} {A : α → Prop} {K K' : α → Prop} (p : ∃ a, A a ∧ K a) (q : ∀ a, K a → K' a) : ∃ a, A a ∧ K' a := by
  obtain ⟨a, b, c⟩ := p
  exact ⟨a, b, q _ c⟩
section
variable {Φ : Nat → List D → M D}
def MoE (Φ : Nat → List D → M D) (e : E) : Prop := ∀ (en : En) (h : Hh) (K K' : Rv → Hh → Prop) (X X' : XQ), wR Φ e en h K X → (∀ rv h, K rv h → K' rv h) → (∀ x h, X x h → X' x h) → wR Φ e en h K' X'
def MoEs (Φ : Nat → List D → M D) (es : List E) : Prop := ∀ (en : En) (h : Hh) (K K' : List D → Hh → Prop) (X X' : XQ), wR.wRs Φ es en h K X → (∀ rv h, K rv h → K' rv h) → (∀ x h, X x h → X' x h) → wR.wRs Φ es en h K' X'
def MoA (Φ : Nat → List D → M D) (es : List E) : Prop := ∀ (en : En) (h : Hh) (K K' : Rv → Hh → Prop) (X X' : XQ), wR.wAnd Φ es en h K X → (∀ rv h, K rv h → K' rv h) → (∀ x h, X x h → X' x h) → wR.wAnd Φ es en h K' X'
def MoO (Φ : Nat → List D → M D) (es : List E) : Prop := ∀ (en : En) (h : Hh) (K K' : Rv → Hh → Prop) (X X' : XQ), wR.wOr Φ es en h K X → (∀ rv h, K rv h → K' rv h) → (∀ x h, X x h → X' x h) → wR.wOr Φ es en h K' X'
/-- a value, then on -/
theorem m1 {e : E} (i : MoE Φ e) {en : En} {h : Hh} {G G' : D → Hh → Prop} {X X' : XQ} (p : wR Φ e en h (fun rv h => settleK rv h G) X) (q : ∀ d h, G d h → G' d h) (x : ∀ x h, X x h → X' x h) : wR Φ e en h (fun rv h => settleK rv h G') X' := i _ _ _ _ _ _ p (fun _ _ z => settleK_imp z q) x
theorem m2 {e : E} (i : MoE Φ e) {en : En} {h : Hh} {G G' : Wk → Hh → Prop} {X X' : XQ} (p : wR Φ e en h (fun rv h => walkK rv h G) X) (q : ∀ d h, G d h → G' d h) (x : ∀ x h, X x h → X' x h) : wR Φ e en h (fun rv h => walkK rv h G') X' := i _ _ _ _ _ _ p (fun _ _ z => walkK_imp z q) x
mutual
theorem wR_mono : ∀ e : E, MoE Φ e
  | .var i => fun en h K K' X X' p q x => getK_imp (fun d => q _ _) p
  | .cst d => fun en h K K' X X' p q x => q _ _ p
  | .glb u1 d => fun en h K K' X X' p q x => q _ _ p
  | .nopart => fun en h K K' X X' p q x => q _ _ p
  | .tup es => fun en h K K' X X' p q x => wRs_mono es _ _ _ _ _ _ p (fun _ _ => q _ _) x
  | .lst es => fun en h K K' X X' p q x => wRs_mono es _ _ _ _ _ _ p (fun _ _ => q _ _) x
  | .bin op a b => fun en h K K' X X' p q x => m1 (wR_mono a) p (fun _ _ z => m1 (wR_mono b) z (fun _ _ z => binK_imp z fun _ => q _ _) x) x
  | .neg a => fun en h K K' X X' p q x => m1 (wR_mono a) p (fun _ _ z => negK_imp z fun _ => q _ _) x
  | .cmp op a b => fun en h K K' X X' p q x => m1 (wR_mono a) p (fun _ _ z => m1 (wR_mono b) z (fun _ _ z => cmpK_imp z fun _ => q _ _) x) x
  | .chain o o' a b c => fun en h K K' X X' p q x => m1 (wR_mono a) p (fun _ _ z => m1 (wR_mono b) z (fun _ _ z => cmpK_imp z fun _ z => ⟨fun e => m1 (wR_mono c) (z.1 e) (fun _ _ z => cmpK_imp z fun _ => q _ _) x, fun e => q _ _ (z.2 e)⟩) x) x
  | .isN ng a => fun en h K K' X X' p q x => m1 (wR_mono a) p (fun _ _ z => q _ _ z) x
  | .isIn ng a b => fun en h K K' X X' p q x => m1 (wR_mono a) p (fun _ _ z => m1 (wR_mono b) z (fun _ _ z => ex_imp z fun _ => q _ _) x) x
  | .and es => fun en h K K' X X' p q x => wAnd_mono es _ _ _ _ _ _ p q x
  | .or es => fun en h K K' X X' p q x => wOr_mono es _ _ _ _ _ _ p q x
  | .not a => fun en h K K' X X' p q x => m1 (wR_mono a) p (fun _ _ z => notK_imp z fun _ => q _ _) x
  | .ite c a b => fun en h K K' X X' p q x => m1 (wR_mono c) p (fun _ _ z => boolK_imp z fun _ z => ⟨fun e => m1 (wR_mono a) (z.1 e) (fun _ _ => q _ _) x, fun e => m1 (wR_mono b) (z.2 e) (fun _ _ => q _ _) x⟩) x
  | .idx a i => fun en h K K' X X' p q x => m1 (wR_mono a) p (fun _ _ z => m1 (wR_mono i) z (fun _ _ z => ixK_imp z fun _ => q _ _) x) x
  | .sl a lo hi => fun en h K K' X X' p q x => m1 (wR_mono a) p (fun _ _ z => m1 (wR_mono lo) z (fun _ _ z => partK_imp z fun _ z => m1 (wR_mono hi) z (fun _ _ z => partK_imp z fun _ z => cutK_imp z fun _ => q _ _) x) x) x
  | .call f es => fun en h K K' X X' p q x => wRs_mono es _ _ _ _ _ _ p (fun _ _ z => CallP.imp z (fun _ _ => q _ _) x) x
  | .sq f e => fun en h K K' X X' p q x => m2 (wR_mono e) p (fun _ _ z => sqK_imp z fun _ => q _ _) x
  | .bi f es => fun en h K K' X X' p q x => wRs_mono es _ _ _ _ _ _ p (fun _ _ z => ex_imp z fun _ => q _ _) x
  | .isi a t => fun en h K K' X X' p q x => m1 (wR_mono a) p (fun _ _ z => isK_imp z fun _ => q _ _) x
  | .app o y => fun en h K K' X X' p q x => m1 (wR_mono o) p (fun _ _ z => lstK_imp z fun _ _ z => m1 (wR_mono y) z (fun _ _ z => by
      obtain ⟨xs, a, b, c⟩ := z
      exact ⟨xs, a, b, q _ _ c⟩) x) x
  | .popI o i => fun en h K K' X X' p q x => m1 (wR_mono o) p (fun _ _ z => lstK_imp z fun _ _ z => m1 (wR_mono i) z (fun _ _ z => by
      obtain ⟨xs, k, z, a, b, c, d, e⟩ := z
      exact ⟨xs, k, z, a, b, c, d, q _ _ e⟩) x) x
  | .index o y => fun en h K K' X X' p q x => m1 (wR_mono o) p (fun _ _ z => lstK_imp z fun _ _ z => m1 (wR_mono y) z (fun _ _ z => ex_imp z fun _ => q _ _) x) x
  | .split o y => fun en h K K' X X' p q x => m1 (wR_mono o) p (fun _ _ z => ⟨z.1, m1 (wR_mono y) z.2 (fun _ _ z => ex_imp z fun _ => q _ _) x⟩) x
  | .comp own t it cd c e => fun en h K K' X X' p q x => m2 (wR_mono it) p (fun _ _ z => CompP.mk (z.ok.imp (fun _ _ => q _ _) x)) x
  | .lenset own t it cd c e => fun en h K K' X X' p q x => m2 (wR_mono it) p (fun _ _ z => CompP.mk (z.ok.imp (fun _ _ z => ex_imp z fun _ => q _ _) x)) x
  | .sortset own t it cd c e => fun en h K K' X X' p q x => m2 (wR_mono it) p (fun _ _ z => CompP.mk (z.ok.imp (fun _ _ z => ex_imp z fun _ => q _ _) x)) x
  | .rng1 n => fun en h K K' X X' p q x => m1 (wR_mono n) p (fun _ _ z => rangeK_imp z fun _ => q _ _) x
  | .rng2 a b => fun en h K K' X X' p q x => m1 (wR_mono a) p (fun _ _ z => m1 (wR_mono b) z (fun _ _ z => rangeK_imp z fun _ => q _ _) x) x
  | .enum e => fun en h K K' X X' p q x => m2 (wR_mono e) p (fun _ _ z => ⟨z.1, q _ _ z.2⟩) x
  | .zip u1 u2 => fun en h K K' X X' p q x => p.elim
theorem wRs_mono : ∀ es : List E, MoEs Φ es
  | [] => fun en h K K' X X' p q x => q _ _ p
  | e :: es => fun en h K K' X X' p q x => m1 (wR_mono e) p (fun _ _ z => wRs_mono es _ _ _ _ _ _ z (fun _ _ => q _ _) x) x
theorem wAnd_mono : ∀ es : List E, MoA Φ es
  | [] => fun en h K K' X X' p q x => p.elim
  | [e] => fun en h K K' X X' p q x => m1 (wR_mono e) p (fun _ _ => q _ _) x
  | e :: e2 :: es => fun en h K K' X X' p q x => m1 (wR_mono e) p (fun _ _ z => boolK_imp z fun _ z => ⟨fun r => wAnd_mono (e2 :: es) _ _ _ _ _ _ (z.1 r) q x, fun r => q _ _ (z.2 r)⟩) x
theorem wOr_mono : ∀ es : List E, MoO Φ es
  | [] => fun en h K K' X X' p q x => p.elim
  | [e] => fun en h K K' X X' p q x => m1 (wR_mono e) p (fun _ _ => q _ _) x
  | e :: e2 :: es => fun en h K K' X X' p q x => m1 (wR_mono e) p (fun _ _ z => boolK_imp z fun _ z => ⟨fun r => q _ _ (z.1 r), fun r => wOr_mono (e2 :: es) _ _ _ _ _ _ (z.2 r) q x⟩) x
end
structure KsLe (K K' : Ks) : Prop where
  nx : ∀ en h, K.nx en h → K'.nx en h
  rt : ∀ d h, K.rt d h → K'.rt d h
  bk : ∀ en h, K.bk en h → K'.bk en h
  ct : ∀ en h, K.ct en h → K'.ct en h
theorem flK_imp {K K' : Ks} (l : KsLe K K') (q : Fl × En) (h : Hh) (p : flK K q h) : flK K' q h := by
  obtain ⟨f, en⟩ := q
  cases f with
  | nx => exact l.nx _ _ p
  | rt d => exact l.rt _ _ p
  | bk => exact l.bk _ _ p
  | ct => exact l.ct _ _ p
theorem setK2_imp {h : Hh} {l i y : D} {K K' : Hh → Prop} (p : setK2 h l i y K) (q : ∀ h, K h → K' h) : setK2 h l i y K' := by
  cases l <;> cases i <;> first | exact p.elim | (obtain ⟨xs, j, a, b, c⟩ := p; exact ⟨xs, j, a, b, q _ c⟩)
theorem getMK_imp {h : Hh} {l i : D} {K K' : D → Prop} (p : getMK h l i K) (q : ∀ h, K h → K' h) : getMK h l i K' := by
  cases l <;> cases i <;> first | exact p.elim | (obtain ⟨xs, j, a, b, c⟩ := p; exact ⟨xs, j, a, b, q _ c⟩)
theorem addK_imp {x y : D} {K K' : D → Prop} (p : addK x y K) (q : ∀ h, K h → K' h) : addK x y K' := by
  cases x <;> cases y <;> first | exact p.elim | exact q _ p
theorem mkK_imp {xs : XS} {c : Nat} {ds : List D} {h : Hh} {X X' : XQ} (p : mkK xs c ds h X) (x : ∀ x h, X x h → X' x h) : mkK xs c ds h X' := ⟨p.1, x _ _ p.2⟩
theorem handK_imp {xs : XS} {x : Xn} {hd : HS} {sl : Nat} {en : En} {h : Hh} {K K' : Ks} {X X' : XQ} (p : handK xs x hd sl en h K X) (l : KsLe K K') (q : ∀ x h, X x h → X' x h) : handK xs x hd sl en h K' X' := by
  cases hd with
  | ret e => obtain ⟨d, a, b, c⟩ := p; exact ⟨d, a, b, l.rt _ _ c⟩
  | cond c e => obtain ⟨a, b, d, f, g⟩ := p; exact ⟨a, b, d, fun z => by
      obtain ⟨u, v, w⟩ := f z
      exact ⟨u, v, l.rt _ _ w⟩, fun z => nonK_imp (g z) fun _ => l.nx _ _⟩
  | re c d => exact mkK_imp p q
def MoS (xs : XS) (Φ : Nat → List D → M D) (m : S) : Prop := ∀ (en : En) (h : Hh) (K K' : Ks) (X X' : XQ), wS xs Φ m en h K X → KsLe K K' → (∀ x h, X x h → X' x h) → wS xs Φ m en h K' X'
def MoSs (xs : XS) (Φ : Nat → List D → M D) (ms : List S) : Prop := ∀ (en : En) (h : Hh) (K K' : Ks) (X X' : XQ), wS.wSs xs Φ ms en h K X → KsLe K K' → (∀ x h, X x h → X' x h) → wS.wSs xs Φ ms en h K' X'
variable {xs : XS}
mutual
theorem wS_mono : ∀ m : S, MoS xs Φ m
  | .asg i e => fun en h K K' X X' p l x => m1 (wR_mono e) p (fun _ _ z => setK_imp z fun _ => l.nx _ _) x
  | .asgT is e => fun en h K K' X X' p l x => m1 (wR_mono e) p (fun _ _ z => bindK_imp z fun _ => l.nx _ _) x
  | .par i j a b => fun en h K K' X X' p l x => m1 (wR_mono a) p (fun _ _ z => m1 (wR_mono b) z (fun _ _ z => setK_imp z fun _ z => setK_imp z fun _ => l.nx _ _) x) x
  | .setI o i e => fun en h K K' X X' p l x => m1 (wR_mono e) p (fun _ _ z => m1 (wR_mono o) z (fun _ _ z => m1 (wR_mono i) z (fun _ _ z => setK2_imp z fun _ => l.nx _ _) x) x) x
  | .addI o i e => fun en h K K' X X' p l x => m1 (wR_mono o) p (fun _ _ z => m1 (wR_mono i) z (fun _ _ z => getMK_imp z fun _ z => m1 (wR_mono e) z (fun _ _ z => addK_imp z fun _ z => setK2_imp z fun _ => l.nx _ _) x) x) x
  | .ex e => fun en h K K' X X' p l x => m1 (wR_mono e) p (fun _ _ => l.nx _ _) x
  | .ret e => fun en h K K' X X' p l x => m1 (wR_mono e) p (fun _ _ => l.rt _ _) x
  | .ifs c a b => fun en h K K' X X' p l x => m1 (wR_mono c) p (fun _ _ z => boolK_imp z fun _ z => ⟨fun e => wSs_mono a _ _ _ _ _ _ (z.1 e) l x, fun e => wSs_mono b _ _ _ _ _ _ (z.2 e) l x⟩) x
  | .for_ t it b => fun en h K K' X X' p l x => m2 (wR_mono it) p (fun _ _ z => ForP.mk (z.ok.imp (flK_imp l) x)) x
  | .while_ c b => fun en h K K' X X' p l x => WhileP.mk (p.ok.imp (flK_imp l) x)
  | .raise c es => fun en h K K' X X' p l x => wRs_mono es _ _ _ _ _ _ p (fun _ _ z => mkK_imp z x) x
  | .try_ b c sl hd => fun en h K K' X X' p l x => wS_mono b _ _ _ _ _ _ p l fun y _ z => ⟨z.1, fun e => handK_imp (z.2.1 e) l x, fun e => x _ _ (z.2.2 e)⟩
  | .pass => fun en h K K' X X' p l x => l.nx _ _ p
  | .brk => fun en h K K' X X' p l x => l.bk _ _ p
  | .cnt => fun en h K K' X X' p l x => l.ct _ _ p
theorem wSs_mono : ∀ ms : List S, MoSs xs Φ ms
  | [] => fun en h K K' X X' p l x => l.nx _ _ p
  | m :: ms => fun en h K K' X X' p l x => wS_mono m _ _ _ _ _ _ p ⟨fun _ _ z => wSs_mono ms _ _ _ _ _ _ z l x, l.rt, l.bk, l.ct⟩ x
end
theorem nilS {en : En} {h : Hh} {K : Ks} {X : XQ} (p : K.nx en h) : wS.wSs xs Φ [] en h K X := p
/-- a row, then what is behind it, by what holds between -/
theorem cutS (I : En → Hh → Prop) {m : S} {ms : List S} {en : En} {h : Hh} {K : Ks} {X : XQ} (p : wS xs Φ m en h ⟨I, K.rt, K.bk, K.ct⟩ X) (q : ∀ en h, I en h → wS.wSs xs Φ ms en h K X) : wS.wSs xs Φ (m :: ms) en h K X :=
  wS_mono m _ _ _ _ _ _ p ⟨q, fun _ _ z => z, fun _ _ z => z, fun _ _ z => z⟩ fun _ _ z => z
/-- n rows, then the rest -/
theorem cutN (n : Nat) (I : En → Hh → Prop) {ms : List S} {en : En} {h : Hh} {K : Ks} {X : XQ} (p : wS.wSs xs Φ (ms.take n) en h ⟨I, K.rt, K.bk, K.ct⟩ X) (q : ∀ en h, I en h → wS.wSs xs Φ (ms.drop n) en h K X) : wS.wSs xs Φ ms en h K X := by
  have app : ∀ (as bs : List S) (en : En) (h : Hh), wS.wSs xs Φ as en h ⟨fun en h => wS.wSs xs Φ bs en h K X, K.rt, K.bk, K.ct⟩ X → wS.wSs xs Φ (as ++ bs) en h K X := by
    intro as
    induction as with
    | nil => intro bs en h p; exact p
    | cons a as ih => intro bs en h p; exact wS_mono a _ _ _ _ _ _ p ⟨fun _ _ z => ih bs _ _ z, fun _ _ z => z, fun _ _ z => z, fun _ _ z => z⟩ fun _ _ z => z
  have e := app (ms.take n) (ms.drop n) en h (wSs_mono _ _ _ _ _ _ _ p ⟨q, fun _ _ z => z, fun _ _ z => z, fun _ _ z => z⟩ fun _ _ z => z)
  rwa [List.take_append_drop] at e
end
end Mp
set_option Elab.async false
set_option linter.all false
set_option maxRecDepth 100000
set_option maxHeartbeats 4000000
/-! Q4: words for data, calls, comprehensions -/
namespace Mp
open PySem
open PySem.PyData (strOk)
theorem call {r : R D} {Q' Q : D → Hh → Prop} {X' X : XQ} (s : CallP r Q' X') (k : ∀ d h, Q' d h → Q d h) (kx : ∀ x h, X' x h → X x h) : CallP r Q X := .mk (s.ok.imp k kx)
theorem callz {r : R D} {Q' Q : D → Hh → Prop} {X : XQ} (s : CallP r Q' X0) (k : ∀ d h, Q' d h → Q d h) : CallP r Q X := .mk (s.ok.imp k fun _ _ f => f.elim)
/-! ### data without cells -/
mutual
theorem pyW_of (rf : Nat → Option PyData) : ∀ (d : D) (e : PyData), D.pyW (fun _ => none) d = some e → D.pyW rf d = some e
  | .non, _, p => p
  | .bl _, _, p => p
  | .int _, _, p => p
  | .str _, _, p => p
  | .ref _, _, p => by simp [D.pyW] at p
  | .fro _, _, p => by simp [D.pyW] at p
  | .tup xs, e, p => by
    simp only [D.pyW, Option.map_eq_some_iff] at p ⊢
    obtain ⟨es, q, r⟩ := p
    exact ⟨es, pysW_of rf xs es q, r⟩
theorem pysW_of (rf : Nat → Option PyData) : ∀ (ds : List D) (es : List PyData), D.pysW (fun _ => none) ds = some es → D.pysW rf ds = some es
  | [], _, p => p
  | x :: xs, es, p => by
    simp only [D.pysW] at p ⊢
    cases hx : D.pyW (fun _ => none) x with
    | none => rw [hx] at p; cases p
    | some y =>
      cases hs : D.pysW (fun _ => none) xs with
      | none => rw [hx, hs] at p; cases p
      | some ys =>
        rw [hx, hs] at p
        rw [pyW_of rf x y hx, pysW_of rf xs ys hs]
        exact p
end
/-- plain data of depth n at most: no cell in it -/
structure Pu (n : Nat) (d : D) : Prop where
  ex : ∃ e, D.pyW (fun _ => none) d = some e ∧ e.canLay0 = true ∧ e.depth ≤ n
theorem Pu.int {n : Nat} {i : Int} : Pu n (.int i) := ⟨_, rfl, rfl, Nat.zero_le _⟩
theorem Pu.bl {n : Nat} {i : Bool} : Pu n (.bl i) := ⟨_, rfl, rfl, Nat.zero_le _⟩
theorem Pu.non {n : Nat} : Pu n .non := ⟨_, rfl, rfl, Nat.zero_le _⟩
theorem Pu.str {n : Nat} {s : Str} (p : strOk s = true) : Pu n (.str s) := ⟨.str s, rfl, by simpa [PyData.canLay0] using p, Nat.zero_le _⟩
theorem Pu.mono {n m : Nat} {d : D} (p : Pu n d) (l : n ≤ m) : Pu m d := by
  obtain ⟨e, a, b, c⟩ := p.ex
  exact ⟨e, a, b, Nat.le_trans c l⟩
theorem pus_ex {n : Nat} : ∀ (xs : List D), (∀ x ∈ xs, Pu n x) → ∃ es, D.pysW (fun _ => none) xs = some es ∧ PyData.canLayAll0 es = true ∧ PyData.depthAll es ≤ n
  | [], _ => ⟨[], rfl, rfl, Nat.zero_le _⟩
  | x :: xs, p => by
    obtain ⟨e, a, b, c⟩ := (p x List.mem_cons_self).ex
    obtain ⟨es, a2, b2, c2⟩ := pus_ex xs fun y m => p y (List.mem_cons_of_mem _ m)
    refine ⟨e :: es, ?_, ?_, ?_⟩
    · simp only [D.pysW, a, a2]
    · simp only [PyData.canLayAll0, b, b2, Bool.and_self]
    · simp only [PyData.depthAll]; omega
theorem Pu.tup {n : Nat} {xs : List D} (p : ∀ x ∈ xs, Pu n x) : Pu (n + 1) (.tup xs) := by
  obtain ⟨es, a, b, c⟩ := pus_ex xs p
  refine ⟨.tuple es, ?_, ?_, ?_⟩
  · simp only [D.pyW, a, Option.map_some]
  · simpa only [PyData.canLay0] using b
  · simp only [PyData.depth]; omega
theorem pus_inv {n : Nat} : ∀ (xs : List D) (es : List PyData), D.pysW (fun _ => none) xs = some es → PyData.canLayAll0 es = true → PyData.depthAll es ≤ n → ∀ x ∈ xs, Pu n x
  | [], _, _, _, _, _, m => nomatch m
  | y :: ys, es, a, b, c, x, m => by
    simp only [D.pysW] at a
    cases hx : D.pyW (fun _ => none) y with
    | none => rw [hx] at a; cases a
    | some e =>
      cases hs : D.pysW (fun _ => none) ys with
      | none => rw [hx, hs] at a; cases a
      | some es2 =>
        rw [hx, hs] at a
        cases a
        simp only [PyData.canLayAll0, Bool.and_eq_true] at b
        simp only [PyData.depthAll] at c
        rcases List.mem_cons.mp m with rfl | m
        · exact ⟨e, hx, b.1, by omega⟩
        · exact pus_inv ys es2 hs b.2 (by omega) x m
theorem Pu.of_tup {n : Nat} {xs : List D} (p : Pu (n + 1) (.tup xs)) : ∀ x ∈ xs, Pu n x := by
  obtain ⟨e, a, b, c⟩ := p.ex
  simp only [D.pyW, Option.map_eq_some_iff] at a
  obtain ⟨es, q, rfl⟩ := a
  simp only [PyData.canLay0] at b
  simp only [PyData.depth] at c
  exact pus_inv xs es q b (by omega)
theorem Pu.tup0 {xs : List D} (p : Pu 0 (.tup xs)) : False := by
  obtain ⟨e, a, b, c⟩ := p.ex
  simp only [D.pyW, Option.map_eq_some_iff] at a
  obtain ⟨es, q, rfl⟩ := a
  simp only [PyData.depth] at c
  omega
theorem Pu.not_ref {n a : Nat} (p : Pu n (.ref a)) : False := by
  obtain ⟨e, a, b, c⟩ := p.ex
  simp [D.pyW] at a
theorem Pu.not_fro {n : Nat} {xs : List D} (p : Pu n (.fro xs)) : False := by
  obtain ⟨e, a, b, c⟩ := p.ex
  simp [D.pyW] at a
theorem Pu.py {n : Nat} {d : D} (p : Pu n d) (l : n ≤ 64) (h : Hh) : ∃ e, d.py h = some e ∧ SeqAt.shaped e = true ∧ D.pyW (fun _ => none) d = some e := by
  obtain ⟨e, a, b, c⟩ := p.ex
  refine ⟨e, pyW_of _ d e a, ?_, a⟩
  unfold SeqAt.shaped
  rw [b, Bool.true_and, decide_eq_true_iff]
  omega
theorem eqD_refl {n : Nat} {d : D} (p : Pu n d) (l : n ≤ 64) (h : Hh) : eqD h d d = some true := by
  obtain ⟨e, a, b, c⟩ := p.py l h
  unfold eqD
  rw [a]
  simp only [b, Bool.and_self, if_true, SeqAt.eqv_refl e (SeqAt.canLay_of_shaped b)]
/-- a text, as data -/
def isStrD (w : D) (s : Str) : Bool := match w with
  | .str u => decide (u = s)
  | _ => false
theorem isStrD_iff {w : D} {s : Str} : isStrD w s = true ↔ w = .str s := by
  cases w <;> simp [isStrD]
theorem pyStr {w : D} {e : PyData} {s : Str} (a : D.pyW (fun _ => none) w = some e) : PyData.eqv e (.str s) = isStrD w s := by
  cases w with
  | str u => cases a; simp only [PyData.eqv, isStrD]; rw [Bool.eq_iff_iff]; simp
  | tup xs =>
    simp only [D.pyW, Option.map_eq_some_iff] at a
    obtain ⟨es, q, rfl⟩ := a
    simp only [PyData.eqv, isStrD]
  | ref a => simp [D.pyW] at a
  | fro a => simp [D.pyW] at a
  | _ => cases a; simp only [PyData.eqv, isStrD]
theorem eqD_str {n : Nat} {w : D} {s : Str} (p : Pu n w) (l : n ≤ 64) (hs : strOk s = true) (h : Hh) : eqD h w (.str s) = some (isStrD w s) := by
  obtain ⟨e, a, b, c⟩ := p.py l h
  have q : D.py h (.str s) = some (.str s) := rfl
  have z : SeqAt.shaped (.str s) = true := by
    unfold SeqAt.shaped
    rw [show PyData.canLay0 (.str s) = strOk s by simp only [PyData.canLay0], hs]
    rfl
  unfold eqD
  rw [a, q]
  simp only [b, z, Bool.and_self, if_true, pyStr c]
theorem canLays_strs : ∀ (ss : List Str), ss.all strOk = true → PyData.canLayAll0 (ss.map .str) = true ∧ PyData.depthAll (ss.map .str) = 0
  | [], _ => ⟨rfl, rfl⟩
  | s :: ss, p => by
    simp only [List.all_cons, Bool.and_eq_true] at p
    obtain ⟨a, b⟩ := canLays_strs ss p.2
    refine ⟨?_, ?_⟩
    · simp only [List.map_cons, PyData.canLayAll0, PyData.canLay0, p.1, a, Bool.and_self]
    · simp only [List.map_cons, PyData.depthAll, PyData.depth, b]; rfl
theorem pysW_strs (rf : Nat → Option PyData) : ∀ (ss : List Str), D.pysW rf (ss.map .str) = some (ss.map .str)
  | [] => rfl
  | s :: ss => by simp only [List.map_cons, D.pysW, D.pyW, pysW_strs rf ss]
theorem inD_strs {n : Nat} {w : D} {ss : List Str} (p : Pu n w) (l : n ≤ 64) (hs : ss.all strOk = true) (h : Hh) (ng : Bool) : inD h ng w (.tup (ss.map .str)) = some (.bl (xor ng (ss.any fun s => isStrD w s))) := by
  obtain ⟨e, a, b, c⟩ := p.py l h
  have q : seqPy h (.tup (ss.map .str)) = some (ss.map .str) := by
    unfold seqPy D.py
    simp only [D.pyW, pysW_strs, Option.map_some]
  have z : SeqAt.shaped (.list (ss.map .str)) = true := by
    obtain ⟨a, b⟩ := canLays_strs ss hs
    unfold SeqAt.shaped
    rw [show PyData.canLay0 (.list (ss.map .str)) = _ by simp only [PyData.canLay0]; exact a]
    simp only [PyData.depth, b]
    rfl
  have k : ((ss.map PyData.str).any fun z => PyData.eqv z e) = ss.any fun s => isStrD w s := by
    rw [List.any_map]
    congr 1
    funext s
    show PyData.eqv (.str s) e = _
    rw [PySem.W.eqv_comm, pyStr c]
  unfold inD
  split
  · rename_i h1 h2; cases h2
  · rw [a, q]
    simp only [b, z, Bool.and_self, if_true, k]
theorem pu_ints {xs : List Int} : Pu 1 (.tup (xs.map .int)) := Pu.tup fun x m => by
  obtain ⟨i, _, rfl⟩ := List.mem_map.mp m
  exact Pu.int
/-! ### sequences -/
theorem ints_map : ∀ ns : List Int, ints? (ns.map .int) = some ns
  | [] => rfl
  | n :: ns => by simp only [List.map_cons, ints?, ints_map ns, Option.map_some]
theorem bls_map : ∀ ns : List Bool, bls? (ns.map .bl) = some ns
  | [] => rfl
  | n :: ns => by simp only [List.map_cons, bls?, bls_map ns, Option.map_some]
theorem sq_all (bs : List Bool) (g : List (Nat × List D)) : sqR .all ⟨bs.map .bl, g, .lst⟩ = some (.val (.bl (bs.all id))) := by
  simp only [sqR, sqD, bls_map, Option.map_some]
theorem sq_any (bs : List Bool) (g : List (Nat × List D)) : sqR .any ⟨bs.map .bl, g, .lst⟩ = some (.val (.bl (bs.any id))) := by
  simp only [sqR, sqD, bls_map, Option.map_some]
theorem sq_sum {k : Wd} (hk : k = .lst ∨ k = .tup) (bs : List Int) (g : List (Nat × List D)) : sqR .sum ⟨bs.map .int, g, k⟩ = some (.val (.int bs.sum)) := by
  rcases hk with rfl | rfl <;> simp only [sqR, sqD, ints_map, Option.map_some]
theorem atI_nat {α : Type} (xs : List α) (k : Nat) : L2.atI xs (k : Int) = xs[k]? := by
  unfold L2.atI L2.ixN
  have h0 : (0 : Int) ≤ (k : Int) := Int.natCast_nonneg k
  rw [if_pos h0]
  by_cases l : k < xs.length
  · rw [if_pos (by omega)]; simp
  · rw [if_neg (by omega)]; simp; omega
theorem ixN_nat {n k : Nat} (l : k < n) : L2.ixN n (k : Int) = some k := by
  unfold L2.ixN
  rw [if_pos (Int.natCast_nonneg k), if_pos (by omega)]
  simp
theorem atI_last {α : Type} (xs : List α) (x : α) : L2.atI (xs ++ [x]) (-1) = some x := by
  unfold L2.atI L2.ixN
  rw [if_neg (by decide), List.length_append, if_pos (by simp; omega)]
  have e : (-1 + ((xs.length + [x].length : Nat) : Int)).toNat = xs.length := by simp; omega
  simp only [Option.bind_some, e]
  simp
/-! ### frames -/
theorem stays_frm {S : List Nat} {g : List (Nat × List D)} {h h' : Hh} (F : Frm S h h') (n : ∀ p ∈ g, p.1 ∉ S) (s : stays g h) : stays g h' := fun p m => F.get (n p m) (s p m)
theorem stab_p {h : Hh} {S : List Nat} {P : D → Prop} : Stab h fun d h' => P d ∧ Frm S h h' := fun _ _ p _ => ⟨p.1, p.2.take⟩
theorem stabX_p {h : Hh} {S : List Nat} {P : Xn → Prop} : StabX h fun x h' => P x ∧ Frm S h h' := fun _ _ p _ => ⟨p.1, p.2.take⟩
section
variable {Φ : Nat → List D → M D}
/-- a comprehension that writes nothing: item by item -/
theorem comp_map {own : List Nat} {t : Tg} {cd : Bool} {c e : E} {w : Wk} {en : En} {h : Hh} {K : List D → Hh → Prop} {X : XQ} (f : D → Option D) (hl : w.its.length ≤ sizeLine) (sg : stays w.gd h)
    (hs : ∀ x ∈ w.its, ∀ h1, Frm [] h h1 → ∀ G : Option D → Hh → Prop, (∀ h2, Frm [] h1 h2 → G (f x) h2) → wipeK own en fun en0 => bindK t x en0 fun en1 => wBody Φ cd c e en1 h1 G)
    (he : ∀ h', Frm [] h h' → K (w.its.filterMap f) h') : CompP Φ own t cd c e w en h K X := by
  refine compInv (fun rs xs h1 => Frm [] h h1 ∧ ∃ ys, w.its = ys ++ xs ∧ rs = ys.filterMap f) hl ⟨Frm.refl, [], rfl, rfl⟩ ?_ ?_
  · rintro rs x xs h1 ⟨F, ys, e1, rfl⟩
    refine ⟨stays_frm F (fun _ _ => List.not_mem_nil) sg, ?_⟩
    refine hs x (by rw [e1]; exact List.mem_append_right _ List.mem_cons_self) h1 F _ fun h2 F2 => ⟨F.trans F2, ys ++ [x], by rw [e1]; simp, ?_⟩
    rw [List.filterMap_append]
    cases hx : f x <;> simp [hx]
  · rintro rs h1 ⟨F, ys, e1, rfl⟩
    rw [List.append_nil] at e1
    subst e1
    exact ⟨stays_frm F (fun _ _ => List.not_mem_nil) sg, he h1 F⟩
end
end Mp
set_option Elab.async false
set_option linter.all false
set_option maxRecDepth 100000
set_option maxHeartbeats 4000000
/-! Q5: the state of the draws -/
namespace Mp
open PySem
open PySem.PyData (strOk)
/-- cell 1 holds the state of the draws, cell 0 the script -/
structure St (h : Hh) : Prop where
  ex : ∃ (zs : List Int) (p q s t : Int), h[0]? = some (.lst (zs.map .int)) ∧ h[1]? = some (.lst [.ref 0, .int p, .int q, .int s, .int t]) ∧ 0 ≤ p
theorem St.len {h : Hh} (S : St h) : 2 ≤ h.length := by
  obtain ⟨zs, p, q, s, t, a, b, c⟩ := S.ex
  have := (List.getElem?_eq_some_iff.mp b).1
  omega
theorem St.take {h : Hh} (S : St h) {n : Nat} (l : 2 ≤ n) : St (h.take n) := by
  obtain ⟨zs, p, q, s, t, a, b, c⟩ := S.ex
  exact ⟨zs, p, q, s, t, by rw [List.getElem?_take_of_lt (by omega)]; exact a, by rw [List.getElem?_take_of_lt (by omega)]; exact b, c⟩
theorem St.frm {h h' : Hh} {T : List Nat} (S : St h) (F : Frm T h h') (n0 : 0 ∉ T) (n1 : 1 ∉ T) : St h' := by
  obtain ⟨zs, p, q, s, t, a, b, c⟩ := S.ex
  exact ⟨zs, p, q, s, t, F.get n0 a, F.get n1 b, c⟩
theorem St.pure {h h' : Hh} (S : St h) (F : Frm [] h h') : St h' := S.frm F List.not_mem_nil List.not_mem_nil
theorem Frm.one {h h' : Hh} {T : List Nat} (F : Frm [] h h') : Frm T h h' := F.mono fun _ m => nomatch m
/-- as a drawing def ends -/
theorem stab_d {h : Hh} (S : St h) {P : D → Prop} : Stab h fun d h' => P d ∧ St h' ∧ Frm [1] h h' := fun _ _ p _ => ⟨p.1, p.2.1.take S.len, p.2.2.take⟩
/-- a new cell, handed out -/
theorem closD_ref {n a : Nat} (l : n ≤ a) : closD n (.ref a) = true → False := by
  intro e
  simp only [closD, decide_eq_true_eq] at e
  omega
section
variable {Φ : Nat → List D → M D}
/-- a comprehension that draws -/
theorem comp_draw {own : List Nat} {t : Tg} {cd : Bool} {c e : E} {w : Wk} {en : En} {h : Hh} {K : List D → Hh → Prop} {X : XQ} (P : D → Prop) (S : St h) (hl : w.its.length ≤ sizeLine) (sg : stays w.gd h) (s1 : ∀ p ∈ w.gd, p.1 ≠ 1)
    (hs : ∀ x ∈ w.its, ∀ h1, St h1 → Frm [1] h h1 → ∀ G : Option D → Hh → Prop, (∀ y h2, P y → St h2 → Frm [1] h1 h2 → G (some y) h2) → wipeK own en fun en0 => bindK t x en0 fun en1 => wBody Φ cd c e en1 h1 G)
    (he : ∀ rs h', rs.length = w.its.length → (∀ r ∈ rs, P r) → St h' → Frm [1] h h' → K rs h') : CompP Φ own t cd c e w en h K X := by
  refine compInv (fun rs xs h1 => St h1 ∧ Frm [1] h h1 ∧ (∀ x ∈ xs, x ∈ w.its) ∧ rs.length + xs.length = w.its.length ∧ ∀ r ∈ rs, P r) hl ⟨S, Frm.refl, fun x m => m, by simp, fun _ m => nomatch m⟩ ?_ ?_
  · rintro rs x xs h1 ⟨S1, F, m, l, p⟩
    refine ⟨stays_frm F (fun p m => by simpa using s1 p m) sg, ?_⟩
    refine hs x (m x List.mem_cons_self) h1 S1 F _ fun y h2 py S2 F2 => ⟨S2, F.trans F2, fun z mz => m z (List.mem_cons_of_mem _ mz), by simp at l ⊢; omega, fun r mr => ?_⟩
    simp at mr
    rcases mr with mr | rfl
    · exact p r mr
    · exact py
  · rintro rs h1 ⟨S1, F, m, l, p⟩
    exact ⟨stays_frm F (fun p m => by simpa using s1 p m) sg, he rs h1 (by simpa using l) p S1 F⟩
end
theorem stays_nil {h : Hh} : stays [] h := fun _ m => nomatch m
theorem rngD_len {a b : Int} : (rngD a b).length = (b - a).toNat := by simp [rngD]
theorem rngD_mem {a b : Int} {x : D} (m : x ∈ rngD a b) : ∃ i : Nat, x = .int (a + (i : Nat)) ∧ a + (i : Nat) < b := by
  obtain ⟨i, q, rfl⟩ := List.mem_map.mp m
  rw [List.mem_range] at q
  exact ⟨i, rfl, by omega⟩
theorem rngD_zero (n : Nat) : rngD 0 (n : Int) = (List.range n).map fun i => .int (i : Nat) := by
  simp [rngD]
theorem intsOf {P : Int → Prop} : ∀ {rs : List D}, (∀ r ∈ rs, ∃ i, r = .int i ∧ P i) → ∃ is : List Int, rs = is.map .int ∧ ∀ i ∈ is, P i
  | [], _ => ⟨[], rfl, fun _ m => nomatch m⟩
  | r :: rs, p => by
    obtain ⟨i, rfl, q⟩ := p r List.mem_cons_self
    obtain ⟨is, rfl, q2⟩ := intsOf fun x m => p x (List.mem_cons_of_mem _ m)
    exact ⟨i :: is, rfl, fun j m => by
      rcases List.mem_cons.mp m with rfl | m
      · exact q
      · exact q2 j m⟩
end Mp
set_option Elab.async false
set_option linter.all false
set_option maxRecDepth 100000
set_option maxHeartbeats 4000000
/-! G0: graphs as data -/
namespace Mp
open PySem
open PySem.PyData (strOk)
structure Bk where
  nm : Str
  ts : List Int
  a : Int
  b : Int
def Bk.d (b : Bk) : D := .tup [.str b.nm, .tup (b.ts.map .int), .tup [.int b.a, .int b.b]]
structure Qe where
  s : Nat
  gs : List Int
  t : Nat
  tk : List Int
  st : List Int
def Qe.d (q : Qe) : D := .tup [.int (q.s : Nat), .tup (q.gs.map .int), .int (q.t : Nat), .tup (q.tk.map .int), .tup (q.st.map .int)]
structure Gr where
  bs : List Bk
  qs : List Qe
def Gr.d (g : Gr) : D := .tup [.tup (g.bs.map Bk.d), .tup (g.qs.map Qe.d)]
/-- ints of a row lie between lo and hi -/
def Rg (lo hi : Int) (is : List Int) : Prop := ∀ i ∈ is, lo ≤ i ∧ i ≤ hi
structure RtOk (is : List Int) (n : Nat) : Prop where
  len : is.length = n
  rg : Rg 0 12 is
  pos : 0 < is.sum
/-- a text stands in a text -/
def inS (u z : Str) : Bool := !(Builtin.Str.occurrences z u 0 z.length 1).isEmpty
def LET : Str := "abcdefghijklmnopqrstuvwxyz"
def SGN : Str := "abcdefghijklmnopqrstuvwxyz0123456789_."
def nameB (s : Str) : Bool := (decide (1 ≤ s.length) && decide (s.length ≤ 16)) && (match s.cps.toList with
  | [] => false
  | c :: _ => inS ⟨#[c]⟩ LET) && s.cps.toList.all fun c => inS ⟨#[c]⟩ SGN
structure Bk.Ok (b : Bk) : Prop where
  nm : nameB b.nm = true
  so : strOk b.nm = true
  l1 : 1 ≤ b.ts.length
  l6 : b.ts.length ≤ 6
  rg : Rg 0 60 b.ts
  a : 0 ≤ b.a ∧ b.a ≤ 9972
  b : 0 ≤ b.b ∧ b.b ≤ 9972
structure Qe.Ok (bs : List Bk) (q : Qe) : Prop where
  hs : q.s < bs.length
  ht : q.t < bs.length
  gs : RtOk q.gs (bs[q.s].ts.length)
  tk : RtOk q.tk (bs[q.t].ts.length)
  st : Rg 0 9972 q.st
  sl : q.st.length ≤ 60
structure Gr.Ok (g : Gr) : Prop where
  b1 : 1 ≤ g.bs.length
  b60 : g.bs.length ≤ 60
  q160 : g.qs.length ≤ 160
  bk : ∀ b ∈ g.bs, b.Ok
  nd : (g.bs.map Bk.nm).Nodup
  qk : ∀ q ∈ g.qs, q.Ok g.bs
def pool : List Str := (["a", "b2", "sum", "left", "r", "k0", "carry", "z9z", "full", "tail", "n", "m8", "aa", "busy", "cnt", "p", "t4", "even2", "ab1", "head"] : List Str) ++ (["u", "v2", "w", "lowest", "high", "mid", "s", "t", "e", "f", "g", "h", "i", "j", "k", "x", "y", "q7", "deep", "turn"] : List Str) ++ (["gate", "l5", "hold", "next1", "o", "c0", "d", "two", "zz1", "near", "far9", "last", "ring2", "aaaaaaa8", "b", "c1", "top2", "net3", "row", "col7"] : List Str) ++ (["v"] : List Str)
theorem pool_nd : pool.Nodup := by decide +kernel
theorem pool_ok : (pool.all fun s => nameB s && strOk s) = true := by decide +kernel
theorem fm_some {α β : Type} (f : α → β) (l : List α) : (l.filterMap fun x => some (f x)) = l.map f := by
  induction l with
  | nil => rfl
  | cons x xs ih => simp [ih]
theorem sum_ge : ∀ {is : List Int}, (∀ i ∈ is, 0 ≤ i) → 0 ≤ is.sum ∧ ∀ i ∈ is, i ≤ is.sum
  | [], _ => ⟨Int.le_refl 0, fun _ m => nomatch m⟩
  | x :: xs, p => by
    obtain ⟨a, b⟩ := sum_ge (is := xs) fun i m => p i (List.mem_cons_of_mem _ m)
    have hx := p x List.mem_cons_self
    rw [List.sum_cons]
    refine ⟨by omega, fun i m => ?_⟩
    rcases List.mem_cons.mp m with rfl | m
    · omega
    · have := b i m; omega
theorem sum_set1 : ∀ {is : List Int} {k : Nat} (l : k < is.length), (is.set k (is[k] + 1)).sum = is.sum + 1
  | [], _, l => by simp at l
  | x :: xs, 0, _ => by simp [List.sum_cons]; omega
  | x :: xs, k + 1, l => by
    have := sum_set1 (is := xs) (k := k) (by simpa using l)
    simp only [List.set_cons_succ, List.sum_cons, List.getElem_cons_succ, this]
    omega
theorem sum_zero (n : Nat) : ((List.range n).map fun _ => (0 : Int)).sum = 0 := by
  induction n with
  | zero => rfl
  | succ n ih => rw [List.range_succ, List.map_append, List.sum_append, ih]; rfl
end Mp
set_option Elab.async false
set_option linter.all false
set_option maxRecDepth 100000
set_option maxHeartbeats 4000000
/-! G1: deeds and facts as data -/
namespace Mp
open PySem
open PySem.PyData (strOk)
/-- a tuple's room -/
def Sh (x : D) : Prop := ∀ xs, x = .tup xs → xs.length ≤ 1000
def ShQ (x : D) : Prop := ∀ xs, x = .tup xs → xs.length ≤ 1000 ∧ ∀ y ∈ xs, Sh y
structure El (x : D) : Prop where
  p : Pu 2 x
  s : Sh x
theorem El.int {i : Int} : El (.int i) := ⟨Pu.int, fun _ e => by cases e⟩
theorem El.bl {i : Bool} : El (.bl i) := ⟨Pu.bl, fun _ e => by cases e⟩
theorem El.non : El .non := ⟨Pu.non, fun _ e => by cases e⟩
theorem El.str {s : Str} (h : strOk s = true) : El (.str s) := ⟨Pu.str h, fun _ e => by cases e⟩
theorem El.tup {ys : List D} (h : ∀ y ∈ ys, Pu 1 y) (l : ys.length ≤ 1000) : El (.tup ys) := ⟨Pu.tup h, fun _ e => by cases e; exact l⟩
theorem El.ints {is : List Int} (l : is.length ≤ 1000) : El (.tup (is.map .int)) := El.tup (fun y m => by
  obtain ⟨z, _, rfl⟩ := List.mem_map.mp m
  exact Pu.int) (by rw [List.length_map]; exact l)
theorem all_c {P : D → Prop} {x : D} {xs : List D} (p : P x) (q : ∀ y ∈ xs, P y) : ∀ y ∈ x :: xs, P y := fun y m => by
  rcases List.mem_cons.mp m with rfl | m
  · exact p
  · exact q y m
theorem all_n {P : D → Prop} : ∀ y ∈ ([] : List D), P y := fun _ m => nomatch m
/-- data that may be a deed -/
def DePu (d : D) : Prop := Pu 4 d ∧ ShQ d
theorem DePu.tup {ys : List D} (h : ∀ y ∈ ys, El y) (l : ys.length ≤ 1000) : DePu (.tup ys) := ⟨(Pu.tup fun y m => (h y m).p).mono (by decide), fun xs e => by cases e; exact ⟨l, fun y m => (h y m).s⟩⟩
theorem DePu.of {d : D} (p : Pu 1 d) (n : ∀ xs, d = .tup xs → False) : DePu d := ⟨p.mono (by decide), fun xs e => (n xs e).elim⟩
/-- a deed as drawn: plain data, or a list (not one of T) -/
def DeedOk (T : List Nat) (h : Hh) (d : D) : Prop := (∃ (a : Nat) (ys : List D), d = .ref a ∧ a ∉ T ∧ h[a]? = some (.lst ys)) ∨ DePu d
theorem DeedOk.frm {T S : List Nat} {h h' : Hh} {d : D} (p : DeedOk T h d) (F : Frm S h h') (s : ∀ a, a ∈ S → a ∈ T) : DeedOk T h' d := by
  rcases p with ⟨a, ys, rfl, n, e⟩ | p
  · exact Or.inl ⟨a, ys, rfl, n, F.get (fun m => n (s a m)) e⟩
  · exact Or.inr p
theorem DeedOk.mono {T S : List Nat} {h : Hh} {d : D} (p : DeedOk T h d) (s : ∀ a, a ∈ S → a ∈ T) : DeedOk S h d := by
  rcases p with ⟨a, ys, rfl, n, e⟩ | p
  · exact Or.inl ⟨a, ys, rfl, fun m => n (s a m), e⟩
  · exact Or.inr p
theorem DeedOk.take {T : List Nat} {h : Hh} {d : D} {n : Nat} (p : DeedOk T h d) (c : closD n d = true) : DeedOk T (h.take n) d := by
  rcases p with ⟨a, ys, rfl, m, e⟩ | p
  · simp only [closD, decide_eq_true_eq] at c
    exact Or.inl ⟨a, ys, rfl, m, by rw [List.getElem?_take_of_lt c]; exact e⟩
  · exact Or.inr p
structure Fa where
  told : Int
  since : Int
  dd : D
def Fa.d (f : Fa) : D := .tup [.int f.told, .int f.since, f.dd]
structure Fa.Ok (T : List Nat) (h : Hh) (f : Fa) : Prop where
  t0 : 0 ≤ f.told
  t1 : f.told ≤ 1000000
  s0 : 0 ≤ f.since
  s1 : f.since ≤ 1000000
  dk : DeedOk T h f.dd
theorem closDs_all {n : Nat} : ∀ {ds : List D}, closDs n ds = true → ∀ d ∈ ds, closD n d = true
  | [], _, _, m => nomatch m
  | d :: ds, c, x, m => by
    simp only [closDs, Bool.and_eq_true] at c
    rcases List.mem_cons.mp m with rfl | m
    · exact c.1
    · exact closDs_all c.2 x m
theorem facts_take {T : List Nat} {h : Hh} {n : Nat} {fs : List Fa} (p : ∀ f ∈ fs, f.Ok T h) (c : closD n (.tup (fs.map Fa.d)) = true) : ∀ f ∈ fs, f.Ok T (h.take n) := by
  intro f m
  have q := p f m
  have c2 := closDs_all (by simpa only [closD] using c) f.d (List.mem_map_of_mem m)
  simp only [Fa.d, closD, closDs, Bool.and_eq_true] at c2
  exact ⟨q.t0, q.t1, q.s0, q.s1, q.dk.take c2.2.2.1⟩
theorem facts_frm {T S : List Nat} {h h' : Hh} {fs : List Fa} (p : ∀ f ∈ fs, f.Ok T h) (F : Frm S h h') (s : ∀ a, a ∈ S → a ∈ T) : ∀ f ∈ fs, f.Ok T h' := fun f m =>
  ⟨(p f m).t0, (p f m).t1, (p f m).s0, (p f m).s1, (p f m).dk.frm F s⟩
theorem mem_cutD {xs : List D} {lo hi : Option Int} {x : D} (m : x ∈ cutD xs lo hi) : x ∈ xs := List.mem_of_mem_drop (List.mem_of_mem_take m)
theorem len_cutD {xs : List D} {lo hi : Option Int} : (cutD xs lo hi).length ≤ xs.length := by
  unfold cutD
  rw [List.length_take, List.length_drop]
  omega
/-- a deed as deed_at draws it -/
structure RD (d : D) : Prop where
  ex : ∃ (w : Str) (p : Nat) (ys : List (List Int)), d = .tup (.str w :: .int (p : Nat) :: ys.map fun is => .tup (is.map .int)) ∧ strOk w = true ∧ (ys.length = 1 ∨ ys.length = 2) ∧ ∀ y ∈ ys, y.length < 1000
theorem RD.pu {d : D} (p : RD d) : DePu d := by
  obtain ⟨w, p, ys, rfl, so, yl, y1⟩ := p.ex
  refine DePu.tup (all_c (El.str so) (all_c El.int fun x m => ?_)) (by simp; omega)
  obtain ⟨is, mi, rfl⟩ := List.mem_map.mp m
  exact El.ints (by have := y1 is mi; omega)
/-! words -/
theorem k_start : strOk "start" = true := by decide +kernel
theorem k_rates : strOk "rates" = true := by decide +kernel
theorem k_times : strOk "times" = true := by decide +kernel
theorem k_deed : strOk "deed" = true := by decide +kernel
theorem n_start_rates : ("start" : Str) ≠ "rates" := by decide +kernel
theorem n_start_times : ("start" : Str) ≠ "times" := by decide +kernel
theorem n_start_deed : ("start" : Str) ≠ "deed" := by decide +kernel
theorem n_rates_start : ("rates" : Str) ≠ "start" := by decide +kernel
theorem n_rates_times : ("rates" : Str) ≠ "times" := by decide +kernel
theorem n_rates_deed : ("rates" : Str) ≠ "deed" := by decide +kernel
theorem n_times_start : ("times" : Str) ≠ "start" := by decide +kernel
theorem n_times_rates : ("times" : Str) ≠ "rates" := by decide +kernel
theorem n_times_deed : ("times" : Str) ≠ "deed" := by decide +kernel
theorem n_deed_start : ("deed" : Str) ≠ "start" := by decide +kernel
theorem n_deed_rates : ("deed" : Str) ≠ "rates" := by decide +kernel
theorem n_deed_times : ("deed" : Str) ≠ "times" := by decide +kernel
theorem eqStr {h : Hh} {u v : Str} (hu : strOk u = true) (hv : strOk v = true) : eqD h (.str u) (.str v) = some (decide (u = v)) := by
  rw [eqD_str (Pu.str (n := 0) hu) (by decide) hv]
  rfl
end Mp
set_option Elab.async false
set_option linter.all false
set_option maxRecDepth 100000
set_option maxHeartbeats 4000000
/-! G2: what the program asks of data -/
namespace Mp
open PySem
open PySem.PyData (strOk)
noncomputable def dec (P : Prop) : Bool := @decide P (Classical.propDecidable P)
theorem dec_iff {P : Prop} : dec P = true ↔ P := @decide_eq_true_iff P (Classical.propDecidable P)
theorem dec_t {P : Prop} (h : P) : dec P = true := dec_iff.mpr h
theorem dec_f {P : Prop} (h : ¬ P) : dec P = false := by
  cases e : dec P with
  | false => rfl
  | true => exact (h (dec_iff.mp e)).elim
theorem dec_no {P : Prop} (h : dec P = false) : ¬ P := fun p => by rw [dec_t p] at h; cases h
theorem dec_of {P : Prop} {b : Bool} (h : b = true ↔ P) : b = dec P := by
  rw [Bool.eq_iff_iff, dec_iff]; exact h
theorem blr {P : Prop} {b : Bool} (h : b = true ↔ P) : D.bl b = .bl (dec P) := congrArg D.bl (dec_of h)
def WholeP (lo hi : Int) (x : D) : Prop := ∃ i, x = .int i ∧ lo ≤ i ∧ i ≤ hi
def RowP (lo hi : Int) (x : D) (is : List Int) : Prop := x = .tup (is.map .int) ∧ Rg lo hi is
def NumsP (lo hi : Int) (x : D) : Prop := ∃ is, RowP lo hi x is
def TimesP (x : D) : Prop := ∃ is, RowP 0 60 x is ∧ 1 ≤ is.length ∧ is.length ≤ 6
def DeedP (x : D) : Prop := ∃ is, RowP 0 9972 x is ∧ is.length = 2
def StartP (x : D) : Prop := ∃ is, RowP 0 9972 x is ∧ is.length ≤ 60
def RatesP (n : Nat) (x : D) : Prop := ∃ is, x = .tup (is.map .int) ∧ RtOk is n
theorem map_int_inj : ∀ {xs ys : List Int}, xs.map D.int = ys.map D.int → xs = ys
  | [], [], _ => rfl
  | [], _ :: _, h => by cases h
  | _ :: _, [], h => by cases h
  | x :: xs, y :: ys, h => by
    simp only [List.map_cons, List.cons.injEq, D.int.injEq] at h
    rw [h.1, map_int_inj h.2]
theorem tupI_inj {xs ys : List Int} (h : D.tup (xs.map D.int) = .tup (ys.map D.int)) : xs = ys := map_int_inj (by injection h)
theorem nums_tup {lo hi : Int} {xs : List D} : NumsP lo hi (.tup xs) ↔ ∀ x ∈ xs, WholeP lo hi x := by
  constructor
  · rintro ⟨is, e, r⟩ x m
    injection e with e
    subst e
    obtain ⟨i, mi, rfl⟩ := List.mem_map.mp m
    exact ⟨i, rfl, r i mi⟩
  · intro p
    obtain ⟨is, rfl, r⟩ := intsOf p
    exact ⟨is, rfl, r⟩
/-- a block whose times and deed may be anything -/
structure BD where
  nm : Str
  x : D
  y : D
def BD.d (b : BD) : D := .tup [.str b.nm, b.x, b.y]
structure BD.P (b : BD) : Prop where
  nm : nameB b.nm = true
  so : strOk b.nm = true
  x : Pu 3 b.x
  y : Pu 3 b.y
def BD.Ok (b : BD) : Prop := TimesP b.x ∧ DeedP b.y
def Bk.bd (b : Bk) : BD := ⟨b.nm, .tup (b.ts.map .int), .tup [.int b.a, .int b.b]⟩
theorem Bk.bd_d (b : Bk) : b.bd.d = b.d := rfl
theorem Bk.Ok.bd {b : Bk} (o : b.Ok) : b.bd.P := ⟨o.nm, o.so, pu_ints.mono (by decide), (pu_ints (xs := [b.a, b.b])).mono (by decide)⟩
theorem BD.bk {b : BD} (p : b.P) (o : b.Ok) : ∃ k : Bk, k.Ok ∧ k.bd = b := by
  obtain ⟨⟨ts, ⟨e, r⟩, l1, l6⟩, ⟨is, ⟨e2, r2⟩, l2⟩⟩ := o
  obtain ⟨nm, x, y⟩ := b
  dsimp only at e e2
  subst e e2
  match is, l2 with
  | [a, c], _ => exact ⟨⟨nm, ts, a, c⟩, ⟨p.nm, p.so, l1, l6, r, r2 a (by simp), r2 c (by simp)⟩, rfl⟩
theorem Bk.Ok.bdok {b : Bk} (o : b.Ok) : b.bd.Ok := ⟨⟨b.ts, ⟨rfl, o.rg⟩, o.l1, o.l6⟩, ⟨[b.a, b.b], ⟨rfl, fun i m => by
  simp at m
  rcases m with rfl | rfl
  · exact o.a
  · exact o.b⟩, rfl⟩⟩
theorem all_dec {xs : List D} {P : D → Prop} (g : List (Nat × List D)) : sqR .all ⟨xs.filterMap fun x => some (D.bl (dec (P x))), g, .lst⟩ = some (.val (.bl (dec (∀ x ∈ xs, P x)))) := by
  have e : (xs.filterMap fun x => some (D.bl (dec (P x)))) = (xs.map fun x => dec (P x)).map .bl := by rw [fm_some, List.map_map]; rfl
  rw [e, sq_all]
  congr 3
  rw [Bool.eq_iff_iff, dec_iff, List.all_map, List.all_eq_true]
  constructor
  · intro h x m; exact dec_iff.mp (h x m)
  · intro h x m; exact dec_t (h x m)
/-! ### names all different -/
abbrev dupsLen (ns : List Str) : Nat := (@List.eraseDups L2.Key instBEqOfDecidableEq (ns.map .inr)).length
theorem mapK_names : ∀ ns : List Str, mapK keyD (ns.map .str) = some (ns.map .inr)
  | [] => rfl
  | n :: ns => by simp only [List.map_cons, mapK, mapK_names ns]; rfl
theorem eraseLe {α : Type} [DecidableEq α] : ∀ (n : Nat) (l : List α), l.length ≤ n → l.eraseDups.length ≤ l.length
  | _, [], _ => by simp
  | 0, _ :: _, h => by simp at h
  | n + 1, x :: xs, h => by
    rw [List.eraseDups_cons]
    have h1 : (xs.filter fun b => !b == x).length ≤ xs.length := List.length_filter_le _ _
    have := eraseLe n (xs.filter fun b => !b == x) (by simp at h; omega)
    simp only [List.length_cons]
    omega
theorem erase_nodup {α : Type} [DecidableEq α] : ∀ (n : Nat) (l : List α), l.length ≤ n → (l.eraseDups.length = l.length ↔ l.Nodup)
  | _, [], _ => by simp
  | 0, _ :: _, h => by simp at h
  | n + 1, x :: xs, h => by
    rw [List.eraseDups_cons]
    have h1 : (xs.filter fun b => !b == x).length ≤ xs.length := List.length_filter_le _ _
    have h2 := eraseLe n (xs.filter fun b => !b == x) (by simp at h; omega)
    have h3 := erase_nodup n (xs.filter fun b => !b == x) (by simp at h; omega)
    simp only [List.length_cons, List.nodup_cons]
    constructor
    · intro e
      have e1 : (xs.filter fun b => !b == x).length = xs.length := by omega
      have e2 : (xs.filter fun b => !b == x) = xs := List.filter_eq_self.mpr (List.length_filter_eq_length_iff.mp e1)
      rw [e2] at h3 e
      refine ⟨fun m => ?_, h3.mp (by omega)⟩
      have := List.length_filter_eq_length_iff.mp e1 x m
      simp at this
    · rintro ⟨nm, nd⟩
      have e2 : (xs.filter fun b => !b == x) = xs := List.filter_eq_self.mpr fun b mb => by
        simp only [Bool.not_eq_true', beq_eq_false_iff_ne]
        intro e; subst e; exact nm mb
      rw [e2] at h3 ⊢
      rw [h3.mpr nd]
theorem dups_iff (ns : List Str) : dupsLen ns = ns.length ↔ ns.Nodup := by
  have := erase_nodup (ns.map (Sum.inr : Str → L2.Key)).length (ns.map (Sum.inr : Str → L2.Key)) (Nat.le_refl _)
  rw [List.length_map] at this
  refine this.trans ?_
  unfold List.Nodup
  rw [List.pairwise_map]
  constructor
  · intro h; exact h.imp fun {a b} h e => h (by rw [e])
  · intro h; exact h.imp fun {a b} h e => h (by injection e)
end Mp
set_option Elab.async false
set_option linter.all false
set_option maxRecDepth 100000
set_option maxHeartbeats 4000000
/-! G3: what a deed leaves -/
namespace Mp
open PySem
open PySem.PyData (strOk)
theorem bd_inj {b c : BD} (h : b.d = c.d) : b = c := by
  obtain ⟨n, x, y⟩ := b
  obtain ⟨n2, x2, y2⟩ := c
  simp only [BD.d, D.tup.injEq, List.cons.injEq, D.str.injEq, and_true] at h
  obtain ⟨rfl, rfl, rfl⟩ := h
  rfl
theorem map_inj {α β : Type} {f : α → β} (hf : ∀ a b, f a = f b → a = b) : ∀ {xs ys : List α}, xs.map f = ys.map f → xs = ys
  | [], [], _ => rfl
  | [], _ :: _, h => by cases h
  | _ :: _, [], h => by cases h
  | x :: xs, y :: ys, h => by
    simp only [List.map_cons, List.cons.injEq] at h
    rw [hf _ _ h.1, map_inj hf h.2]
theorem bds_inj {xs ys : List BD} (h : xs.map BD.d = ys.map BD.d) : xs = ys := map_inj (fun _ _ => bd_inj) h
theorem bk_inj {x y : Bk} (h : x.bd = y.bd) : x = y := by
  obtain ⟨n1, t1, a1, b1⟩ := x
  obtain ⟨n2, t2, a2, b2⟩ := y
  simp only [Bk.bd, BD.mk.injEq, D.tup.injEq, List.cons.injEq, D.int.injEq, and_true] at h
  obtain ⟨rfl, e, rfl, rfl⟩ := h
  rw [map_int_inj e]
theorem bks_inj {xs ys : List Bk} (h : xs.map Bk.bd = ys.map Bk.bd) : xs = ys := map_inj (fun _ _ => bk_inj) h
theorem qe_inj {x y : Qe} (h : x.d = y.d) : x = y := by
  obtain ⟨s1, g1, t1, k1, z1⟩ := x
  obtain ⟨s2, g2, t2, k2, z2⟩ := y
  simp only [Qe.d, D.tup.injEq, List.cons.injEq, D.int.injEq, and_true] at h
  obtain ⟨h1, h2, h3, h4, h5⟩ := h
  obtain rfl : s1 = s2 := by omega
  obtain rfl : t1 = t2 := by omega
  rw [map_int_inj h2, map_int_inj h4, map_int_inj h5]
theorem qes_inj {xs ys : List Qe} (h : xs.map Qe.d = ys.map Qe.d) : xs = ys := map_inj (fun _ _ => qe_inj) h
theorem gr_d (g : Gr) : g.d = .tup [.tup ((g.bs.map Bk.bd).map BD.d), .tup (g.qs.map Qe.d)] := by
  rw [List.map_map]; rfl
theorem gr_inj {g : Gr} {bs : List BD} {qs : List D} (h : D.tup [.tup (bs.map BD.d), .tup qs] = g.d) : bs = g.bs.map Bk.bd ∧ qs = g.qs.map Qe.d := by
  rw [gr_d] at h
  simp only [D.tup.injEq, List.cons.injEq, and_true] at h
  exact ⟨bds_inj h.1, h.2⟩
theorem gr_d_inj {g g' : Gr} (h : g.d = g'.d) : g = g' := by
  rw [gr_d g] at h
  obtain ⟨a, b⟩ := gr_inj h
  obtain ⟨bs, qs⟩ := g
  obtain ⟨bs', qs'⟩ := g'
  have a := bks_inj a
  have b := qes_inj b
  dsimp only at a b
  rw [a, b]
abbrev TI (is : List Int) : D := .tup (is.map .int)
def AT (g : Gr) (d : D) (g' : Gr) : Prop := ∃ (p : Nat) (hp : p < g.bs.length) (ts : List Int), d = .tup [.str "times", .int (p : Nat), TI ts] ∧ Rg 0 60 ts ∧ 1 ≤ ts.length ∧ ts.length ≤ 6 ∧ (ts.length = g.bs[p].ts.length ∨ ∀ q ∈ g.qs, q.s ≠ p ∧ q.t ≠ p) ∧ g' = ⟨g.bs.set p ⟨g.bs[p].nm, ts, g.bs[p].a, g.bs[p].b⟩, g.qs⟩
def AD (g : Gr) (d : D) (g' : Gr) : Prop := ∃ (p : Nat) (hp : p < g.bs.length) (is : List Int) (a b : Int), d = .tup [.str "deed", .int (p : Nat), TI is] ∧ is = [a, b] ∧ Rg 0 9972 is ∧ g' = ⟨g.bs.set p ⟨g.bs[p].nm, g.bs[p].ts, a, b⟩, g.qs⟩
def AS (g : Gr) (d : D) (g' : Gr) : Prop := ∃ (p : Nat) (hp : p < g.qs.length) (st : List Int), d = .tup [.str "start", .int (p : Nat), TI st] ∧ Rg 0 9972 st ∧ st.length ≤ 60 ∧ g' = ⟨g.bs, g.qs.set p ⟨g.qs[p].s, g.qs[p].gs, g.qs[p].t, g.qs[p].tk, st⟩⟩
def AR (g : Gr) (d : D) (g' : Gr) : Prop := ∃ (p : Nat) (hp : p < g.qs.length) (gs tk : List Int), d = .tup [.str "rates", .int (p : Nat), TI gs, TI tk] ∧ RtOk gs g.qs[p].gs.length ∧ RtOk tk g.qs[p].tk.length ∧ g' = ⟨g.bs, g.qs.set p ⟨g.qs[p].s, gs, g.qs[p].t, tk, g.qs[p].st⟩⟩
/-- a deed leaves g' -/
def Aft (g : Gr) (d : D) (g' : Gr) : Prop := AT g d g' ∨ AD g d g' ∨ AS g d g' ∨ AR g d g'
theorem int_inj {a b : Nat} (h : D.int (a : Int) = .int (b : Int)) : a = b := by injection h with h; omega
theorem set_mem {α : Type} {xs : List α} {p : Nat} {x y : α} (m : y ∈ xs.set p x) : y ∈ xs ∨ y = x := List.mem_or_eq_of_mem_set m
theorem names_set {bs : List Bk} {p : Nat} (hp : p < bs.length) {b : Bk} (e : b.nm = bs[p].nm) : (bs.set p b).map Bk.nm = bs.map Bk.nm := by
  rw [List.map_set, e]
  refine List.ext_getElem (by simp) fun i h1 h2 => ?_
  rw [List.getElem_set]
  split
  · rename_i h; subst h; simp
  · rfl
theorem q_set {bs : List Bk} {p : Nat} (hp : p < bs.length) {b : Bk} {q : Qe} (o : q.Ok bs) (hq : b.ts.length = bs[p].ts.length ∨ (q.s ≠ p ∧ q.t ≠ p)) : q.Ok (bs.set p b) := by
  have len : ∀ (i : Nat) (hi : i < bs.length) (h2 : i < (bs.set p b).length), (b.ts.length = bs[p].ts.length ∨ i ≠ p) → ((bs.set p b)[i]).ts.length = bs[i].ts.length := by
    intro i hi h2 h
    rw [List.getElem_set]
    split
    · rename_i e; subst e
      rcases h with h | h
      · exact h
      · exact (h rfl).elim
    · rfl
  have h1 : q.s < (bs.set p b).length := by rw [List.length_set]; exact o.hs
  have h2 : q.t < (bs.set p b).length := by rw [List.length_set]; exact o.ht
  exact ⟨h1, h2, by rw [len q.s o.hs h1 (hq.imp id And.left)]; exact o.gs, by rw [len q.t o.ht h2 (hq.imp id And.right)]; exact o.tk, o.st, o.sl⟩
theorem ok_block {g : Gr} (o : g.Ok) {p : Nat} (hp : p < g.bs.length) {b : Bk} (bo : b.Ok) (e : b.nm = g.bs[p].nm) (hq : b.ts.length = g.bs[p].ts.length ∨ ∀ q ∈ g.qs, q.s ≠ p ∧ q.t ≠ p) : Gr.Ok ⟨g.bs.set p b, g.qs⟩ where
  b1 := by dsimp only; rw [List.length_set]; exact o.b1
  b60 := by dsimp only; rw [List.length_set]; exact o.b60
  q160 := o.q160
  bk := fun c m => by
    rcases set_mem m with m | rfl
    · exact o.bk c m
    · exact bo
  nd := by dsimp only; rw [names_set hp e]; exact o.nd
  qk := fun q m => q_set hp (o.qk q m) (hq.imp id fun h => h q m)
theorem ok_queue {g : Gr} (o : g.Ok) {p : Nat} {q : Qe} (qo : q.Ok g.bs) : Gr.Ok ⟨g.bs, g.qs.set p q⟩ where
  b1 := o.b1
  b60 := o.b60
  q160 := by dsimp only; rw [List.length_set]; exact o.q160
  bk := o.bk
  nd := o.nd
  qk := fun c m => by
    rcases set_mem m with m | rfl
    · exact o.qk c m
    · exact qo
theorem Aft.ok {g g' : Gr} {d : D} (o : g.Ok) (a : Aft g d g') : g'.Ok := by
  rcases a with ⟨p, hp, ts, _, r, l1, l6, hq, rfl⟩ | ⟨p, hp, is, a, b, _, rfl, r, rfl⟩ | ⟨p, hp, st, _, r, l, rfl⟩ | ⟨p, hp, gs, tk, _, go, to, rfl⟩
  · have bo := o.bk g.bs[p] (List.getElem_mem _)
    exact ok_block o hp ⟨bo.nm, bo.so, l1, l6, r, bo.a, bo.b⟩ rfl hq
  · have bo := o.bk g.bs[p] (List.getElem_mem _)
    exact ok_block o hp ⟨bo.nm, bo.so, bo.l1, bo.l6, bo.rg, r a (by simp), r b (by simp)⟩ rfl (Or.inl rfl)
  · have qo := o.qk g.qs[p] (List.getElem_mem _)
    exact ok_queue o ⟨qo.hs, qo.ht, qo.gs, qo.tk, r, l⟩
  · have qo := o.qk g.qs[p] (List.getElem_mem _)
    refine ok_queue o ⟨qo.hs, qo.ht, ?_, ?_, qo.st, qo.sl⟩
    · have := qo.gs.len; rw [this] at go; exact go
    · have := qo.tk.len; rw [this] at to; exact to
/-- a block's found graph -/
def foundB (g : Gr) (p : Nat) (b : BD) : D := .tup [.tup (((g.bs.map Bk.bd).set p b).map BD.d), .tup (g.qs.map Qe.d)]
def fQ (g : Gr) (p : Nat) (q : D) : D := .tup [.tup ((g.bs.map Bk.bd).map BD.d), .tup ((g.qs.map Qe.d).set p q)]
theorem fB_d {g : Gr} {p : Nat} {b : Bk} : foundB g p b.bd = Gr.d ⟨g.bs.set p b, g.qs⟩ := by
  rw [gr_d]
  unfold foundB
  rw [← List.map_set]
theorem fQ_d {g : Gr} {p : Nat} {q : Qe} : fQ g p q.d = Gr.d ⟨g.bs, g.qs.set p q⟩ := by
  rw [gr_d]
  unfold fQ
  rw [← List.map_set]
/-- what a found graph with another block is -/
theorem fB_inv {g g' : Gr} {p : Nat} (hp : p < g.bs.length) {b : BD} (e : foundB g p b = g'.d) : ∃ hp' : p < g'.bs.length, b = (g'.bs[p]).bd ∧ g' = ⟨g.bs.set p g'.bs[p], g.qs⟩ := by
  obtain ⟨e1, e2⟩ := gr_inj e
  have l : g'.bs.length = g.bs.length := by have := congrArg List.length e1; simpa using this.symm
  have hp' : p < g'.bs.length := by omega
  refine ⟨hp', ?_, ?_⟩
  · have := congrArg (fun z => z[p]?) e1
    simp only [List.getElem?_map] at this
    rw [List.getElem?_set_self (by simpa using hp), List.getElem?_eq_getElem hp'] at this
    simpa using this
  · obtain ⟨bs', qs'⟩ := g'
    congr 1
    · refine bks_inj ?_
      rw [List.map_set, ← e1]
      dsimp only at e1 hp' ⊢
      have : (bs'[p]).bd = ((List.map Bk.bd g.bs).set p b)[p]'(by simpa using hp) := by
        have h2 : ∀ (l : List BD) (h : p < l.length), l = bs'.map Bk.bd → l[p] = (bs'[p]).bd := by
          intro l h e; subst e; simp
        exact (h2 _ _ e1).symm
      rw [this, List.getElem_set_self]
    · exact (qes_inj e2).symm
theorem fQ_inv {g g' : Gr} {p : Nat} (hp : p < g.qs.length) {q : D} (e : fQ g p q = g'.d) : ∃ hp' : p < g'.qs.length, q = (g'.qs[p]).d ∧ g' = ⟨g.bs, g.qs.set p g'.qs[p]⟩ := by
  obtain ⟨e1, e2⟩ := gr_inj e
  have l : g'.qs.length = g.qs.length := by have := congrArg List.length e2; simpa using this.symm
  have hp' : p < g'.qs.length := by omega
  refine ⟨hp', ?_, ?_⟩
  · have := congrArg (fun z => z[p]?) e2
    simp only [List.getElem?_map] at this
    rw [List.getElem?_set_self (by simpa using hp), List.getElem?_eq_getElem hp'] at this
    simpa using this
  · obtain ⟨bs', qs'⟩ := g'
    congr 1
    · exact (bks_inj e1).symm
    · refine qes_inj ?_
      rw [List.map_set, ← e2]
      dsimp only at e2 hp' ⊢
      have : (qs'[p]).d = ((List.map Qe.d g.qs).set p q)[p]'(by simpa using hp) := by
        have h2 : ∀ (l : List D) (h : p < l.length), l = qs'.map Qe.d → l[p] = (qs'[p]).d := by
          intro l h e; subst e; simp
        exact (h2 _ _ e2).symm
      rw [this, List.getElem_set_self]
theorem ne_w {a b : Str} (n : a ≠ b) {x y : List D} (h : D.tup (.str a :: x) = .tup (.str b :: y)) : False := by
  simp only [D.tup.injEq, List.cons.injEq, D.str.injEq] at h
  exact n h.1
theorem aft_times {g : Gr} (o : g.Ok) {p : Nat} (hp : p < g.bs.length) {x : D} (g' : Gr) :
    Aft g (.tup [.str "times", .int (p : Nat), x]) g' ↔ foundB g p ⟨g.bs[p].nm, x, TI [g.bs[p].a, g.bs[p].b]⟩ = g'.d ∧ g'.Ok := by
  constructor
  · intro a
    refine ⟨?_, a.ok o⟩
    rcases a with ⟨p2, hp2, ts, e, r, l1, l6, hq, rfl⟩ | ⟨p2, hp2, is, a, b, e, _⟩ | ⟨p2, hp2, st, e, _⟩ | ⟨p2, hp2, gs, tk, e, _⟩
    · simp only [D.tup.injEq, List.cons.injEq, and_true, true_and] at e
      obtain ⟨e1, rfl⟩ := e
      obtain rfl := int_inj e1
      exact fB_d (b := ⟨g.bs[p].nm, ts, g.bs[p].a, g.bs[p].b⟩)
    · exact (ne_w n_times_deed e).elim
    · exact (ne_w n_times_start e).elim
    · exact (ne_w n_times_rates e).elim
  · rintro ⟨e, o'⟩
    obtain ⟨hp', eb, eg⟩ := fB_inv hp e
    have bo := o'.bk g'.bs[p] (List.getElem_mem _)
    have hb : g'.bs[p] = ⟨g.bs[p].nm, g'.bs[p].ts, g.bs[p].a, g.bs[p].b⟩ := by
      have e2 := eb
      generalize g'.bs[p] = k at e2 ⊢
      obtain ⟨n1, t1, a1, b1⟩ := k
      simp only [Bk.bd, BD.mk.injEq, TI, List.map_cons, List.map_nil, D.tup.injEq, List.cons.injEq, D.int.injEq, and_true] at e2
      obtain ⟨h1, _, h3, h4⟩ := e2
      rw [h1, h3, h4]
    refine Or.inl ⟨p, hp, g'.bs[p].ts, ?_, bo.rg, bo.l1, bo.l6, ?_, ?_⟩
    · have := congrArg BD.x eb
      dsimp only [Bk.bd] at this
      rw [this]
    · by_cases h : g'.bs[p].ts.length = g.bs[p].ts.length
      · exact Or.inl h
      · refine Or.inr fun q mq => ?_
        have mq' : q ∈ g'.qs := by rw [eg]; exact mq
        have q1 := o.qk q mq
        have q2 := o'.qk q mq'
        refine ⟨fun es => ?_, fun et => ?_⟩
        · have h1 := q1.gs.len
          have h2 := q2.gs.len
          apply h
          rw [← (show g'.bs[q.s]'q2.hs = g'.bs[p] by congr 1), ← (show g.bs[q.s]'q1.hs = g.bs[p] by congr 1)]
          omega
        · have h1 := q1.tk.len
          have h2 := q2.tk.len
          apply h
          rw [← (show g'.bs[q.t]'q2.ht = g'.bs[p] by congr 1), ← (show g.bs[q.t]'q1.ht = g.bs[p] by congr 1)]
          omega
    · rw [← hb]; exact eg
theorem aft_deed {g : Gr} (o : g.Ok) {p : Nat} (hp : p < g.bs.length) {x : D} (g' : Gr) :
    Aft g (.tup [.str "deed", .int (p : Nat), x]) g' ↔ foundB g p ⟨g.bs[p].nm, TI g.bs[p].ts, x⟩ = g'.d ∧ g'.Ok := by
  constructor
  · intro a
    refine ⟨?_, a.ok o⟩
    rcases a with ⟨p2, hp2, ts, e, _⟩ | ⟨p2, hp2, is, a, b, e, rfl, r, rfl⟩ | ⟨p2, hp2, st, e, _⟩ | ⟨p2, hp2, gs, tk, e, _⟩
    · exact (ne_w n_deed_times e).elim
    · simp only [D.tup.injEq, List.cons.injEq, and_true, true_and] at e
      obtain ⟨e1, rfl⟩ := e
      obtain rfl := int_inj e1
      exact fB_d (b := ⟨g.bs[p].nm, g.bs[p].ts, a, b⟩)
    · exact (ne_w n_deed_start e).elim
    · exact (ne_w n_deed_rates e).elim
  · rintro ⟨e, o'⟩
    obtain ⟨hp', eb, eg⟩ := fB_inv hp e
    have bo := o'.bk g'.bs[p] (List.getElem_mem _)
    have hb : g'.bs[p] = ⟨g.bs[p].nm, g.bs[p].ts, g'.bs[p].a, g'.bs[p].b⟩ := by
      have e2 := eb
      generalize g'.bs[p] = k at e2 ⊢
      obtain ⟨n1, t1, a1, b1⟩ := k
      simp only [Bk.bd, BD.mk.injEq, TI, D.tup.injEq] at e2
      obtain ⟨h1, h2, _⟩ := e2
      rw [h1, map_int_inj h2]
    refine Or.inr (Or.inl ⟨p, hp, [g'.bs[p].a, g'.bs[p].b], _, _, ?_, rfl, ?_, ?_⟩)
    · have := congrArg BD.y eb
      dsimp only [Bk.bd] at this
      rw [this]; rfl
    · intro i m
      simp at m
      rcases m with rfl | rfl
      · exact bo.a
      · exact bo.b
    · rw [← hb]; exact eg
theorem aft_start {g : Gr} (o : g.Ok) {p : Nat} (hp : p < g.qs.length) {x : D} (g' : Gr) :
    Aft g (.tup [.str "start", .int (p : Nat), x]) g' ↔ fQ g p (.tup [.int (g.qs[p].s : Nat), TI g.qs[p].gs, .int (g.qs[p].t : Nat), TI g.qs[p].tk, x]) = g'.d ∧ g'.Ok := by
  constructor
  · intro a
    refine ⟨?_, a.ok o⟩
    rcases a with ⟨p2, hp2, ts, e, _⟩ | ⟨p2, hp2, is, a, b, e, _⟩ | ⟨p2, hp2, st, e, r, l, rfl⟩ | ⟨p2, hp2, gs, tk, e, _⟩
    · exact (ne_w n_start_times e).elim
    · exact (ne_w n_start_deed e).elim
    · simp only [D.tup.injEq, List.cons.injEq, and_true, true_and] at e
      obtain ⟨e1, rfl⟩ := e
      obtain rfl := int_inj e1
      exact fQ_d (q := ⟨g.qs[p].s, g.qs[p].gs, g.qs[p].t, g.qs[p].tk, st⟩)
    · exact (ne_w n_start_rates e).elim
  · rintro ⟨e, o'⟩
    obtain ⟨hp', eb, eg⟩ := fQ_inv hp e
    have qo := o'.qk g'.qs[p] (List.getElem_mem _)
    have hb : g'.qs[p] = ⟨g.qs[p].s, g.qs[p].gs, g.qs[p].t, g.qs[p].tk, g'.qs[p].st⟩ ∧ x = TI g'.qs[p].st := by
      have e2 := eb
      generalize g'.qs[p] = k at e2 ⊢
      obtain ⟨s1, g1, t1, k1, z1⟩ := k
      simp only [Qe.d, TI, D.tup.injEq, List.cons.injEq, D.int.injEq, and_true] at e2
      obtain ⟨h1, h2, h3, h4, h5⟩ := e2
      obtain rfl : g.qs[p].s = s1 := by omega
      obtain rfl : g.qs[p].t = t1 := by omega
      rw [map_int_inj h2, map_int_inj h4]
      exact ⟨rfl, h5⟩
    refine Or.inr (Or.inr (Or.inl ⟨p, hp, g'.qs[p].st, by rw [hb.2], qo.st, qo.sl, ?_⟩))
    rw [← hb.1]; exact eg
theorem aft_rates {g : Gr} (o : g.Ok) {p : Nat} (hp : p < g.qs.length) {x y : D} (g' : Gr) :
    Aft g (.tup [.str "rates", .int (p : Nat), x, y]) g' ↔ fQ g p (.tup [.int (g.qs[p].s : Nat), x, .int (g.qs[p].t : Nat), y, TI g.qs[p].st]) = g'.d ∧ g'.Ok := by
  constructor
  · intro a
    refine ⟨?_, a.ok o⟩
    rcases a with ⟨p2, hp2, ts, e, _⟩ | ⟨p2, hp2, is, a, b, e, _⟩ | ⟨p2, hp2, st, e, _⟩ | ⟨p2, hp2, gs, tk, e, go, to, rfl⟩
    · exact (ne_w n_rates_times e).elim
    · exact (ne_w n_rates_deed e).elim
    · exact (ne_w n_rates_start e).elim
    · simp only [D.tup.injEq, List.cons.injEq, and_true, true_and] at e
      obtain ⟨e1, rfl, rfl⟩ := e
      obtain rfl := int_inj e1
      exact fQ_d (q := ⟨g.qs[p].s, gs, g.qs[p].t, tk, g.qs[p].st⟩)
  · rintro ⟨e, o'⟩
    obtain ⟨hp', eb, eg⟩ := fQ_inv hp e
    have qo := o'.qk g'.qs[p] (List.getElem_mem _)
    have q1 := o.qk g.qs[p] (List.getElem_mem _)
    have hb : g'.qs[p] = ⟨g.qs[p].s, g'.qs[p].gs, g.qs[p].t, g'.qs[p].tk, g.qs[p].st⟩ ∧ x = TI g'.qs[p].gs ∧ y = TI g'.qs[p].tk := by
      have e2 := eb
      generalize g'.qs[p] = k at e2 ⊢
      obtain ⟨s1, g1, t1, k1, z1⟩ := k
      simp only [Qe.d, TI, D.tup.injEq, List.cons.injEq, D.int.injEq, and_true] at e2
      obtain ⟨h1, h2, h3, h4, h5⟩ := e2
      obtain rfl : g.qs[p].s = s1 := by omega
      obtain rfl : g.qs[p].t = t1 := by omega
      rw [map_int_inj h5]
      exact ⟨rfl, h2, h4⟩
    have ebs : g'.bs = g.bs := by rw [eg]
    refine Or.inr (Or.inr (Or.inr ⟨p, hp, g'.qs[p].gs, g'.qs[p].tk, by rw [hb.2.1, hb.2.2], ?_, ?_, ?_⟩))
    · have h1 := qo.gs
      have h2 := q1.gs.len
      have es : g'.qs[p].s = g.qs[p].s := by rw [hb.1]
      rw [h2]
      have h3 : (g'.bs[g'.qs[p].s]'qo.hs) = (g.bs[g.qs[p].s]'q1.hs) := by
        have aux : ∀ (a b : List Bk) (i j : Nat) (hi : i < a.length) (hj : j < b.length), a = b → i = j → a[i] = b[j] := by
          intro a b i j hi hj e1 e2; subst e1; subst e2; rfl
        exact aux _ _ _ _ _ _ ebs es
      rw [← h3]; exact h1
    · have h1 := qo.tk
      have h2 := q1.tk.len
      have es : g'.qs[p].t = g.qs[p].t := by rw [hb.1]
      rw [h2]
      have h3 : (g'.bs[g'.qs[p].t]'qo.ht) = (g.bs[g.qs[p].t]'q1.ht) := by
        have aux : ∀ (a b : List Bk) (i j : Nat) (hi : i < a.length) (hj : j < b.length), a = b → i = j → a[i] = b[j] := by
          intro a b i j hi hj e1 e2; subst e1; subst e2; rfl
        exact aux _ _ _ _ _ _ ebs es
      rw [← h3]; exact h1
    · rw [← hb.1]; exact eg
end Mp
set_option Elab.async false
set_option linter.all false
set_option maxRecDepth 100000
set_option maxHeartbeats 4000000
/-! G4: facts in order, what they leave; moments -/
namespace Mp
open PySem
open PySem.PyData (strOk)
theorem aft_fun {g g1 g2 : Gr} {d : D} (o : g.Ok) (a : Aft g d g1) (b : Aft g d g2) : g1 = g2 := by
  have a' := a
  rcases a' with ⟨p, hp, ts, rfl, _⟩ | ⟨p, hp, is, _, _, rfl, _⟩ | ⟨p, hp, st, rfl, _⟩ | ⟨p, hp, gs, tk, rfl, _⟩
  · exact gr_d_inj (((aft_times o hp g1).mp a).1.symm.trans ((aft_times o hp g2).mp b).1)
  · exact gr_d_inj (((aft_deed o hp g1).mp a).1.symm.trans ((aft_deed o hp g2).mp b).1)
  · exact gr_d_inj (((aft_start o hp g1).mp a).1.symm.trans ((aft_start o hp g2).mp b).1)
  · exact gr_d_inj (((aft_rates o hp g1).mp a).1.symm.trans ((aft_rates o hp g2).mp b).1)
open Classical in
noncomputable def aftO (g : Gr) (d : D) : Option Gr := if h : ∃ g', Aft g d g' then some h.choose else none
theorem aftO_some {g g' : Gr} {d : D} (o : g.Ok) (a : Aft g d g') : aftO g d = some g' := by
  unfold aftO
  rw [dif_pos ⟨g', a⟩]
  congr 1
  exact aft_fun o (Exists.choose_spec (⟨g', a⟩ : ∃ g', Aft g d g')) a
theorem aftO_none {g : Gr} {d : D} (n : ∀ g', ¬ Aft g d g') : aftO g d = none := by
  unfold aftO
  rw [dif_neg fun ⟨g', a⟩ => n g' a]
theorem aftO_inv {g g' : Gr} {d : D} (e : aftO g d = some g') : Aft g d g' := by
  unfold aftO at e
  split at e
  · rename_i h
    injection e with e
    rw [← e]
    exact h.choose_spec
  · cases e
theorem lex_trans : ∀ a b c : List Int, lexLe a b = true → lexLe b c = true → lexLe a c = true
  | [], _, _, _, _ => by simp only [lexLe]
  | _ :: _, [], _, h, _ => by simp only [lexLe] at h; cases h
  | _ :: _, _ :: _, [], _, h => by simp only [lexLe] at h; cases h
  | x :: xs, y :: ys, z :: zs, h1, h2 => by
    simp only [lexLe] at h1 h2 ⊢
    by_cases e1 : x = y
    · subst e1
      by_cases e2 : x = z
      · subst e2
        rw [if_pos rfl] at h1 h2 ⊢
        exact lex_trans xs ys zs h1 h2
      · rw [if_neg e2] at h2 ⊢; exact h2
    · rw [if_neg e1] at h1
      have l1 : x < y := of_decide_eq_true h1
      by_cases e2 : y = z
      · subst e2
        rw [if_neg e1]; exact h1
      · rw [if_neg e2] at h2
        have l2 : y < z := of_decide_eq_true h2
        rw [if_neg (by omega)]
        exact decide_eq_true (by omega)
theorem lex_total : ∀ a b : List Int, (lexLe a b || lexLe b a) = true
  | [], _ => by simp only [lexLe, Bool.true_or]
  | _ :: _, [] => by simp only [lexLe, Bool.or_true]
  | x :: xs, y :: ys => by
    simp only [lexLe]
    by_cases e : x = y
    · subst e
      rw [if_pos rfl, if_pos rfl]
      exact lex_total xs ys
    · rw [if_neg e, if_neg (fun h => e h.symm)]
      simp
      omega
theorem lex_anti : ∀ a b : List Int, lexLe a b = true → lexLe b a = true → a = b
  | [], [], _, _ => rfl
  | [], _ :: _, _, h => by simp only [lexLe] at h; cases h
  | _ :: _, [], h, _ => by simp only [lexLe] at h; cases h
  | x :: xs, y :: ys, h1, h2 => by
    simp only [lexLe] at h1 h2
    by_cases e : x = y
    · subst e
      rw [if_pos rfl] at h1 h2
      rw [lex_anti xs ys h1 h2]
    · rw [if_neg e] at h1
      rw [if_neg fun h => e h.symm] at h2
      have := of_decide_eq_true h1
      have := of_decide_eq_true h2
      omega
def rowsFrom : Nat → List Fa → List (List Int)
  | _, [] => []
  | i, f :: fs => [f.since, f.told, (i : Int)] :: rowsFrom (i + 1) fs
def srt (fs : List Fa) : List (List Int) := sortT (rowsFrom 0 fs)
def keep (m k : Int) (r : List Int) : Bool := match r with
  | [s, t, _] => decide (s ≤ m) && decide (t ≤ k)
  | _ => false
def ddAt (fs : List Fa) (r : List Int) : D := match r with
  | [_, _, i] => (fs[i.toNat]?.map Fa.dd).getD .non
  | _ => .non
noncomputable def stp (o : Option Gr) (d : D) : Option Gr := o.bind fun g => aftO g d
noncomputable def runF (fs : List Fa) (m k : Int) (o : Option Gr) (rs : List (List Int)) : Option Gr := ((rs.filter (keep m k)).map (ddAt fs)).foldl stp o
noncomputable def dueF (fs : List Fa) (m k : Int) (g : Gr) : Option Gr := runF fs m k (some g) (srt fs)
theorem runF_cons (fs : List Fa) (m k : Int) (o : Option Gr) (r : List Int) (rs : List (List Int)) : runF fs m k o (r :: rs) = runF fs m k (if keep m k r then stp o (ddAt fs r) else o) rs := by
  unfold runF
  rw [List.filter_cons]
  split <;> rfl
theorem runF_none (fs : List Fa) (m k : Int) : ∀ rs, runF fs m k none rs = none
  | [] => rfl
  | r :: rs => by
    rw [runF_cons]
    have : (if keep m k r then stp none (ddAt fs r) else none) = none := by split <;> rfl
    rw [this]
    exact runF_none fs m k rs
theorem rows_mem : ∀ {fs : List Fa} {n : Nat} {r : List Int}, r ∈ rowsFrom n fs → ∃ (i : Nat) (hi : i < fs.length), r = [fs[i].since, fs[i].told, ((n + i : Nat) : Int)]
  | [], _, _, m => nomatch m
  | f :: fs, n, r, m => by
    rcases List.mem_cons.mp m with rfl | m
    · exact ⟨0, by simp, by simp⟩
    · obtain ⟨i, hi, rfl⟩ := rows_mem m
      exact ⟨i + 1, by simp; omega, by simp; omega⟩
theorem srt_mem {fs : List Fa} {r : List Int} (m : r ∈ srt fs) : ∃ (i : Nat) (hi : i < fs.length), r = [fs[i].since, fs[i].told, (i : Int)] := by
  obtain ⟨i, hi, e⟩ := rows_mem ((List.mergeSort_perm _ _).mem_iff.mp m)
  exact ⟨i, hi, by simpa using e⟩
theorem rows_app : ∀ (A B : List Fa) (n : Nat), rowsFrom n (A ++ B) = rowsFrom n A ++ rowsFrom (n + A.length) B
  | [], B, n => by simp [rowsFrom]
  | f :: A, B, n => by
    simp only [List.cons_append, rowsFrom, rows_app A B (n + 1), List.length_cons]
    rw [show n + 1 + A.length = n + (A.length + 1) by omega]
def shf (n : Nat) (r : List Int) : List Int := match r with
  | [s, t, i] => [s, t, if i < n then i else i + 1]
  | r => r
theorem shf_lo (n : Nat) : ∀ (A : List Fa) (j : Nat), j + A.length ≤ n → (rowsFrom j A).map (shf n) = rowsFrom j A
  | [], _, _ => rfl
  | f :: A, j, h => by
    simp only [List.length_cons] at h
    simp only [rowsFrom, List.map_cons, shf, shf_lo n A (j + 1) (by omega)]
    rw [if_pos (by omega)]
theorem shf_hi (n : Nat) : ∀ (B : List Fa) (j : Nat), n ≤ j → (rowsFrom j B).map (shf n) = rowsFrom (j + 1) B
  | [], _, _ => rfl
  | f :: B, j, h => by
    simp only [rowsFrom, List.map_cons, shf, shf_hi n B (j + 1) (by omega)]
    rw [if_neg (by omega)]
    simp
theorem keep_shf (m k : Int) (n : Nat) (r : List Int) : keep m k (shf n r) = keep m k r := by
  unfold shf
  split
  · rfl
  · rfl
theorem srt_late (A B : List Fa) (f : Fa) (m k : Int) (hf : ¬ (f.since ≤ m ∧ f.told ≤ k)) : (srt (A ++ f :: B)).filter (keep m k) = ((srt (A ++ B)).filter (keep m k)).map (shf A.length) := by
  refine List.Perm.eq_of_pairwise (le := fun a b => lexLe a b = true) (fun a b _ _ h1 h2 => lex_anti a b h1 h2) ?_ ?_ ?_
  · exact (List.pairwise_mergeSort lex_trans lex_total _).filter _
  · rw [List.pairwise_map]
    have h0 : List.Pairwise (fun a b => lexLe a b = true) ((srt (A ++ B)).filter (keep m k)) := (List.pairwise_mergeSort lex_trans lex_total _).filter _
    refine h0.imp_of_mem fun {a b} ma mb h => ?_
    obtain ⟨i, hi, rfl⟩ := srt_mem (List.mem_filter.mp ma).1
    obtain ⟨j, hj, rfl⟩ := srt_mem (List.mem_filter.mp mb).1
    simp only [shf, lexLe] at h ⊢
    split at h
    · rename_i e1
      rw [if_pos e1]
      split at h
      · rename_i e2
        rw [if_pos e2]
        split at h
        · rename_i e3
          rw [e3, if_pos rfl]
        · have := of_decide_eq_true h
          have : (if (i : Int) < (A.length : Nat) then (i : Int) else (i : Int) + 1) < (if (j : Int) < (A.length : Nat) then (j : Int) else (j : Int) + 1) := by split <;> split <;> omega
          rw [if_neg (by omega)]
          exact decide_eq_true this
      · rename_i e2
        rw [if_neg e2]; exact h
    · rename_i e1
      rw [if_neg e1]; exact h
  · have p2 : ((srt (A ++ f :: B)).filter (keep m k)).Perm ((rowsFrom 0 (A ++ f :: B)).filter (keep m k)) := (List.mergeSort_perm _ _).filter _
    have p1 : (((srt (A ++ B)).filter (keep m k)).map (shf A.length)).Perm (((rowsFrom 0 (A ++ B)).filter (keep m k)).map (shf A.length)) := ((List.mergeSort_perm _ _).filter _).map _
    have e : ((rowsFrom 0 (A ++ B)).filter (keep m k)).map (shf A.length) = (rowsFrom 0 (A ++ f :: B)).filter (keep m k) := by
      have e1 : ((rowsFrom 0 (A ++ B)).filter (keep m k)).map (shf A.length) = ((rowsFrom 0 (A ++ B)).map (shf A.length)).filter (keep m k) := by
        rw [List.filter_map]
        congr 2
        funext r
        exact (keep_shf m k _ r).symm
      rw [e1, rows_app, rows_app, List.map_append, shf_lo _ A 0 (by omega), shf_hi _ B _ (by omega)]
      simp only [rowsFrom, List.filter_append, List.filter_cons]
      have kf : keep m k [f.since, f.told, ((0 + A.length : Nat) : Int)] = false := by
        simp only [keep]
        rw [Bool.and_eq_false_iff]
        by_cases h1 : f.since ≤ m
        · exact Or.inr (decide_eq_false fun h2 => hf ⟨h1, h2⟩)
        · exact Or.inl (decide_eq_false h1)
      rw [kf]
      simp
    exact p2.trans (e ▸ p1.symm)
theorem due_late (A B : List Fa) (f : Fa) (m k : Int) (g : Gr) (hf : ¬ (f.since ≤ m ∧ f.told ≤ k)) : dueF (A ++ f :: B) m k g = dueF (A ++ B) m k g := by
  unfold dueF runF
  rw [srt_late A B f m k hf, List.map_map]
  congr 1
  refine List.map_congr_left fun r mr => ?_
  obtain ⟨i, hi, rfl⟩ := srt_mem (List.mem_filter.mp mr).1
  simp only [Function.comp, shf, ddAt]
  by_cases l : i < A.length
  · rw [if_pos (by omega)]
    rw [List.getElem?_append_left (by simpa using l), List.getElem?_append_left (by simpa using l)]
  · rw [if_neg (by omega)]
    rw [List.getElem?_append_right (by omega), List.getElem?_append_right (by simp; omega)]
    rw [show ((i : Int) + 1).toNat - A.length = (i - A.length) + 1 by omega, List.getElem?_cons_succ]
    simp
/-- the same facts count -/
theorem due_same {fs : List Fa} {m m' k : Int} (g : Gr) (h : ∀ f ∈ fs, f.told ≤ k → (f.since ≤ m ↔ f.since ≤ m')) : dueF fs m k g = dueF fs m' k g := by
  unfold dueF runF
  congr 2
  refine List.filter_congr fun r mr => ?_
  obtain ⟨i, hi, rfl⟩ := srt_mem mr
  simp only [keep]
  have := h fs[i] (List.getElem_mem _)
  rw [Bool.eq_iff_iff]
  simp only [Bool.and_eq_true, decide_eq_true_eq]
  constructor
  · rintro ⟨a, b⟩; exact ⟨(this b).mp a, b⟩
  · rintro ⟨a, b⟩; exact ⟨(this b).mpr a, b⟩
theorem tups_map : ∀ ts : List (List Int), tups? (ts.map tupI) = some ts
  | [] => rfl
  | t :: ts => by
    show (match ints? (t.map .int), tups? (ts.map tupI) with
      | some x, some y => some (x :: y)
      | _, _ => none) = _
    rw [ints_map, tups_map ts]
theorem rows_all : ∀ (fs : List Fa) (n : Nat), (∀ f ∈ fs, 0 ≤ f.told ∧ 0 ≤ f.since) → ((rowsFrom n fs).all fun u => decide (u.length = 3) && u.all fun i => decide (0 ≤ i)) = true
  | [], _, _ => rfl
  | f :: fs, n, h => by
    simp only [rowsFrom, List.all_cons, rows_all fs (n + 1) (fun g m => h g (List.mem_cons_of_mem _ m)), Bool.and_true]
    obtain ⟨a, b⟩ := h f (by simp)
    simp [a, b]
theorem rows_len : ∀ (fs : List Fa) (n : Nat), (rowsFrom n fs).length = fs.length
  | [], _ => rfl
  | f :: fs, n => by simp only [rowsFrom, List.length_cons, rows_len fs]
theorem sort_rows {fs : List Fa} (l : fs.length ≤ 50) (h : ∀ f ∈ fs, 0 ≤ f.told ∧ 0 ≤ f.since) (g : List (Nat × List D)) : sqR .sorted ⟨(rowsFrom 0 fs).map tupI, g, .lst⟩ = some (.fresh ((srt fs).map tupI)) := by
  show (sortD ((rowsFrom 0 fs).map tupI)).map Rv.fresh = _
  cases fs with
  | nil =>
    have : srt [] = [] := by simp [srt, sortT, rowsFrom]
    rw [this]
    simp [rowsFrom, sortD, ints?, sortI]
  | cons f fs =>
    have e1 : ints? ((rowsFrom 0 (f :: fs)).map tupI) = none := rfl
    unfold sortD
    rw [e1]
    dsimp only
    rw [tups_map]
    dsimp only
    have ok : tupsOk (rowsFrom 0 (f :: fs)) = true := by
      have a := rows_all (f :: fs) 0 h
      have b := rows_len (f :: fs) 0
      show (decide ((rowsFrom 0 (f :: fs)).length < 64) && decide (0 < 3) && (rowsFrom 0 (f :: fs)).all fun u => decide (u.length = 3) && u.all fun i => decide (0 ≤ i)) = true
      rw [a, b, decide_eq_true (show (f :: fs).length < 64 by omega)]
      rfl
    rw [if_pos ok]
    rfl
/-! ### moments -/
abbrev eD (l : List Int) : List Int := @List.eraseDups Int instBEqOfDecidableEq l
def msOf (k : Int) (fs : List Fa) : List Int := (fs.filter fun f => decide (f.told ≤ k)).map Fa.since
def edgF (fs : List Fa) (k : Int) : List Int := sortI (eD (0 :: msOf k fs))
theorem eD_nodup : ∀ (n : Nat) (l : List Int), l.length ≤ n → (eD l).Nodup
  | _, [], _ => by simp [eD]
  | 0, _ :: _, h => by simp at h
  | n + 1, x :: xs, h => by
    show (@List.eraseDups Int instBEqOfDecidableEq (x :: xs)).Nodup
    rw [List.eraseDups_cons]
    have h1 : (xs.filter fun b => !b == x).length ≤ xs.length := List.length_filter_le _ _
    have := eD_nodup n (xs.filter fun b => !b == x) (by simp at h; omega)
    refine List.nodup_cons.mpr ⟨fun m => ?_, this⟩
    rw [List.mem_eraseDups, List.mem_filter] at m
    simp at m
theorem edg_mem {fs : List Fa} {k z : Int} : z ∈ edgF fs k ↔ z = 0 ∨ ∃ f ∈ fs, f.told ≤ k ∧ f.since = z := by
  unfold edgF sortI
  rw [(List.mergeSort_perm _ _).mem_iff, List.mem_eraseDups, List.mem_cons]
  unfold msOf
  constructor
  · rintro (h | h)
    · exact Or.inl h
    · obtain ⟨f, mf, rfl⟩ := List.mem_map.mp h
      obtain ⟨a, b⟩ := List.mem_filter.mp mf
      exact Or.inr ⟨f, a, of_decide_eq_true b, rfl⟩
  · rintro (h | ⟨f, a, b, rfl⟩)
    · exact Or.inl h
    · exact Or.inr (List.mem_map_of_mem (List.mem_filter.mpr ⟨a, decide_eq_true b⟩))
theorem edg_sorted (fs : List Fa) (k : Int) : List.Pairwise (fun a b => a < b) (edgF fs k) := by
  have h1 : List.Pairwise (fun a b : Int => decide (a ≤ b) = true) (edgF fs k) := List.pairwise_mergeSort (le := fun a b : Int => decide (a ≤ b)) (fun a b c h1 h2 => by simp at *; omega) (fun a b => by simp; omega) _
  have h2 : (edgF fs k).Nodup := ((List.mergeSort_perm _ _).nodup_iff).mpr (eD_nodup _ _ (Nat.le_refl _))
  have := h1.and h2
  refine this.imp fun {a b} h => ?_
  have := of_decide_eq_true h.1
  have := h.2
  omega
theorem edg_pos {fs : List Fa} {k : Int} : 0 < (edgF fs k).length := by
  have : (0 : Int) ∈ edgF fs k := edg_mem.mpr (Or.inl rfl)
  exact List.length_pos_iff.mpr fun e => by rw [e] at this; cases this
theorem edg_next {fs : List Fa} {k : Int} {j : Nat} (hj : j < (edgF fs k).length) {f : Fa} (mf : f ∈ fs) (hk : f.told ≤ k) (gt : (edgF fs k)[j] < f.since) : ∃ h : j + 1 < (edgF fs k).length, (edgF fs k)[j + 1] ≤ f.since := by
  have m : f.since ∈ edgF fs k := edg_mem.mpr (Or.inr ⟨f, mf, hk, rfl⟩)
  obtain ⟨i, hi, e⟩ := List.getElem_of_mem m
  have S := edg_sorted fs k
  have mono : ∀ a b (ha : a < (edgF fs k).length) (hb : b < (edgF fs k).length), a < b → (edgF fs k)[a] < (edgF fs k)[b] := fun a b ha hb l => List.pairwise_iff_getElem.mp S a b ha hb l
  have ij : j < i := by
    rcases Nat.lt_trichotomy j i with h | h | h
    · exact h
    · subst h; omega
    · have := mono i j hi hj h; omega
  refine ⟨by omega, ?_⟩
  rcases Nat.lt_or_ge (j + 1) i with h | h
  · have := mono (j + 1) i (by omega) hi h; omega
  · have : i = j + 1 := by omega
    subst this; omega
theorem eD_snoc (l : List Int) (x : Int) : eD (l ++ [x]) = if x ∈ l then eD l else eD l ++ [x] := by
  show @List.eraseDups Int instBEqOfDecidableEq (l ++ [x]) = _
  rw [List.eraseDups_append]
  by_cases h : x ∈ l
  · rw [if_pos h]
    have : [x].removeAll l = [] := by simp [List.removeAll, h]
    rw [this]
    simp
  · rw [if_neg h]
    have : [x].removeAll l = [x] := by simp [List.removeAll, h]
    rw [this]
    rfl
end Mp
set_option Elab.async false
set_option linter.all false
set_option maxRecDepth 100000
set_option maxHeartbeats 4000000
namespace Tx
open PySem Mp
open PySem.PyData (strOk)
theorem mulOk_r {i j : Int} (l : j.natAbs < 2 ^ 64) : mulOk i j = true := by
  unfold mulOk
  rw [decide_eq_true l, Bool.or_true]
theorem mulOk_l {i j : Int} (l : i.natAbs < 2 ^ 64) : mulOk i j = true := by
  unfold mulOk
  rw [decide_eq_true l, Bool.true_or]
theorem shl_eq {h : Hh} {i j : Int} (a : 0 ≤ j) (b : j ≤ 1000000) (c : i.natAbs < 2 ^ 64) : binR h .shl (.int i) (.int j) = some (.val (.int (i * 2 ^ j.toNat))) := by
  simp only [binR, binD, if_pos (And.intro a (And.intro b c)), Option.map_some]
theorem pow_eq {h : Hh} {i j : Int} (a : 0 ≤ j) (b : j ≤ 1000000) (c : i.natAbs < 2 ^ 64) : binR h .pow (.int i) (.int j) = some (.val (.int (i ^ j.toNat))) := by
  simp only [binR, binD, if_pos (And.intro a (And.intro b c)), Option.map_some]
theorem s_draw {n : Nat} (hn : i__law_draw < n) {h : Hh} (S : St h) {m : Int} (m0 : 0 < m) (m1 : m < 1073741824) :
    CallP (phi xs defs n i__law_draw [.ref 1, .int m] h) (fun d h' => (∃ i, d = .int i ∧ 0 ≤ i ∧ i < m) ∧ St h' ∧ Frm [1] h h') X0 := by
  refine fn_ok hn rfl rfl (stab_d S) stabX0 ?_
  obtain ⟨zs, p, q, s, t, e0, e1, hp⟩ := S.ex
  have l0 : 0 < h.length := (List.getElem?_eq_some_iff.mp e0).1
  have l1 : 1 < h.length := (List.getElem?_eq_some_iff.mp e1).1
  have fin : ∀ (i p' q' s' : Int) (h' : Hh), h' = h.set 1 (.lst [.ref 0, .int p', .int q', .int s', .int t]) → 0 ≤ p' → (∃ j, D.int (i % m) = .int j ∧ 0 ≤ j ∧ j < m) ∧ St h' ∧ Frm [1] h h' := by
    rintro i p' q' s' h' rfl hp'
    refine ⟨⟨_, rfl, Int.emod_nonneg _ (by omega), Int.emod_lt_of_pos _ m0⟩, ⟨zs, p', q', s', t, ?_, ?_, hp'⟩, Frm.set List.mem_cons_self⟩
    · rw [List.getElem?_set_ne (by decide)]; exact e0
    · rw [List.getElem?_set_self l1]
  refine cutN 3 (fun en h' => h' = h ∧ ∃ z fo c, 0 ≤ z ∧ en = [some (.ref 1), some (.int m), some (.int z), fo, c]) ?_ ?_
  · (conv => whnf)
    refine ⟨_, e1, _, rfl, ?_⟩
    (conv => whnf)
    refine ⟨fun hc => ?_, fun hc => ?_⟩
    · (conv => whnf)
      refine ⟨_, e1, _, rfl, ?_⟩
      (conv => whnf)
      refine ⟨⟨m0, m1⟩, ?_⟩
      (conv => whnf)
      refine ⟨_, _, e1, rfl, ?_⟩
      (conv => whnf)
      refine ⟨_, rfl, ?_⟩
      (conv => whnf)
      refine ⟨m0, ?_⟩
      exact fin _ _ _ _ _ rfl hp
    · (conv => whnf)
      refine ⟨_, e1, _, rfl, ?_⟩
      (conv => whnf)
      refine ⟨_, e1, _, rfl, ?_⟩
      (conv => whnf)
      refine ⟨_, e0, ?_⟩
      (conv => whnf)
      refine ⟨nofun, ?_⟩
      (conv => whnf)
      refine ⟨fun hc => ?_, fun hc => ?_⟩
      · (conv => whnf)
        refine ⟨_, e1, _, rfl, ?_⟩
        (conv => whnf)
        refine ⟨_, e1, _, rfl, ?_⟩
        (conv => whnf)
        have lp : p < (zs.length : Int) := by simpa using hc
        obtain ⟨pn, rfl⟩ : ∃ pn : Nat, p = pn := ⟨p.toNat, by omega⟩
        refine ⟨_, e0, .int zs[pn], ?_, ?_⟩
        · rw [atI_nat, List.getElem?_map, List.getElem?_eq_getElem (by omega)]; rfl
        (conv => whnf)
        refine ⟨_, rfl, ?_⟩
        (conv => whnf)
        refine ⟨mulOk_l (by decide), ?_⟩
        (conv => whnf)
        refine ⟨_, rfl, ?_⟩
        refine ⟨rfl, _, _, _, ?_, rfl⟩
        split <;> split <;> omega
      · exact ⟨rfl, _, _, _, Int.le_refl 0, rfl⟩
  · rintro en h' ⟨rfl, z, fo, c, hz, rfl⟩
    (conv => whnf)
    refine ⟨_, _, e1, rfl, ?_⟩
    (conv => whnf)
    refine ⟨_, _, e1, rfl, ?_⟩
    (conv => whnf)
    refine ⟨_, pow_eq (by decide) (by decide) (by decide), ?_⟩
    (conv => whnf)
    refine ⟨mulOk_l (by decide), ?_⟩
    (conv => whnf)
    have e1' : (h'.set 1 (.lst [.ref 0, .int (p + 1), .int q, .int s, .int t]))[1]? = some (.lst [.ref 0, .int (p + 1), .int q, .int s, .int t]) := List.getElem?_set_self l1
    refine ⟨fun hc => ?_, fun hc => ?_⟩
    · (conv => whnf)
      refine ⟨by decide, ?_⟩
      (conv => whnf)
      refine ⟨_, rfl, ?_⟩
      (conv => whnf)
      refine ⟨_, shl_eq (by decide) (by decide) (by decide), ?_⟩
      (conv => whnf)
      refine ⟨Int.mul_pos (by decide) (Int.pow_pos (by decide)), ?_⟩
      (conv => whnf)
      refine ⟨⟨m0, m1⟩, ?_⟩
      (conv => whnf)
      refine ⟨_, _, e1', rfl, ?_⟩
      (conv => whnf)
      refine ⟨_, rfl, ?_⟩
      (conv => whnf)
      refine ⟨m0, ?_⟩
      exact fin _ (p + 1) _ s _ (List.set_set ..) (by omega)
    · (conv => whnf)
      refine ⟨_, e1', _, rfl, ?_⟩
      (conv => whnf)
      refine ⟨mulOk_r (by decide), ?_⟩
      (conv => whnf)
      refine ⟨_, rfl, ?_⟩
      (conv => whnf)
      refine ⟨by decide, ?_⟩
      (conv => whnf)
      refine ⟨mulOk_r (by decide), ?_⟩
      (conv => whnf)
      refine ⟨_, e1', _, rfl, ?_⟩
      (conv => whnf)
      refine ⟨mulOk_r (by decide), ?_⟩
      (conv => whnf)
      refine ⟨_, rfl, ?_⟩
      (conv => whnf)
      refine ⟨by decide, ?_⟩
      (conv => whnf)
      refine ⟨_, _, e1', rfl, ?_⟩
      (conv => whnf)
      refine ⟨_, (List.getElem?_set_self (by simpa using l1)), _, rfl, ?_⟩
      (conv => whnf)
      refine ⟨by decide, ?_⟩
      (conv => whnf)
      refine ⟨_, rfl, ?_⟩
      (conv => whnf)
      refine ⟨m0, ?_⟩
      exact fin _ (p + 1) q _ _ (List.set_set ..) (by omega)
end Tx
set_option Elab.async false
set_option linter.all false
set_option maxRecDepth 100000
set_option maxHeartbeats 4000000
namespace Tx
open PySem Mp
open PySem.PyData (strOk)
theorem s_rare {n : Nat} (hn : i__law_rare < n) {h : Hh} (S : St h) {m : Int} (m0 : 0 < m) (m1 : m < 1073741824) :
    CallP (phi xs defs n i__law_rare [.ref 1, .int m] h) (fun d h' => (∃ b, d = .bl b) ∧ St h' ∧ Frm [1] h h') X0 := by
  refine fn_ok hn rfl rfl (stab_d S) stabX0 ?_
  (conv => whnf)
  refine callz (s_draw (by decide) S m0 m1) ?_
  rintro _ h1 ⟨⟨i, rfl, i0, i1⟩, S1, F1⟩
  (conv => whnf); (repeat (first | (refine ⟨fun hx => absurd hx Bool.false_ne_true, fun _ => ?_⟩; conv => whnf) | (refine ⟨fun _ => ?_, fun hx => absurd (Eq.symm hx) Bool.false_ne_true⟩; conv => whnf) | (refine ⟨_, rfl, ?_⟩; conv => whnf) | (refine ⟨mulOk_r (by decide), ?_⟩; conv => whnf) | (refine ⟨mulOk_l (by decide), ?_⟩; conv => whnf) | (refine ⟨(nofun : _ ≠ Wd.other), ?_⟩; conv => whnf) | (refine ⟨Or.inl (Eq.refl Wd.lst), ?_⟩; conv => whnf) | (refine ⟨Or.inr (Eq.refl Wd.tup), ?_⟩; conv => whnf) | (refine ⟨by decide, ?_⟩; conv => whnf)))
  exact ⟨⟨_, rfl⟩, S1, F1⟩
theorem s_pop {n : Nat} (hn : i__law_pop < n) {h : Hh} (S : St h) {a : Nat} {ys : List D} (ea : h[a]? = some (.lst ys)) (a1 : a ≠ 1) (a0 : a ≠ 0) (y0 : ys ≠ []) (y1 : ys.length < 1073741824) :
    CallP (phi xs defs n i__law_pop [.ref 1, .ref a] h) (fun d h' => ∃ k : Nat, ys[k]? = some d ∧ St h' ∧ Frm [1, a] h h' ∧ h'[a]? = some (.lst (ys.eraseIdx k))) X0 := by
  have la : a < h.length := (List.getElem?_eq_some_iff.mp ea).1
  refine fn_ok hn rfl rfl (fun d h' p _ => ?_) stabX0 ?_
  · obtain ⟨k, e, S', F, e2⟩ := p
    exact ⟨k, e, S'.take S.len, F.take, by rw [List.getElem?_take_of_lt la]; exact e2⟩
  (conv => whnf)
  refine ⟨_, ea, ?_⟩
  (conv => whnf)
  refine ⟨_, ea, ?_⟩
  (conv => whnf)
  refine ⟨nofun, ?_⟩
  (conv => whnf)
  have l0 : 0 < ys.length := List.length_pos_iff.mpr y0
  refine callz (s_draw (by decide) S (by omega) (by omega)) ?_
  rintro _ h1 ⟨⟨i, rfl, i0, i1⟩, S1, F1⟩
  (conv => whnf)
  obtain ⟨k, rfl⟩ : ∃ k : Nat, i = k := ⟨i.toNat, by omega⟩
  have e1 := F1.get (by simpa using a1) ea
  refine ⟨ys, k, ys[k], e1, rfl, by omega, List.getElem?_eq_getElem (by omega), ?_⟩
  (conv => whnf)
  refine ⟨k, List.getElem?_eq_getElem (by omega), S1.frm (T := [a]) (Frm.set List.mem_cons_self) (by simpa using a0.symm) (by simpa using a1.symm), ?_, ?_⟩
  · exact (F1.mono (by simp)).trans (Frm.set (by simp))
  · exact List.getElem?_set_self (List.getElem?_eq_some_iff.mp e1).1
theorem s_pick_t {n : Nat} (hn : i__law_pick < n) {h : Hh} (S : St h) {ys : List D} (y0 : ys ≠ []) (y1 : ys.length < 1073741824) :
    CallP (phi xs defs n i__law_pick [.ref 1, .tup ys] h) (fun d h' => d ∈ ys ∧ St h' ∧ Frm [1] h h') X0 := by
  refine fn_ok hn rfl rfl (stab_d S) stabX0 ?_
  (conv => whnf)
  refine ⟨nofun, ?_⟩
  (conv => whnf)
  have l0 : 0 < ys.length := List.length_pos_iff.mpr y0
  refine callz (s_draw (by decide) S (by omega) (by omega)) ?_
  rintro _ h1 ⟨⟨i, rfl, i0, i1⟩, S1, F1⟩
  obtain ⟨k, rfl⟩ : ∃ k : Nat, i = k := ⟨i.toNat, by omega⟩
  (conv => whnf)
  refine ⟨ys[k], by rw [atI_nat]; exact List.getElem?_eq_getElem (by omega), ?_⟩
  exact ⟨List.getElem_mem _, S1, F1⟩
theorem s_pick_l {n : Nat} (hn : i__law_pick < n) {h : Hh} (S : St h) {a : Nat} (a1 : a ≠ 1) {ys : List D} (ea : h[a]? = some (.lst ys)) (y0 : ys ≠ []) (y1 : ys.length < 1073741824) :
    CallP (phi xs defs n i__law_pick [.ref 1, .ref a] h) (fun d h' => d ∈ ys ∧ St h' ∧ Frm [1] h h') X0 := by
  refine fn_ok hn rfl rfl (stab_d S) stabX0 ?_
  (conv => whnf)
  refine ⟨_, ea, ?_⟩
  (conv => whnf)
  refine ⟨nofun, ?_⟩
  (conv => whnf)
  have l0 : 0 < ys.length := List.length_pos_iff.mpr y0
  refine callz (s_draw (by decide) S (by omega) (by omega)) ?_
  rintro _ h1 ⟨⟨i, rfl, i0, i1⟩, S1, F1⟩
  obtain ⟨k, rfl⟩ : ∃ k : Nat, i = k := ⟨i.toNat, by omega⟩
  (conv => whnf)
  refine ⟨ys, F1.get (by simpa using a1) ea, ys[k], by rw [atI_nat]; exact List.getElem?_eq_getElem (by omega), ?_⟩
  exact ⟨List.getElem_mem _, S1, F1⟩
theorem s_token {n : Nat} (hn : i__law_token < n) {h : Hh} (S : St h) :
    CallP (phi xs defs n i__law_token [.ref 1] h) (fun d h' => (∃ i, d = .int i ∧ 0 ≤ i ∧ i ≤ 9972) ∧ St h' ∧ Frm [1] h h') X0 := by
  refine fn_ok hn rfl rfl (stab_d S) stabX0 ?_
  (conv => whnf)
  refine callz (s_draw (by decide) S (by decide) (by decide)) ?_
  rintro _ h1 ⟨⟨i, rfl, i0, i1⟩, S1, F1⟩
  (conv => whnf)
  refine ⟨fun hc => ?_, fun hc => ?_⟩
  · (conv => whnf)
    refine callz (s_draw (by decide) S1 (by decide) (by decide)) ?_
    rintro _ h2 ⟨⟨j, rfl, j0, j1⟩, S2, F2⟩
    exact ⟨⟨j, rfl, j0, by omega⟩, S2, F1.trans F2⟩
  · (conv => whnf)
    refine ⟨fun hc => ?_, fun hc => ?_⟩
    · (conv => whnf)
      refine callz (s_draw (by decide) S1 (by decide) (by decide)) ?_
      rintro _ h2 ⟨⟨j, rfl, j0, j1⟩, S2, F2⟩
      exact ⟨⟨_, rfl, by omega, by omega⟩, S2, F1.trans F2⟩
    · (conv => whnf)
      refine callz (s_draw (by decide) S1 (by decide) (by decide)) ?_
      rintro _ h2 ⟨⟨j, rfl, j0, j1⟩, S2, F2⟩
      exact ⟨⟨_, rfl, by omega, by omega⟩, S2, F1.trans F2⟩
theorem s_tokens {n : Nat} (hn : i__law_tokens < n) {h : Hh} (S : St h) {m : Nat} (m1 : m < 1000000) :
    CallP (phi xs defs n i__law_tokens [.ref 1, .int (m : Nat)] h) (fun d h' => (∃ is : List Int, d = .tup (is.map .int) ∧ is.length = m ∧ ∀ i ∈ is, 0 ≤ i ∧ i ≤ 9972) ∧ St h' ∧ Frm [1] h h') X0 := by
  refine fn_ok hn rfl rfl (stab_d S) stabX0 ?_
  (conv => whnf)
  refine ⟨by omega, ?_⟩
  (conv => whnf)
  refine comp_draw (fun d => ∃ i, d = .int i ∧ 0 ≤ i ∧ i ≤ 9972) S (by rw [rngD_len]; unfold sizeLine; omega) stays_nil (fun _ m => nomatch m) ?_ ?_
  · intro x mx h1 S1 F1 G k
    (conv => whnf)
    refine callz (s_token (by decide) S1) ?_
    rintro _ h2 ⟨pi, S2, F2⟩
    exact k _ _ pi S2 F2
  · intro rs h' l p S' F'
    (conv => whnf); (repeat (first | (refine ⟨fun hx => absurd hx Bool.false_ne_true, fun _ => ?_⟩; conv => whnf) | (refine ⟨fun _ => ?_, fun hx => absurd (Eq.symm hx) Bool.false_ne_true⟩; conv => whnf) | (refine ⟨_, rfl, ?_⟩; conv => whnf) | (refine ⟨mulOk_r (by decide), ?_⟩; conv => whnf) | (refine ⟨mulOk_l (by decide), ?_⟩; conv => whnf) | (refine ⟨(nofun : _ ≠ Wd.other), ?_⟩; conv => whnf) | (refine ⟨Or.inl (Eq.refl Wd.lst), ?_⟩; conv => whnf) | (refine ⟨Or.inr (Eq.refl Wd.tup), ?_⟩; conv => whnf) | (refine ⟨by decide, ?_⟩; conv => whnf)))
    obtain ⟨is, rfl, q⟩ := intsOf p
    refine ⟨⟨is, rfl, ?_, q⟩, S', F'⟩
    rw [rngD_len] at l
    simpa using l
end Tx
set_option Elab.async false
set_option linter.all false
set_option maxRecDepth 100000
set_option maxHeartbeats 4000000
namespace Tx
open PySem Mp
open PySem.PyData (strOk)
theorem s_gcd {n : Nat} (hn : i__law_gcd < n) {h : Hh} {x y : Nat} (l : y < 4000) :
    CallP (phi xs defs n i__law_gcd [.int (x : Nat), .int (y : Nat)] h) (fun d h' => d = .int ((Nat.gcd x y : Nat) : Int) ∧ Frm [] h h') X0 := by
  refine fn_ok hn rfl rfl stab_p stabX0 ?_
  (conv => whnf); (repeat (first | (refine ⟨fun hx => absurd hx Bool.false_ne_true, fun _ => ?_⟩; conv => whnf) | (refine ⟨fun _ => ?_, fun hx => absurd (Eq.symm hx) Bool.false_ne_true⟩; conv => whnf) | (refine ⟨_, rfl, ?_⟩; conv => whnf) | (refine ⟨mulOk_r (by decide), ?_⟩; conv => whnf) | (refine ⟨mulOk_l (by decide), ?_⟩; conv => whnf) | (refine ⟨(nofun : _ ≠ Wd.other), ?_⟩; conv => whnf) | (refine ⟨Or.inl (Eq.refl Wd.lst), ?_⟩; conv => whnf) | (refine ⟨Or.inr (Eq.refl Wd.tup), ?_⟩; conv => whnf) | (refine ⟨by decide, ?_⟩; conv => whnf)))
  refine (for_inv (fun rs en h' => Frm [] h h' ∧ ∃ (u v : Nat) (st : Option D), en = [some (.int (u : Nat)), some (.int (v : Nat)), st] ∧ v < rs.length ∧ Nat.gcd u v = Nat.gcd x y) ?_ ?_ ?_)
  · refine ⟨Frm.refl, x, y, none, ?_, ?_, rfl⟩
    · rw [if_neg (by omega), if_neg (by omega)]; rfl
    · dsimp only; rw [rngD_len]; exact l
  · rintro z rs en h1 ⟨F, u, v, st, rfl, lv, g⟩
    refine ⟨stays_nil, ?_⟩
    (conv => whnf)
    refine ⟨fun hc => ?_, fun hc => ?_⟩
    · (conv => whnf)
      have v0 : v = 0 := by simpa using hc
      subst v0
      refine ⟨?_, F⟩
      rw [← g, Nat.gcd_zero_right]
    · have v0 : v ≠ 0 := by simpa using hc
      (conv => whnf); (repeat (first | (refine ⟨fun hx => absurd hx Bool.false_ne_true, fun _ => ?_⟩; conv => whnf) | (refine ⟨fun _ => ?_, fun hx => absurd (Eq.symm hx) Bool.false_ne_true⟩; conv => whnf) | (refine ⟨_, rfl, ?_⟩; conv => whnf) | (refine ⟨mulOk_r (by decide), ?_⟩; conv => whnf) | (refine ⟨mulOk_l (by decide), ?_⟩; conv => whnf) | (refine ⟨(nofun : _ ≠ Wd.other), ?_⟩; conv => whnf) | (refine ⟨Or.inl (Eq.refl Wd.lst), ?_⟩; conv => whnf) | (refine ⟨Or.inr (Eq.refl Wd.tup), ?_⟩; conv => whnf) | (refine ⟨by decide, ?_⟩; conv => whnf)))
      refine ⟨by omega, ?_⟩
      (conv => whnf)
      refine ⟨F, v, u % v, some z, rfl, ?_, ?_⟩
      · have := Nat.mod_lt u (Nat.pos_of_ne_zero v0)
        simp at lv
        omega
      · rw [Nat.gcd_comm, ← Nat.gcd_rec, Nat.gcd_comm]; exact g
  · rintro en h1 ⟨F, u, v, st, rfl, lv, g⟩
    simp at lv
theorem s_split {n : Nat} (hn : i__law_split < n) {h : Hh} (S : St h) {t p : Nat} (t1 : t ≤ 12) (p0 : 0 < p) (p1 : p < 1000) :
    CallP (phi xs defs n i__law_split [.ref 1, .int (t : Nat), .int (p : Nat)] h) (fun d h' => (∃ is : List Int, d = .tup (is.map .int) ∧ is.length = p ∧ (∀ i ∈ is, 0 ≤ i ∧ i ≤ t) ∧ is.sum = t) ∧ St h' ∧ Frm [1] h h') X0 := by
  refine fn_ok hn rfl rfl (stab_d S) stabX0 ?_
  (conv => whnf)
  refine ⟨by omega, ?_⟩
  (conv => whnf)
  refine comp_map (fun _ => some (.int 0)) (by dsimp only; rw [rngD_len]; unfold sizeLine; omega) stays_nil ?_ ?_
  · intro x mx h1 F1 G k
    (conv => whnf)
    exact k _ Frm.refl
  intro h1 F1
  have S1 := S.pure F1
  have e0 : (rngD 0 (p : Int)).filterMap (fun _ => some (D.int 0)) = ((List.range p).map fun _ => (0 : Int)).map .int := by
    rw [rngD_zero, fm_some, List.map_map, List.map_map]
    rfl
  dsimp only
  rw [e0]
  (conv => whnf)
  refine ⟨by omega, ?_⟩
  (conv => whnf)
  have F2 : Frm [1] h (h1 ++ [.lst (((List.range p).map fun _ => (0 : Int)).map .int)]) := F1.one.trans (Frm.app _)
  have S2 : St (h1 ++ [.lst (((List.range p).map fun _ => (0 : Int)).map .int)]) := S1.pure (Frm.app _)
  refine for_inv (fun rs en h' => St h' ∧ Frm [1] h h' ∧ ∃ (is : List Int) (s k : Option D), h'[h1.length]? = some (.lst (is.map .int)) ∧ is.length = p ∧ (∀ i ∈ is, 0 ≤ i) ∧ is.sum + rs.length = t ∧ en = [some (.ref 1), some (.int (t : Nat)), some (.int (p : Nat)), some (.ref h1.length), s, k]) ?_ ?_ ?_
  · refine ⟨S2, F2, (List.range p).map fun _ => (0 : Int), none, none, ?_, by simp, ?_, ?_, rfl⟩
    · rw [List.getElem?_append_right (Nat.le_refl _)]; simp
    · intro i m
      obtain ⟨_, _, rfl⟩ := List.mem_map.mp m
      exact Int.le_refl 0
    · rw [sum_zero]; dsimp only; rw [rngD_len]; simp
  · rintro x rs en h3 ⟨S3, F3, is, s, k, e3, l3, p3, s3, rfl⟩
    refine ⟨stays_nil, ?_⟩
    have hl : h.length ≤ h1.length := F1.le
    have a1 : h1.length ≠ 1 := by have := S.len; omega
    (conv => whnf)
    refine callz (s_draw (by decide) S3 (by omega) (by omega)) ?_
    rintro _ h4 ⟨⟨i, rfl, i0, i1⟩, S4, F4⟩
    obtain ⟨k, rfl⟩ : ∃ k : Nat, i = k := ⟨i.toNat, by omega⟩
    have e4 := F4.get (by simpa using a1) e3
    have lk : k < is.length := by omega
    have gk : L2.atI (is.map D.int) (k : Int) = some (.int is[k]) := by
      rw [atI_nat, List.getElem?_map, List.getElem?_eq_getElem lk]; rfl
    obtain ⟨q1, q2⟩ := sum_ge p3
    have ik := q2 is[k] (List.getElem_mem _)
    have rl : ((x :: rs).length : Int) = rs.length + 1 := by simp
    (conv => whnf)
    refine ⟨_, e4, _, gk, ?_⟩
    (conv => whnf)
    refine ⟨fun hc => ?_, fun hc => ?_⟩
    · exfalso
      have : (12 : Int) ≤ is[k] := by simpa using hc
      omega
    · (conv => whnf)
      refine ⟨_, e4, _, gk, ?_⟩
      (conv => whnf)
      refine ⟨_, _, e4, ixN_nat (by simpa using lk), ?_⟩
      (conv => whnf)
      have a0 : h1.length ≠ 0 := by have := S.len; omega
      refine ⟨S4.frm (T := [h1.length]) (Frm.set List.mem_cons_self) (by simpa using a0.symm) (by simpa using a1.symm), ?_, is.set k (is[k] + 1), _, _, ?_, by simpa using l3, ?_, ?_, rfl⟩
      · exact (F3.trans F4).new (Frm.set (S := [h1.length]) (by simp)) (by intro a m; simp at m; subst m; exact Or.inr hl)
      · rw [List.getElem?_set_self (List.getElem?_eq_some_iff.mp e4).1, List.map_set]
      · intro i m
        rcases List.mem_or_eq_of_mem_set m with m | rfl
        · exact p3 i m
        · have := p3 is[k] (List.getElem_mem _); omega
      · rw [sum_set1 lk]; omega
  · rintro en h3 ⟨S3, F3, is, s, k, e3, l3, p3, s3, rfl⟩
    refine ⟨stays_nil, ?_⟩
    (conv => whnf)
    refine ⟨_, e3, ?_⟩
    (conv => whnf); (repeat (first | (refine ⟨fun hx => absurd hx Bool.false_ne_true, fun _ => ?_⟩; conv => whnf) | (refine ⟨fun _ => ?_, fun hx => absurd (Eq.symm hx) Bool.false_ne_true⟩; conv => whnf) | (refine ⟨_, rfl, ?_⟩; conv => whnf) | (refine ⟨mulOk_r (by decide), ?_⟩; conv => whnf) | (refine ⟨mulOk_l (by decide), ?_⟩; conv => whnf) | (refine ⟨(nofun : _ ≠ Wd.other), ?_⟩; conv => whnf) | (refine ⟨Or.inl (Eq.refl Wd.lst), ?_⟩; conv => whnf) | (refine ⟨Or.inr (Eq.refl Wd.tup), ?_⟩; conv => whnf) | (refine ⟨by decide, ?_⟩; conv => whnf)))
    obtain ⟨q1, q2⟩ := sum_ge p3
    simp at s3
    exact ⟨⟨is, rfl, l3, fun i m => ⟨p3 i m, by have := q2 i m; omega⟩, s3⟩, S3, F3⟩
end Tx
set_option Elab.async false
set_option linter.all false
set_option maxRecDepth 100000
set_option maxHeartbeats 4000000
namespace Tx
open PySem Mp
open PySem.PyData (strOk)
abbrev nats (cs : List Nat) : List D := cs.map fun c => .int (c : Nat)
theorem at_map {α : Type} {f : α → D} {l : List α} {k : Nat} (h : k < l.length) : L2.atI (l.map f) (k : Int) = some (f l[k]) := by
  rw [atI_nat, List.getElem?_map, List.getElem?_eq_getElem h]; rfl
theorem s_rates {n : Nat} (hn : i__law_rates < n) {h : Hh} (S : St h) {s t c : Nat} {cs : List Nat} {bs : List Bk} {m : Int} (ec : h[c]? = some (.lst (nats cs))) (c1 : c ≠ 1) (hs : s < cs.length) (ht : t < cs.length) (hs2 : s < bs.length) (ht2 : t < bs.length)
    (hc : ∀ x ∈ cs, 1 ≤ x ∧ x ≤ 3) (hb : ∀ b ∈ bs, 1 ≤ b.ts.length ∧ b.ts.length ≤ 6) (m1 : 1 ≤ m) (m2 : m ≤ 2) :
    CallP (phi xs defs n i__law_rates [.ref 1, .int (s : Nat), .int (t : Nat), .ref c, .tup (bs.map Bk.d), .int m] h)
      (fun d h' => (∃ gs tk : List Int, d = .tup [.tup (gs.map .int), .tup (tk.map .int)] ∧ RtOk gs bs[s].ts.length ∧ RtOk tk bs[t].ts.length ∧ tk.sum ≤ 12) ∧ St h' ∧ Frm [1] h h') X0 := by
  refine fn_ok hn rfl rfl (stab_d S) stabX0 ?_
  (conv => whnf)
  refine ⟨_, ec, _, at_map hs, ?_⟩
  (conv => whnf)
  refine ⟨_, ec, _, at_map ht, ?_⟩
  have cs1 := hc cs[s] (List.getElem_mem _)
  have ct1 := hc cs[t] (List.getElem_mem _)
  have bs1 := hb bs[s] (List.getElem_mem _)
  have bt1 := hb bs[t] (List.getElem_mem _)
  (conv => whnf)
  refine callz (s_gcd (by decide) (by omega)) ?_
  rintro _ h1 ⟨rfl, F1⟩
  have S1 := S.pure F1
  have g0 : 0 < Nat.gcd cs[s] cs[t] := Nat.gcd_pos_of_pos_left _ (by omega)
  have gs : Nat.gcd cs[s] cs[t] ≤ cs[s] := Nat.le_of_dvd (by omega) (Nat.gcd_dvd_left _ _)
  have gt : Nat.gcd cs[s] cs[t] ≤ cs[t] := Nat.le_of_dvd (by omega) (Nat.gcd_dvd_right _ _)
  generalize Nat.gcd cs[s] cs[t] = g at *
  (conv => whnf)
  refine callz (s_draw (by decide) S1 (by omega) (by omega)) ?_
  rintro _ h2 ⟨⟨i, rfl, i0, i1⟩, S2, F2⟩
  obtain ⟨o, rfl⟩ : ∃ o : Nat, i = o := ⟨i.toNat, by omega⟩
  have ec2 := F2.get (by simpa using c1) (F1.get (by simp) ec)
  obtain ⟨F, hF, hF2⟩ : ∃ F : Nat → Nat, (∀ y : Nat, ((1 : Int) + (o : Int)) * ((y : Int) / (g : Int)) = ((F y : Nat) : Int)) ∧ ∀ y : Nat, 1 ≤ y → y ≤ 3 → g ≤ y → 1 ≤ F y ∧ F y ≤ 6 := by
    refine ⟨fun y => (1 + o) * (y / g), fun y => by push_cast; rfl, fun y y1 y3 gy => ?_⟩
    have d1 : 1 ≤ y / g := (Nat.one_le_div_iff g0).mpr gy
    have d2 : y / g ≤ 3 := Nat.le_trans (Nat.div_le_self _ _) y3
    have o1 : o ≤ 1 := by omega
    refine ⟨Nat.mul_pos (by omega) (by omega), ?_⟩
    calc (1 + o) * (y / g) ≤ 2 * 3 := Nat.mul_le_mul (by omega) d2
      _ = 6 := rfl
  obtain ⟨pt1, pt2⟩ := hF2 cs[t] (by omega) (by omega) gt
  obtain ⟨ps1, ps2⟩ := hF2 cs[s] (by omega) (by omega) gs
  (conv => whnf)
  refine ⟨_, ec2, _, at_map ht, ?_⟩
  (conv => whnf)
  refine ⟨by omega, ?_⟩
  (conv => whnf)
  refine ⟨mulOk_l (by omega), ?_⟩
  rw [hF]
  (conv => whnf)
  refine ⟨_, at_map hs2, ?_⟩
  (conv => whnf); (repeat (first | (refine ⟨fun hx => absurd hx Bool.false_ne_true, fun _ => ?_⟩; conv => whnf) | (refine ⟨fun _ => ?_, fun hx => absurd (Eq.symm hx) Bool.false_ne_true⟩; conv => whnf) | (refine ⟨_, rfl, ?_⟩; conv => whnf) | (refine ⟨mulOk_r (by decide), ?_⟩; conv => whnf) | (refine ⟨mulOk_l (by decide), ?_⟩; conv => whnf) | (refine ⟨(nofun : _ ≠ Wd.other), ?_⟩; conv => whnf) | (refine ⟨Or.inl (Eq.refl Wd.lst), ?_⟩; conv => whnf) | (refine ⟨Or.inr (Eq.refl Wd.tup), ?_⟩; conv => whnf) | (refine ⟨by decide, ?_⟩; conv => whnf)))
  rw [List.length_map]
  refine callz (s_split (by decide) S2 (by omega) (by omega) (by omega)) ?_
  rintro _ h3 ⟨⟨is, rfl, il, ir, iz⟩, S3, F3⟩
  have ec3 := F3.get (by simpa using c1) ec2
  (conv => whnf)
  refine ⟨_, ec3, _, at_map hs, ?_⟩
  (conv => whnf)
  refine ⟨by omega, ?_⟩
  (conv => whnf)
  refine ⟨mulOk_l (by omega), ?_⟩
  rw [hF]
  (conv => whnf)
  refine ⟨_, at_map ht2, ?_⟩
  (conv => whnf); (repeat (first | (refine ⟨fun hx => absurd hx Bool.false_ne_true, fun _ => ?_⟩; conv => whnf) | (refine ⟨fun _ => ?_, fun hx => absurd (Eq.symm hx) Bool.false_ne_true⟩; conv => whnf) | (refine ⟨_, rfl, ?_⟩; conv => whnf) | (refine ⟨mulOk_r (by decide), ?_⟩; conv => whnf) | (refine ⟨mulOk_l (by decide), ?_⟩; conv => whnf) | (refine ⟨(nofun : _ ≠ Wd.other), ?_⟩; conv => whnf) | (refine ⟨Or.inl (Eq.refl Wd.lst), ?_⟩; conv => whnf) | (refine ⟨Or.inr (Eq.refl Wd.tup), ?_⟩; conv => whnf) | (refine ⟨by decide, ?_⟩; conv => whnf)))
  rw [List.length_map]
  refine callz (s_split (by decide) S3 (by omega) (by omega) (by omega)) ?_
  rintro _ h4 ⟨⟨js, rfl, jl, jr, jz⟩, S4, F4⟩
  (conv => whnf)
  refine ⟨⟨is, js, rfl, ⟨il, fun i m => by have := ir i m; omega, by omega⟩, ⟨jl, fun i m => by have := jr i m; omega, by omega⟩, by omega⟩, S4, F1.one.trans (F2.trans (F3.trans F4))⟩
theorem s_start {n : Nat} (hn : i__law_start_many < n) {h : Hh} (S : St h) {m f : Int} {b : Bool} (f0 : 0 ≤ f) (f1 : f ≤ 1000) :
    CallP (phi xs defs n i__law_start_many [.ref 1, .int m, .bl b, .int f] h) (fun d h' => (∃ i, d = .int i ∧ 0 ≤ i ∧ i < 2000) ∧ St h' ∧ Frm [1] h h') X0 := by
  refine fn_ok hn rfl rfl (stab_d S) stabX0 ?_
  have two : ∀ (z : Int) (h : Hh) (S : St h) (k : D → Prop), True := fun _ _ _ _ => trivial
  have small : ∀ i j : Int, 0 ≤ i → i < 2 → 0 ≤ j → j < 3 → 0 ≤ i * j ∧ i * j ≤ 2 := by
    intro i j a b c d
    have : i = 0 ∨ i = 1 := by omega
    rcases this with rfl | rfl <;> omega
  (conv => whnf)
  refine ⟨fun hc => ?_, fun hc => ?_⟩
  · cases b
    · (conv => whnf); (repeat (first | (refine ⟨fun hx => absurd hx Bool.false_ne_true, fun _ => ?_⟩; conv => whnf) | (refine ⟨fun _ => ?_, fun hx => absurd (Eq.symm hx) Bool.false_ne_true⟩; conv => whnf) | (refine ⟨_, rfl, ?_⟩; conv => whnf) | (refine ⟨mulOk_r (by decide), ?_⟩; conv => whnf) | (refine ⟨mulOk_l (by decide), ?_⟩; conv => whnf) | (refine ⟨(nofun : _ ≠ Wd.other), ?_⟩; conv => whnf) | (refine ⟨Or.inl (Eq.refl Wd.lst), ?_⟩; conv => whnf) | (refine ⟨Or.inr (Eq.refl Wd.tup), ?_⟩; conv => whnf) | (refine ⟨by decide, ?_⟩; conv => whnf)))
      refine callz (s_draw (by decide) S (by decide) (by decide)) ?_
      rintro _ h2 ⟨⟨i, rfl, i0, i1⟩, S2, F2⟩
      (conv => whnf)
      refine callz (s_draw (by decide) S2 (by decide) (by decide)) ?_
      rintro _ h3 ⟨⟨j, rfl, j0, j1⟩, S3, F3⟩
      have := small i j i0 i1 j0 j1
      (conv => whnf)
      refine ⟨mulOk_l (by omega), ?_⟩
      (conv => whnf)
      exact ⟨⟨_, rfl, by omega, by omega⟩, S3, F2.trans F3⟩
    · (conv => whnf); (repeat (first | (refine ⟨fun hx => absurd hx Bool.false_ne_true, fun _ => ?_⟩; conv => whnf) | (refine ⟨fun _ => ?_, fun hx => absurd (Eq.symm hx) Bool.false_ne_true⟩; conv => whnf) | (refine ⟨_, rfl, ?_⟩; conv => whnf) | (refine ⟨mulOk_r (by decide), ?_⟩; conv => whnf) | (refine ⟨mulOk_l (by decide), ?_⟩; conv => whnf) | (refine ⟨(nofun : _ ≠ Wd.other), ?_⟩; conv => whnf) | (refine ⟨Or.inl (Eq.refl Wd.lst), ?_⟩; conv => whnf) | (refine ⟨Or.inr (Eq.refl Wd.tup), ?_⟩; conv => whnf) | (refine ⟨by decide, ?_⟩; conv => whnf)))
      refine callz (s_draw (by decide) S (by decide) (by decide)) ?_
      rintro _ h2 ⟨⟨i, rfl, i0, i1⟩, S2, F2⟩
      (conv => whnf)
      refine callz (s_draw (by decide) S2 (by decide) (by decide)) ?_
      rintro _ h3 ⟨⟨j, rfl, j0, j1⟩, S3, F3⟩
      have := small i j i0 i1 j0 j1
      (conv => whnf)
      refine ⟨mulOk_l (by omega), ?_⟩
      (conv => whnf)
      exact ⟨⟨_, rfl, by omega, by omega⟩, S3, F2.trans F3⟩
  · (conv => whnf)
    refine ⟨fun hc => ?_, fun hc => ?_⟩
    · cases b
      · (conv => whnf); (repeat (first | (refine ⟨fun hx => absurd hx Bool.false_ne_true, fun _ => ?_⟩; conv => whnf) | (refine ⟨fun _ => ?_, fun hx => absurd (Eq.symm hx) Bool.false_ne_true⟩; conv => whnf) | (refine ⟨_, rfl, ?_⟩; conv => whnf) | (refine ⟨mulOk_r (by decide), ?_⟩; conv => whnf) | (refine ⟨mulOk_l (by decide), ?_⟩; conv => whnf) | (refine ⟨(nofun : _ ≠ Wd.other), ?_⟩; conv => whnf) | (refine ⟨Or.inl (Eq.refl Wd.lst), ?_⟩; conv => whnf) | (refine ⟨Or.inr (Eq.refl Wd.tup), ?_⟩; conv => whnf) | (refine ⟨by decide, ?_⟩; conv => whnf)))
        refine callz (s_draw (by decide) S (by decide) (by decide)) ?_
        rintro _ h2 ⟨⟨i, rfl, i0, i1⟩, S2, F2⟩
        (conv => whnf)
        refine callz (s_draw (by decide) S2 (by decide) (by decide)) ?_
        rintro _ h3 ⟨⟨j, rfl, j0, j1⟩, S3, F3⟩
        have := small i j i0 i1 j0 j1
        (conv => whnf)
        refine ⟨mulOk_l (by omega), ?_⟩
        (conv => whnf)
        exact ⟨⟨_, rfl, by omega, by omega⟩, S3, F2.trans F3⟩
      · (conv => whnf); (repeat (first | (refine ⟨fun hx => absurd hx Bool.false_ne_true, fun _ => ?_⟩; conv => whnf) | (refine ⟨fun _ => ?_, fun hx => absurd (Eq.symm hx) Bool.false_ne_true⟩; conv => whnf) | (refine ⟨_, rfl, ?_⟩; conv => whnf) | (refine ⟨mulOk_r (by decide), ?_⟩; conv => whnf) | (refine ⟨mulOk_l (by decide), ?_⟩; conv => whnf) | (refine ⟨(nofun : _ ≠ Wd.other), ?_⟩; conv => whnf) | (refine ⟨Or.inl (Eq.refl Wd.lst), ?_⟩; conv => whnf) | (refine ⟨Or.inr (Eq.refl Wd.tup), ?_⟩; conv => whnf) | (refine ⟨by decide, ?_⟩; conv => whnf)))
        refine callz (s_draw (by decide) S (by decide) (by decide)) ?_
        rintro _ h2 ⟨⟨i, rfl, i0, i1⟩, S2, F2⟩
        (conv => whnf); (repeat (first | (refine ⟨fun hx => absurd hx Bool.false_ne_true, fun _ => ?_⟩; conv => whnf) | (refine ⟨fun _ => ?_, fun hx => absurd (Eq.symm hx) Bool.false_ne_true⟩; conv => whnf) | (refine ⟨_, rfl, ?_⟩; conv => whnf) | (refine ⟨mulOk_r (by decide), ?_⟩; conv => whnf) | (refine ⟨mulOk_l (by decide), ?_⟩; conv => whnf) | (refine ⟨(nofun : _ ≠ Wd.other), ?_⟩; conv => whnf) | (refine ⟨Or.inl (Eq.refl Wd.lst), ?_⟩; conv => whnf) | (refine ⟨Or.inr (Eq.refl Wd.tup), ?_⟩; conv => whnf) | (refine ⟨by decide, ?_⟩; conv => whnf)))
        exact ⟨⟨_, rfl, by split <;> omega, by split <;> omega⟩, S2, F2⟩
    · (conv => whnf); (repeat (first | (refine ⟨fun hx => absurd hx Bool.false_ne_true, fun _ => ?_⟩; conv => whnf) | (refine ⟨fun _ => ?_, fun hx => absurd (Eq.symm hx) Bool.false_ne_true⟩; conv => whnf) | (refine ⟨_, rfl, ?_⟩; conv => whnf) | (refine ⟨mulOk_r (by decide), ?_⟩; conv => whnf) | (refine ⟨mulOk_l (by decide), ?_⟩; conv => whnf) | (refine ⟨(nofun : _ ≠ Wd.other), ?_⟩; conv => whnf) | (refine ⟨Or.inl (Eq.refl Wd.lst), ?_⟩; conv => whnf) | (refine ⟨Or.inr (Eq.refl Wd.tup), ?_⟩; conv => whnf) | (refine ⟨by decide, ?_⟩; conv => whnf)))
      refine callz (s_draw (by decide) S (by split <;> omega) (by split <;> omega)) ?_
      rintro _ h2 ⟨⟨i, rfl, i0, i1⟩, S2, F2⟩
      (conv => whnf)
      exact ⟨⟨_, rfl, i0, by split at i1 <;> omega⟩, S2, F2⟩
end Tx
set_option Elab.async false
set_option linter.all false
set_option maxRecDepth 100000
set_option maxHeartbeats 4000000
namespace Tx
open PySem Mp
open PySem.PyData (strOk)
def poolT : Str := "a b2 sum left r k0 carry z9z full tail n m8 aa busy cnt p t4 even2 ab1 head u v2 w lowest high mid " ++ "s t e f g h i j k x y q7 deep turn gate l5 hold next1 o c0 d two zz1 near far9 last ring2 " ++ "aaaaaaa8 b c1 top2 net3 row col7 v"
theorem pool_split : Txt.split poolT " " = pool := by decide +kernel
theorem splitO_pool : splitO (.str " ") (.str poolT) = some (pool.map .str) := by
  show (if (" " : Str).length ≠ 0 ∧ poolT.length + 2 ≤ sizeLine then some ((Txt.split poolT " ").map D.str) else none) = _
  rw [if_pos (by decide +kernel), pool_split]
theorem s_pool {n : Nat} (hn : i__law_pool < n) {h : Hh} :
    CallP (phi xs defs n i__law_pool [] h) (fun d h' => ∃ a, d = .ref a ∧ h.length ≤ a ∧ h'[a]? = some (.lst (pool.map .str)) ∧ Frm [] h h') X0 := by
  refine fn_ok hn rfl rfl (fun d h' p c => ?_) stabX0 ?_
  · obtain ⟨a, rfl, l, _⟩ := p
    exact (closD_ref l c).elim
  (conv => whnf)
  refine ⟨by decide, ?_⟩
  (conv => whnf)
  refine ⟨by decide, ?_⟩
  (conv => whnf)
  refine ⟨⟨_, rfl⟩, ?_⟩
  (conv => whnf)
  refine ⟨_, splitO_pool, ?_⟩
  (conv => whnf)
  refine ⟨_, rfl, Nat.le_refl _, ?_, Frm.app _⟩
  rw [List.getElem?_append_right (Nat.le_refl _)]; simp
theorem erase_map {α β : Type} (f : α → β) : ∀ (l : List α) (k : Nat), (l.map f).eraseIdx k = (l.eraseIdx k).map f
  | [], _ => rfl
  | _ :: _, 0 => rfl
  | x :: xs, k + 1 => by simp [erase_map f xs k]
theorem s_block {n : Nat} (hn : i__law_block < n) {h : Hh} (S : St h) {a p : Nat} {ns : List Str} (ea : h[a]? = some (.lst (ns.map .str))) (a0 : a ≠ 0) (a1 : a ≠ 1) (n0 : ns ≠ []) (n1 : ns.length < 1000) (p1 : p ≤ 6) :
    CallP (phi xs defs n i__law_block [.ref 1, .ref a, .int (p : Nat)] h)
      (fun d h' => ∃ (b : Bk) (k : Nat), d = b.d ∧ ns[k]? = some b.nm ∧ b.ts.length = p ∧ Rg 0 60 b.ts ∧ (0 ≤ b.a ∧ b.a ≤ 9972) ∧ (0 ≤ b.b ∧ b.b ≤ 9972) ∧ St h' ∧ Frm [1, a] h h' ∧ h'[a]? = some (.lst ((ns.eraseIdx k).map .str))) X0 := by
  have la : a < h.length := (List.getElem?_eq_some_iff.mp ea).1
  refine fn_ok hn rfl rfl (fun d h' p _ => ?_) stabX0 ?_
  · obtain ⟨b, k, e, e1, e2, e3, e4, e5, S', F, e6⟩ := p
    exact ⟨b, k, e, e1, e2, e3, e4, e5, S'.take S.len, F.take, by rw [List.getElem?_take_of_lt la]; exact e6⟩
  (conv => whnf)
  refine callz (s_rare (by decide) S (by decide) (by decide)) ?_
  rintro _ h1 ⟨⟨b, rfl⟩, S1, F1⟩
  have main : ∀ hi : Int, 0 < hi → hi ≤ 61 → wS.wSs xs (phi xs defs i__law_block) (d6.body.drop 1) [some (.ref 1), some (.ref a), some (.int (p : Nat)), some (.int hi), none, none] h1
      ⟨fun _ _ => False, fun d h' => ∃ (b : Bk) (k : Nat), d = b.d ∧ ns[k]? = some b.nm ∧ b.ts.length = p ∧ Rg 0 60 b.ts ∧ (0 ≤ b.a ∧ b.a ≤ 9972) ∧ (0 ≤ b.b ∧ b.b ≤ 9972) ∧ St h' ∧ Frm [1, a] h h' ∧ h'[a]? = some (.lst ((ns.eraseIdx k).map .str)), fun _ _ => False, fun _ _ => False⟩ X0 := by
    intro hi hi0 hi1
    (conv => whnf)
    refine ⟨by omega, ?_⟩
    (conv => whnf)
    refine comp_draw (fun d => ∃ i, d = .int i ∧ 0 ≤ i ∧ i ≤ 60) S1 (by dsimp only; rw [rngD_len]; unfold sizeLine; omega) stays_nil (fun _ m => nomatch m) ?_ ?_
    · intro x mx h2 S2 F2 G k
      (conv => whnf)
      refine callz (s_draw (by decide) S2 hi0 (by omega)) ?_
      rintro _ h3 ⟨⟨i, rfl, i0, i1⟩, S3, F3⟩
      exact k _ _ ⟨i, rfl, i0, by omega⟩ S3 F3
    intro rs h2 l p S2 F2
    obtain ⟨ts, rfl, q⟩ := intsOf p
    rw [rngD_len, List.length_map] at l
    (conv => whnf); (repeat (first | (refine ⟨fun hx => absurd hx Bool.false_ne_true, fun _ => ?_⟩; conv => whnf) | (refine ⟨fun _ => ?_, fun hx => absurd (Eq.symm hx) Bool.false_ne_true⟩; conv => whnf) | (refine ⟨_, rfl, ?_⟩; conv => whnf) | (refine ⟨mulOk_r (by decide), ?_⟩; conv => whnf) | (refine ⟨mulOk_l (by decide), ?_⟩; conv => whnf) | (refine ⟨(nofun : _ ≠ Wd.other), ?_⟩; conv => whnf) | (refine ⟨Or.inl (Eq.refl Wd.lst), ?_⟩; conv => whnf) | (refine ⟨Or.inr (Eq.refl Wd.tup), ?_⟩; conv => whnf) | (refine ⟨by decide, ?_⟩; conv => whnf)))
    have e2 := F2.get (by simpa using a1) (F1.get (by simpa using a1) ea)
    refine callz (s_pop (by decide) S2 e2 a1 a0 (by simpa using n0) (by simp; omega)) ?_
    rintro z h3 ⟨k, ez, S3, F3, e3⟩
    rw [List.getElem?_map, Option.map_eq_some_iff] at ez
    obtain ⟨nm, en, rfl⟩ := ez
    (conv => whnf)
    refine callz (s_token (by decide) S3) ?_
    rintro _ h4 ⟨⟨i, rfl, i0, i1⟩, S4, F4⟩
    (conv => whnf)
    refine callz (s_token (by decide) S4) ?_
    rintro _ h5 ⟨⟨j, rfl, j0, j1⟩, S5, F5⟩
    (conv => whnf)
    refine ⟨⟨nm, ts, i, j⟩, k, rfl, en, by dsimp only; simpa using l, q, ⟨i0, i1⟩, ⟨j0, j1⟩, S5, ?_, ?_⟩
    · exact ((F1.trans F2).mono (by simp)).trans (F3.trans ((F4.trans F5).mono (by simp)))
    · rw [erase_map] at e3
      exact F5.get (by simpa using a1) (F4.get (by simpa using a1) e3)
  cases b with
  | true => (conv => whnf); (repeat (first | (refine ⟨fun hx => absurd hx Bool.false_ne_true, fun _ => ?_⟩; conv => whnf) | (refine ⟨fun _ => ?_, fun hx => absurd (Eq.symm hx) Bool.false_ne_true⟩; conv => whnf) | (refine ⟨_, rfl, ?_⟩; conv => whnf) | (refine ⟨mulOk_r (by decide), ?_⟩; conv => whnf) | (refine ⟨mulOk_l (by decide), ?_⟩; conv => whnf) | (refine ⟨(nofun : _ ≠ Wd.other), ?_⟩; conv => whnf) | (refine ⟨Or.inl (Eq.refl Wd.lst), ?_⟩; conv => whnf) | (refine ⟨Or.inr (Eq.refl Wd.tup), ?_⟩; conv => whnf) | (refine ⟨by decide, ?_⟩; conv => whnf))); exact main 61 (by decide) (by decide)
  | false => (conv => whnf); (repeat (first | (refine ⟨fun hx => absurd hx Bool.false_ne_true, fun _ => ?_⟩; conv => whnf) | (refine ⟨fun _ => ?_, fun hx => absurd (Eq.symm hx) Bool.false_ne_true⟩; conv => whnf) | (refine ⟨_, rfl, ?_⟩; conv => whnf) | (refine ⟨mulOk_r (by decide), ?_⟩; conv => whnf) | (refine ⟨mulOk_l (by decide), ?_⟩; conv => whnf) | (refine ⟨(nofun : _ ≠ Wd.other), ?_⟩; conv => whnf) | (refine ⟨Or.inl (Eq.refl Wd.lst), ?_⟩; conv => whnf) | (refine ⟨Or.inr (Eq.refl Wd.tup), ?_⟩; conv => whnf) | (refine ⟨by decide, ?_⟩; conv => whnf))); exact main 8 (by decide) (by decide)
end Tx
set_option Elab.async false
set_option linter.all false
set_option maxRecDepth 100000
set_option maxHeartbeats 4000000
namespace Tx
open PySem Mp
open PySem.PyData (strOk)
theorem pool_all {s : Str} (m : s ∈ pool) : nameB s = true ∧ strOk s = true := by
  have := List.all_eq_true.mp pool_ok s m
  simpa using this
theorem perm_pop {α : Type} {A ns pl : List α} {k : Nat} {x : α} (e : ns[k]? = some x) (p : (A ++ ns).Perm pl) : ((A ++ [x]) ++ ns.eraseIdx k).Perm pl := by
  refine List.Perm.trans ?_ p
  rw [List.append_assoc]
  refine List.Perm.append_left A ?_
  obtain ⟨l, rfl⟩ := List.getElem?_eq_some_iff.mp e
  have h : ∀ (ns : List α) (k : Nat) (l : k < ns.length), (ns[k] :: ns.eraseIdx k).Perm ns := by
    intro ns
    induction ns with
    | nil => intro k l; simp at l
    | cons y ys ih =>
      intro k l
      cases k with
      | zero => exact List.Perm.refl _
      | succ k =>
        simp only [List.getElem_cons_succ, List.eraseIdx_cons_succ]
        exact (List.Perm.swap _ _ _).trans (List.Perm.cons y (ih k (by simpa using l)))
  exact h ns k l
theorem s_blocks {n : Nat} (hn : i__law_blocks < n) {h : Hh} (S : St h) {m p : Nat} (m1 : m ≤ 12) (p0 : 0 < p) (p1 : p ≤ 6) :
    CallP (phi xs defs n i__law_blocks [.ref 1, .int (m : Nat), .int (p : Nat)] h)
      (fun d h' => (∃ bs : List Bk, d = .tup (bs.map Bk.d) ∧ bs.length = m ∧ (∀ b ∈ bs, b.Ok) ∧ (bs.map Bk.nm).Nodup) ∧ St h' ∧ Frm [1] h h') X0 := by
  refine fn_ok hn rfl rfl (stab_d S) stabX0 ?_
  (conv => whnf)
  refine callz (s_pool (by decide)) ?_
  rintro _ h1 ⟨a, rfl, la, ea, F1⟩
  have S1 := S.pure F1
  have a0 : a ≠ 0 := by have := S.len; omega
  have a1 : a ≠ 1 := by have := S.len; omega
  (conv => whnf)
  refine ⟨by omega, ?_⟩
  (conv => whnf)
  refine compInv (fun rs ys h2 => St h2 ∧ Frm [1, a] h1 h2 ∧ ∃ (bs : List Bk) (ns : List Str), rs = bs.map Bk.d ∧ h2[a]? = some (.lst (ns.map .str)) ∧ bs.length + ys.length = m ∧ (bs.map Bk.nm ++ ns).Perm pool ∧ ∀ b ∈ bs, 1 ≤ b.ts.length ∧ b.ts.length ≤ 6 ∧ Rg 0 60 b.ts ∧ (0 ≤ b.a ∧ b.a ≤ 9972) ∧ (0 ≤ b.b ∧ b.b ≤ 9972)) ?_ ?_ ?_ ?_
  · dsimp only; rw [rngD_len]; unfold sizeLine; omega
  · refine ⟨S1, Frm.refl, [], pool, rfl, ea, by dsimp only; rw [rngD_len]; simp, List.Perm.refl _, fun _ m => nomatch m⟩
  · rintro rs x ys h2 ⟨S2, F2, bs, ns, rfl, e2, l2, p2, q2⟩
    refine ⟨stays_nil, ?_⟩
    (conv => whnf)
    refine callz (s_draw (by decide) S2 (by omega) (by omega)) ?_
    rintro _ h3 ⟨⟨i, rfl, i0, i1⟩, S3, F3⟩
    obtain ⟨i, rfl⟩ : ∃ k : Nat, i = k := ⟨i.toNat, by omega⟩
    have e3 := F3.get (by simpa using a1) e2
    have ln : bs.length + ns.length = 61 := by
      have := p2.length_eq
      rw [List.length_append, List.length_map] at this
      rw [this]; rfl
    simp only [List.length_cons] at l2
    have cast : (1 : Int) + (i : Int) = ((1 + i : Nat) : Int) := by push_cast; rfl
    (conv => whnf)
    rw [cast]
    refine callz (s_block (by decide) S3 e3 a0 a1 (by intro e; subst e; simp at ln; omega) (by omega) (by omega)) ?_
    rintro _ h4 ⟨b, k, rfl, ek, bl, br, ba, bb, S4, F4, e4⟩
    (conv => whnf)
    refine ⟨S4, F2.trans ((F3.mono (by simp)).trans F4), bs ++ [b], ns.eraseIdx k, by simp, e4, by simp; omega, ?_, ?_⟩
    · rw [List.map_append]; exact perm_pop ek p2
    · intro c mc
      rcases List.mem_append.mp mc with mc | mc
      · exact q2 c mc
      · rw [List.mem_singleton.mp mc]; exact ⟨by omega, by omega, br, ba, bb⟩
  · rintro rs h2 ⟨S2, F2, bs, ns, rfl, e2, l2, p2, q2⟩
    refine ⟨stays_nil, ?_⟩
    (conv => whnf); (repeat (first | (refine ⟨fun hx => absurd hx Bool.false_ne_true, fun _ => ?_⟩; conv => whnf) | (refine ⟨fun _ => ?_, fun hx => absurd (Eq.symm hx) Bool.false_ne_true⟩; conv => whnf) | (refine ⟨_, rfl, ?_⟩; conv => whnf) | (refine ⟨mulOk_r (by decide), ?_⟩; conv => whnf) | (refine ⟨mulOk_l (by decide), ?_⟩; conv => whnf) | (refine ⟨(nofun : _ ≠ Wd.other), ?_⟩; conv => whnf) | (refine ⟨Or.inl (Eq.refl Wd.lst), ?_⟩; conv => whnf) | (refine ⟨Or.inr (Eq.refl Wd.tup), ?_⟩; conv => whnf) | (refine ⟨by decide, ?_⟩; conv => whnf)))
    have mem : ∀ b ∈ bs, b.nm ∈ pool := fun b mb => p2.subset (List.mem_append_left _ (List.mem_map_of_mem mb))
    refine ⟨⟨bs, rfl, by simpa using l2, fun b mb => ?_, ?_⟩, S2, ?_⟩
    · obtain ⟨u1, u2, u3, u4, u5⟩ := q2 b mb
      obtain ⟨v1, v2⟩ := pool_all (mem b mb)
      exact ⟨v1, v2, u1, u2, u3, u4, u5⟩
    · have := (p2.nodup_iff).mpr pool_nd
      exact (List.nodup_append.mp this).1
    · exact F1.one.new F2 (by intro c mc; simp at mc; rcases mc with rfl | rfl; exact Or.inl (by simp); exact Or.inr la)
theorem s_begin {n : Nat} (hn : i__law_begin < n) {ns : List Int} (l : ns.length ≤ 63) :
    CallP (phi xs defs n i__law_begin [.fro (ns.map .int)] []) (fun d h' => d = .ref 1 ∧ St h') X0 := by
  refine fn_ok hn rfl rfl (fun d h' p c => ?_) stabX0 ?_
  · obtain ⟨rfl, _⟩ := p
    exact (closD_ref (Nat.zero_le _) c).elim
  (conv => whnf)
  refine compInv (fun rs ys h2 => h2 = [] ∧ ns.map D.int = rs ++ ys) (by dsimp only; rw [List.length_map]; unfold sizeLine; omega) ⟨rfl, rfl⟩ ?_ ?_
  · rintro rs x ys h2 ⟨rfl, e⟩
    refine ⟨stays_nil, ?_⟩
    have mx : x ∈ ns.map D.int := by rw [e]; simp
    obtain ⟨i, _, rfl⟩ := List.mem_map.mp mx
    (conv => whnf); (repeat (first | (refine ⟨fun hx => absurd hx Bool.false_ne_true, fun _ => ?_⟩; conv => whnf) | (refine ⟨fun _ => ?_, fun hx => absurd (Eq.symm hx) Bool.false_ne_true⟩; conv => whnf) | (refine ⟨_, rfl, ?_⟩; conv => whnf) | (refine ⟨mulOk_r (by decide), ?_⟩; conv => whnf) | (refine ⟨mulOk_l (by decide), ?_⟩; conv => whnf) | (refine ⟨(nofun : _ ≠ Wd.other), ?_⟩; conv => whnf) | (refine ⟨Or.inl (Eq.refl Wd.lst), ?_⟩; conv => whnf) | (refine ⟨Or.inr (Eq.refl Wd.tup), ?_⟩; conv => whnf) | (refine ⟨by decide, ?_⟩; conv => whnf)))
    rw [e]; simp
  · rintro rs h2 ⟨rfl, e⟩
    rw [List.append_nil] at e
    subst e
    refine ⟨stays_nil, ?_⟩
    (conv => whnf)
    exact ⟨rfl, St.mk ⟨ns, 0, 0, 7, 3, rfl, rfl, Int.le_refl 0⟩⟩
end Tx
set_option Elab.async false
set_option linter.all false
set_option maxRecDepth 100000
set_option maxHeartbeats 4000000
namespace Tx
open PySem Mp
open PySem.PyData (strOk)
theorem nats_of {P : Nat → Prop} : ∀ {rs : List D}, (∀ r ∈ rs, ∃ i : Nat, r = .int (i : Nat) ∧ P i) → ∃ is : List Nat, rs = nats is ∧ ∀ i ∈ is, P i
  | [], _ => ⟨[], rfl, fun _ m => nomatch m⟩
  | r :: rs, p => by
    obtain ⟨i, rfl, q⟩ := p r List.mem_cons_self
    obtain ⟨is, rfl, q2⟩ := nats_of fun x m => p x (List.mem_cons_of_mem _ m)
    exact ⟨i :: is, rfl, fun j m => by
      rcases List.mem_cons.mp m with rfl | m
      · exact q
      · exact q2 j m⟩
theorem new_cell {h : Hh} {c : Cell} : (h ++ [c])[h.length]? = some c := by
  rw [List.getElem?_append_right (Nat.le_refl _)]; simp
theorem s_graph {n : Nat} (hn : i__law_graph < n) {h : Hh} (S : St h) {m q : Nat} {mode : Int} (m0 : 0 < m) (m1 : m ≤ 12) (q1 : q ≤ 100) :
    CallP (phi xs defs n i__law_graph [.ref 1, .int (m : Nat), .int (q : Nat), .int 3, .int 3, .int mode] h)
      (fun d h' => (∃ (g : Gr) (c : D), d = .tup [g.d, c] ∧ g.Ok) ∧ St h' ∧ Frm [1] h h') X0 := by
  refine fn_ok hn rfl rfl (stab_d S) stabX0 ?_
  (conv => whnf)
  refine callz (s_blocks (p := 3) (by decide) S m1 (by decide) (by decide)) ?_
  rintro _ h1 ⟨⟨bs, rfl, bl, bo, bn⟩, S1, F1⟩
  (conv => whnf)
  refine ⟨by omega, ?_⟩
  (conv => whnf)
  refine comp_draw (fun d => ∃ i : Nat, d = .int (i : Nat) ∧ 1 ≤ i ∧ i ≤ 3) S1 (by dsimp only; rw [rngD_len]; unfold sizeLine; omega) stays_nil (fun _ m => nomatch m) ?_ ?_
  · intro x mx h2 S2 F2 G k
    (conv => whnf)
    refine callz (s_draw (by decide) S2 (by decide) (by decide)) ?_
    rintro _ h3 ⟨⟨i, rfl, i0, i1⟩, S3, F3⟩
    obtain ⟨i, rfl⟩ : ∃ k : Nat, i = k := ⟨i.toNat, by omega⟩
    exact k _ _ ⟨1 + i, by push_cast; rfl, by omega, by omega⟩ S3 F3
  intro rs h2 l p S2 F2
  obtain ⟨cs, rfl, cr⟩ := nats_of p
  have cl : cs.length = m := by rw [List.length_map] at l; dsimp only at l; rw [rngD_len] at l; omega
  have L2 := S2.len
  (conv => whnf)
  refine ⟨_, new_cell, ?_⟩
  have S3 : St (h2 ++ [.lst (nats cs)]) := S2.pure (Frm.app _)
  have F3 : Frm [1] h (h2 ++ [.lst (nats cs)]) := (F1.trans F2).trans (Frm.app _)
  have e3 : (h2 ++ [.lst (nats cs)])[h2.length]? = some (.lst (nats cs)) := new_cell
  have n1 : h2.length ≠ 1 := by omega
  have lh : h.length ≤ h2.length := (F1.trans F2).le
  generalize h2.length = c1 at *
  generalize (h2 ++ [.lst (nats cs)]) = h3 at *
  clear F1 S1 F2 S2 p l
  refine for_inv (fun rs en h' => Frm [] h3 h' ∧ ∃ (g : Nat) (o : Option D) (pre suf : List Nat), en = [some (.ref 1), some (.int (m : Nat)), some (.int (q : Nat)), some (.int 3), some (.int 3), some (.int mode), some (.tup (bs.map Bk.d)), some (.ref c1), some (.int (g : Nat)), o, none, none, none, none, none, none, none, none] ∧ cs = pre ++ suf ∧ rs = nats suf ∧ (∀ x ∈ pre, g ∣ x) ∧ (pre ≠ [] → 0 < g)) ?_ ?_ ?_
  · exact ⟨Frm.refl, 0, none, [], cs, rfl, rfl, rfl, (fun _ m => nomatch m), fun z => (z rfl).elim⟩
  · rintro x rs en h4 ⟨F4, g, o, pre, suf, rfl, ec, er, gd, gp⟩
    refine ⟨stays_frm F4 (fun _ _ => List.not_mem_nil) (fun p m => by simp at m; subst m; exact e3), ?_⟩
    cases suf with
    | nil => cases er
    | cons y ys =>
      cases er
      have cy := cr y (by rw [ec]; simp)
      (conv => whnf)
      refine callz (s_gcd (by decide) (by omega)) ?_
      rintro _ h5 ⟨rfl, F5⟩
      (conv => whnf)
      refine ⟨F4.trans F5, _, _, pre ++ [y], ys, rfl, by rw [ec]; simp, rfl, ?_, ?_⟩
      · intro x mx
        rcases List.mem_append.mp mx with mx | mx
        · exact Nat.dvd_trans (Nat.gcd_dvd_left _ _) (gd x mx)
        · rw [List.mem_singleton.mp mx]; exact Nat.gcd_dvd_right _ _
      · intro _; exact Nat.gcd_pos_of_pos_right _ (by omega)
  · rintro en h4 ⟨F4, g, o, pre, suf, rfl, ec, er, gd, gp⟩
    cases suf with
    | cons y ys => cases er
    | nil =>
    rw [List.append_nil] at ec
    subst ec
    have g0 : 0 < g := gp (by intro e; subst e; simp at cl; omega)
    have gle : ∀ x ∈ cs, g ≤ x := fun x mx => Nat.le_of_dvd (by have := cr x mx; omega) (gd x mx)
    have st4 : stays [(c1, nats cs)] h4 := fun p m => by simp at m; subst m; exact F4.get (by simp) e3
    refine ⟨st4, ?_⟩
    have e4 := F4.get (by simp) e3
    (conv => whnf)
    refine ⟨_, e4, ?_⟩
    (conv => whnf)
    have g3 : g ≤ 3 := by
      cases cs with
      | nil => simp at cl; omega
      | cons y ys => have := cr y (by simp); have := gle y (by simp); omega
    refine comp_map (fun d => match d with
      | .int i => some (.int (i / (g : Int)))
      | _ => none) (by dsimp only; rw [List.length_map]; unfold sizeLine; omega) st4 ?_ ?_
    · intro x mx h5 F5 G k
      obtain ⟨y, my, rfl⟩ := List.mem_map.mp mx
      (conv => whnf)
      refine ⟨by omega, ?_⟩
      (conv => whnf)
      exact k _ Frm.refl
    intro h5 F5
    have e5 : (nats cs).filterMap (fun d => match d with
      | .int i => some (D.int (i / (g : Int)))
      | _ => none) = nats (cs.map (· / g)) := by
      clear ‹∀ x ∈ cs, g ≤ x› cr cl gd gp e4 e3 st4
      induction cs with
      | nil => rfl
      | cons y ys ih => simp only [nats, List.map_cons, List.filterMap_cons] at ih ⊢; rw [ih]; simp
    dsimp only
    rw [e5]
    have cr2 : ∀ x ∈ cs.map (· / g), 1 ≤ x ∧ x ≤ 3 := by
      intro x mx
      obtain ⟨y, my, rfl⟩ := List.mem_map.mp mx
      have := cr y my
      exact ⟨(Nat.one_le_div_iff g0).mpr (gle y my), Nat.le_trans (Nat.div_le_self _ _) this.2⟩
    have cl2 : (cs.map (· / g)).length = m := by rw [List.length_map]; exact cl
    clear e5
    generalize cs.map (· / g) = ds at *
    have S5 := (S3.pure F4).pure F5
    have F6 : Frm [1] h h5 := F3.trans (F4.trans F5).one
    have L5 := S5.len
    (conv => whnf)
    have e6 : (h5 ++ [.lst (nats ds)])[h5.length]? = some (.lst (nats ds)) := new_cell
    have S6 : St (h5 ++ [.lst (nats ds)]) := S5.pure (Frm.app _)
    have F7 : Frm [1] h (h5 ++ [.lst (nats ds)]) := F6.trans (Frm.app _)
    have n5 : h5.length ≠ 1 := by omega
    have l5 : h.length ≤ h5.length := F6.le
    have L6 : h5.length < (h5 ++ [Cell.lst (nats ds)]).length := by simp
    generalize (h5 ++ [.lst (nats ds)]) = h6 at *
    generalize h5.length = c2 at *
    refine ⟨by omega, ?_⟩
    (conv => whnf)
    have e7 : (h6 ++ [.lst []])[h6.length]? = some (.lst []) := new_cell
    have S7 : St (h6 ++ [.lst []]) := S6.pure (Frm.app _)
    have F8 : Frm [1] h (h6 ++ [.lst []]) := F7.trans (Frm.app _)
    have e67 : (h6 ++ [Cell.lst []])[c2]? = some (.lst (nats ds)) := (Frm.app (S := []) _).get (by simp) e6
    have n6 : h6.length ≠ 1 := by omega
    have n62 : h6.length ≠ c2 := by omega
    have l6 : h.length ≤ h6.length := F7.le
    generalize (h6 ++ [.lst []]) = h7 at *
    generalize h6.length = r at *
    refine for_inv (fun rs en h' => St h' ∧ Frm [1] h h' ∧ ∃ (qs : List Qe) (u8 u9 u11 u12 u13 u14 u15 u16 u17 : Option D), en = [some (.ref 1), some (.int (m : Nat)), some (.int (q : Nat)), some (.int 3), some (.int 3), some (.int mode), some (.tup (bs.map Bk.d)), some (.ref c2), u8, u9, some (.ref r), u11, u12, u13, u14, u15, u16, u17] ∧ h'[c2]? = some (.lst (nats ds)) ∧ h'[r]? = some (.lst (qs.map Qe.d)) ∧ (∀ x ∈ qs, x.Ok bs) ∧ qs.length + rs.length = q ∧ ∀ x ∈ rs, ∃ k : Nat, x = .int (k : Nat)) ?_ ?_ ?_
    · refine ⟨S7, F8, [], _, _, _, _, _, _, _, _, _, rfl, e67, e7, (fun _ m => nomatch m), by dsimp only; rw [rngD_len]; simp, ?_⟩
      intro x mx
      obtain ⟨i, e, _⟩ := rngD_mem mx
      exact ⟨i, by rw [e]; simp⟩
    · rintro x rs en h8 ⟨S8, F9, qs, u8, u9, u11, u12, u13, u14, u15, u16, u17, rfl, ed, er, qo, ql, xr⟩
      refine ⟨stays_nil, ?_⟩
      obtain ⟨k, rfl⟩ := xr _ List.mem_cons_self
      have bts : ∀ b ∈ bs, 1 ≤ b.ts.length ∧ b.ts.length ≤ 6 := fun b mb => ⟨(bo b mb).l1, (bo b mb).l6⟩
      refine cutN 1 (fun en h' => St h' ∧ Frm [1] h8 h' ∧ ∃ (s t e : Nat) (w8 w9 w11 w12 w13 w14 w16 w17 : Option D), en = [some (.ref 1), some (.int (m : Nat)), some (.int (q : Nat)), some (.int 3), some (.int 3), some (.int mode), some (.tup (bs.map Bk.d)), some (.ref c2), w8, w9, some (.ref r), w11, w12, w13, w14, some (.ref e), w16, w17] ∧ e ≠ 1 ∧ s < m ∧ t < m ∧ h'[e]? = some (.lst [.int (s : Nat), .int (t : Nat)])) ?_ ?_
      · have L8 := S8.len
        (conv => whnf)
        refine ⟨fun hc => ?_, fun hc => ?_⟩
        · have hk : (k : Int) < (m : Int) - 1 := by simpa using hc
          have cast : (k : Int) + 1 = ((k + 1 : Nat) : Int) := by push_cast; rfl
          (conv => whnf)
          rw [cast]
          refine callz (s_draw (by decide) S8 (by omega) (by omega)) ?_
          rintro _ h9 ⟨⟨j, rfl, j0, j1⟩, S9, F10⟩
          obtain ⟨j, rfl⟩ : ∃ z : Nat, j = z := ⟨j.toNat, by omega⟩
          have L9 := S9.len
          (conv => whnf)
          have S9' : St (h9 ++ [.lst [.int ((k + 1 : Nat) : Int), .int (j : Int)]]) := S9.pure (Frm.app _)
          refine callz (s_draw (by decide) S9' (by decide) (by decide)) ?_
          rintro _ h10 ⟨⟨w, rfl, w0, w1⟩, S10, F11⟩
          have e10 := F11.get (by simp; omega) (new_cell (h := h9) (c := .lst [.int ((k + 1 : Nat) : Int), .int (j : Int)]))
          have F12 : Frm [1] h8 h10 := F10.trans ((Frm.app _).trans F11)
          have L10 := S10.len
          (conv => whnf)
          refine ⟨fun hc => ?_, fun hc => ?_⟩
          · (conv => whnf)
            refine ⟨_, e10, _, rfl, ?_⟩
            (conv => whnf)
            refine ⟨_, e10, _, rfl, ?_⟩
            (conv => whnf)
            exact ⟨S10.pure (Frm.app _), F12.trans (Frm.app _), j, k + 1, _, _, _, _, _, _, _, _, _, rfl, by omega, by omega, by omega, new_cell⟩
          · exact ⟨S10, F12, k + 1, j, _, _, _, _, _, _, _, _, _, rfl, by omega, by omega, by omega, e10⟩
        · (conv => whnf)
          refine callz (s_draw (by decide) S8 (by omega) (by omega)) ?_
          rintro _ h9 ⟨⟨i, rfl, i0, i1⟩, S9, F10⟩
          obtain ⟨i, rfl⟩ : ∃ z : Nat, i = z := ⟨i.toNat, by omega⟩
          (conv => whnf)
          refine callz (s_draw (by decide) S9 (by omega) (by omega)) ?_
          rintro _ h10 ⟨⟨j, rfl, j0, j1⟩, S10, F11⟩
          obtain ⟨j, rfl⟩ : ∃ z : Nat, j = z := ⟨j.toNat, by omega⟩
          have L10 := S10.len
          (conv => whnf)
          exact ⟨S10.pure (Frm.app _), (F10.trans F11).trans (Frm.app _), i, j, _, _, _, _, _, _, _, _, _, rfl, by omega, by omega, by omega, new_cell⟩
      · rintro en h9 ⟨S9, F10, s, t, e, w8, w9, w11, w12, w13, w14, w16, w17, rfl, ne, hs, ht, ee⟩
        have ed9 := F10.get (by simpa using n5) ed
        (conv => whnf)
        refine ⟨_, ee, _, rfl, ?_⟩
        (conv => whnf)
        refine ⟨_, ee, _, rfl, ?_⟩
        (conv => whnf)
        refine callz (s_draw (by decide) S9 (by decide) (by decide)) ?_
        rintro _ h10 ⟨⟨i, rfl, i0, i1⟩, S10, F11⟩
        have ed10 := F11.get (by simpa using n5) ed9
        have ee10 := F11.get (by simpa using ne) ee
        (conv => whnf)
        refine callz (s_rates (by decide) S10 ed10 n5 (by omega) (by omega) (by omega) (by omega) cr2 bts (by omega) (by omega)) ?_
        rintro _ h11 ⟨⟨gs, tk, rfl, go, to, ts⟩, S11, F12⟩
        have ed11 := F12.get (by simpa using n5) ed10
        have ee11 := F12.get (by simpa using ne) ee10
        (conv => whnf)
        refine ⟨_, sq_sum (Or.inr rfl) tk [], ?_⟩
        (conv => whnf)
        refine ⟨_, ee11, _, rfl, ?_⟩
        (conv => whnf)
        refine ⟨_, ed11, _, at_map (by omega), ?_⟩
        have c3 := cr2 ds[t] (List.getElem_mem _)
        have tp := to.pos
        have full : 0 ≤ tk.sum * ((ds[t] : Nat) : Int) ∧ tk.sum * ((ds[t] : Nat) : Int) ≤ 1000 := by
          generalize ds[t] = z at c3
          have : z = 1 ∨ z = 2 ∨ z = 3 := by omega
          rcases this with rfl | rfl | rfl <;> push_cast <;> omega
        (conv => whnf)
        refine ⟨mulOk_l (by omega), ?_⟩
        (conv => whnf)
        refine ⟨_, ee11, _, rfl, ?_⟩
        (conv => whnf)
        refine ⟨_, ee11, _, rfl, ?_⟩
        (conv => whnf)
        refine callz (s_start (by decide) S11 full.1 full.2) ?_
        rintro _ h12 ⟨⟨st, rfl, st0, st1⟩, S12, F13⟩
        have ee12 := F13.get (by simpa using ne) ee11
        have F14 := F10.trans (F11.trans (F12.trans F13))
        have er12 := F14.get (by simpa using n6) er
        (conv => whnf)
        refine ⟨_, er12, ?_⟩
        (conv => whnf)
        refine ⟨_, ee12, _, rfl, ?_⟩
        (conv => whnf)
        refine ⟨_, ee12, _, rfl, ?_⟩
        (conv => whnf)
        refine ⟨_, rfl, ?_⟩
        obtain ⟨w, hw, w60⟩ : ∃ w : Nat, (if st < 60 then st else 60) = (w : Int) ∧ w ≤ 60 := ⟨(if st < 60 then st else 60).toNat, by split <;> omega, by split <;> omega⟩
        (conv => whnf)
        rw [hw]
        refine callz (s_tokens (by decide) S12 (by omega)) ?_
        rintro _ h13 ⟨⟨is, rfl, il, ir⟩, S13, F15⟩
        have er13 := F15.get (by simpa using n6) er12
        have ed13 := F15.get (by simpa using n5) ((F12.trans F13).get (by simpa using n5) ed10)
        have L13 := (List.getElem?_eq_some_iff.mp er13).1
        simp only [List.length_cons] at ql
        (conv => whnf)
        refine ⟨_, er13, by rw [List.length_map]; unfold sizeLine; omega, ?_⟩
        have r0 : r ≠ 0 := by have := S.len; omega
        (conv => whnf)
        refine ⟨S13.frm (T := [r]) (Frm.set (by simp)) (by simpa using r0.symm) (by simpa using n6.symm), ?_, qs ++ [⟨s, gs, t, tk, is⟩], _, _, _, _, _, _, _, _, _, rfl, ?_, ?_, ?_, by simp; omega, fun x mx => xr x (List.mem_cons_of_mem _ mx)⟩
        · exact (F9.trans (F14.trans F15)).new (Frm.set (S := [r]) (by simp)) (by intro c mc; simp at mc; subst mc; exact Or.inr l6)
        · rw [List.getElem?_set_ne n62]; exact ed13
        · rw [List.getElem?_set_self L13, List.map_append]; rfl
        · intro x mx
          rcases List.mem_append.mp mx with mx | mx
          · exact qo x mx
          · rw [List.mem_singleton.mp mx]; exact ⟨by dsimp only; omega, by dsimp only; omega, go, to, ir, by dsimp only; omega⟩
    · rintro en h8 ⟨S8, F9, qs, u8, u9, u11, u12, u13, u14, u15, u16, u17, rfl, ed, er, qo, ql, xr⟩
      refine ⟨stays_nil, ?_⟩
      (conv => whnf)
      refine ⟨by omega, ?_⟩
      (conv => whnf)
      refine compInv (fun rs ys h2 => Frm [] h8 h2 ∧ ∀ y ∈ ys, ∃ k : Nat, y = .int (k : Nat) ∧ k < m) (by dsimp only; rw [rngD_len]; unfold sizeLine; omega) ⟨Frm.refl, ?_⟩ ?_ ?_
      · intro y my
        obtain ⟨i, e, l⟩ := rngD_mem my
        exact ⟨i, by rw [e]; simp, by omega⟩
      · rintro rs x ys h9 ⟨F10, xr⟩
        refine ⟨stays_nil, ?_⟩
        obtain ⟨k, rfl, kl⟩ := xr _ List.mem_cons_self
        have b6 := (bo bs[k] (List.getElem_mem _)).l6
        (conv => whnf)
        refine ⟨_, F10.get (by simp) ed, _, at_map (by omega), ?_⟩
        (conv => whnf)
        refine ⟨_, at_map (by omega), ?_⟩
        (conv => whnf)
        refine ⟨_, rfl, ?_⟩
        (conv => whnf)
        refine ⟨nofun, ?_⟩
        (conv => whnf)
        refine ⟨mulOk_r (by rw [List.length_map]; omega), ?_⟩
        exact ⟨F10, fun y my => xr y (List.mem_cons_of_mem _ my)⟩
      · rintro rs h9 ⟨F10, _⟩
        refine ⟨stays_nil, ?_⟩
        have er9 := F10.get (by simp) er
        (conv => whnf)
        refine ⟨Or.inl rfl, ?_⟩
        (conv => whnf)
        refine ⟨_, er9, ?_⟩
        (conv => whnf)
        refine ⟨Or.inl rfl, ?_⟩
        (conv => whnf)
        refine ⟨⟨⟨bs, qs⟩, _, rfl, ⟨by dsimp only; omega, by dsimp only; omega, by simp at ql ⊢; omega, bo, bn, qo⟩⟩, S8.pure F10, F9.trans F10.one⟩
end Tx
set_option Elab.async false
set_option linter.all false
set_option maxRecDepth 100000
set_option maxHeartbeats 4000000
namespace Tx
open PySem Mp
open PySem.PyData (strOk)
theorem s_world {n : Nat} (hn : i__law_world < n) {h : Hh} (S : St h) {z : Int} :
    CallP (phi xs defs n i__law_world [.ref 1, .int z] h) (fun d h' => (∃ g : Gr, d = g.d ∧ g.Ok) ∧ St h' ∧ Frm [1] h h') X0 := by
  refine fn_ok hn rfl rfl (stab_d S) stabX0 ?_
  refine cutN 2 (fun en h' => St h' ∧ Frm [1] h h' ∧ ∃ m : Nat, 0 < m ∧ m ≤ 12 ∧ en = [some (.ref 1), some (.int z), some (.int (m : Nat)), none, none]) ?_ ?_
  · (conv => whnf)
    refine callz (s_draw (by decide) S (by decide) (by decide)) ?_
    rintro _ h1 ⟨⟨i, rfl, i0, i1⟩, S1, F1⟩
    obtain ⟨i, rfl⟩ : ∃ k : Nat, i = k := ⟨i.toNat, by omega⟩
    (conv => whnf)
    refine ⟨fun hc => ?_, fun hc => ?_⟩
    · (conv => whnf)
      refine callz (s_draw (by decide) S1 (by decide) (by decide)) ?_
      rintro _ h2 ⟨⟨j, rfl, j0, j1⟩, S2, F2⟩
      obtain ⟨j, rfl⟩ : ∃ k : Nat, j = k := ⟨j.toNat, by omega⟩
      (conv => whnf)
      exact ⟨S2, F1.trans F2, 6 + j, by omega, by omega, by push_cast; rfl⟩
    · (conv => whnf)
      exact ⟨S1, F1, 1 + i, by omega, by omega, by push_cast; rfl⟩
  · rintro en h1 ⟨S1, F1, m, m0, m1, rfl⟩
    (conv => whnf)
    refine callz (s_draw (by decide) S1 (by omega) (by omega)) ?_
    rintro _ h2 ⟨⟨i, rfl, i0, i1⟩, S2, F2⟩
    obtain ⟨i, rfl⟩ : ∃ k : Nat, i = k := ⟨i.toNat, by omega⟩
    (conv => whnf)
    refine callz (s_draw (by decide) S2 (by decide) (by decide)) ?_
    rintro _ h3 ⟨⟨j, rfl, j0, j1⟩, S3, F3⟩
    (conv => whnf)
    refine callz (s_graph (by decide) S3 m0 m1 (by omega)) ?_
    rintro _ h4 ⟨⟨g, c, rfl, go⟩, S4, F4⟩
    (conv => whnf)
    exact ⟨⟨g, rfl, go⟩, S4, F1.trans (F2.trans (F3.trans F4))⟩
/-- a place of a graph -/
structure Spot (g : Gr) (d : D) : Prop where
  ex : ∃ (w : Str) (p : Nat), d = .tup [.str w, .int (p : Nat)] ∧ ((w = "start" ∧ p < g.qs.length) ∨ (w = "rates" ∧ p < g.qs.length) ∨ (w = "times" ∧ p < g.bs.length) ∨ (w = "deed" ∧ p < g.bs.length))
theorem s_spot {n : Nat} (hn : i__law_spot < n) {h : Hh} (S : St h) {g : Gr} (go : g.Ok) :
    CallP (phi xs defs n i__law_spot [.ref 1, g.d] h) (fun d h' => Spot g d ∧ St h' ∧ Frm [1] h h') X0 := by
  refine fn_ok hn rfl rfl (stab_d S) stabX0 ?_
  have b1 := go.b1
  have b60 := go.b60
  have q160 := go.q160
  (conv => whnf)
  refine callz (s_draw (by decide) S (by decide) (by decide)) ?_
  rintro _ h1 ⟨⟨i, rfl, i0, i1⟩, S1, F1⟩
  obtain ⟨i, rfl⟩ : ∃ k : Nat, i = k := ⟨i.toNat, by omega⟩
  have second : ∀ z : Int, z % 2 = 0 ∨ z % 2 = 1 := fun z => by omega
  have fin : wS.wSs xs (phi xs defs i__law_spot) (d15.body.drop 2) [some (.ref 1), some g.d, some (.int (i : Nat))] h1 ⟨fun _ _ => False, fun d h' => Spot g d ∧ St h' ∧ Frm [1] h h', fun _ _ => False, fun _ _ => False⟩ X0 := by
    (conv => whnf)
    refine ⟨_, rfl, ?_⟩
    (conv => whnf)
    refine ⟨by decide, ?_⟩
    (conv => whnf)
    rcases second (i : Int) with e | e
    · refine ⟨_, new_cell, .str "times", by rw [e]; rfl, ?_⟩
      (conv => whnf); (repeat (first | (refine ⟨fun hx => absurd hx Bool.false_ne_true, fun _ => ?_⟩; conv => whnf) | (refine ⟨fun _ => ?_, fun hx => absurd (Eq.symm hx) Bool.false_ne_true⟩; conv => whnf) | (refine ⟨_, rfl, ?_⟩; conv => whnf) | (refine ⟨mulOk_r (by decide), ?_⟩; conv => whnf) | (refine ⟨mulOk_l (by decide), ?_⟩; conv => whnf) | (refine ⟨(nofun : _ ≠ Wd.other), ?_⟩; conv => whnf) | (refine ⟨Or.inl (Eq.refl Wd.lst), ?_⟩; conv => whnf) | (refine ⟨Or.inr (Eq.refl Wd.tup), ?_⟩; conv => whnf) | (refine ⟨by decide, ?_⟩; conv => whnf)))
      refine callz (s_draw (by decide) (S1.pure (Frm.app _)) (by simp; omega) (by simp; omega)) ?_
      rintro _ h2 ⟨⟨j, rfl, j0, j1⟩, S2, F2⟩
      obtain ⟨j, rfl⟩ : ∃ k : Nat, j = k := ⟨j.toNat, by omega⟩
      (conv => whnf)
      exact ⟨⟨_, j, rfl, Or.inr (Or.inr (Or.inl ⟨rfl, by simp at j1; omega⟩))⟩, S2, F1.trans ((Frm.app _).trans F2)⟩
    · refine ⟨_, new_cell, .str "deed", by rw [e]; rfl, ?_⟩
      (conv => whnf); (repeat (first | (refine ⟨fun hx => absurd hx Bool.false_ne_true, fun _ => ?_⟩; conv => whnf) | (refine ⟨fun _ => ?_, fun hx => absurd (Eq.symm hx) Bool.false_ne_true⟩; conv => whnf) | (refine ⟨_, rfl, ?_⟩; conv => whnf) | (refine ⟨mulOk_r (by decide), ?_⟩; conv => whnf) | (refine ⟨mulOk_l (by decide), ?_⟩; conv => whnf) | (refine ⟨(nofun : _ ≠ Wd.other), ?_⟩; conv => whnf) | (refine ⟨Or.inl (Eq.refl Wd.lst), ?_⟩; conv => whnf) | (refine ⟨Or.inr (Eq.refl Wd.tup), ?_⟩; conv => whnf) | (refine ⟨by decide, ?_⟩; conv => whnf)))
      refine callz (s_draw (by decide) (S1.pure (Frm.app _)) (by simp; omega) (by simp; omega)) ?_
      rintro _ h2 ⟨⟨j, rfl, j0, j1⟩, S2, F2⟩
      obtain ⟨j, rfl⟩ : ∃ k : Nat, j = k := ⟨j.toNat, by omega⟩
      (conv => whnf)
      exact ⟨⟨_, j, rfl, Or.inr (Or.inr (Or.inr ⟨rfl, by simp at j1; omega⟩))⟩, S2, F1.trans ((Frm.app _).trans F2)⟩
  (conv => whnf)
  refine ⟨fun hc => ?_, fun hc => ?_⟩
  · have i2 : (i : Int) < 2 := by simpa using hc
    (conv => whnf)
    refine ⟨_, rfl, ?_⟩
    (conv => whnf)
    refine ⟨nofun, ?_⟩
    (conv => whnf)
    refine ⟨fun hc => ?_, fun hc => ?_⟩
    · have l0 : 0 < g.qs.length := by simpa using hc
      (conv => whnf)
      have i01 : i = 0 ∨ i = 1 := by omega
      rcases i01 with rfl | rfl
      · refine ⟨_, new_cell, .str "start", rfl, ?_⟩
        (conv => whnf); (repeat (first | (refine ⟨fun hx => absurd hx Bool.false_ne_true, fun _ => ?_⟩; conv => whnf) | (refine ⟨fun _ => ?_, fun hx => absurd (Eq.symm hx) Bool.false_ne_true⟩; conv => whnf) | (refine ⟨_, rfl, ?_⟩; conv => whnf) | (refine ⟨mulOk_r (by decide), ?_⟩; conv => whnf) | (refine ⟨mulOk_l (by decide), ?_⟩; conv => whnf) | (refine ⟨(nofun : _ ≠ Wd.other), ?_⟩; conv => whnf) | (refine ⟨Or.inl (Eq.refl Wd.lst), ?_⟩; conv => whnf) | (refine ⟨Or.inr (Eq.refl Wd.tup), ?_⟩; conv => whnf) | (refine ⟨by decide, ?_⟩; conv => whnf)))
        refine callz (s_draw (by decide) (S1.pure (Frm.app _)) (by simp; omega) (by simp; omega)) ?_
        rintro _ h2 ⟨⟨j, rfl, j0, j1⟩, S2, F2⟩
        obtain ⟨j, rfl⟩ : ∃ k : Nat, j = k := ⟨j.toNat, by omega⟩
        (conv => whnf)
        exact ⟨⟨_, j, rfl, Or.inl ⟨rfl, by simp at j1; omega⟩⟩, S2, F1.trans ((Frm.app _).trans F2)⟩
      · refine ⟨_, new_cell, .str "rates", rfl, ?_⟩
        (conv => whnf); (repeat (first | (refine ⟨fun hx => absurd hx Bool.false_ne_true, fun _ => ?_⟩; conv => whnf) | (refine ⟨fun _ => ?_, fun hx => absurd (Eq.symm hx) Bool.false_ne_true⟩; conv => whnf) | (refine ⟨_, rfl, ?_⟩; conv => whnf) | (refine ⟨mulOk_r (by decide), ?_⟩; conv => whnf) | (refine ⟨mulOk_l (by decide), ?_⟩; conv => whnf) | (refine ⟨(nofun : _ ≠ Wd.other), ?_⟩; conv => whnf) | (refine ⟨Or.inl (Eq.refl Wd.lst), ?_⟩; conv => whnf) | (refine ⟨Or.inr (Eq.refl Wd.tup), ?_⟩; conv => whnf) | (refine ⟨by decide, ?_⟩; conv => whnf)))
        refine callz (s_draw (by decide) (S1.pure (Frm.app _)) (by simp; omega) (by simp; omega)) ?_
        rintro _ h2 ⟨⟨j, rfl, j0, j1⟩, S2, F2⟩
        obtain ⟨j, rfl⟩ : ∃ k : Nat, j = k := ⟨j.toNat, by omega⟩
        (conv => whnf)
        exact ⟨⟨_, j, rfl, Or.inr (Or.inl ⟨rfl, by simp at j1; omega⟩)⟩, S2, F1.trans ((Frm.app _).trans F2)⟩
    · exact fin
  · (conv => whnf)
    exact ⟨fun hx => absurd hx Bool.false_ne_true, fun _ => fin⟩
end Tx
set_option Elab.async false
set_option linter.all false
set_option maxRecDepth 100000
set_option maxHeartbeats 4000000
namespace Tx
open PySem Mp
open PySem.PyData (strOk)
theorem s_time {n : Nat} (hn : i__law_time < n) {h : Hh} (S : St h) :
    CallP (phi xs defs n i__law_time [.ref 1] h) (fun d h' => (∃ i, d = .int i ∧ 0 ≤ i ∧ i ≤ 1000000) ∧ St h' ∧ Frm [1] h h') X0 := by
  refine fn_ok hn rfl rfl (stab_d S) stabX0 ?_
  (conv => whnf)
  refine callz (s_draw (by decide) S (by decide) (by decide)) ?_
  rintro _ h1 ⟨⟨i, rfl, i0, i1⟩, S1, F1⟩
  (conv => whnf)
  refine ⟨fun hc => ?_, fun hc => ?_⟩
  · (conv => whnf)
    refine ⟨_, pow_eq (by decide) (by decide) (by decide), ?_⟩
    (conv => whnf)
    refine callz (s_draw (by decide) S1 (by decide) (by decide)) ?_
    rintro _ h2 ⟨⟨j, rfl, j0, j1⟩, S2, F2⟩
    (conv => whnf)
    have e : (10 : Int) ^ Int.toNat 6 = 1000000 := by decide
    exact ⟨⟨_, rfl, by rw [e]; omega, by rw [e]; omega⟩, S2, F1.trans F2⟩
  · (conv => whnf)
    refine ⟨fun hc => ?_, fun hc => ?_⟩
    · (conv => whnf)
      exact ⟨⟨_, rfl, by omega, by omega⟩, S1, F1⟩
    · (conv => whnf)
      refine callz (s_draw (by decide) S1 (by decide) (by decide)) ?_
      rintro _ h2 ⟨⟨j, rfl, j0, j1⟩, S2, F2⟩
      exact ⟨⟨_, rfl, by omega, by omega⟩, S2, F1.trans F2⟩
theorem draws_tup {n : Nat} {h : Hh} {p : Nat} {m : Int} {own : List Nat} {c : E} {e : E} {en : En} {K : List D → Hh → Prop} : True := trivial
theorem s_deed_at {n : Nat} (hn : i__law_deed_at < n) {h : Hh} (S : St h) {g : Gr} (go : g.Ok) {sp : D} (so : Spot g sp) :
    CallP (phi xs defs n i__law_deed_at [.ref 1, g.d, sp] h) (fun d h' => RD d ∧ St h' ∧ Frm [1] h h') X0 := by
  refine fn_ok hn rfl rfl (stab_d S) stabX0 ?_
  obtain ⟨w, p, rfl, cs⟩ := so.ex
  have ne : ∀ a b : Str, a ≠ b → decide (a = b) = true → False := fun a b n e => n (of_decide_eq_true e)
  rcases cs with ⟨rfl, l⟩ | ⟨rfl, l⟩ | ⟨rfl, l⟩ | ⟨rfl, l⟩
  · -- start
    (conv => whnf)
    refine ⟨_, eqStr k_start k_deed, ?_⟩
    (conv => whnf)
    refine ⟨fun hc => (ne _ _ n_start_deed hc).elim, fun _ => ?_⟩
    (conv => whnf)
    refine ⟨_, eqStr k_start k_times, ?_⟩
    (conv => whnf)
    refine ⟨fun hc => (ne _ _ n_start_times hc).elim, fun _ => ?_⟩
    (conv => whnf)
    refine ⟨_, eqStr k_start k_start, ?_⟩
    (conv => whnf)
    refine ⟨fun _ => ?_, fun hc => (of_decide_eq_false hc rfl).elim⟩
    refine cutN 2 (fun en h' => St h' ∧ Frm [1] h h' ∧ ∃ m : Nat, m < 100 ∧ en = [some (.ref 1), some g.d, some (.tup [.str "start", .int (p : Nat)]), none, none, none, some (.str "start"), some (.int (p : Nat)), none, some (.int (m : Nat)), none, none]) ?_ ?_
    · (conv => whnf)
      refine callz (s_draw (by decide) S (by decide) (by decide)) ?_
      rintro _ h1 ⟨⟨i, rfl, i0, i1⟩, S1, F1⟩
      obtain ⟨i, rfl⟩ : ∃ k : Nat, i = k := ⟨i.toNat, by omega⟩
      (conv => whnf)
      refine callz (s_rare (by decide) S1 (by decide) (by decide)) ?_
      rintro _ h2 ⟨⟨b, rfl⟩, S2, F2⟩
      (conv => whnf)
      refine ⟨fun hc => ?_, fun hc => ?_⟩
      · (conv => whnf)
        refine callz (s_draw (by decide) S2 (by decide) (by decide)) ?_
        rintro _ h3 ⟨⟨j, rfl, j0, j1⟩, S3, F3⟩
        obtain ⟨j, rfl⟩ : ∃ k : Nat, j = k := ⟨j.toNat, by omega⟩
        have cj : (59 : Int) + (j : Int) = ((59 + j : Nat) : Int) := by omega
        (conv => whnf)
        exact ⟨S3, F1.trans (F2.trans F3), 59 + j, by omega, by rw [cj]; rfl⟩
      · exact ⟨S2, F1.trans F2, i, by omega, rfl⟩
    · rintro en h1 ⟨S1, F1, m, ml, rfl⟩
      (conv => whnf)
      refine callz (s_tokens (by decide) S1 (by omega)) ?_
      rintro _ h2 ⟨⟨is, rfl, il, ir⟩, S2, F2⟩
      (conv => whnf)
      exact ⟨⟨_, p, [is], rfl, k_start, Or.inl rfl, fun y m => by rw [List.mem_singleton.mp m]; omega⟩, S2, F1.trans F2⟩
  · -- rates
    (conv => whnf)
    refine ⟨_, eqStr k_rates k_deed, ?_⟩
    (conv => whnf)
    refine ⟨fun hc => (ne _ _ n_rates_deed hc).elim, fun _ => ?_⟩
    (conv => whnf)
    refine ⟨_, eqStr k_rates k_times, ?_⟩
    (conv => whnf)
    refine ⟨fun hc => (ne _ _ n_rates_times hc).elim, fun _ => ?_⟩
    (conv => whnf)
    refine ⟨_, eqStr k_rates k_start, ?_⟩
    (conv => whnf)
    refine ⟨fun hc => (ne _ _ n_rates_start hc).elim, fun _ => ?_⟩
    (conv => whnf)
    refine ⟨_, rfl, ?_⟩
    (conv => whnf)
    refine ⟨_, at_map l, ?_⟩
    have qo := go.qk g.qs[p] (List.getElem_mem _)
    have gl := qo.gs.len
    have tl := qo.tk.len
    have gb := go.bk (g.bs[g.qs[p].s]'qo.hs) (List.getElem_mem _)
    have tb := go.bk (g.bs[g.qs[p].t]'qo.ht) (List.getElem_mem _)
    have g1 := gb.l1
    have g6 := gb.l6
    have t1 := tb.l1
    have t6 := tb.l6
    (conv => whnf)
    refine callz (s_draw (by decide) S (by decide) (by decide)) ?_
    rintro _ h1 ⟨⟨i, rfl, i0, i1⟩, S1, F1⟩
    obtain ⟨i, rfl⟩ : ∃ k : Nat, i = k := ⟨i.toNat, by omega⟩
    have ci : (1 : Int) + (i : Int) = ((1 + i : Nat) : Int) := by push_cast; rfl
    (conv => whnf)
    refine ⟨_, rfl, ?_⟩
    (conv => whnf)
    refine ⟨nofun, ?_⟩
    (conv => whnf)
    rw [ci, List.length_map]
    refine callz (s_split (by decide) S1 (by omega) (by omega) (by omega)) ?_
    rintro _ h2 ⟨⟨gs, rfl, gsl, gsr, gss⟩, S2, F2⟩
    (conv => whnf)
    refine callz (s_draw (by decide) S2 (by decide) (by decide)) ?_
    rintro _ h3 ⟨⟨j, rfl, j0, j1⟩, S3, F3⟩
    obtain ⟨j, rfl⟩ : ∃ k : Nat, j = k := ⟨j.toNat, by omega⟩
    have cj : (1 : Int) + (j : Int) = ((1 + j : Nat) : Int) := by push_cast; rfl
    (conv => whnf)
    refine ⟨_, rfl, ?_⟩
    (conv => whnf)
    refine ⟨nofun, ?_⟩
    (conv => whnf)
    rw [cj, List.length_map]
    refine callz (s_split (by decide) S3 (by omega) (by omega) (by omega)) ?_
    rintro _ h4 ⟨⟨tk, rfl, tkl, tkr, tks⟩, S4, F4⟩
    have F5 := F1.trans (F2.trans (F3.trans F4))
    (conv => whnf)
    refine callz (s_rare (by decide) S4 (by decide) (by decide)) ?_
    rintro _ h5 ⟨⟨b, rfl⟩, S5, F6⟩
    (conv => whnf)
    refine ⟨fun hc => ?_, fun hc => ?_⟩
    · (conv => whnf)
      refine comp_map (fun _ => some (.int 12)) (by dsimp only; rw [List.length_map]; unfold sizeLine; omega) stays_nil ?_ ?_
      · intro x mx h6 F7 G k
        (conv => whnf)
        exact k _ Frm.refl
      intro h6 F7
      dsimp only
      rw [fm_some, List.map_map, show ((fun _ => D.int 12) ∘ D.int) = D.int ∘ (fun _ => (12 : Int)) from rfl, ← List.map_map]
      (conv => whnf)
      refine ⟨Or.inl rfl, ?_⟩
      (conv => whnf)
      exact ⟨⟨_, p, [gs.map fun _ => 12, tk], rfl, k_rates, Or.inr rfl, fun y m => by simp at m; rcases m with rfl | rfl <;> first | (rw [List.length_map]; omega) | omega⟩, S5.pure F7, F5.trans (F6.trans F7.one)⟩
    · (conv => whnf)
      exact ⟨⟨_, p, [gs, tk], rfl, k_rates, Or.inr rfl, fun y m => by simp at m; rcases m with rfl | rfl <;> omega⟩, S5, F5.trans F6⟩
  · -- times
    (conv => whnf)
    refine ⟨_, eqStr k_times k_deed, ?_⟩
    (conv => whnf)
    refine ⟨fun hc => (ne _ _ n_times_deed hc).elim, fun _ => ?_⟩
    (conv => whnf)
    refine ⟨_, eqStr k_times k_times, ?_⟩
    (conv => whnf)
    refine ⟨fun _ => ?_, fun hc => (of_decide_eq_false hc rfl).elim⟩
    have bo := go.bk g.bs[p] (List.getElem_mem _)
    have b1 := bo.l1
    have b6 := bo.l6
    refine cutN 2 (fun en h' => St h' ∧ Frm [1] h h' ∧ ∃ m : Nat, m < 100 ∧ en = [some (.ref 1), some g.d, some (.tup [.str "times", .int (p : Nat)]), none, none, none, some (.str "times"), some (.int (p : Nat)), some (.int (m : Nat)), none, none, none]) ?_ ?_
    · (conv => whnf)
      refine ⟨_, rfl, ?_⟩
      (conv => whnf)
      refine ⟨_, at_map l, ?_⟩
      (conv => whnf)
      refine ⟨_, rfl, ?_⟩
      (conv => whnf)
      refine ⟨nofun, ?_⟩
      (conv => whnf)
      refine callz (s_draw (by decide) S (by decide) (by decide)) ?_
      rintro _ h1 ⟨⟨i, rfl, i0, i1⟩, S1, F1⟩
      (conv => whnf)
      refine ⟨fun hc => ?_, fun hc => ?_⟩
      · (conv => whnf)
        refine callz (s_draw (by decide) S1 (by decide) (by decide)) ?_
        rintro _ h2 ⟨⟨j, rfl, j0, j1⟩, S2, F2⟩
        obtain ⟨j, rfl⟩ : ∃ k : Nat, j = k := ⟨j.toNat, by omega⟩
        have cj : (1 : Int) + (j : Int) = ((1 + j : Nat) : Int) := by omega
        (conv => whnf)
        exact ⟨S2, F1.trans F2, 1 + j, by omega, by rw [cj]; rfl⟩
      · exact ⟨S1, F1, _, by rw [List.length_map]; omega, rfl⟩
    · rintro en h1 ⟨S1, F1, m, ml, rfl⟩
      (conv => whnf)
      refine ⟨by omega, ?_⟩
      (conv => whnf)
      refine comp_draw (fun d => ∃ i, d = .int i ∧ 0 ≤ i) S1 (by dsimp only; rw [rngD_len]; unfold sizeLine; omega) stays_nil (fun _ m => nomatch m) ?_ ?_
      · intro x mx h2 S2 F2 G k
        (conv => whnf)
        refine callz (s_draw (by decide) S2 (by decide) (by decide)) ?_
        rintro _ h3 ⟨⟨i, rfl, i0, i1⟩, S3, F3⟩
        exact k _ _ ⟨i, rfl, i0⟩ S3 F3
      intro rs h2 rl rp S2 F2
      obtain ⟨is, rfl, _⟩ := intsOf rp
      dsimp only at rl
      rw [rngD_len, List.length_map] at rl
      (conv => whnf)
      refine ⟨Or.inl rfl, ?_⟩
      (conv => whnf)
      exact ⟨⟨_, p, [is], rfl, k_times, Or.inl rfl, fun y m => by rw [List.mem_singleton.mp m]; omega⟩, S2, F1.trans F2⟩
  · -- deed
    (conv => whnf)
    refine ⟨_, eqStr k_deed k_deed, ?_⟩
    (conv => whnf)
    refine ⟨fun _ => ?_, fun hc => (of_decide_eq_false hc rfl).elim⟩
    (conv => whnf)
    refine callz (s_token (by decide) S) ?_
    rintro _ h1 ⟨⟨i, rfl, i0, i1⟩, S1, F1⟩
    (conv => whnf)
    refine callz (s_token (by decide) S1) ?_
    rintro _ h2 ⟨⟨j, rfl, j0, j1⟩, S2, F2⟩
    (conv => whnf)
    exact ⟨⟨_, p, [[i, j]], rfl, k_deed, Or.inl rfl, fun y m => by rw [List.mem_singleton.mp m]; simp⟩, S2, F1.trans F2⟩
end Tx
set_option Elab.async false
set_option linter.all false
set_option maxRecDepth 100000
set_option maxHeartbeats 4000000
namespace Tx
open PySem Mp
open PySem.PyData (strOk)
theorem pu_all {n : Nat} {x : D} {xs : List D} (p : Pu n x) (q : ∀ y ∈ xs, Pu n y) : ∀ y ∈ x :: xs, Pu n y := fun y m => by
  rcases List.mem_cons.mp m with rfl | m
  · exact p
  · exact q y m
theorem pu_nil {n : Nat} : ∀ y ∈ ([] : List D), Pu n y := fun _ m => nomatch m
theorem k_ (s : Str) (h : strOk s = true) {n : Nat} : Pu n (.str s) := Pu.str h
/-- what bent hands out -/
def BOk (h h' : Hh) (d : D) : Prop := (∃ (a : Nat) (ys : List D), d = .ref a ∧ h.length ≤ a ∧ h'[a]? = some (.lst ys)) ∨ DePu d
theorem sl_len {xs : List D} {lo hi : Option Int} {n : Nat} (l : xs.length ≤ n) : (cutD xs lo hi).length ≤ n := Nat.le_trans len_cutD l
theorem s_bent {n : Nat} (hn : i__law_bent < n) {h : Hh} (S : St h) {g : Gr} (go : g.Ok) {d : D} (rd : RD d) :
    CallP (phi xs defs n i__law_bent [.ref 1, g.d, d] h) (fun d h' => BOk h h' d ∧ St h' ∧ Frm [1] h h') X0 := by
  have H : ∃ (ds : List D) (x0 : D) (is : List Int), d = .tup ds ∧ (∀ x ∈ ds, El x) ∧ ds.length ≤ 4 ∧ L2.atI ds 0 = some x0 ∧ (∃ w, x0 = .str w ∧ strOk w = true) ∧ L2.atI ds (-1) = some (.tup (is.map .int)) ∧ is.length < 1000 := by
    obtain ⟨w, p, ys, rfl, so, yl, y1⟩ := rd.ex
    have pa : ∀ x ∈ (D.str w :: .int (p : Nat) :: ys.map fun is => D.tup (is.map .int)), El x := all_c (El.str so) (all_c El.int fun x m => by
      obtain ⟨is, mi, rfl⟩ := List.mem_map.mp m
      exact El.ints (by have := y1 is mi; omega))
    rcases ys with _ | ⟨y, ys⟩
    · simp at yl
    rcases ys with _ | ⟨y2, ys⟩
    · exact ⟨_, .str w, y, rfl, pa, by simp, rfl, ⟨w, rfl, so⟩, rfl, y1 y (by simp)⟩
    rcases ys with _ | ⟨y3, ys⟩
    · exact ⟨_, .str w, y2, rfl, pa, by simp, rfl, ⟨w, rfl, so⟩, rfl, y1 y2 (by simp)⟩
    · simp at yl
  obtain ⟨ds, x0, is, rfl, pd, dl, e0, ⟨w0, rfl, w0k⟩, eL, isl⟩ := H
  have p0 : El (.str w0) := El.str w0k
  have pc : ∀ lo hi, ∀ x ∈ cutD ds lo hi, El x := fun lo hi x m => pd x (mem_cutD m)
  have lc : ∀ lo hi, (cutD ds lo hi).length ≤ 4 := fun lo hi => sl_len dl
  refine fn_ok hn rfl rfl (fun d h' p c => ?_) stabX0 ?_
  · obtain ⟨b, S', F⟩ := p
    refine ⟨?_, S'.take S.len, F.take⟩
    rcases b with ⟨a, ys, rfl, l, e⟩ | b
    · exact (closD_ref l c).elim
    · exact Or.inr b
  have pt : ∀ {ys : List D}, (∀ x ∈ ys, El x) → ys.length ≤ 1000 → ∀ (h' : Hh), BOk h h' (.tup ys) := fun q l h' => Or.inr (DePu.tup q l)
  have ap : ∀ {P : D → Prop} {ys zs : List D}, (∀ x ∈ ys, P x) → (∀ x ∈ zs, P x) → ∀ x ∈ ys ++ zs, P x := by
    intro P ys zs a b x m
    rcases List.mem_append.mp m with m | m
    · exact a x m
    · exact b x m
  have la : ∀ {ys zs : List D} {a b : Nat}, ys.length ≤ a → zs.length ≤ b → a + b ≤ 1000 → (ys ++ zs).length ≤ 1000 := fun p q r => by rw [List.length_append]; omega
  (conv => whnf)
  refine callz (s_draw (by decide) S (by decide) (by decide)) ?_
  rintro _ h1 ⟨⟨i, rfl, i0, i1⟩, S1, F1⟩
  have L1 := S1.len
  (conv => whnf)
  refine ⟨fun hc => ?_, fun hc => ?_⟩
  · -- 0
    (conv => whnf)
    refine callz (s_pick_l (by decide) (S1.pure (Frm.app _)) (by omega) new_cell (by simp) (by simp)) ?_
    rintro x h2 ⟨mx, S2, F2⟩
    have px : El x := (all_c (El.str (s := "time") (by decide +kernel)) (all_c (El.str (s := "Times") (by decide +kernel)) (all_c (El.str (s := "starts") (by decide +kernel)) (all_c (El.str (s := "rate") (by decide +kernel)) (all_c (El.str (s := "block") (by decide +kernel)) (all_c (El.str (s := "") (by decide +kernel)) (all_c El.non (all_c El.int (all_c (El.tup (pu_all (k_ "start" k_start) pu_nil) (by simp)) all_n)))))))) : ∀ y ∈ _, El y) x mx
    (conv => whnf)
    refine ⟨by have := lc (some 1) none; simp only [List.length_cons, List.length_nil]; unfold sizeLine; omega, ?_⟩
    (conv => whnf)
    exact ⟨pt (ap (all_c px all_n) (pc _ _)) (la (a := 1) (b := 4) (by simp) (lc _ _) (by decide)) _, S2, F1.trans ((Frm.app _).trans F2)⟩
  (conv => whnf)
  refine ⟨fun hc => ?_, fun hc => ?_⟩
  · -- 1
    (conv => whnf); (repeat (first | (refine ⟨fun hx => absurd hx Bool.false_ne_true, fun _ => ?_⟩; conv => whnf) | (refine ⟨fun _ => ?_, fun hx => absurd (Eq.symm hx) Bool.false_ne_true⟩; conv => whnf) | (refine ⟨_, rfl, ?_⟩; conv => whnf) | (refine ⟨mulOk_r (by decide), ?_⟩; conv => whnf) | (refine ⟨mulOk_l (by decide), ?_⟩; conv => whnf) | (refine ⟨(nofun : _ ≠ Wd.other), ?_⟩; conv => whnf) | (refine ⟨Or.inl (Eq.refl Wd.lst), ?_⟩; conv => whnf) | (refine ⟨Or.inr (Eq.refl Wd.tup), ?_⟩; conv => whnf) | (refine ⟨by decide, ?_⟩; conv => whnf)))
    refine callz (s_pick_l (by decide) (S1.pure (Frm.app _)) (by omega) new_cell (by simp) (by simp)) ?_
    rintro x h2 ⟨mx, S2, F2⟩
    have px : El x := (all_c El.int (all_c El.int (all_c El.int (all_c El.bl (all_c El.bl (all_c El.non (all_c (El.str (s := "0") (by decide +kernel)) (all_c (El.tup (pu_all Pu.int pu_nil) (by simp)) (all_c El.int all_n)))))))) : ∀ y ∈ _, El y) x mx
    (conv => whnf)
    refine ⟨_, e0, ?_⟩
    (conv => whnf)
    refine ⟨by have := lc (some 2) none; simp only [List.length_cons, List.length_nil]; unfold sizeLine; omega, ?_⟩
    (conv => whnf)
    exact ⟨pt (ap (all_c p0 (all_c px all_n)) (pc _ _)) (la (a := 2) (b := 4) (by simp) (lc _ _) (by decide)) _, S2, F1.trans ((Frm.app _).trans F2)⟩
  (conv => whnf)
  refine ⟨fun hc => ?_, fun hc => ?_⟩
  · -- 2
    (conv => whnf)
    exact ⟨pt (pc _ _) (by have := lc none (some (-1)); omega) _, S1, F1⟩
  (conv => whnf)
  refine ⟨fun hc => ?_, fun hc => ?_⟩
  · -- 3
    (conv => whnf)
    refine ⟨_, eL, ?_⟩
    (conv => whnf)
    refine ⟨show ds.length + 1 ≤ 2 ^ 24 by omega, ?_⟩
    (conv => whnf)
    exact ⟨pt (ap pd (all_c (El.ints (by omega)) all_n)) (la (a := 4) (b := 1) dl (by simp) (by decide)) _, S1, F1⟩
  (conv => whnf)
  refine ⟨fun hc => ?_, fun hc => ?_⟩
  · -- 4
    (conv => whnf)
    refine ⟨Or.inr rfl, ?_⟩
    (conv => whnf)
    refine ⟨_, e0, ?_⟩
    (conv => whnf)
    refine callz (s_pick_l (by decide) ((S1.pure (Frm.app _)).pure (Frm.app _)) (by simp only [List.length_append, List.length_cons, List.length_nil]; omega) new_cell (by simp) (by simp)) ?_
    rintro x h2 ⟨mx, S2, F2⟩
    refine ⟨?_, S2, F1.trans ((Frm.app _).trans ((Frm.app _).trans F2))⟩
    rcases List.mem_cons.mp mx with rfl | mx
    · refine Or.inl ⟨_, ds, rfl, F1.le, F2.get (by simp; omega) ?_⟩
      rw [List.getElem?_append_left (by simp)]
      exact new_cell
    · have nt : ∀ {z : D}, Pu 1 z → (∀ xs, z = .tup xs → False) → DePu z := fun p n => DePu.of p n
      have px : DePu x := (all_c (nt Pu.non (by intro _ e; cases e)) (all_c (nt Pu.int (by intro _ e; cases e)) (all_c (nt (k_ "" (by decide +kernel)) (by intro _ e; cases e)) (all_c (nt (k_ "times" k_times) (by intro _ e; cases e)) (all_c (DePu.tup all_n (by simp)) (all_c (DePu.tup (all_c (El.str k_times) all_n) (by simp)) (all_c (DePu.tup (all_c (El.str k_rates) (all_c El.int all_n)) (by simp)) (all_c (nt (Pu.str w0k) (by intro _ e; cases e)) all_n))))))) : ∀ y ∈ _, DePu y) x mx
      exact Or.inr px
  -- the last part bent
  refine nilS ?_
  dsimp only
  refine cutN 2 (fun en h' => St h' ∧ Frm [1] h h' ∧ ∃ (a : Nat) (ys : List D) (u5 u6 u7 : Option D), en = [some (.ref 1), some g.d, some (.tup ds), some (.int i), some (.ref a), u5, u6, u7] ∧ h'[a]? = some (.lst ys) ∧ (∀ y ∈ ys, Pu 1 y) ∧ ys.length ≤ 1000) ?_ ?_
  · (conv => whnf)
    refine ⟨_, eL, ?_⟩
    (conv => whnf)
    refine ⟨Or.inr rfl, ?_⟩
    (conv => whnf)
    have S2 : St (h1 ++ [.lst (is.map .int)]) := S1.pure (Frm.app _)
    have F2 : Frm [1] h (h1 ++ [.lst (is.map .int)]) := F1.trans (Frm.app _)
    have e2 : (h1 ++ [.lst (is.map .int)])[h1.length]? = some (.lst (is.map D.int)) := new_cell
    have la : h.length ≤ h1.length := F1.le
    have n1 : h1.length ≠ 1 := by omega
    have n0 : h1.length ≠ 0 := by omega
    generalize (h1 ++ [.lst (is.map .int)]) = h2 at *
    generalize h1.length = a at *
    have pi : ∀ y ∈ is.map D.int, Pu 1 y := fun y m => by
      obtain ⟨z, _, rfl⟩ := List.mem_map.mp m
      exact Pu.int
    have cell : ∀ {h3 : Hh} {ys : List D}, St h3 → Frm [1] h h3 → a < h3.length → St (h3.set a (.lst ys)) ∧ Frm [1] h (h3.set a (.lst ys)) ∧ (h3.set a (.lst ys))[a]? = some (.lst ys) := fun S3 F3 l => ⟨S3.frm (T := [a]) (Frm.set (by simp)) (by simpa using n0.symm) (by simpa using n1.symm), F3.new (Frm.set (S := [a]) (by simp)) (by intro c mc; simp at mc; subst mc; exact Or.inr la), List.getElem?_set_self l⟩
    refine ⟨fun hc => ?_, fun hc => ?_⟩
    · (conv => whnf)
      refine ⟨_, e2, ?_⟩
      (conv => whnf)
      refine callz (s_draw (by decide) S2 (by decide) (by decide)) ?_
      rintro _ h3 ⟨⟨j, rfl, j0, j1⟩, S3, F3⟩
      have e3 := F3.get (by simpa using n1) e2
      (conv => whnf)
      refine ⟨_, e3, by rw [List.length_map]; unfold sizeLine; omega, ?_⟩
      obtain ⟨c1, c2, c3⟩ := cell (ys := is.map D.int ++ [.int j]) S3 (F2.trans F3) (List.getElem?_eq_some_iff.mp e3).1
      exact ⟨c1, c2, _, _, _, _, _, rfl, c3, ap pi (pu_all Pu.int pu_nil), by rw [List.length_append, List.length_map]; simp; omega⟩
    · (conv => whnf)
      refine ⟨fun hc => ?_, fun hc => ?_⟩
      · (conv => whnf)
        refine ⟨_, e2, ?_⟩
        (conv => whnf)
        have st2 : stays [(a, is.map D.int)] h2 := fun p m => by simp at m; subst m; exact e2
        refine comp_map (fun _ => some (.int 0)) (by dsimp only; rw [List.length_map]; unfold sizeLine; omega) st2 ?_ ?_
        · intro x mx h3 F3 G k
          obtain ⟨z, _, rfl⟩ := List.mem_map.mp mx
          (conv => whnf)
          exact k _ Frm.refl
        intro h3 F3
        dsimp only
        rw [fm_some]
        (conv => whnf)
        refine ⟨(S2.pure F3).pure (Frm.app _), (F2.trans F3.one).trans (Frm.app _), _, _, _, _, _, rfl, new_cell, ?_, by rw [List.length_map, List.length_map]; omega⟩
        intro y m
        obtain ⟨z, _, rfl⟩ := List.mem_map.mp m
        exact Pu.int
      · (conv => whnf)
        refine ⟨_, e2, ?_⟩
        (conv => whnf)
        refine ⟨nofun, ?_⟩
        (conv => whnf)
        refine ⟨fun hc => ?_, fun hc => ?_⟩
        · have l0 : 0 < is.length := by simpa using hc
          (conv => whnf)
          refine ⟨_, e2, ?_⟩
          (conv => whnf)
          refine ⟨nofun, ?_⟩
          (conv => whnf)
          rw [List.length_map]
          refine callz (s_draw (by decide) S2 (by omega) (by omega)) ?_
          rintro _ h3 ⟨⟨j, rfl, j0, j1⟩, S3, F3⟩
          obtain ⟨j, rfl⟩ : ∃ k : Nat, j = k := ⟨j.toNat, by omega⟩
          have e3 := F3.get (by simpa using n1) e2
          (conv => whnf)
          refine ⟨fun hc => ?_, fun hc => ?_⟩
          · (conv => whnf)
            refine ⟨_, e3, ?_⟩
            (conv => whnf)
            refine ⟨_, j, _, e3, rfl, by omega, List.getElem?_eq_getElem (by rw [List.length_map]; omega), ?_⟩
            obtain ⟨c1, c2, c3⟩ := cell (ys := (is.map D.int).eraseIdx j) S3 (F2.trans F3) (List.getElem?_eq_some_iff.mp e3).1
            (conv => whnf)
            exact ⟨c1, c2, _, _, _, _, _, rfl, c3, (fun y m => pi y (List.mem_of_mem_eraseIdx m)), by rw [List.length_eraseIdx, List.length_map]; split <;> omega⟩
          · (conv => whnf); (repeat (first | (refine ⟨fun hx => absurd hx Bool.false_ne_true, fun _ => ?_⟩; conv => whnf) | (refine ⟨fun _ => ?_, fun hx => absurd (Eq.symm hx) Bool.false_ne_true⟩; conv => whnf) | (refine ⟨_, rfl, ?_⟩; conv => whnf) | (refine ⟨mulOk_r (by decide), ?_⟩; conv => whnf) | (refine ⟨mulOk_l (by decide), ?_⟩; conv => whnf) | (refine ⟨(nofun : _ ≠ Wd.other), ?_⟩; conv => whnf) | (refine ⟨Or.inl (Eq.refl Wd.lst), ?_⟩; conv => whnf) | (refine ⟨Or.inr (Eq.refl Wd.tup), ?_⟩; conv => whnf) | (refine ⟨by decide, ?_⟩; conv => whnf)))
            have L3 := S3.len
            refine callz (s_pick_l (by decide) (S3.pure (Frm.app _)) (by omega) new_cell (by simp) (by simp)) ?_
            rintro x h4 ⟨mx, S4, F4⟩
            have px : Pu 1 x := (pu_all Pu.int (pu_all Pu.int (pu_all Pu.int (pu_all Pu.int (pu_all Pu.int (pu_all Pu.bl (pu_all Pu.non (pu_all (k_ "1" (by decide +kernel)) (pu_all (Pu.tup (pu_all Pu.int pu_nil)) (pu_all Pu.int pu_nil))))))))) : ∀ y ∈ _, Pu 1 y) x mx
            have e4 := F4.get (by simpa using n1) ((Frm.app (S := []) _).get (by simp) e3)
            (conv => whnf)
            refine ⟨_, _, e4, ixN_nat (by rw [List.length_map]; omega), ?_⟩
            obtain ⟨c1, c2, c3⟩ := cell (ys := (is.map D.int).set j x) S4 (F2.trans (F3.trans ((Frm.app _).trans F4))) (List.getElem?_eq_some_iff.mp e4).1
            (conv => whnf)
            refine ⟨c1, c2, _, _, _, _, _, rfl, c3, fun y m => ?_, by rw [List.length_set, List.length_map]; omega⟩
            rcases List.mem_or_eq_of_mem_set m with m | rfl
            · exact pi y m
            · exact px
        · exact ⟨S2, F2, _, _, _, _, _, rfl, e2, pi, by rw [List.length_map]; omega⟩
  · rintro en h2 ⟨S2, F2, a, ys, u5, u6, u7, rfl, e2, py, yl⟩
    (conv => whnf)
    refine ⟨_, e2, ?_⟩
    (conv => whnf)
    refine ⟨Or.inl rfl, ?_⟩
    (conv => whnf)
    refine ⟨by have := lc none (some (-1)); simp only [List.length_cons, List.length_nil]; unfold sizeLine; omega, ?_⟩
    (conv => whnf)
    exact ⟨pt (ap (pc _ _) (all_c (El.tup py yl) all_n)) (la (a := 4) (b := 1) (lc _ _) (by simp) (by decide)) _, S2, F2⟩
end Tx
set_option Elab.async false
set_option linter.all false
set_option maxRecDepth 100000
set_option maxHeartbeats 4000000
namespace Tx
open PySem Mp
open PySem.PyData (strOk)
/-- rows of facts -/
def Fs (h : Hh) (fs : List Fa) : Prop := fs.length ≤ 40 ∧ ∀ f ∈ fs, f.Ok [1] h
theorem Fs.frm {h h' : Hh} {fs : List Fa} (p : Fs h fs) (F : Frm [1] h h') : Fs h' fs := ⟨p.1, facts_frm p.2 F fun _ m => m⟩
theorem s_facts {n : Nat} (hn : i__law_facts < n) {h : Hh} (S : St h) {g : Gr} (go : g.Ok) {z : Int} :
    CallP (phi xs defs n i__law_facts [.ref 1, g.d, .int z] h) (fun d h' => (∃ fs : List Fa, d = .tup (fs.map Fa.d) ∧ Fs h' fs) ∧ St h' ∧ Frm [1] h h') X0 := by
  refine fn_ok hn rfl rfl (fun d h' p c => ?_) stabX0 ?_
  · obtain ⟨⟨fs, rfl, p1, p2⟩, S', F⟩ := p
    exact ⟨⟨fs, rfl, p1, facts_take p2 c⟩, S'.take S.len, F.take⟩
  refine cutN 2 (fun en h' => St h' ∧ Frm [1] h h' ∧ ∃ m : Nat, m ≤ 40 ∧ en = [some (.ref 1), some g.d, some (.int z), some (.int (m : Nat)), none, none, none, none, none]) ?_ ?_
  · (conv => whnf)
    refine callz (s_draw (by decide) S (by decide) (by decide)) ?_
    rintro _ h1 ⟨⟨i, rfl, i0, i1⟩, S1, F1⟩
    obtain ⟨i, rfl⟩ : ∃ k : Nat, i = k := ⟨i.toNat, by omega⟩
    (conv => whnf)
    refine ⟨fun hc => ?_, fun hc => ?_⟩
    · (conv => whnf)
      refine callz (s_draw (by decide) S1 (by decide) (by decide)) ?_
      rintro _ h2 ⟨⟨j, rfl, j0, j1⟩, S2, F2⟩
      obtain ⟨j, rfl⟩ : ∃ k : Nat, j = k := ⟨j.toNat, by omega⟩
      have cj : (38 : Int) + (j : Int) = ((38 + j : Nat) : Int) := by omega
      (conv => whnf)
      exact ⟨S2, F1.trans F2, 38 + j, by omega, by rw [cj]; rfl⟩
    · exact ⟨S1, F1, i, by omega, rfl⟩
  rintro en h1 ⟨S1, F1, m, m40, rfl⟩
  (conv => whnf)
  refine callz (s_draw (by decide) S1 (by decide) (by decide)) ?_
  rintro _ h2 ⟨⟨i, rfl, i0, i1⟩, S2, F2⟩
  (conv => whnf)
  refine callz (s_spot (by decide) S2 go) ?_
  rintro sp h3 ⟨so, S3, F3⟩
  generalize decide (i = 0) = bb
  (conv => whnf)
  refine ⟨by omega, ?_⟩
  (conv => whnf)
  have S4 : St (h3 ++ [.lst []]) := S3.pure (Frm.app _)
  have F4 : Frm [1] h (h3 ++ [.lst []]) := F1.trans (F2.trans (F3.trans (Frm.app _)))
  have e4 : (h3 ++ [Cell.lst []])[h3.length]? = some (.lst []) := new_cell
  have L3 := S3.len
  have lr : h.length ≤ h3.length := (F1.trans (F2.trans F3)).le
  have r1 : h3.length ≠ 1 := by omega
  have r0 : h3.length ≠ 0 := by omega
  generalize (h3 ++ [.lst []]) = h4 at *
  generalize h3.length = r at *
  refine for_inv (fun rs en h' => St h' ∧ Frm [1] h h' ∧ ∃ (fs : List Fa) (sp : D) (u7 u8 : Option D), en = [some (.ref 1), some g.d, some (.int z), some (.int (m : Nat)), some (.bl bb), some sp, some (.ref r), u7, u8] ∧ Spot g sp ∧ h'[r]? = some (.lst (fs.map Fa.d)) ∧ (∀ f ∈ fs, f.Ok [1, r] h') ∧ fs.length + rs.length = m) ?_ ?_ ?_
  · exact ⟨S4, F4, [], sp, _, _, rfl, so, e4, (fun _ m => nomatch m), by dsimp only; rw [rngD_len]; simp⟩
  · rintro x rs en h5 ⟨S5, F5, fs, sp, u7, u8, rfl, so, er, fo, fl⟩
    refine ⟨stays_nil, ?_⟩
    simp only [List.length_cons] at fl
    refine cutN 1 (fun en h' => St h' ∧ Frm [1] h5 h' ∧ ∃ (sp : D) (u7 u8 : Option D), en = [some (.ref 1), some g.d, some (.int z), some (.int (m : Nat)), some (.bl bb), some sp, some (.ref r), u7, u8] ∧ Spot g sp) ?_ ?_
    · (conv => whnf)
      refine callz (s_draw (by decide) S5 (by decide) (by decide)) ?_
      rintro _ h6 ⟨⟨i, rfl, i0, i1⟩, S6, F6⟩
      (conv => whnf)
      refine ⟨fun hc => ?_, fun hc => ?_⟩
      · (conv => whnf)
        refine callz (s_spot (by decide) S6 go) ?_
        rintro sp2 h7 ⟨so2, S7, F7⟩
        exact ⟨S7, F6.trans F7, _, _, _, rfl, so2⟩
      · exact ⟨S6, F6, _, _, _, rfl, so⟩
    rintro en h6 ⟨S6, F6, sp2, v7, v8, rfl, so2⟩
    refine cutN 2 (fun en h' => St h' ∧ Frm [1] h5 h' ∧ ∃ (sp dd : D) (u7 : Option D), en = [some (.ref 1), some g.d, some (.int z), some (.int (m : Nat)), some (.bl bb), some sp, some (.ref r), u7, some dd] ∧ Spot g sp ∧ DeedOk [1, r] h' dd) ?_ ?_
    · dsimp only [List.drop]
      (conv => whnf)
      refine callz (s_deed_at (by decide) S6 go so2) ?_
      rintro dd h7 ⟨rd, S7, F7⟩
      have rl : r < h7.length := (List.getElem?_eq_some_iff.mp ((F6.trans F7).get (by simpa using r1) er)).1
      have no : DeedOk [1, r] h7 dd := Or.inr rd.pu
      (conv => whnf)
      refine ⟨fun hc => ?_, fun hc => ?_⟩
      · (conv => whnf)
        refine callz (s_draw (by decide) S7 (by decide) (by decide)) ?_
        rintro _ h8 ⟨⟨i, rfl, i0, i1⟩, S8, F8⟩
        (conv => whnf)
        refine ⟨fun hc => ?_, fun hc => ?_⟩
        · (conv => whnf)
          refine callz (s_bent (by decide) S8 go rd) ?_
          rintro bd h9 ⟨bo, S9, F9⟩
          refine ⟨S9, F6.trans (F7.trans (F8.trans F9)), _, _, _, rfl, so2, ?_⟩
          rcases bo with ⟨a, ys, rfl, l, e⟩ | p
          · have := F8.le
            exact Or.inl ⟨a, ys, rfl, by simp; have := S8.len; omega, e⟩
          · exact Or.inr p
        · exact ⟨S8, F6.trans (F7.trans F8), _, _, _, rfl, so2, no.frm F8 (by simp)⟩
      · (conv => whnf)
        exact ⟨fun hx => absurd hx Bool.false_ne_true, fun _ => ⟨S7, F6.trans F7, _, _, _, rfl, so2, no⟩⟩
    rintro en h7 ⟨S7, F7, sp3, dd, w7, rfl, so3, dk⟩
    have er7 := F7.get (by simpa using r1) er
    (conv => whnf)
    refine ⟨_, er7, ?_⟩
    (conv => whnf)
    refine callz (s_time (by decide) S7) ?_
    rintro _ h8 ⟨⟨t, rfl, t0, t1⟩, S8, F8⟩
    (conv => whnf)
    refine callz (s_time (by decide) S8) ?_
    rintro _ h9 ⟨⟨s, rfl, s0, s1⟩, S9, F9⟩
    have er9 := (F8.trans F9).get (by simpa using r1) er7
    (conv => whnf)
    refine ⟨_, er9, by rw [List.length_map]; unfold sizeLine; omega, ?_⟩
    have FF : Frm [1, r] h5 (h9.set r (.lst (fs.map Fa.d ++ [.tup [.int t, .int s, dd]]))) := ((F7.trans (F8.trans F9)).mono (by simp)).trans (Frm.set (by simp))
    (conv => whnf)
    refine ⟨S9.frm (T := [r]) (Frm.set (by simp)) (by simpa using r0.symm) (by simpa using r1.symm), F5.new FF (by intro c mc; simp at mc; rcases mc with rfl | rfl; exact Or.inl (by simp); exact Or.inr lr), fs ++ [⟨t, s, dd⟩], _, _, _, rfl, so3, ?_, ?_, by simp; omega⟩
    · rw [List.getElem?_set_self (List.getElem?_eq_some_iff.mp er9).1, List.map_append]; rfl
    · intro f mf
      rcases List.mem_append.mp mf with mf | mf
      · exact facts_frm fo FF (fun _ m => m) f mf
      · rw [List.mem_singleton.mp mf]
        exact ⟨t0, t1, s0, s1, (dk.frm (F8.trans F9) (by simp)).frm (Frm.set (S := [r]) (by simp)) (by simp)⟩
  · rintro en h5 ⟨S5, F5, fs, sp, u7, u8, rfl, so, er, fo, fl⟩
    refine ⟨stays_nil, ?_⟩
    (conv => whnf)
    refine ⟨_, er, ?_⟩
    (conv => whnf)
    refine ⟨Or.inl rfl, ?_⟩
    (conv => whnf)
    refine ⟨⟨fs, rfl, by simp at fl; omega, fun f m => ?_⟩, S5, F5⟩
    have q := fo f m
    exact ⟨q.t0, q.t1, q.s0, q.s1, q.dk.mono (by simp)⟩
end Tx
set_option Elab.async false
set_option linter.all false
set_option maxRecDepth 100000
set_option maxHeartbeats 4000000
namespace Tx
open PySem Mp
open PySem.PyData (strOk)
theorem s_whole {n : Nat} (hn : i_whole < n) {h : Hh} {m : Nat} {x : D} (p : Pu m x) {lo hi : Int} :
    CallP (phi xs defs n i_whole [x, .int lo, .int hi] h) (fun d h' => d = .bl (dec (WholeP lo hi x)) ∧ Frm [] h h') X0 := by
  refine fn_ok hn rfl rfl stab_p stabX0 ?_
  cases x with
  | ref a => exact (p.not_ref).elim
  | fro a => exact (p.not_fro).elim
  | int i =>
    (conv => whnf); (repeat (first | (refine ⟨fun hx => absurd hx Bool.false_ne_true, fun _ => ?_⟩; conv => whnf) | (refine ⟨fun _ => ?_, fun hx => absurd (Eq.symm hx) Bool.false_ne_true⟩; conv => whnf) | (refine ⟨_, rfl, ?_⟩; conv => whnf) | (refine ⟨mulOk_r (by decide), ?_⟩; conv => whnf) | (refine ⟨mulOk_l (by decide), ?_⟩; conv => whnf) | (refine ⟨(nofun : _ ≠ Wd.other), ?_⟩; conv => whnf) | (refine ⟨Or.inl (Eq.refl Wd.lst), ?_⟩; conv => whnf) | (refine ⟨Or.inr (Eq.refl Wd.tup), ?_⟩; conv => whnf) | (refine ⟨by decide, ?_⟩; conv => whnf)))
    refine ⟨fun hc => ?_, fun hc => ?_⟩
    · have l : lo ≤ i := by simpa using hc
      (conv => whnf)
      refine ⟨blr ?_, Frm.refl⟩
      rw [decide_eq_true_iff]
      exact ⟨fun u => ⟨i, rfl, l, u⟩, fun ⟨j, e, u, v⟩ => by cases e; exact v⟩
    · have l : ¬ lo ≤ i := by simpa using hc
      (conv => whnf)
      refine ⟨?_, Frm.refl⟩
      rw [dec_f]
      rintro ⟨j, e, u, v⟩
      cases e
      exact l u
  | _ =>
    (conv => whnf); (repeat (first | (refine ⟨fun hx => absurd hx Bool.false_ne_true, fun _ => ?_⟩; conv => whnf) | (refine ⟨fun _ => ?_, fun hx => absurd (Eq.symm hx) Bool.false_ne_true⟩; conv => whnf) | (refine ⟨_, rfl, ?_⟩; conv => whnf) | (refine ⟨mulOk_r (by decide), ?_⟩; conv => whnf) | (refine ⟨mulOk_l (by decide), ?_⟩; conv => whnf) | (refine ⟨(nofun : _ ≠ Wd.other), ?_⟩; conv => whnf) | (refine ⟨Or.inl (Eq.refl Wd.lst), ?_⟩; conv => whnf) | (refine ⟨Or.inr (Eq.refl Wd.tup), ?_⟩; conv => whnf) | (refine ⟨by decide, ?_⟩; conv => whnf)))
    refine ⟨?_, Frm.refl⟩
    rw [dec_f]
    rintro ⟨j, e, _⟩
    cases e
theorem s_nums {n : Nat} (hn : i_is_numbers < n) {h : Hh} {m : Nat} {x : D} (p : Pu m x) {lo hi : Int} (hl : ∀ xs, x = .tup xs → xs.length ≤ 1000) :
    CallP (phi xs defs n i_is_numbers [x, .int lo, .int hi] h) (fun d h' => d = .bl (dec (NumsP lo hi x)) ∧ Frm [] h h') X0 := by
  refine fn_ok hn rfl rfl stab_p stabX0 ?_
  cases x with
  | ref a => exact (p.not_ref).elim
  | fro a => exact (p.not_fro).elim
  | tup ys =>
    have ll := hl ys rfl
    have py : ∃ k, ∀ y ∈ ys, Pu k y := by
      cases m with
      | zero => exact p.tup0.elim
      | succ k => exact ⟨k, p.of_tup⟩
    obtain ⟨k, py⟩ := py
    (conv => whnf); (repeat (first | (refine ⟨fun hx => absurd hx Bool.false_ne_true, fun _ => ?_⟩; conv => whnf) | (refine ⟨fun _ => ?_, fun hx => absurd (Eq.symm hx) Bool.false_ne_true⟩; conv => whnf) | (refine ⟨_, rfl, ?_⟩; conv => whnf) | (refine ⟨mulOk_r (by decide), ?_⟩; conv => whnf) | (refine ⟨mulOk_l (by decide), ?_⟩; conv => whnf) | (refine ⟨(nofun : _ ≠ Wd.other), ?_⟩; conv => whnf) | (refine ⟨Or.inl (Eq.refl Wd.lst), ?_⟩; conv => whnf) | (refine ⟨Or.inr (Eq.refl Wd.tup), ?_⟩; conv => whnf) | (refine ⟨by decide, ?_⟩; conv => whnf)))
    refine comp_map (fun y => some (.bl (dec (WholeP lo hi y)))) (by dsimp only; unfold sizeLine; omega) stays_nil ?_ ?_
    · intro y my h1 F1 G k
      (conv => whnf)
      refine callz (s_whole (by decide) (py y my)) ?_
      rintro _ h2 ⟨rfl, F2⟩
      exact k _ F2
    intro h1 F1
    (conv => whnf)
    refine ⟨_, all_dec [], ?_⟩
    (conv => whnf)
    refine ⟨?_, F1⟩
    congr 2
    exact propext nums_tup.symm
  | _ =>
    (conv => whnf); (repeat (first | (refine ⟨fun hx => absurd hx Bool.false_ne_true, fun _ => ?_⟩; conv => whnf) | (refine ⟨fun _ => ?_, fun hx => absurd (Eq.symm hx) Bool.false_ne_true⟩; conv => whnf) | (refine ⟨_, rfl, ?_⟩; conv => whnf) | (refine ⟨mulOk_r (by decide), ?_⟩; conv => whnf) | (refine ⟨mulOk_l (by decide), ?_⟩; conv => whnf) | (refine ⟨(nofun : _ ≠ Wd.other), ?_⟩; conv => whnf) | (refine ⟨Or.inl (Eq.refl Wd.lst), ?_⟩; conv => whnf) | (refine ⟨Or.inr (Eq.refl Wd.tup), ?_⟩; conv => whnf) | (refine ⟨by decide, ?_⟩; conv => whnf)))
    refine ⟨?_, Frm.refl⟩
    rw [dec_f]
    rintro ⟨is, e, _⟩
    cases e
theorem s_times {n : Nat} (hn : i_is_times < n) {h : Hh} {m : Nat} {x : D} (p : Pu m x) (hl : Sh x) :
    CallP (phi xs defs n i_is_times [x] h) (fun d h' => d = .bl (dec (TimesP x)) ∧ Frm [] h h') X0 := by
  refine fn_ok hn rfl rfl stab_p stabX0 ?_
  (conv => whnf)
  refine callz (s_nums (by decide) p hl) ?_
  rintro _ h1 ⟨rfl, F1⟩
  (conv => whnf)
  refine ⟨fun hc => ?_, fun hc => ?_⟩
  · obtain ⟨is, rfl, r⟩ := dec_iff.mp hc
    (conv => whnf)
    refine ⟨nofun, ?_⟩
    (conv => whnf)
    refine ⟨fun hc => ?_, fun hc => ?_⟩
    · have l1 : (1 : Int) ≤ ((is.map D.int).length : Nat) := of_decide_eq_true hc
      rw [List.length_map] at l1
      (conv => whnf)
      refine ⟨blr ?_, F1⟩
      rw [decide_eq_true_iff, List.length_map]
      constructor
      · intro u; exact ⟨is, ⟨rfl, r⟩, by omega, by omega⟩
      · rintro ⟨js, ⟨e, _⟩, _, u⟩
        rw [tupI_inj e]; omega
    · have l1 : ¬ (1 : Int) ≤ ((is.map D.int).length : Nat) := of_decide_eq_false hc
      rw [List.length_map] at l1
      (conv => whnf)
      refine ⟨?_, F1⟩
      rw [dec_f]
      rintro ⟨js, ⟨e, _⟩, u, _⟩
      rw [← tupI_inj e] at u
      omega
  · (conv => whnf)
    refine ⟨?_, F1⟩
    rw [dec_f]
    rintro ⟨js, e, _⟩
    exact dec_no hc ⟨js, e⟩
theorem s_is_deed {n : Nat} (hn : i_is_deed < n) {h : Hh} {m : Nat} {x : D} (p : Pu m x) (hl : Sh x) :
    CallP (phi xs defs n i_is_deed [x] h) (fun d h' => d = .bl (dec (DeedP x)) ∧ Frm [] h h') X0 := by
  refine fn_ok hn rfl rfl stab_p stabX0 ?_
  (conv => whnf)
  refine callz (s_nums (by decide) p hl) ?_
  rintro _ h1 ⟨rfl, F1⟩
  (conv => whnf)
  refine ⟨fun hc => ?_, fun hc => ?_⟩
  · obtain ⟨is, rfl, r⟩ := dec_iff.mp hc
    (conv => whnf)
    refine ⟨nofun, ?_⟩
    (conv => whnf)
    refine ⟨blr ?_, F1⟩
    rw [decide_eq_true_iff, List.length_map]
    constructor
    · intro u; exact ⟨is, ⟨rfl, r⟩, by omega⟩
    · rintro ⟨js, ⟨e, _⟩, u⟩
      rw [tupI_inj e]; omega
  · (conv => whnf)
    refine ⟨?_, F1⟩
    rw [dec_f]
    rintro ⟨js, e, _⟩
    exact dec_no hc ⟨js, e⟩
theorem s_is_start {n : Nat} (hn : i_is_start < n) {h : Hh} {m : Nat} {x : D} (p : Pu m x) (hl : Sh x) :
    CallP (phi xs defs n i_is_start [x] h) (fun d h' => d = .bl (dec (StartP x)) ∧ Frm [] h h') X0 := by
  refine fn_ok hn rfl rfl stab_p stabX0 ?_
  (conv => whnf)
  refine callz (s_nums (by decide) p hl) ?_
  rintro _ h1 ⟨rfl, F1⟩
  (conv => whnf)
  refine ⟨fun hc => ?_, fun hc => ?_⟩
  · obtain ⟨is, rfl, r⟩ := dec_iff.mp hc
    (conv => whnf)
    refine ⟨nofun, ?_⟩
    (conv => whnf)
    refine ⟨blr ?_, F1⟩
    rw [decide_eq_true_iff, List.length_map]
    constructor
    · intro u; exact ⟨is, ⟨rfl, r⟩, by omega⟩
    · rintro ⟨js, ⟨e, _⟩, u⟩
      rw [tupI_inj e]; omega
  · (conv => whnf)
    refine ⟨?_, F1⟩
    rw [dec_f]
    rintro ⟨js, e, _⟩
    exact dec_no hc ⟨js, e⟩
theorem s_is_rates {n : Nat} (hn : i_is_rates < n) {h : Hh} {m : Nat} {x : D} (p : Pu m x) (hl : Sh x) {k : Nat} :
    CallP (phi xs defs n i_is_rates [x, .int (k : Nat)] h) (fun d h' => d = .bl (dec (RatesP k x)) ∧ Frm [] h h') X0 := by
  refine fn_ok hn rfl rfl stab_p stabX0 ?_
  (conv => whnf)
  refine callz (s_nums (by decide) p hl) ?_
  rintro _ h1 ⟨rfl, F1⟩
  (conv => whnf)
  refine ⟨fun hc => ?_, fun hc => ?_⟩
  · have hc : ¬ NumsP 0 12 x := dec_no (by simpa using hc)
    (conv => whnf); (repeat (first | (refine ⟨fun hx => absurd hx Bool.false_ne_true, fun _ => ?_⟩; conv => whnf) | (refine ⟨fun _ => ?_, fun hx => absurd (Eq.symm hx) Bool.false_ne_true⟩; conv => whnf) | (refine ⟨_, rfl, ?_⟩; conv => whnf) | (refine ⟨mulOk_r (by decide), ?_⟩; conv => whnf) | (refine ⟨mulOk_l (by decide), ?_⟩; conv => whnf) | (refine ⟨(nofun : _ ≠ Wd.other), ?_⟩; conv => whnf) | (refine ⟨Or.inl (Eq.refl Wd.lst), ?_⟩; conv => whnf) | (refine ⟨Or.inr (Eq.refl Wd.tup), ?_⟩; conv => whnf) | (refine ⟨by decide, ?_⟩; conv => whnf)))
    refine ⟨?_, F1⟩
    rw [dec_f]
    rintro ⟨js, e, o⟩
    exact hc ⟨js, e, o.rg⟩
  · obtain ⟨is, rfl, r⟩ : NumsP 0 12 x := dec_iff.mp (by simpa using hc)
    (conv => whnf)
    refine ⟨nofun, ?_⟩
    (conv => whnf)
    refine ⟨fun hc => ?_, fun hc => ?_⟩
    · have hk : is.length ≠ k := by
        have := hc
        simp at this
        omega
      (conv => whnf)
      refine ⟨?_, F1⟩
      rw [dec_f]
      rintro ⟨js, e, o⟩
      rw [← tupI_inj e] at o
      exact hk o.len
    · have hk : is.length = k := by
        have := hc
        simp at this
        omega
      (conv => whnf)
      refine ⟨_, sq_sum (Or.inr rfl) is [], ?_⟩
      (conv => whnf)
      refine ⟨blr ?_, F1⟩
      rw [decide_eq_true_iff]
      constructor
      · intro u; exact ⟨is, rfl, hk, r, u⟩
      · rintro ⟨js, e, o⟩
        rw [tupI_inj e]; exact o.pos
end Tx
set_option Elab.async false
set_option linter.all false
set_option maxRecDepth 100000
set_option maxHeartbeats 4000000
namespace Tx
open PySem Mp
open PySem.PyData (strOk)
theorem nameB_parts {s : Str} (h : nameB s = true) : 1 ≤ s.length ∧ s.length ≤ 16 ∧ ∃ c cs, s.cps.toList = c :: cs ∧ inS ⟨#[c]⟩ LET = true ∧ ∀ c ∈ s.cps.toList, inS ⟨#[c]⟩ SGN = true := by
  unfold nameB at h
  simp only [Bool.and_eq_true, decide_eq_true_eq] at h
  obtain ⟨⟨⟨h1, h2⟩, h3⟩, h4⟩ := h
  refine ⟨h1, h2, ?_⟩
  cases e : s.cps.toList with
  | nil => rw [e] at h3; cases h3
  | cons c cs =>
    rw [e] at h3 h4
    exact ⟨c, cs, rfl, h3, List.all_eq_true.mp h4⟩
theorem s_is_name {n : Nat} (hn : i_is_name < n) {h : Hh} {s : Str} (p : nameB s = true) :
    CallP (phi xs defs n i_is_name [.str s] h) (fun d h' => d = .bl true ∧ Frm [] h h') X0 := by
  obtain ⟨l1, l2, c, cs, ec, ic, al⟩ := nameB_parts p
  have sl : s.length ≤ sizeLine := by unfold sizeLine; omega
  have len : ((signsD s).length : Int) = (s.length : Nat) := by
    simp only [signsD, List.length_map, Array.length_toList]; rfl
  have ix : ∀ h : Hh, ixD h (.str s) (.int 0) = some (.str ⟨#[c]⟩) := fun h => by
    show (if s.length ≤ sizeLine then (L2.atI s.cps.toList 0).map fun c => D.str ⟨#[c]⟩ else none) = _
    rw [if_pos sl, ec]
    show Option.map _ (L2.atI (c :: cs) ((0 : Nat) : Int)) = _
    rw [atI_nat]
    rfl
  refine fn_ok hn rfl rfl stab_p stabX0 ?_
  (conv => whnf); (repeat (first | (refine ⟨fun hx => absurd hx Bool.false_ne_true, fun _ => ?_⟩; conv => whnf) | (refine ⟨fun _ => ?_, fun hx => absurd (Eq.symm hx) Bool.false_ne_true⟩; conv => whnf) | (refine ⟨_, rfl, ?_⟩; conv => whnf) | (refine ⟨mulOk_r (by decide), ?_⟩; conv => whnf) | (refine ⟨mulOk_l (by decide), ?_⟩; conv => whnf) | (refine ⟨(nofun : _ ≠ Wd.other), ?_⟩; conv => whnf) | (refine ⟨Or.inl (Eq.refl Wd.lst), ?_⟩; conv => whnf) | (refine ⟨Or.inr (Eq.refl Wd.tup), ?_⟩; conv => whnf) | (refine ⟨by decide, ?_⟩; conv => whnf)))
  refine ⟨sl, ?_⟩
  (conv => whnf)
  refine ⟨nofun, ?_⟩
  (conv => whnf)
  rw [len]
  refine ⟨fun hc => ?_, fun hc => absurd (of_decide_eq_false hc) (by omega)⟩
  (conv => whnf)
  refine ⟨fun hc => absurd (of_decide_eq_true (by simpa using hc)) (by omega), fun hc => ?_⟩
  (conv => whnf)
  refine ⟨_, ix h, ?_⟩
  (conv => whnf)
  refine ⟨_, rfl, ?_⟩
  (conv => whnf)
  refine ⟨fun hc => ?_, fun hc => ?_⟩
  · (conv => whnf)
    refine ⟨sl, ?_⟩
    (conv => whnf)
    refine comp_map (fun _ => some (.bl true)) (by dsimp only; have := len; omega) stays_nil ?_ ?_
    · intro x mx h1 F1 G k
      obtain ⟨c, mc, rfl⟩ := List.mem_map.mp mx
      (conv => whnf)
      have e : inD h1 false (.str ⟨#[c]⟩) (.str "abcdefghijklmnopqrstuvwxyz0123456789_.") = some (.bl true) := by
        show some (D.bl (xor false (inS ⟨#[c]⟩ SGN))) = _
        rw [al c mc]; rfl
      refine ⟨_, e, ?_⟩
      (conv => whnf)
      exact k _ Frm.refl
    intro h1 F1
    (conv => whnf)
    have e : ∀ ds : List D, sqR .all ⟨ds.filterMap fun _ => some (D.bl true), [], .lst⟩ = some (.val (.bl true)) := fun ds => by
      have e2 : (ds.filterMap fun _ => some (D.bl true)) = (ds.map fun _ => true).map .bl := by rw [fm_some, List.map_map]; rfl
      rw [e2, sq_all]
      congr 3
      rw [List.all_map, List.all_eq_true]
      intro _ _; rfl
    refine ⟨_, e _, ?_⟩
    (conv => whnf)
    exact ⟨rfl, F1⟩
  · exact absurd (show xor false (inS ⟨#[c]⟩ LET) = false from hc) (by rw [ic]; decide)
theorem s_is_block {n : Nat} (hn : i_is_block < n) {h : Hh} {b : BD} (p : b.P) (hx : Sh b.x) (hy : Sh b.y) :
    CallP (phi xs defs n i_is_block [b.d] h) (fun d h' => d = .bl (dec b.Ok) ∧ Frm [] h h') X0 := by
  refine fn_ok hn rfl rfl stab_p stabX0 ?_
  (conv => whnf); (repeat (first | (refine ⟨fun hx => absurd hx Bool.false_ne_true, fun _ => ?_⟩; conv => whnf) | (refine ⟨fun _ => ?_, fun hx => absurd (Eq.symm hx) Bool.false_ne_true⟩; conv => whnf) | (refine ⟨_, rfl, ?_⟩; conv => whnf) | (refine ⟨mulOk_r (by decide), ?_⟩; conv => whnf) | (refine ⟨mulOk_l (by decide), ?_⟩; conv => whnf) | (refine ⟨(nofun : _ ≠ Wd.other), ?_⟩; conv => whnf) | (refine ⟨Or.inl (Eq.refl Wd.lst), ?_⟩; conv => whnf) | (refine ⟨Or.inr (Eq.refl Wd.tup), ?_⟩; conv => whnf) | (refine ⟨by decide, ?_⟩; conv => whnf)))
  refine callz (s_is_name (by decide) p.nm) ?_
  rintro _ h1 ⟨rfl, F1⟩
  (conv => whnf); (repeat (first | (refine ⟨fun hx => absurd hx Bool.false_ne_true, fun _ => ?_⟩; conv => whnf) | (refine ⟨fun _ => ?_, fun hx => absurd (Eq.symm hx) Bool.false_ne_true⟩; conv => whnf) | (refine ⟨_, rfl, ?_⟩; conv => whnf) | (refine ⟨mulOk_r (by decide), ?_⟩; conv => whnf) | (refine ⟨mulOk_l (by decide), ?_⟩; conv => whnf) | (refine ⟨(nofun : _ ≠ Wd.other), ?_⟩; conv => whnf) | (refine ⟨Or.inl (Eq.refl Wd.lst), ?_⟩; conv => whnf) | (refine ⟨Or.inr (Eq.refl Wd.tup), ?_⟩; conv => whnf) | (refine ⟨by decide, ?_⟩; conv => whnf)))
  refine callz (s_times (by decide) p.x hx) ?_
  rintro _ h2 ⟨rfl, F2⟩
  (conv => whnf)
  refine ⟨fun hc => ?_, fun hc => ?_⟩
  · have ht := dec_iff.mp hc
    (conv => whnf); (repeat (first | (refine ⟨fun hx => absurd hx Bool.false_ne_true, fun _ => ?_⟩; conv => whnf) | (refine ⟨fun _ => ?_, fun hx => absurd (Eq.symm hx) Bool.false_ne_true⟩; conv => whnf) | (refine ⟨_, rfl, ?_⟩; conv => whnf) | (refine ⟨mulOk_r (by decide), ?_⟩; conv => whnf) | (refine ⟨mulOk_l (by decide), ?_⟩; conv => whnf) | (refine ⟨(nofun : _ ≠ Wd.other), ?_⟩; conv => whnf) | (refine ⟨Or.inl (Eq.refl Wd.lst), ?_⟩; conv => whnf) | (refine ⟨Or.inr (Eq.refl Wd.tup), ?_⟩; conv => whnf) | (refine ⟨by decide, ?_⟩; conv => whnf)))
    refine callz (s_is_deed (by decide) p.y hy) ?_
    rintro _ h3 ⟨rfl, F3⟩
    (conv => whnf)
    refine ⟨blr ?_, F1.trans (F2.trans F3)⟩
    rw [dec_iff]
    exact ⟨fun u => ⟨ht, u⟩, fun u => u.2⟩
  · (conv => whnf)
    refine ⟨?_, F1.trans F2⟩
    rw [dec_f]
    exact fun u => dec_no hc u.1
def QueueP (bks : List Bk) (x : D) : Prop := ∃ q : Qe, x = q.d ∧ q.Ok bks
theorem qd_inj {q : Qe} {a b c d e : D} (h : D.tup [a, b, c, d, e] = q.d) : a = .int (q.s : Nat) ∧ b = .tup (q.gs.map .int) ∧ c = .int (q.t : Nat) ∧ d = .tup (q.tk.map .int) ∧ e = .tup (q.st.map .int) := by
  simp only [Qe.d, D.tup.injEq, List.cons.injEq, and_true] at h
  exact h
theorem s_is_queue {n : Nat} (hn : i_is_queue < n) {h : Hh} {m : Nat} {x : D} (p : Pu m x) (hs : ShQ x) {bks : List Bk} (b1 : 1 ≤ bks.length) :
    CallP (phi xs defs n i_is_queue [x, .tup (bks.map Bk.d)] h) (fun d h' => d = .bl (dec (QueueP bks x)) ∧ Frm [] h h') X0 := by
  refine fn_ok hn rfl rfl stab_p stabX0 ?_
  have nq : ¬ (∃ xs, x = .tup xs ∧ xs.length = 5) → dec (QueueP bks x) = false := fun k => dec_f fun ⟨q, e, _⟩ => k ⟨_, e, rfl⟩
  cases x with
  | ref a => exact (p.not_ref).elim
  | fro a => exact (p.not_fro).elim
  | tup ys =>
    obtain ⟨k, py⟩ : ∃ k, ∀ y ∈ ys, Pu k y := by
      cases m with
      | zero => exact p.tup0.elim
      | succ k => exact ⟨k, p.of_tup⟩
    (conv => whnf); (repeat (first | (refine ⟨fun hx => absurd hx Bool.false_ne_true, fun _ => ?_⟩; conv => whnf) | (refine ⟨fun _ => ?_, fun hx => absurd (Eq.symm hx) Bool.false_ne_true⟩; conv => whnf) | (refine ⟨_, rfl, ?_⟩; conv => whnf) | (refine ⟨mulOk_r (by decide), ?_⟩; conv => whnf) | (refine ⟨mulOk_l (by decide), ?_⟩; conv => whnf) | (refine ⟨(nofun : _ ≠ Wd.other), ?_⟩; conv => whnf) | (refine ⟨Or.inl (Eq.refl Wd.lst), ?_⟩; conv => whnf) | (refine ⟨Or.inr (Eq.refl Wd.tup), ?_⟩; conv => whnf) | (refine ⟨by decide, ?_⟩; conv => whnf)))
    refine ⟨fun hc => ?_, fun hc => ?_⟩
    · (conv => whnf)
      refine ⟨?_, Frm.refl⟩
      rw [nq]
      rintro ⟨zs, e, l⟩
      cases e
      simp [l] at hc
    · have l5 : ys.length = 5 := by simp at hc; omega
      match ys, l5, py, hs, p, nq with
      | [a, b, c, d, e], _, py, hs, p, nq =>
      have sh := (hs _ rfl).2
      have pa := py a (by simp)
      have pb := py b (by simp)
      have pc := py c (by simp)
      have pd := py d (by simp)
      have pe := py e (by simp)
      (conv => whnf)
      refine ⟨nofun, ?_⟩
      (conv => whnf)
      rw [List.length_map]
      refine callz (s_whole (by decide) pa) ?_
      rintro _ h1 ⟨rfl, F1⟩
      (conv => whnf)
      refine ⟨fun hc => ?_, fun hc => ?_⟩
      · have hn := dec_no (show dec (WholeP 0 ((bks.length : Int) - 1) a) = false by simpa using hc)
        (conv => whnf); (repeat (first | (refine ⟨fun hx => absurd hx Bool.false_ne_true, fun _ => ?_⟩; conv => whnf) | (refine ⟨fun _ => ?_, fun hx => absurd (Eq.symm hx) Bool.false_ne_true⟩; conv => whnf) | (refine ⟨_, rfl, ?_⟩; conv => whnf) | (refine ⟨mulOk_r (by decide), ?_⟩; conv => whnf) | (refine ⟨mulOk_l (by decide), ?_⟩; conv => whnf) | (refine ⟨(nofun : _ ≠ Wd.other), ?_⟩; conv => whnf) | (refine ⟨Or.inl (Eq.refl Wd.lst), ?_⟩; conv => whnf) | (refine ⟨Or.inr (Eq.refl Wd.tup), ?_⟩; conv => whnf) | (refine ⟨by decide, ?_⟩; conv => whnf)))
        refine ⟨?_, F1⟩
        rw [dec_f]
        rintro ⟨q, e, o⟩
        obtain ⟨rfl, _⟩ := qd_inj e
        have := o.hs
        exact hn ⟨q.s, rfl, by omega, by omega⟩
      obtain ⟨s, rfl, s0, s1⟩ := dec_iff.mp (show dec (WholeP 0 ((bks.length : Int) - 1) a) = true by simpa using hc)
      obtain ⟨s, rfl⟩ : ∃ k : Nat, s = k := ⟨s.toNat, by omega⟩
      (conv => whnf)
      refine callz (s_whole (by decide) pc) ?_
      rintro _ h2 ⟨rfl, F2⟩
      (conv => whnf)
      refine ⟨fun hc => ?_, fun hc => ?_⟩
      · have hn := dec_no (show dec (WholeP 0 ((bks.length : Int) - 1) c) = false by simpa using hc)
        (conv => whnf)
        refine ⟨?_, F1.trans F2⟩
        rw [dec_f]
        rintro ⟨q, e, o⟩
        obtain ⟨_, _, rfl, _⟩ := qd_inj e
        have := o.ht
        exact hn ⟨q.t, rfl, by omega, by omega⟩
      obtain ⟨t, rfl, t0, t1⟩ := dec_iff.mp (show dec (WholeP 0 ((bks.length : Int) - 1) c) = true by simpa using hc)
      obtain ⟨t, rfl⟩ : ∃ k : Nat, t = k := ⟨t.toNat, by omega⟩
      have hs' : s < bks.length := by omega
      have ht' : t < bks.length := by omega
      (conv => whnf)
      refine ⟨_, at_map hs', ?_⟩
      (conv => whnf)
      refine ⟨_, rfl, ?_⟩
      (conv => whnf)
      refine ⟨nofun, ?_⟩
      (conv => whnf)
      rw [List.length_map]
      refine callz (s_is_rates (by decide) pb (sh b (by simp))) ?_
      rintro _ h3 ⟨rfl, F3⟩
      (conv => whnf)
      refine ⟨fun hc => ?_, fun hc => ?_⟩
      · have hn := dec_no (show dec (RatesP bks[s].ts.length b) = false by simpa using hc)
        (conv => whnf)
        refine ⟨?_, F1.trans (F2.trans F3)⟩
        rw [dec_f]
        rintro ⟨q, e, o⟩
        obtain ⟨es, rfl, _⟩ := qd_inj e
        obtain rfl : s = q.s := by injection es with es; omega
        exact hn ⟨q.gs, rfl, o.gs⟩
      obtain ⟨gs, rfl, go⟩ := dec_iff.mp (show dec (RatesP bks[s].ts.length b) = true by simpa using hc)
      (conv => whnf)
      refine ⟨_, at_map ht', ?_⟩
      (conv => whnf)
      refine ⟨_, rfl, ?_⟩
      (conv => whnf)
      refine ⟨nofun, ?_⟩
      (conv => whnf)
      rw [List.length_map]
      refine callz (s_is_rates (by decide) pd (sh d (by simp))) ?_
      rintro _ h4 ⟨rfl, F4⟩
      (conv => whnf)
      refine ⟨fun hc => ?_, fun hc => ?_⟩
      · obtain ⟨tk, rfl, to⟩ := dec_iff.mp hc
        (conv => whnf)
        refine callz (s_is_start (by decide) pe (sh e (by simp))) ?_
        rintro _ h5 ⟨rfl, F5⟩
        (conv => whnf)
        refine ⟨blr ?_, F1.trans (F2.trans (F3.trans (F4.trans F5)))⟩
        rw [dec_iff]
        constructor
        · rintro ⟨st, ⟨rfl, r⟩, l⟩
          exact ⟨⟨s, gs, t, tk, st⟩, rfl, hs', ht', go, to, r, l⟩
        · rintro ⟨q, e, o⟩
          obtain ⟨_, _, _, _, rfl⟩ := qd_inj e
          exact ⟨q.st, ⟨rfl, o.st⟩, o.sl⟩
      · (conv => whnf)
        refine ⟨?_, F1.trans (F2.trans (F3.trans F4))⟩
        rw [dec_f]
        rintro ⟨q, e, o⟩
        obtain ⟨_, _, et, rfl, _⟩ := qd_inj e
        obtain rfl : t = q.t := by injection et with et; omega
        exact dec_no hc ⟨q.tk, rfl, o.tk⟩
  | _ =>
    (conv => whnf); (repeat (first | (refine ⟨fun hx => absurd hx Bool.false_ne_true, fun _ => ?_⟩; conv => whnf) | (refine ⟨fun _ => ?_, fun hx => absurd (Eq.symm hx) Bool.false_ne_true⟩; conv => whnf) | (refine ⟨_, rfl, ?_⟩; conv => whnf) | (refine ⟨mulOk_r (by decide), ?_⟩; conv => whnf) | (refine ⟨mulOk_l (by decide), ?_⟩; conv => whnf) | (refine ⟨(nofun : _ ≠ Wd.other), ?_⟩; conv => whnf) | (refine ⟨Or.inl (Eq.refl Wd.lst), ?_⟩; conv => whnf) | (refine ⟨Or.inr (Eq.refl Wd.tup), ?_⟩; conv => whnf) | (refine ⟨by decide, ?_⟩; conv => whnf)))
    refine ⟨?_, Frm.refl⟩
    rw [nq]
    rintro ⟨zs, e, _⟩
    cases e
end Tx
set_option Elab.async false
set_option linter.all false
set_option maxRecDepth 100000
set_option maxHeartbeats 4000000
namespace Tx
open PySem Mp
open PySem.PyData (strOk)
def GraphP (x : D) : Prop := ∃ g : Gr, x = g.d ∧ g.Ok
theorem bks_of : ∀ {bs : List BD}, (∀ b ∈ bs, b.P) → (∀ b ∈ bs, b.Ok) → ∃ ks : List Bk, ks.map Bk.bd = bs ∧ ∀ k ∈ ks, k.Ok
  | [], _, _ => ⟨[], rfl, fun _ m => nomatch m⟩
  | b :: bs, p, o => by
    obtain ⟨k, ko, rfl⟩ := (p b (by simp)).nm |> fun _ => BD.bk (p b (by simp)) (o b (by simp))
    obtain ⟨ks, rfl, kso⟩ := bks_of (fun c m => p c (List.mem_cons_of_mem _ m)) (fun c m => o c (List.mem_cons_of_mem _ m))
    exact ⟨k :: ks, rfl, fun c m => by
      rcases List.mem_cons.mp m with rfl | m
      · exact ko
      · exact kso c m⟩
theorem qes_of {bks : List Bk} : ∀ {qs : List D}, (∀ q ∈ qs, QueueP bks q) → ∃ ks : List Qe, ks.map Qe.d = qs ∧ ∀ k ∈ ks, k.Ok bks
  | [], _ => ⟨[], rfl, fun _ m => nomatch m⟩
  | q :: qs, p => by
    obtain ⟨k, rfl, ko⟩ := p q (by simp)
    obtain ⟨ks, rfl, kso⟩ := qes_of fun c m => p c (List.mem_cons_of_mem _ m)
    exact ⟨k :: ks, rfl, fun c m => by
      rcases List.mem_cons.mp m with rfl | m
      · exact ko
      · exact kso c m⟩
structure BsP (bs : List BD) : Prop where
  p : ∀ b ∈ bs, b.P ∧ Sh b.x ∧ Sh b.y
  l : bs.length ≤ 1000
structure QsP (qs : List D) : Prop where
  p : ∀ q ∈ qs, Pu 4 q ∧ ShQ q
  l : qs.length ≤ 1000
theorem s_is_graph {n : Nat} (hn : i_is_graph < n) {h : Hh} {bs : List BD} {qs : List D} (bp : BsP bs) (qp : QsP qs) :
    CallP (phi xs defs n i_is_graph [.tup [.tup (bs.map BD.d), .tup qs]] h) (fun d h' => d = .bl (dec (GraphP (.tup [.tup (bs.map BD.d), .tup qs]))) ∧ Frm [] h h') X0 := by
  refine fn_ok hn rfl rfl stab_p stabX0 ?_
  have no : (∀ g : Gr, g.Ok → bs = g.bs.map Bk.bd → qs = g.qs.map Qe.d → False) → dec (GraphP (.tup [.tup (bs.map BD.d), .tup qs])) = false := fun k => dec_f fun ⟨g, e, o⟩ => k g o (gr_inj e).1 (gr_inj e).2
  have bl := bp.l
  have ql := qp.l
  (conv => whnf); (repeat (first | (refine ⟨fun hx => absurd hx Bool.false_ne_true, fun _ => ?_⟩; conv => whnf) | (refine ⟨fun _ => ?_, fun hx => absurd (Eq.symm hx) Bool.false_ne_true⟩; conv => whnf) | (refine ⟨_, rfl, ?_⟩; conv => whnf) | (refine ⟨mulOk_r (by decide), ?_⟩; conv => whnf) | (refine ⟨mulOk_l (by decide), ?_⟩; conv => whnf) | (refine ⟨(nofun : _ ≠ Wd.other), ?_⟩; conv => whnf) | (refine ⟨Or.inl (Eq.refl Wd.lst), ?_⟩; conv => whnf) | (refine ⟨Or.inr (Eq.refl Wd.tup), ?_⟩; conv => whnf) | (refine ⟨by decide, ?_⟩; conv => whnf)))
  refine ⟨fun hc => ?_, fun hc => ?_⟩
  · have c1 : (1 : Int) ≤ ((bs.map BD.d).length : Nat) := of_decide_eq_true hc
    rw [List.length_map] at c1
    (conv => whnf)
    refine ⟨fun hc => ?_, fun hc => ?_⟩
    · have c2 : ¬ (((bs.map BD.d).length : Nat) : Int) ≤ 60 := of_decide_eq_false (by simpa using hc)
      rw [List.length_map] at c2
      (conv => whnf)
      refine ⟨?_, Frm.refl⟩
      rw [no]
      rintro g o rfl rfl
      have := o.b60
      rw [List.length_map] at c2
      omega
    have c2 : (((bs.map BD.d).length : Nat) : Int) ≤ 60 := of_decide_eq_true (by simpa using hc)
    rw [List.length_map] at c2
    (conv => whnf); (repeat (first | (refine ⟨fun hx => absurd hx Bool.false_ne_true, fun _ => ?_⟩; conv => whnf) | (refine ⟨fun _ => ?_, fun hx => absurd (Eq.symm hx) Bool.false_ne_true⟩; conv => whnf) | (refine ⟨_, rfl, ?_⟩; conv => whnf) | (refine ⟨mulOk_r (by decide), ?_⟩; conv => whnf) | (refine ⟨mulOk_l (by decide), ?_⟩; conv => whnf) | (refine ⟨(nofun : _ ≠ Wd.other), ?_⟩; conv => whnf) | (refine ⟨Or.inl (Eq.refl Wd.lst), ?_⟩; conv => whnf) | (refine ⟨Or.inr (Eq.refl Wd.tup), ?_⟩; conv => whnf) | (refine ⟨by decide, ?_⟩; conv => whnf)))
    refine ⟨fun hc => ?_, fun hc => ?_⟩
    · have c3 : (160 : Int) < (qs.length : Nat) := of_decide_eq_true hc
      (conv => whnf)
      refine ⟨?_, Frm.refl⟩
      rw [no]
      rintro g o rfl rfl
      have := o.q160
      rw [List.length_map] at c3
      omega
    have c3 : ¬ (160 : Int) < (qs.length : Nat) := of_decide_eq_false hc
    (conv => whnf)
    refine comp_map (fun x => some (.bl (dec (∃ b : BD, x = b.d ∧ b.Ok)))) (by dsimp only; rw [List.length_map]; unfold sizeLine; omega) stays_nil ?_ ?_
    · intro x mx h1 F1 G k
      obtain ⟨b, mb, rfl⟩ := List.mem_map.mp mx
      obtain ⟨b1, b2, b3⟩ := bp.p b mb
      (conv => whnf)
      refine callz (s_is_block (by decide) b1 b2 b3) ?_
      rintro _ h2 ⟨rfl, F2⟩
      have e : dec b.Ok = dec (∃ c : BD, b.d = c.d ∧ c.Ok) := by
        congr 1
        exact propext ⟨fun o => ⟨b, rfl, o⟩, fun ⟨c, e, o⟩ => by rw [bd_inj e]; exact o⟩
      have := k h2 F2
      rw [← e] at this
      exact this
    intro h1 F1
    (conv => whnf)
    refine ⟨_, all_dec [], ?_⟩
    (conv => whnf)
    refine ⟨fun hc => ?_, fun hc => ?_⟩
    · have c4 : ¬ ∀ x ∈ bs.map BD.d, ∃ b : BD, x = b.d ∧ b.Ok := dec_no (by simpa using hc)
      (conv => whnf)
      refine ⟨?_, F1⟩
      rw [no]
      rintro g o rfl rfl
      refine c4 fun x mx => ?_
      obtain ⟨b, mb, rfl⟩ := List.mem_map.mp mx
      obtain ⟨k, mk, rfl⟩ := List.mem_map.mp mb
      exact ⟨_, rfl, (o.bk k mk).bdok⟩
    have c4 : ∀ x ∈ bs.map BD.d, ∃ b : BD, x = b.d ∧ b.Ok := dec_iff.mp (by simpa using hc)
    obtain ⟨ks, rfl, ko⟩ := bks_of (fun b m => (bp.p b m).1) (fun b m => by
      obtain ⟨c, e, o⟩ := c4 b.d (List.mem_map_of_mem m)
      rw [bd_inj e]; exact o)
    (conv => whnf)
    refine comp_map (fun x => some (match x with
      | .tup (a :: _) => a
      | _ => .non)) (by dsimp only; rw [List.length_map]; unfold sizeLine; omega) stays_nil ?_ ?_
    · intro x mx h2 F2 G k
      obtain ⟨b, mb, rfl⟩ := List.mem_map.mp mx
      (conv => whnf)
      refine ⟨_, rfl, ?_⟩
      exact k _ Frm.refl
    intro h2 F2
    have en : (((ks.map Bk.bd).map BD.d).filterMap fun x => some (match x with
      | .tup (a :: _) => a
      | _ => D.non)) = (ks.map Bk.nm).map D.str := by
      rw [fm_some, List.map_map, List.map_map, List.map_map]; rfl
    dsimp only
    rw [en]
    have le : lensetO ((ks.map Bk.nm).map D.str) = some (.val (.int (dupsLen (ks.map Bk.nm)))) := by
      unfold lensetO
      rw [mapK_names]
      dsimp only
      rw [if_pos (by simp at bl ⊢; omega)]
    refine ⟨_, le, ?_⟩
    (conv => whnf)
    refine ⟨nofun, ?_⟩
    (conv => whnf)
    refine ⟨fun hc => ?_, fun hc => ?_⟩
    · have c5 : ¬ (ks.map Bk.nm).Nodup := by
        intro nd
        have e := (dups_iff (ks.map Bk.nm)).mpr nd
        rw [e] at hc
        simp at hc
      (conv => whnf)
      refine ⟨?_, F1.trans F2⟩
      rw [no]
      rintro g o e rfl
      have e2 : ks.map Bk.nm = g.bs.map Bk.nm := by
        have := congrArg (List.map BD.nm) e
        rw [List.map_map, List.map_map] at this
        exact this
      rw [e2] at c5
      exact c5 o.nd
    have c5 : (ks.map Bk.nm).Nodup := by
      refine (dups_iff (ks.map Bk.nm)).mp ?_
      have := hc
      simp at this
      simp; omega
    rw [List.length_map] at c1 c2
    have eb : D.tup ((ks.map Bk.bd).map BD.d) = .tup (ks.map Bk.d) := by rw [List.map_map]; rfl
    (conv => whnf)
    refine comp_map (fun x => some (.bl (dec (QueueP ks x)))) (by dsimp only; unfold sizeLine; omega) stays_nil ?_ ?_
    · intro x mx h3 F3 G k
      obtain ⟨q1, q2⟩ := qp.p x mx
      (conv => whnf)
      rw [eb]
      refine callz (s_is_queue (by decide) q1 q2 (by omega)) ?_
      rintro _ h4 ⟨rfl, F4⟩
      exact k _ F4
    intro h3 F3
    (conv => whnf)
    refine ⟨_, all_dec [], ?_⟩
    (conv => whnf)
    refine ⟨blr ?_, F1.trans (F2.trans F3)⟩
    rw [dec_iff]
    constructor
    · intro aq
      obtain ⟨ls, rfl, lo⟩ := qes_of aq
      rw [List.length_map] at c3
      exact ⟨⟨ks, ls⟩, by rw [gr_d], ⟨by dsimp only; omega, by dsimp only; omega, by dsimp only; omega, ko, c5, lo⟩⟩
    · rintro ⟨g, e, o⟩
      obtain ⟨e1, rfl⟩ := gr_inj e
      have e2 : ks = g.bs := by
        have inj : ∀ {a b : List Bk}, a.map Bk.bd = b.map Bk.bd → a = b := by
          intro a
          induction a with
          | nil => intro b h; cases b with
            | nil => rfl
            | cons _ _ => cases h
          | cons x xs ih => intro b h; cases b with
            | nil => cases h
            | cons y ys =>
              simp only [List.map_cons, List.cons.injEq] at h
              rw [ih h.2]
              congr 1
              obtain ⟨n1, t1, a1, b1⟩ := x
              obtain ⟨n2, t2, a2, b2⟩ := y
              have := h.1
              simp only [Bk.bd, BD.mk.injEq, D.tup.injEq, List.cons.injEq, D.int.injEq, and_true] at this
              obtain ⟨rfl, e, rfl, rfl⟩ := this
              rw [map_int_inj e]
        exact inj e1
      subst e2
      intro x mx
      obtain ⟨q, mq, rfl⟩ := List.mem_map.mp mx
      exact ⟨q, rfl, o.qk q mq⟩
  · have c1 : ¬ (1 : Int) ≤ ((bs.map BD.d).length : Nat) := of_decide_eq_false hc
    rw [List.length_map] at c1
    (conv => whnf); (repeat (first | (refine ⟨fun hx => absurd hx Bool.false_ne_true, fun _ => ?_⟩; conv => whnf) | (refine ⟨fun _ => ?_, fun hx => absurd (Eq.symm hx) Bool.false_ne_true⟩; conv => whnf) | (refine ⟨_, rfl, ?_⟩; conv => whnf) | (refine ⟨mulOk_r (by decide), ?_⟩; conv => whnf) | (refine ⟨mulOk_l (by decide), ?_⟩; conv => whnf) | (refine ⟨(nofun : _ ≠ Wd.other), ?_⟩; conv => whnf) | (refine ⟨Or.inl (Eq.refl Wd.lst), ?_⟩; conv => whnf) | (refine ⟨Or.inr (Eq.refl Wd.tup), ?_⟩; conv => whnf) | (refine ⟨by decide, ?_⟩; conv => whnf)))
    refine ⟨?_, Frm.refl⟩
    rw [no]
    rintro g o rfl rfl
    have := o.b1
    rw [List.length_map] at c1
    omega
end Tx
set_option Elab.async false
set_option linter.all false
set_option maxRecDepth 100000
set_option maxHeartbeats 4000000
namespace Tx
open PySem Mp
open PySem.PyData (strOk)
theorem gr_bs {g : Gr} (o : g.Ok) : BsP (g.bs.map Bk.bd) := ⟨fun b m => by
  obtain ⟨k, mk, rfl⟩ := List.mem_map.mp m
  have ko := o.bk k mk
  exact ⟨ko.bd, fun xs e => by cases e; rw [List.length_map]; have := ko.l6; omega, fun xs e => by cases e; simp⟩, by rw [List.length_map]; have := o.b60; omega⟩
theorem rate_len {is : List Int} (r : ∀ i ∈ is, 0 ≤ i) : True := trivial
theorem qe_p {bs : List Bk} {q : Qe} (ho : ∀ b ∈ bs, b.Ok) (o : q.Ok bs) : Pu 4 q.d ∧ ShQ q.d := by
  have g6 := (ho (bs[q.s]'o.hs) (List.getElem_mem _)).l6
  have t6 := (ho (bs[q.t]'o.ht) (List.getElem_mem _)).l6
  have gl := o.gs.len
  have tl := o.tk.len
  have sl := o.sl
  have r : DePu q.d := DePu.tup (all_c El.int (all_c (El.ints (by omega)) (all_c El.int (all_c (El.ints (by omega)) (all_c (El.ints (by omega)) all_n))))) (by simp)
  exact r
theorem gr_qs {g : Gr} (o : g.Ok) : QsP (g.qs.map Qe.d) := ⟨fun x m => by
  obtain ⟨q, mq, rfl⟩ := List.mem_map.mp m
  exact qe_p o.bk (o.qk q mq), by rw [List.length_map]; have := o.q160; omega⟩
def bad (w : Str) : Xn := ⟨1, [("part", .str w)]⟩
def BadP (w : Str) (P : Prop) (h : Hh) : XQ := fun x h' => (x = bad w ∧ P) ∧ Frm [] h h'
theorem stabB {w : Str} {P : Prop} {h : Hh} : StabX h (BadP w P h) := stabX_p
theorem s_graph_ok {n : Nat} (hn : i_is_graph < n) {h : Hh} {g : Gr} (o : g.Ok) :
    CallP (phi xs defs n i_is_graph [g.d] h) (fun d h' => d = .bl true ∧ Frm [] h h') X0 := by
  have := s_is_graph hn (h := h) (gr_bs o) (gr_qs o)
  rw [← gr_d] at this
  refine this.imp (fun d h' p => ⟨?_, p.2⟩) fun _ _ f => f
  rw [p.1, dec_t ⟨g, rfl, o⟩]
theorem s_check_ok {n : Nat} (hn : i_check_graph < n) {h : Hh} {g : Gr} (o : g.Ok) :
    CallP (phi xs defs n i_check_graph [g.d] h) (fun d h' => d = .non ∧ Frm [] h h') X0 := by
  refine fn_ok hn rfl rfl stab_p stabX0 ?_
  (conv => whnf)
  refine callz (s_graph_ok (by decide) o) ?_
  rintro _ h1 ⟨rfl, F1⟩
  (conv => whnf); (repeat (first | (refine ⟨fun hx => absurd hx Bool.false_ne_true, fun _ => ?_⟩; conv => whnf) | (refine ⟨fun _ => ?_, fun hx => absurd (Eq.symm hx) Bool.false_ne_true⟩; conv => whnf) | (refine ⟨_, rfl, ?_⟩; conv => whnf) | (refine ⟨mulOk_r (by decide), ?_⟩; conv => whnf) | (refine ⟨mulOk_l (by decide), ?_⟩; conv => whnf) | (refine ⟨(nofun : _ ≠ Wd.other), ?_⟩; conv => whnf) | (refine ⟨Or.inl (Eq.refl Wd.lst), ?_⟩; conv => whnf) | (refine ⟨Or.inr (Eq.refl Wd.tup), ?_⟩; conv => whnf) | (refine ⟨by decide, ?_⟩; conv => whnf)))
  exact ⟨rfl, F1⟩
theorem s_place {n : Nat} (hn : i_is_place < n) {h : Hh} {m : Nat} {x : D} (p : Pu m x) {k : Nat} :
    CallP (phi xs defs n i_is_place [x, .int (k : Nat)] h) (fun d h' => d = .bl (dec (WholeP 0 ((k : Int) - 1) x)) ∧ Frm [] h h') X0 := by
  refine fn_ok hn rfl rfl stab_p stabX0 ?_
  (conv => whnf)
  exact callz (s_whole (by decide) p) fun d h' q => q
theorem cut_lo (xs : List D) (p : Nat) : cutD xs none (some (p : Int)) = xs.take p := by
  unfold cutD
  rw [HT.sIx_none, HT.sIx_nat]
  simp only [List.drop_zero, Nat.sub_zero]
  rw [Nat.min_comm, List.take_eq_take_iff]
  omega
theorem cut_hi (xs : List D) (p : Nat) : cutD xs (some (((p + 1 : Nat)) : Int)) none = xs.drop (p + 1) := by
  unfold cutD
  rw [HT.sIx_none, HT.sIx_nat]
  by_cases h : p + 1 ≤ xs.length
  · rw [Nat.min_eq_left h, List.take_of_length_le (by simp)]
  · rw [Nat.min_eq_right (by omega)]
    rw [List.drop_of_length_le (Nat.le_refl _), List.drop_of_length_le (by omega)]
    simp
theorem cut_set (xs : List D) {p : Nat} (hp : p < xs.length) (x : D) : cutD xs none (some (p : Int)) ++ [x] ++ cutD xs (some ((p : Int) + 1)) none = xs.set p x := by
  rw [show ((p : Int) + 1) = ((p + 1 : Nat) : Int) by omega, cut_lo, cut_hi, List.set_eq_take_append_cons_drop, if_pos hp]
  simp
theorem s_with_block {n : Nat} (hn : i_with_block < n) {h : Hh} {g : Gr} (o : g.Ok) {p : Nat} (hp : p < g.bs.length) {b : BD} :
    CallP (phi xs defs n i_with_block [g.d, .int (p : Nat), b.d] h) (fun d h' => d = foundB g p b ∧ Frm [] h h') X0 := by
  have b60 := o.b60
  refine fn_ok hn rfl rfl stab_p stabX0 ?_
  rw [gr_d]
  (conv => whnf); (repeat (first | (refine ⟨fun hx => absurd hx Bool.false_ne_true, fun _ => ?_⟩; conv => whnf) | (refine ⟨fun _ => ?_, fun hx => absurd (Eq.symm hx) Bool.false_ne_true⟩; conv => whnf) | (refine ⟨_, rfl, ?_⟩; conv => whnf) | (refine ⟨mulOk_r (by decide), ?_⟩; conv => whnf) | (refine ⟨mulOk_l (by decide), ?_⟩; conv => whnf) | (refine ⟨(nofun : _ ≠ Wd.other), ?_⟩; conv => whnf) | (refine ⟨Or.inl (Eq.refl Wd.lst), ?_⟩; conv => whnf) | (refine ⟨Or.inr (Eq.refl Wd.tup), ?_⟩; conv => whnf) | (refine ⟨by decide, ?_⟩; conv => whnf)))
  refine ⟨?_, ?_⟩
  · have := len_cutD (xs := (g.bs.map Bk.bd).map BD.d) (lo := none) (hi := some (p : Int))
    simp only [List.length_map, List.length_cons, List.length_nil] at this ⊢
    unfold sizeLine; omega
  (conv => whnf)
  refine ⟨?_, ?_⟩
  · have := len_cutD (xs := (g.bs.map Bk.bd).map BD.d) (lo := none) (hi := some (p : Int))
    have := len_cutD (xs := (g.bs.map Bk.bd).map BD.d) (lo := some ((p : Int) + 1)) (hi := none)
    simp only [List.length_append, List.length_map, List.length_cons, List.length_nil] at *
    unfold sizeLine; omega
  (conv => whnf); (repeat (first | (refine ⟨fun hx => absurd hx Bool.false_ne_true, fun _ => ?_⟩; conv => whnf) | (refine ⟨fun _ => ?_, fun hx => absurd (Eq.symm hx) Bool.false_ne_true⟩; conv => whnf) | (refine ⟨_, rfl, ?_⟩; conv => whnf) | (refine ⟨mulOk_r (by decide), ?_⟩; conv => whnf) | (refine ⟨mulOk_l (by decide), ?_⟩; conv => whnf) | (refine ⟨(nofun : _ ≠ Wd.other), ?_⟩; conv => whnf) | (refine ⟨Or.inl (Eq.refl Wd.lst), ?_⟩; conv => whnf) | (refine ⟨Or.inr (Eq.refl Wd.tup), ?_⟩; conv => whnf) | (refine ⟨by decide, ?_⟩; conv => whnf)))
  refine ⟨?_, Frm.refl⟩
  rw [cut_set _ (by simpa using hp)]
  unfold foundB
  rw [← List.map_set]
theorem s_with_queue {n : Nat} (hn : i_with_queue < n) {h : Hh} {g : Gr} (o : g.Ok) {p : Nat} (hp : p < g.qs.length) {q : D} :
    CallP (phi xs defs n i_with_queue [g.d, .int (p : Nat), q] h) (fun d h' => d = fQ g p q ∧ Frm [] h h') X0 := by
  have b60 := o.q160
  refine fn_ok hn rfl rfl stab_p stabX0 ?_
  rw [gr_d]
  (conv => whnf); (repeat (first | (refine ⟨fun hx => absurd hx Bool.false_ne_true, fun _ => ?_⟩; conv => whnf) | (refine ⟨fun _ => ?_, fun hx => absurd (Eq.symm hx) Bool.false_ne_true⟩; conv => whnf) | (refine ⟨_, rfl, ?_⟩; conv => whnf) | (refine ⟨mulOk_r (by decide), ?_⟩; conv => whnf) | (refine ⟨mulOk_l (by decide), ?_⟩; conv => whnf) | (refine ⟨(nofun : _ ≠ Wd.other), ?_⟩; conv => whnf) | (refine ⟨Or.inl (Eq.refl Wd.lst), ?_⟩; conv => whnf) | (refine ⟨Or.inr (Eq.refl Wd.tup), ?_⟩; conv => whnf) | (refine ⟨by decide, ?_⟩; conv => whnf)))
  refine ⟨?_, ?_⟩
  · have := len_cutD (xs := g.qs.map Qe.d) (lo := none) (hi := some (p : Int))
    simp only [List.length_map, List.length_cons, List.length_nil] at this ⊢
    unfold sizeLine; omega
  (conv => whnf)
  refine ⟨?_, ?_⟩
  · have := len_cutD (xs := g.qs.map Qe.d) (lo := none) (hi := some (p : Int))
    have := len_cutD (xs := g.qs.map Qe.d) (lo := some ((p : Int) + 1)) (hi := none)
    simp only [List.length_append, List.length_map, List.length_cons, List.length_nil] at *
    unfold sizeLine; omega
  (conv => whnf)
  refine ⟨?_, Frm.refl⟩
  rw [cut_set _ (by simpa using hp)]
  rfl
theorem s_changed_block {n : Nat} (hn : i_changed_block < n) {h : Hh} {g : Gr} (o : g.Ok) {p : Nat} (hp : p < g.bs.length) {w : Str} (hw : w = "times" ∨ w = "deed") {x : D} :
    CallP (phi xs defs n i_changed_block [g.d, .str w, .int (p : Nat), x] h) (fun d h' => ((w = "times" ∧ d = foundB g p ⟨g.bs[p].nm, x, TI [g.bs[p].a, g.bs[p].b]⟩) ∨ (w = "deed" ∧ d = foundB g p ⟨g.bs[p].nm, TI g.bs[p].ts, x⟩)) ∧ Frm [] h h') X0 := by
  refine fn_ok hn rfl rfl stab_p stabX0 ?_
  (conv => whnf)
  refine ⟨_, rfl, ?_⟩
  (conv => whnf)
  refine ⟨_, at_map hp, ?_⟩
  rcases hw with rfl | rfl
  · (conv => whnf)
    refine ⟨_, eqStr k_times k_times, ?_⟩
    (conv => whnf)
    refine ⟨fun _ => ?_, fun hc => (of_decide_eq_false hc rfl).elim⟩
    (conv => whnf)
    refine callz (s_with_block (b := ⟨g.bs[p].nm, x, TI [g.bs[p].a, g.bs[p].b]⟩) (by decide) o hp) ?_
    rintro _ h1 ⟨rfl, F1⟩
    exact ⟨Or.inl ⟨rfl, rfl⟩, F1⟩
  · (conv => whnf)
    refine ⟨_, eqStr k_deed k_times, ?_⟩
    (conv => whnf)
    refine ⟨fun hc => (n_deed_times (of_decide_eq_true hc)).elim, fun _ => ?_⟩
    (conv => whnf)
    refine callz (s_with_block (b := ⟨g.bs[p].nm, TI g.bs[p].ts, x⟩) (by decide) o hp) ?_
    rintro _ h1 ⟨rfl, F1⟩
    exact ⟨Or.inr ⟨rfl, rfl⟩, F1⟩
theorem s_changed_queue_s {n : Nat} (hn : i_changed_queue < n) {h : Hh} {g : Gr} (o : g.Ok) {p : Nat} (hp : p < g.qs.length) {x : D} :
    CallP (phi xs defs n i_changed_queue [g.d, .tup [.str "start", .int (p : Nat), x]] h) (fun d h' => d = fQ g p (.tup [.int (g.qs[p].s : Nat), TI g.qs[p].gs, .int (g.qs[p].t : Nat), TI g.qs[p].tk, x]) ∧ Frm [] h h') X0 := by
  refine fn_ok hn rfl rfl stab_p stabX0 ?_
  (conv => whnf)
  refine ⟨_, rfl, ?_⟩
  (conv => whnf)
  refine ⟨_, rfl, ?_⟩
  (conv => whnf)
  refine ⟨_, at_map hp, ?_⟩
  (conv => whnf)
  refine ⟨_, rfl, ?_⟩
  (conv => whnf)
  refine ⟨_, eqStr k_start k_start, ?_⟩
  (conv => whnf)
  refine ⟨fun _ => ?_, fun hc => (of_decide_eq_false hc rfl).elim⟩
  (conv => whnf)
  refine ⟨_, rfl, ?_⟩
  (conv => whnf)
  refine ⟨_, rfl, ?_⟩
  (conv => whnf)
  refine callz (s_with_queue (by decide) o hp) ?_
  rintro _ h1 ⟨rfl, F1⟩
  exact ⟨rfl, F1⟩
theorem s_changed_queue_r {n : Nat} (hn : i_changed_queue < n) {h : Hh} {g : Gr} (o : g.Ok) {p : Nat} (hp : p < g.qs.length) {x y : D} :
    CallP (phi xs defs n i_changed_queue [g.d, .tup [.str "rates", .int (p : Nat), x, y]] h) (fun d h' => d = fQ g p (.tup [.int (g.qs[p].s : Nat), x, .int (g.qs[p].t : Nat), y, TI g.qs[p].st]) ∧ Frm [] h h') X0 := by
  refine fn_ok hn rfl rfl stab_p stabX0 ?_
  (conv => whnf)
  refine ⟨_, rfl, ?_⟩
  (conv => whnf)
  refine ⟨_, rfl, ?_⟩
  (conv => whnf)
  refine ⟨_, at_map hp, ?_⟩
  (conv => whnf)
  refine ⟨_, rfl, ?_⟩
  (conv => whnf)
  refine ⟨_, eqStr k_rates k_start, ?_⟩
  (conv => whnf)
  refine ⟨fun hc => (n_rates_start (of_decide_eq_true hc)).elim, fun _ => ?_⟩
  (conv => whnf)
  refine ⟨_, rfl, ?_⟩
  (conv => whnf)
  refine ⟨_, rfl, ?_⟩
  (conv => whnf)
  refine ⟨_, rfl, ?_⟩
  (conv => whnf)
  refine callz (s_with_queue (by decide) o hp) ?_
  rintro _ h1 ⟨rfl, F1⟩
  exact ⟨rfl, F1⟩
end Tx
set_option Elab.async false
set_option linter.all false
set_option maxRecDepth 100000
set_option maxHeartbeats 4000000
namespace Tx
open PySem Mp
open PySem.PyData (strOk)
theorem shaped_int (i : Int) : SeqAt.shaped (.int i) = true := rfl
theorem pysW_ints (rf : Nat → Option PyData) : ∀ (ss : List Int), D.pysW rf (ss.map .int) = some (ss.map .int)
  | [] => rfl
  | s :: ss => by simp only [List.map_cons, D.pysW, D.pyW, pysW_ints rf ss]
theorem lay_ints : ∀ (ss : List Int), PyData.canLayAll0 (ss.map .int) = true ∧ PyData.depthAll (ss.map .int) = 0
  | [] => ⟨rfl, rfl⟩
  | s :: ss => by
    obtain ⟨a, b⟩ := lay_ints ss
    refine ⟨?_, ?_⟩
    · simp only [List.map_cons, PyData.canLayAll0, PyData.canLay0, a, Bool.and_self]
    · simp only [List.map_cons, PyData.depthAll, PyData.depth, b]; rfl
theorem inD_ints (h : Hh) (ng : Bool) (k : Int) (ks : List Int) : inD h ng (.int k) (.tup (ks.map .int)) = some (.bl (xor ng (ks.any fun z => decide (z = k)))) := by
  have q : seqPy h (.tup (ks.map .int)) = some (ks.map .int) := by
    unfold seqPy D.py
    simp only [D.pyW, pysW_ints, Option.map_some]
  have z : SeqAt.shaped (.list (ks.map .int)) = true := by
    obtain ⟨a, b⟩ := lay_ints ks
    unfold SeqAt.shaped
    rw [show PyData.canLay0 (.list (ks.map .int)) = _ by simp only [PyData.canLay0]; exact a]
    simp only [PyData.depth, b, Nat.zero_add, Bool.true_and]
    decide
  have e : ((ks.map PyData.int).any fun z => PyData.eqv z (.int k)) = ks.any fun z => decide (z = k) := by
    rw [List.any_map]
    congr 1
  show (match D.py h (.int k), seqPy h (.tup (ks.map .int)) with
    | some d, some ds => if SeqAt.shaped d && SeqAt.shaped (.list ds) then some (D.bl (xor ng (ds.any fun z => PyData.eqv z d))) else none
    | _, _ => none) = _
  rw [q, show D.py h (.int k) = some (.int k) from rfl]
  simp only [shaped_int, z, Bool.and_self, if_true, e]
theorem at0 {a : D} {l : List D} : L2.atI (a :: l) 0 = some a := by
  show L2.atI (a :: l) ((0 : Nat) : Int) = _
  rw [atI_nat]; rfl
theorem at1 {a b : D} {l : List D} : L2.atI (a :: b :: l) 1 = some b := by
  show L2.atI (a :: b :: l) ((1 : Nat) : Int) = _
  rw [atI_nat]; rfl
theorem at2 {a b c : D} {l : List D} : L2.atI (a :: b :: c :: l) 2 = some c := by
  show L2.atI (a :: b :: c :: l) ((2 : Nat) : Int) = _
  rw [atI_nat]; rfl
theorem aft_cases {g g' : Gr} {ds : List D} (a : Aft g (.tup ds) g') : (∃ (k : Nat) (x : D), ds = [.str "times", .int (k : Nat), x] ∧ k < g.bs.length) ∨ (∃ (k : Nat) (x : D), ds = [.str "deed", .int (k : Nat), x] ∧ k < g.bs.length) ∨ (∃ (k : Nat) (x : D), ds = [.str "start", .int (k : Nat), x] ∧ k < g.qs.length) ∨ (∃ (k : Nat) (x y : D), ds = [.str "rates", .int (k : Nat), x, y] ∧ k < g.qs.length) := by
  rcases a with ⟨p, hp, ts, e, _⟩ | ⟨p, hp, is, a, b, e, _⟩ | ⟨p, hp, st, e, _⟩ | ⟨p, hp, gs, tk, e, _⟩ <;> injection e with e <;> subst e
  · exact Or.inl ⟨p, _, rfl, hp⟩
  · exact Or.inr (Or.inl ⟨p, _, rfl, hp⟩)
  · exact Or.inr (Or.inr (Or.inl ⟨p, _, rfl, hp⟩))
  · exact Or.inr (Or.inr (Or.inr ⟨p, _, _, rfl, hp⟩))
theorem aft_tup {g g' : Gr} {d : D} (a : Aft g d g') : ∃ ds, d = .tup ds := by
  rcases a with ⟨p, hp, ts, e, _⟩ | ⟨p, hp, is, a, b, e, _⟩ | ⟨p, hp, st, e, _⟩ | ⟨p, hp, gs, tk, e, _⟩ <;> exact ⟨_, e⟩
/-- what stands in found -/
def FoundP (g : Gr) (d f : D) : Prop := (f = .non ∧ ∀ g', ¬ Aft g d g') ∨ (∃ bs qs, f = .tup [.tup (bs.map BD.d), .tup qs] ∧ BsP bs ∧ QsP qs ∧ ∀ g', Aft g d g' ↔ (f = g'.d ∧ g'.Ok))
theorem fb_ok {g : Gr} (o : g.Ok) {p : Nat} {b : BD} (bp : b.P ∧ Sh b.x ∧ Sh b.y) : BsP ((g.bs.map Bk.bd).set p b) ∧ QsP (g.qs.map Qe.d) := by
  have h := gr_bs o
  refine ⟨⟨fun c m => ?_, by rw [List.length_set]; exact h.l⟩, gr_qs o⟩
  rcases set_mem m with m | rfl
  · exact h.p c m
  · exact bp
theorem fq_ok {g : Gr} (o : g.Ok) {p : Nat} {q : D} (qp : Pu 4 q ∧ ShQ q) : BsP (g.bs.map Bk.bd) ∧ QsP ((g.qs.map Qe.d).set p q) := by
  have h := gr_qs o
  refine ⟨gr_bs o, ⟨fun c m => ?_, by rw [List.length_set]; exact h.l⟩⟩
  rcases set_mem m with m | rfl
  · exact h.p c m
  · exact qp
theorem place_nat {k : Nat} {x : D} (h : WholeP 0 ((k : Int) - 1) x) : ∃ p : Nat, x = .int (p : Nat) ∧ p < k := by
  obtain ⟨i, rfl, a, b⟩ := h
  exact ⟨i.toNat, by congr 1; omega, by omega⟩
theorem nat_place {k p : Nat} (h : p < k) : WholeP 0 ((k : Int) - 1) (.int (p : Nat)) := ⟨p, rfl, by omega, by omega⟩
theorem el_sh3 {x : D} (e : Pu 3 x ∧ Sh x) : Pu 3 x := e.1
theorem isStr_f {w : D} {s : Str} (h : isStrD w s = false) : w ≠ .str s := fun e => by
  rw [isStrD_iff.mpr e] at h; cases h
theorem s_changed {n : Nat} (hn : i_changed < n) {h : Hh} {g : Gr} (o : g.Ok) {T : List Nat} {d : D} (dk : DeedOk T h d) :
    CallP (phi xs defs n i_changed [g.d, d] h) (fun r h' => (∃ g', Aft g d g' ∧ r = g'.d) ∧ Frm [] h h') (BadP "deed" (∀ g', ¬ Aft g d g') h) := by
  refine fn_ok hn rfl rfl stab_p stabB ?_
  have raiseA : ∀ {h1 : Hh}, Frm [] h h1 → (∀ g', ¬ Aft g d g') → ((⟨1, (xs.flds 1).zip [.str "deed"]⟩ : Xn) = bad "deed" ∧ ∀ g', ¬ Aft g d g') ∧ Frm [] h h1 := fun F no => ⟨⟨rfl, no⟩, F⟩
  have raise : ∀ {h1 : Hh}, Frm [] h h1 → (∀ g', ¬ Aft g d g') → mkK xs 1 [.str "deed"] h1 (BadP "deed" (∀ g', ¬ Aft g d g') h) := fun F no => ⟨rfl, ⟨⟨rfl, no⟩, F⟩⟩
  refine cutN 4 (fun en h' => Frm [] h h' ∧ ∃ f, en = [some g.d, some d, some f] ∧ FoundP g d f) ?_ ?_
  · (conv => whnf)
    refine callz (s_check_ok (by decide) o) ?_
    rintro _ h1 ⟨rfl, F1⟩
    rcases dk with ⟨a, ys, rfl, _, ea⟩ | ⟨p4, sq⟩
    · have ea1 := F1.get (by simp) ea
      (conv => whnf)
      refine ⟨_, ea1, ?_⟩
      (conv => whnf); (repeat (first | (refine ⟨fun hx => absurd hx Bool.false_ne_true, fun _ => ?_⟩; conv => whnf) | (refine ⟨fun _ => ?_, fun hx => absurd (Eq.symm hx) Bool.false_ne_true⟩; conv => whnf) | (refine ⟨_, rfl, ?_⟩; conv => whnf) | (refine ⟨mulOk_r (by decide), ?_⟩; conv => whnf) | (refine ⟨mulOk_l (by decide), ?_⟩; conv => whnf) | (refine ⟨(nofun : _ ≠ Wd.other), ?_⟩; conv => whnf) | (refine ⟨Or.inl (Eq.refl Wd.lst), ?_⟩; conv => whnf) | (refine ⟨Or.inr (Eq.refl Wd.tup), ?_⟩; conv => whnf) | (refine ⟨by decide, ?_⟩; conv => whnf)))
      exact raiseA F1 fun g' a => by obtain ⟨ds, e⟩ := aft_tup a; cases e
    have nt : (∀ ds, d ≠ .tup ds) → ∀ g', ¬ Aft g d g' := fun q g' a => by obtain ⟨ds, e⟩ := aft_tup a; exact q ds e
    cases d with
    | ref a => exact (p4.not_ref).elim
    | fro a => exact (p4.not_fro).elim
    | tup ds =>
      have pd := p4.of_tup
      have sd := (sq ds rfl).2
      have dl := (sq ds rfl).1
      (conv => whnf); (repeat (first | (refine ⟨fun hx => absurd hx Bool.false_ne_true, fun _ => ?_⟩; conv => whnf) | (refine ⟨fun _ => ?_, fun hx => absurd (Eq.symm hx) Bool.false_ne_true⟩; conv => whnf)))
      refine ⟨nofun, ?_⟩
      (conv => whnf)
      refine ⟨_, inD_ints _ _ _ [3, 4], ?_⟩
      (conv => whnf)
      refine ⟨fun hc => ?_, fun hc => ?_⟩
      · (conv => whnf)
        refine raise F1 fun g' a => ?_
        have hl : ¬ (ds.length = 3 ∨ ds.length = 4) := by
          intro e
          rcases e with e | e <;> rw [e] at hc <;> exact absurd hc (by decide)
        rcases aft_cases a with ⟨k, x, rfl, _⟩ | ⟨k, x, rfl, _⟩ | ⟨k, x, rfl, _⟩ | ⟨k, x, y, rfl, _⟩ <;> simp at hl
      have hl : ds.length = 3 ∨ ds.length = 4 := by
        by_cases e3 : ds.length = 3
        · exact Or.inl e3
        by_cases e4 : ds.length = 4
        · exact Or.inr e4
        · exfalso
          have h1 : decide ((3 : Int) = (ds.length : Nat)) = false := decide_eq_false (by omega)
          have h2 : decide ((4 : Int) = (ds.length : Nat)) = false := decide_eq_false (by omega)
          simp only [List.any_cons, List.any_nil, h1, h2] at hc
          exact absurd hc (by decide)
      clear hc
      have two : ∃ w p x zs, ds = w :: p :: x :: zs := by
        match ds, hl with
        | w :: p :: x :: zs, _ => exact ⟨w, p, x, zs, rfl⟩
        | [], hl => simp at hl
        | [_], hl => simp at hl
        | [_, _], hl => simp at hl
      obtain ⟨w, p, x, zs, rfl⟩ := two
      have zl : zs.length = 0 ∨ zs.length = 1 := by
        have : (w :: p :: x :: zs).length = zs.length + 3 := rfl
        omega
      have pw := pd w (by simp)
      have pp := pd p (by simp)
      have px := pd x (by simp)
      have sx := sd x (by simp)
      have len3 : (((w :: p :: x :: zs).length : Nat) : Int) = 3 + (zs.length : Nat) := by simp; omega
      have elsePart : ∀ {h2 : Hh}, Frm [] h h2 → (∀ k : Nat, ∀ z, w :: p :: x :: zs = [.str "times", .int (k : Nat), z] → ¬ k < g.bs.length) → (∀ k : Nat, ∀ z, w :: p :: x :: zs = [.str "deed", .int (k : Nat), z] → ¬ k < g.bs.length) →
          wS.wSs xs (phi xs defs i_changed) [(.ifs (.call 46 [(.idx (.var 1) (.cst (.int 1))), (.sq .len (.idx (.var 0) (.cst (.int 1))))]) [(.ifs (.or [(.and [(.cmp .eq (.idx (.var 1) (.cst (.int 0))) (.cst (.str "start"))), (.cmp .eq (.sq .len (.var 1)) (.cst (.int 3)))]), (.and [(.cmp .eq (.idx (.var 1) (.cst (.int 0))) (.cst (.str "rates"))), (.cmp .eq (.sq .len (.var 1)) (.cst (.int 4)))])]) [(.asg 2 (.call 50 [(.var 0), (.var 1)]))] [])] [])]
            [some g.d, some (.tup (w :: p :: x :: zs)), some .non] h2 ⟨fun en h' => Frm [] h h' ∧ ∃ f, en = [some g.d, some (.tup (w :: p :: x :: zs)), some f] ∧ FoundP g (.tup (w :: p :: x :: zs)) f, fun r h' => (∃ g', Aft g (.tup (w :: p :: x :: zs)) g' ∧ r = g'.d) ∧ Frm [] h h', fun _ _ => False, fun _ _ => False⟩ (BadP "deed" (∀ g', ¬ Aft g (.tup (w :: p :: x :: zs)) g') h) := by
        intro h2 F2 nT nD
        have none : ∀ {h3 : Hh}, Frm [] h h3 → (∀ k : Nat, ∀ z, w :: p :: x :: zs = [.str "start", .int (k : Nat), z] → ¬ k < g.qs.length) → (∀ k : Nat, ∀ z y, w :: p :: x :: zs = [.str "rates", .int (k : Nat), z, y] → ¬ k < g.qs.length) → Frm [] h h3 ∧ ∃ f, [some g.d, some (.tup (w :: p :: x :: zs)), some D.non] = [some g.d, some (.tup (w :: p :: x :: zs)), some f] ∧ FoundP g (.tup (w :: p :: x :: zs)) f := by
          intro h3 F3 nS nR
          refine ⟨F3, _, rfl, Or.inl ⟨rfl, fun g' a => ?_⟩⟩
          rcases aft_cases a with ⟨k, z, e, l⟩ | ⟨k, z, e, l⟩ | ⟨k, z, e, l⟩ | ⟨k, z, y, e, l⟩
          · exact nT k z e l
          · exact nD k z e l
          · exact nS k z e l
          · exact nR k z y e l
        (conv => whnf)
        refine ⟨_, at1, ?_⟩
        (conv => whnf)
        refine ⟨_, rfl, ?_⟩
        (conv => whnf)
        refine ⟨nofun, ?_⟩
        (conv => whnf)
        rw [List.length_map]
        refine callz (s_place (by decide) pp) ?_
        rintro _ h3 ⟨rfl, F3⟩
        (conv => whnf)
        refine ⟨fun hc => ?_, fun hc => ?_⟩
        · obtain ⟨k, rfl, kl⟩ := place_nat (dec_iff.mp hc)
          (conv => whnf)
          refine ⟨_, at0, ?_⟩
          (conv => whnf)
          refine ⟨_, eqD_str pw (by decide) k_start _, ?_⟩
          (conv => whnf)
          refine ⟨fun hs => ?_, fun hs => ?_⟩
          · have ew := isStrD_iff.mp hs
            subst ew
            (conv => whnf)
            refine ⟨nofun, ?_⟩
            (conv => whnf)
            refine ⟨fun h3l => ?_, fun h3l => ?_⟩
            · have z0 : zs = [] := by
                have := of_decide_eq_true h3l
                rw [len3] at this
                exact List.length_eq_zero_iff.mp (by omega)
              subst z0
              (conv => whnf); (repeat (first | (refine ⟨fun hx => absurd hx Bool.false_ne_true, fun _ => ?_⟩; conv => whnf) | (refine ⟨fun _ => ?_, fun hx => absurd (Eq.symm hx) Bool.false_ne_true⟩; conv => whnf)))
              refine callz (s_changed_queue_s (by decide) o kl) ?_
              rintro _ h4 ⟨rfl, F4⟩
              have qo := o.qk g.qs[k] (List.getElem_mem _)
              have q6 := (o.bk (g.bs[g.qs[k].s]'qo.hs) (List.getElem_mem _)).l6
              have t6 := (o.bk (g.bs[g.qs[k].t]'qo.ht) (List.getElem_mem _)).l6
              have gl := qo.gs.len
              have tl := qo.tk.len
              have qp : Pu 4 (.tup [.int (g.qs[k].s : Nat), TI g.qs[k].gs, .int (g.qs[k].t : Nat), TI g.qs[k].tk, x]) ∧ ShQ (.tup [.int (g.qs[k].s : Nat), TI g.qs[k].gs, .int (g.qs[k].t : Nat), TI g.qs[k].tk, x]) := by
                refine ⟨Pu.tup (all_c Pu.int (all_c (pu_ints.mono (by decide)) (all_c Pu.int (all_c (pu_ints.mono (by decide)) (all_c px all_n))))), fun xs e => ?_⟩
                cases e
                exact ⟨by simp, all_c El.int.s (all_c (El.ints (by omega)).s (all_c El.int.s (all_c (El.ints (by omega)).s (all_c sx all_n))))⟩
              obtain ⟨f1, f2⟩ := fq_ok o (p := k) qp
              exact ⟨F2.trans (F3.trans F4), _, rfl, Or.inr ⟨_, _, rfl, f1, f2, fun g' => aft_start o kl g'⟩⟩
            · have z1 : zs.length = 1 := by
                have := of_decide_eq_false h3l
                rw [len3] at this
                omega
              (conv => whnf)
              refine ⟨_, at0, ?_⟩
              (conv => whnf)
              refine ⟨_, eqD_str (Pu.str (n := 0) k_start) (by decide) k_rates _, ?_⟩
              (conv => whnf)
              refine ⟨fun hr => (n_start_rates (by injection isStrD_iff.mp hr)).elim, fun _ => ?_⟩
              (conv => whnf)
              refine ⟨fun hx => absurd hx Bool.false_ne_true, fun _ => ?_⟩
              refine none (F2.trans F3) (fun k z e _ => by have := congrArg List.length e; simp only [List.length_cons, List.length_nil] at this; omega) (fun k z y e _ => ?_)
              simp only [List.cons.injEq, D.str.injEq] at e
              exact n_start_rates e.1
          · (conv => whnf)
            refine ⟨fun hx => absurd hx Bool.false_ne_true, fun _ => ?_⟩
            (conv => whnf)
            refine ⟨_, at0, ?_⟩
            (conv => whnf)
            refine ⟨_, eqD_str pw (by decide) k_rates _, ?_⟩
            (conv => whnf)
            refine ⟨fun hr => ?_, fun hr => ?_⟩
            · have ew := isStrD_iff.mp hr
              subst ew
              (conv => whnf)
              refine ⟨nofun, ?_⟩
              (conv => whnf)
              refine ⟨fun h4l => ?_, fun h4l => ?_⟩
              · have z1 : zs.length = 1 := by
                  have := of_decide_eq_true h4l
                  rw [len3] at this
                  omega
                obtain ⟨y, rfl⟩ := List.length_eq_one_iff.mp z1
                have py := pd y (by simp)
                have sy := sd y (by simp)
                (conv => whnf)
                refine callz (s_changed_queue_r (by decide) o kl) ?_
                rintro _ h4 ⟨rfl, F4⟩
                have qo := o.qk g.qs[k] (List.getElem_mem _)
                have sl := qo.sl
                have qp : Pu 4 (.tup [.int (g.qs[k].s : Nat), x, .int (g.qs[k].t : Nat), y, TI g.qs[k].st]) ∧ ShQ (.tup [.int (g.qs[k].s : Nat), x, .int (g.qs[k].t : Nat), y, TI g.qs[k].st]) := by
                  refine ⟨Pu.tup (all_c Pu.int (all_c px (all_c Pu.int (all_c py (all_c (pu_ints.mono (by decide)) all_n))))), fun xs e => ?_⟩
                  cases e
                  exact ⟨by simp, all_c El.int.s (all_c sx (all_c El.int.s (all_c sy (all_c (El.ints (by omega)).s all_n))))⟩
                obtain ⟨f1, f2⟩ := fq_ok o (p := k) qp
                exact ⟨F2.trans (F3.trans F4), _, rfl, Or.inr ⟨_, _, rfl, f1, f2, fun g' => aft_rates o kl g'⟩⟩
              · have z0 : zs.length = 0 := by
                  have := of_decide_eq_false h4l
                  rw [len3] at this
                  omega
                refine none (F2.trans F3) (fun k z e _ => ?_) (fun k z y e _ => by have := congrArg List.length e; simp only [List.length_cons, List.length_nil] at this; omega)
                simp only [List.cons.injEq, D.str.injEq] at e
                exact n_rates_start e.1
            · (conv => whnf)
              refine ⟨fun hx => absurd hx Bool.false_ne_true, fun _ => ?_⟩
              exact none (F2.trans F3) (fun k z e _ => isStr_f hs (by simp only [List.cons.injEq] at e; exact e.1)) (fun k z y e _ => isStr_f hr (by simp only [List.cons.injEq] at e; exact e.1))
        · have np := dec_no hc
          exact none (F2.trans F3) (fun k z e l => np (by simp only [List.cons.injEq] at e; rw [e.2.1]; exact nat_place l)) (fun k z y e l => np (by simp only [List.cons.injEq] at e; rw [e.2.1]; exact nat_place l))
      refine nilS ?_
      (conv => whnf)
      refine ⟨_, at0, ?_⟩
      (conv => whnf)
      refine ⟨_, inD_strs (ss := ["times", "deed"]) pw (by decide) (by rw [List.all_cons, k_times, List.all_cons, k_deed]; rfl) _ _, ?_⟩
      (conv => whnf)
      refine ⟨fun hw => ?_, fun hw => ?_⟩
      · have hw : w = .str "times" ∨ w = .str "deed" := by
          have : (["times", "deed"].any fun s => isStrD w s) = true := by simpa using hw
          rw [List.any_cons, List.any_cons, List.any_nil, Bool.or_false, Bool.or_eq_true] at this
          exact this.imp isStrD_iff.mp isStrD_iff.mp
        (conv => whnf)
        refine ⟨nofun, ?_⟩
        (conv => whnf)
        refine ⟨fun h3l => ?_, fun h3l => ?_⟩
        · have z0 : zs = [] := by
            have := of_decide_eq_true h3l
            rw [len3] at this
            exact List.length_eq_zero_iff.mp (by omega)
          subst z0
          (conv => whnf)
          refine ⟨_, rfl, ?_⟩
          (conv => whnf)
          refine ⟨_, rfl, ?_⟩
          (conv => whnf)
          refine ⟨nofun, ?_⟩
          (conv => whnf)
          rw [List.length_map]
          refine callz (s_place (by decide) pp) ?_
          rintro _ h3 ⟨rfl, F3⟩
          (conv => whnf)
          refine ⟨fun hc => ?_, fun hc => ?_⟩
          · obtain ⟨k, rfl, kl⟩ := place_nat (dec_iff.mp hc)
            have bo := o.bk g.bs[k] (List.getElem_mem _)
            have l6 := bo.l6
            have Bt : BD.P ⟨g.bs[k].nm, x, TI [g.bs[k].a, g.bs[k].b]⟩ ∧ Sh x ∧ Sh (TI [g.bs[k].a, g.bs[k].b]) := ⟨⟨bo.nm, bo.so, px, pu_ints.mono (by decide)⟩, sx, (El.ints (by simp)).s⟩
            have Bd : BD.P ⟨g.bs[k].nm, TI g.bs[k].ts, x⟩ ∧ Sh (TI g.bs[k].ts) ∧ Sh x := ⟨⟨bo.nm, bo.so, pu_ints.mono (by decide), px⟩, (El.ints (by omega)).s, sx⟩
            rcases hw with rfl | rfl
            · (conv => whnf)
              refine ⟨_, rfl, ?_⟩
              (conv => whnf)
              refine ⟨_, rfl, ?_⟩
              (conv => whnf)
              refine ⟨_, rfl, ?_⟩
              (conv => whnf)
              refine callz (s_changed_block (by decide) o kl (Or.inl rfl)) ?_
              rintro _ h4 ⟨⟨_, rfl⟩ | ⟨e, _⟩, F4⟩
              · obtain ⟨f1, f2⟩ := fb_ok o (p := k) Bt
                exact ⟨F1.trans (F3.trans F4), _, rfl, Or.inr ⟨_, _, rfl, f1, f2, fun g' => aft_times o kl g'⟩⟩
              · exact (n_times_deed e).elim
            · (conv => whnf)
              refine ⟨_, rfl, ?_⟩
              (conv => whnf)
              refine ⟨_, rfl, ?_⟩
              (conv => whnf)
              refine ⟨_, rfl, ?_⟩
              (conv => whnf)
              refine callz (s_changed_block (by decide) o kl (Or.inr rfl)) ?_
              rintro _ h4 ⟨⟨e, _⟩ | ⟨_, rfl⟩, F4⟩
              · exact (n_deed_times e).elim
              · obtain ⟨f1, f2⟩ := fb_ok o (p := k) Bd
                exact ⟨F1.trans (F3.trans F4), _, rfl, Or.inr ⟨_, _, rfl, f1, f2, fun g' => aft_deed o kl g'⟩⟩
          · have np := dec_no hc
            exact elsePart (F1.trans F3) (fun k z e l => np (by simp only [List.cons.injEq] at e; rw [e.2.1]; exact nat_place l)) (fun k z e l => np (by simp only [List.cons.injEq] at e; rw [e.2.1]; exact nat_place l))
        · have z1 : zs.length = 1 := by
            have := of_decide_eq_false h3l
            rw [len3] at this
            omega
          (conv => whnf)
          refine ⟨fun hx => absurd hx Bool.false_ne_true, fun _ => ?_⟩
          exact elsePart F1 (fun k z e _ => by have := congrArg List.length e; simp only [List.length_cons, List.length_nil] at this; omega) (fun k z e _ => by have := congrArg List.length e; simp only [List.length_cons, List.length_nil] at this; omega)
      · have hw : w ≠ .str "times" ∧ w ≠ .str "deed" := by
          have : (["times", "deed"].any fun s => isStrD w s) = false := by simpa using hw
          rw [List.any_cons, List.any_cons, List.any_nil, Bool.or_false, Bool.or_eq_false_iff] at this
          exact ⟨isStr_f this.1, isStr_f this.2⟩
        (conv => whnf)
        refine ⟨fun hx => absurd hx Bool.false_ne_true, fun _ => ?_⟩
        exact elsePart F1 (fun k z e _ => hw.1 (by simp only [List.cons.injEq] at e; exact e.1)) (fun k z e _ => hw.2 (by simp only [List.cons.injEq] at e; exact e.1))
    | _ =>
      (conv => whnf); (repeat (first | (refine ⟨fun hx => absurd hx Bool.false_ne_true, fun _ => ?_⟩; conv => whnf) | (refine ⟨fun _ => ?_, fun hx => absurd (Eq.symm hx) Bool.false_ne_true⟩; conv => whnf) | (refine ⟨_, rfl, ?_⟩; conv => whnf) | (refine ⟨mulOk_r (by decide), ?_⟩; conv => whnf) | (refine ⟨mulOk_l (by decide), ?_⟩; conv => whnf) | (refine ⟨(nofun : _ ≠ Wd.other), ?_⟩; conv => whnf) | (refine ⟨Or.inl (Eq.refl Wd.lst), ?_⟩; conv => whnf) | (refine ⟨Or.inr (Eq.refl Wd.tup), ?_⟩; conv => whnf) | (refine ⟨by decide, ?_⟩; conv => whnf)))
      exact raiseA F1 (nt fun ds e => by cases e)
  · rintro en h1 ⟨F1, f, rfl, ⟨rfl, no⟩ | ⟨bs, qs, rfl, bp, qp, iff⟩⟩
    · (conv => whnf); (repeat (first | (refine ⟨fun hx => absurd hx Bool.false_ne_true, fun _ => ?_⟩; conv => whnf) | (refine ⟨fun _ => ?_, fun hx => absurd (Eq.symm hx) Bool.false_ne_true⟩; conv => whnf) | (refine ⟨_, rfl, ?_⟩; conv => whnf) | (refine ⟨mulOk_r (by decide), ?_⟩; conv => whnf) | (refine ⟨mulOk_l (by decide), ?_⟩; conv => whnf) | (refine ⟨(nofun : _ ≠ Wd.other), ?_⟩; conv => whnf) | (refine ⟨Or.inl (Eq.refl Wd.lst), ?_⟩; conv => whnf) | (refine ⟨Or.inr (Eq.refl Wd.tup), ?_⟩; conv => whnf) | (refine ⟨by decide, ?_⟩; conv => whnf)))
      exact raiseA F1 no
    · (conv => whnf); (repeat (first | (refine ⟨fun hx => absurd hx Bool.false_ne_true, fun _ => ?_⟩; conv => whnf) | (refine ⟨fun _ => ?_, fun hx => absurd (Eq.symm hx) Bool.false_ne_true⟩; conv => whnf) | (refine ⟨_, rfl, ?_⟩; conv => whnf) | (refine ⟨mulOk_r (by decide), ?_⟩; conv => whnf) | (refine ⟨mulOk_l (by decide), ?_⟩; conv => whnf) | (refine ⟨(nofun : _ ≠ Wd.other), ?_⟩; conv => whnf) | (refine ⟨Or.inl (Eq.refl Wd.lst), ?_⟩; conv => whnf) | (refine ⟨Or.inr (Eq.refl Wd.tup), ?_⟩; conv => whnf) | (refine ⟨by decide, ?_⟩; conv => whnf)))
      refine callz (s_is_graph (by decide) bp qp) ?_
      rintro _ h2 ⟨rfl, F2⟩
      (conv => whnf)
      refine ⟨fun hc => ?_, fun hc => ?_⟩
      · have hn : ¬ GraphP (.tup [.tup (bs.map BD.d), .tup qs]) := dec_no (by simpa using hc)
        (conv => whnf)
        exact raise (F1.trans F2) fun g' a => hn ⟨g', ((iff g').mp a).1, ((iff g').mp a).2⟩
      · obtain ⟨g', e, o'⟩ := dec_iff.mp (show dec (GraphP (.tup [.tup (bs.map BD.d), .tup qs])) = true by simpa using hc)
        (conv => whnf)
        exact ⟨⟨g', (iff g').mpr ⟨e, o'⟩, e⟩, F1.trans F2⟩
end Tx
set_option Elab.async false
set_option linter.all false
set_option maxRecDepth 100000
set_option maxHeartbeats 4000000
namespace Tx
open PySem Mp
open PySem.PyData (strOk)
theorem s_is_int {n : Nat} (hn : i__law_is_int < n) {h : Hh} {m : Nat} {x : D} (p : Pu m x) :
    CallP (phi xs defs n i__law_is_int [x] h) (fun d h' => d = .bl (dec (∃ i, x = .int i)) ∧ Frm [] h h') X0 := by
  refine fn_ok hn rfl rfl stab_p stabX0 ?_
  cases x with
  | ref a => exact (p.not_ref).elim
  | fro a => exact (p.not_fro).elim
  | int i => (conv => whnf); (repeat (first | (refine ⟨fun hx => absurd hx Bool.false_ne_true, fun _ => ?_⟩; conv => whnf) | (refine ⟨fun _ => ?_, fun hx => absurd (Eq.symm hx) Bool.false_ne_true⟩; conv => whnf) | (refine ⟨_, rfl, ?_⟩; conv => whnf) | (refine ⟨mulOk_r (by decide), ?_⟩; conv => whnf) | (refine ⟨mulOk_l (by decide), ?_⟩; conv => whnf) | (refine ⟨(nofun : _ ≠ Wd.other), ?_⟩; conv => whnf) | (refine ⟨Or.inl (Eq.refl Wd.lst), ?_⟩; conv => whnf) | (refine ⟨Or.inr (Eq.refl Wd.tup), ?_⟩; conv => whnf) | (refine ⟨by decide, ?_⟩; conv => whnf))); exact ⟨by rw [dec_t ⟨i, rfl⟩]; rfl, Frm.refl⟩
  | _ =>
    (conv => whnf); (repeat (first | (refine ⟨fun hx => absurd hx Bool.false_ne_true, fun _ => ?_⟩; conv => whnf) | (refine ⟨fun _ => ?_, fun hx => absurd (Eq.symm hx) Bool.false_ne_true⟩; conv => whnf) | (refine ⟨_, rfl, ?_⟩; conv => whnf) | (refine ⟨mulOk_r (by decide), ?_⟩; conv => whnf) | (refine ⟨mulOk_l (by decide), ?_⟩; conv => whnf) | (refine ⟨(nofun : _ ≠ Wd.other), ?_⟩; conv => whnf) | (refine ⟨Or.inl (Eq.refl Wd.lst), ?_⟩; conv => whnf) | (refine ⟨Or.inr (Eq.refl Wd.tup), ?_⟩; conv => whnf) | (refine ⟨by decide, ?_⟩; conv => whnf)))
    refine ⟨(congrArg D.bl (dec_f ?_)).symm, Frm.refl⟩
    rintro ⟨j, e⟩
    cases e
theorem ints_tup {xs : List D} : (∃ is : List Int, D.tup xs = .tup (is.map .int)) ↔ ∀ x ∈ xs, ∃ i, x = .int i := by
  constructor
  · rintro ⟨is, e⟩ x m
    injection e with e
    subst e
    obtain ⟨i, mi, rfl⟩ := List.mem_map.mp m
    exact ⟨i, rfl⟩
  · intro p
    obtain ⟨is, rfl, r⟩ := intsOf (P := fun _ => True) (rs := xs) fun r m => by
      obtain ⟨i, e⟩ := p r m
      exact ⟨i, e, trivial⟩
    exact ⟨is, rfl⟩
theorem s_is_ints {n : Nat} (hn : i__law_is_ints < n) {h : Hh} {m : Nat} {x : D} (p : Pu m x) (hl : Sh x) :
    CallP (phi xs defs n i__law_is_ints [x] h) (fun d h' => d = .bl (dec (∃ is : List Int, x = .tup (is.map .int))) ∧ Frm [] h h') X0 := by
  refine fn_ok hn rfl rfl stab_p stabX0 ?_
  cases x with
  | ref a => exact (p.not_ref).elim
  | fro a => exact (p.not_fro).elim
  | tup ys =>
    have ll := hl ys rfl
    obtain ⟨k, py⟩ : ∃ k, ∀ y ∈ ys, Pu k y := by
      cases m with
      | zero => exact p.tup0.elim
      | succ k => exact ⟨k, p.of_tup⟩
    (conv => whnf); (repeat (first | (refine ⟨fun hx => absurd hx Bool.false_ne_true, fun _ => ?_⟩; conv => whnf) | (refine ⟨fun _ => ?_, fun hx => absurd (Eq.symm hx) Bool.false_ne_true⟩; conv => whnf) | (refine ⟨_, rfl, ?_⟩; conv => whnf) | (refine ⟨mulOk_r (by decide), ?_⟩; conv => whnf) | (refine ⟨mulOk_l (by decide), ?_⟩; conv => whnf) | (refine ⟨(nofun : _ ≠ Wd.other), ?_⟩; conv => whnf) | (refine ⟨Or.inl (Eq.refl Wd.lst), ?_⟩; conv => whnf) | (refine ⟨Or.inr (Eq.refl Wd.tup), ?_⟩; conv => whnf) | (refine ⟨by decide, ?_⟩; conv => whnf)))
    refine comp_map (fun y => some (.bl (dec (∃ i, y = .int i)))) (by dsimp only; unfold sizeLine; omega) stays_nil ?_ ?_
    · intro y my h1 F1 G k
      (conv => whnf)
      refine callz (s_is_int (by decide) (py y my)) ?_
      rintro _ h2 ⟨rfl, F2⟩
      exact k _ F2
    intro h1 F1
    (conv => whnf)
    refine ⟨_, all_dec [], ?_⟩
    (conv => whnf)
    refine ⟨?_, F1⟩
    congr 2
    exact propext ints_tup.symm
  | _ =>
    (conv => whnf); (repeat (first | (refine ⟨fun hx => absurd hx Bool.false_ne_true, fun _ => ?_⟩; conv => whnf) | (refine ⟨fun _ => ?_, fun hx => absurd (Eq.symm hx) Bool.false_ne_true⟩; conv => whnf) | (refine ⟨_, rfl, ?_⟩; conv => whnf) | (refine ⟨mulOk_r (by decide), ?_⟩; conv => whnf) | (refine ⟨mulOk_l (by decide), ?_⟩; conv => whnf) | (refine ⟨(nofun : _ ≠ Wd.other), ?_⟩; conv => whnf) | (refine ⟨Or.inl (Eq.refl Wd.lst), ?_⟩; conv => whnf) | (refine ⟨Or.inr (Eq.refl Wd.tup), ?_⟩; conv => whnf) | (refine ⟨by decide, ?_⟩; conv => whnf)))
    refine ⟨?_, Frm.refl⟩
    rw [dec_f]
    rintro ⟨is, e⟩
    cases e
def LRow (lo hi least most : Int) (x : D) : Prop := ∃ is, RowP lo hi x is ∧ least ≤ (is.length : Nat) ∧ ((is.length : Nat) : Int) ≤ most
theorem s_row {n : Nat} (hn : i__law_row < n) {h : Hh} {m : Nat} {x : D} (p : Pu m x) (hl : Sh x) {lo hi le mo : Int} :
    CallP (phi xs defs n i__law_row [x, .int lo, .int hi, .int le, .int mo] h) (fun d h' => d = .bl (dec (LRow lo hi le mo x)) ∧ Frm [] h h') X0 := by
  refine fn_ok hn rfl rfl stab_p stabX0 ?_
  (conv => whnf)
  refine callz (s_is_ints (by decide) p hl) ?_
  rintro _ h1 ⟨rfl, F1⟩
  (conv => whnf)
  refine ⟨fun hc => ?_, fun hc => ?_⟩
  · have hn : ¬ ∃ is : List Int, x = .tup (is.map .int) := dec_no (by simpa using hc)
    (conv => whnf); (repeat (first | (refine ⟨fun hx => absurd hx Bool.false_ne_true, fun _ => ?_⟩; conv => whnf) | (refine ⟨fun _ => ?_, fun hx => absurd (Eq.symm hx) Bool.false_ne_true⟩; conv => whnf) | (refine ⟨_, rfl, ?_⟩; conv => whnf) | (refine ⟨mulOk_r (by decide), ?_⟩; conv => whnf) | (refine ⟨mulOk_l (by decide), ?_⟩; conv => whnf) | (refine ⟨(nofun : _ ≠ Wd.other), ?_⟩; conv => whnf) | (refine ⟨Or.inl (Eq.refl Wd.lst), ?_⟩; conv => whnf) | (refine ⟨Or.inr (Eq.refl Wd.tup), ?_⟩; conv => whnf) | (refine ⟨by decide, ?_⟩; conv => whnf)))
    refine ⟨?_, F1⟩
    rw [dec_f]
    rintro ⟨is, ⟨e, _⟩, _⟩
    exact hn ⟨is, e⟩
  obtain ⟨is, rfl⟩ : ∃ is : List Int, x = .tup (is.map .int) := dec_iff.mp (by simpa using hc)
  have ll := hl _ rfl
  rw [List.length_map] at ll
  have no : ¬ (le ≤ (is.length : Nat) ∧ ((is.length : Nat) : Int) ≤ mo) → dec (LRow lo hi le mo (.tup (is.map .int))) = false := fun k => dec_f fun ⟨js, ⟨e, _⟩, l⟩ => by
    rw [← tupI_inj e] at l
    exact k l
  (conv => whnf)
  refine ⟨nofun, ?_⟩
  (conv => whnf)
  rw [List.length_map]
  refine ⟨fun hc => ?_, fun hc => ?_⟩
  · have c1 := of_decide_eq_true hc
    (conv => whnf)
    refine ⟨fun hc => ?_, fun hc => ?_⟩
    · have c2 : ¬ ((is.length : Nat) : Int) ≤ mo := of_decide_eq_false (by simpa using hc)
      (conv => whnf)
      refine ⟨?_, F1⟩
      rw [no]
      exact fun u => c2 u.2
    have c2 : ((is.length : Nat) : Int) ≤ mo := of_decide_eq_true (by simpa using hc)
    (conv => whnf)
    refine comp_map (fun y => some (.bl (dec (WholeP lo hi y)))) (by dsimp only; rw [List.length_map]; unfold sizeLine; omega) stays_nil ?_ ?_
    · intro y my h2 F2 G k
      obtain ⟨i, mi, rfl⟩ := List.mem_map.mp my
      (conv => whnf)
      refine ⟨fun hc => ?_, fun hc => ?_⟩
      · have d1 : lo ≤ i := of_decide_eq_true hc
        (conv => whnf)
        have e : dec (WholeP lo hi (.int i)) = decide (i ≤ hi) := by
          refine (dec_of ?_).symm
          rw [decide_eq_true_iff]
          exact ⟨fun u => ⟨i, rfl, d1, u⟩, fun ⟨j, e, u, v⟩ => by cases e; exact v⟩
        have := k h2 Frm.refl
        rw [e] at this
        exact this
      · have d1 : ¬ lo ≤ i := of_decide_eq_false hc
        (conv => whnf)
        have e : dec (WholeP lo hi (.int i)) = false := dec_f fun ⟨j, e, u, v⟩ => by cases e; exact d1 u
        have := k h2 Frm.refl
        rw [e] at this
        exact this
    intro h2 F2
    (conv => whnf)
    refine ⟨_, all_dec [], ?_⟩
    (conv => whnf)
    refine ⟨blr ?_, F1.trans F2⟩
    rw [dec_iff]
    constructor
    · intro a
      obtain ⟨js, e, r⟩ := nums_tup.mpr a
      rw [← tupI_inj e] at r
      exact ⟨is, ⟨rfl, r⟩, c1, c2⟩
    · rintro ⟨js, ⟨e, r⟩, _⟩
      exact nums_tup.mp ⟨js, e, r⟩
  · have c1 := of_decide_eq_false hc
    (conv => whnf); (repeat (first | (refine ⟨fun hx => absurd hx Bool.false_ne_true, fun _ => ?_⟩; conv => whnf) | (refine ⟨fun _ => ?_, fun hx => absurd (Eq.symm hx) Bool.false_ne_true⟩; conv => whnf) | (refine ⟨_, rfl, ?_⟩; conv => whnf) | (refine ⟨mulOk_r (by decide), ?_⟩; conv => whnf) | (refine ⟨mulOk_l (by decide), ?_⟩; conv => whnf) | (refine ⟨(nofun : _ ≠ Wd.other), ?_⟩; conv => whnf) | (refine ⟨Or.inl (Eq.refl Wd.lst), ?_⟩; conv => whnf) | (refine ⟨Or.inr (Eq.refl Wd.tup), ?_⟩; conv => whnf) | (refine ⟨by decide, ?_⟩; conv => whnf)))
    refine ⟨?_, F1⟩
    rw [no]
    exact fun u => c1 u.1
theorem s_rates_fit {n : Nat} (hn : i__law_rates_fit < n) {h : Hh} {m : Nat} {x : D} (p : Pu m x) (hl : Sh x) {os : List Int} :
    CallP (phi xs defs n i__law_rates_fit [x, TI os] h) (fun d h' => d = .bl (dec (RatesP os.length x)) ∧ Frm [] h h') X0 := by
  refine fn_ok hn rfl rfl stab_p stabX0 ?_
  (conv => whnf)
  refine ⟨nofun, ?_⟩
  (conv => whnf)
  refine ⟨nofun, ?_⟩
  (conv => whnf)
  rw [List.length_map]
  refine callz (s_row (by decide) p hl) ?_
  rintro _ h1 ⟨rfl, F1⟩
  (conv => whnf)
  refine ⟨fun hc => ?_, fun hc => ?_⟩
  · obtain ⟨is, ⟨rfl, r⟩, l1, l2⟩ := dec_iff.mp hc
    (conv => whnf)
    refine ⟨_, sq_sum (Or.inr rfl) is [], ?_⟩
    (conv => whnf)
    refine ⟨blr ?_, F1⟩
    rw [decide_eq_true_iff]
    constructor
    · intro u; exact ⟨is, rfl, by omega, r, u⟩
    · rintro ⟨js, e, o⟩
      rw [tupI_inj e]; exact o.pos
  · have hn := dec_no hc
    (conv => whnf)
    refine ⟨?_, F1⟩
    rw [dec_f]
    rintro ⟨js, rfl, o⟩
    exact hn ⟨js, ⟨rfl, o.rg⟩, by rw [o.len]; exact Int.le_refl _, by rw [o.len]; exact Int.le_refl _⟩
def AftR (g : Gr) (d r : D) : Prop := (∃ g', Aft g d g' ∧ r = g'.d) ∨ (r = .non ∧ ∀ g', ¬ Aft g d g')
theorem set_bk {g : Gr} {p : Nat} {k : Bk} : D.tup [.tup ((g.bs.map Bk.d).set p k.d), .tup (g.qs.map Qe.d)] = Gr.d ⟨g.bs.set p k, g.qs⟩ := by
  rw [← List.map_set]; rfl
theorem set_qe {g : Gr} {p : Nat} {k : Qe} : D.tup [.tup (g.bs.map Bk.d), .tup ((g.qs.map Qe.d).set p k.d)] = Gr.d ⟨g.bs, g.qs.set p k⟩ := by
  rw [← List.map_set]; rfl
theorem s_block_after {n : Nat} (hn : i__law_block_after < n) {h : Hh} {g : Gr} (o : g.Ok) {w p x : D} {zs : List D} (hw : w = .str "times" ∨ w = .str "deed") (pp : Pu 3 p) (px : Pu 3 x) (sx : Sh x) (zl : zs.length ≤ 1000) :
    CallP (phi xs defs n i__law_block_after [g.d, .tup (w :: p :: x :: zs)] h) (fun r h' => AftR g (.tup (w :: p :: x :: zs)) r ∧ Frm [] h h') X0 := by
  refine fn_ok hn rfl rfl stab_p stabX0 ?_
  have no : (∀ (k : Nat), zs = [] → p = .int (k : Nat) → k < g.bs.length → False) → ∀ g', ¬ Aft g (.tup (w :: p :: x :: zs)) g' := by
    intro q g' a
    rcases aft_cases a with ⟨k, z, e, l⟩ | ⟨k, z, e, l⟩ | ⟨k, z, e, l⟩ | ⟨k, z, y, e, l⟩ <;> simp only [List.cons.injEq] at e <;> obtain ⟨e1, e2, e3, e4⟩ := e
    · exact q k e4 e2 l
    · exact q k e4 e2 l
    · rcases hw with rfl | rfl
      · exact n_times_start (by injection e1)
      · exact n_deed_start (by injection e1)
    · rcases hw with rfl | rfl
      · exact n_times_rates (by injection e1)
      · exact n_deed_rates (by injection e1)
  have lc : ((w :: p :: x :: zs).length : Int) = 3 + (zs.length : Nat) := by simp only [List.length_cons]; omega
  (conv => whnf)
  refine ⟨_, rfl, ?_⟩
  (conv => whnf)
  refine ⟨Or.inr rfl, ?_⟩
  (conv => whnf)
  refine ⟨nofun, ?_⟩
  (conv => whnf)
  have F0 : Frm [] h (h ++ [.lst (g.bs.map Bk.d)]) := Frm.app _
  have e0 : (h ++ [.lst (g.bs.map Bk.d)])[h.length]? = some (.lst (g.bs.map Bk.d)) := new_cell
  have big : ∀ {h2 : Hh} {ys : List D}, Frm [] h h2 → Frm [] h (h2.set h.length (.lst ys)) := fun F => F.new (Frm.set (S := [h.length]) (by simp)) (by intro a m; simp at m; subst m; exact Or.inr (Nat.le_refl _))
  generalize (h ++ [.lst (g.bs.map Bk.d)]) = h0 at *
  refine ⟨fun hc => ?_, fun hc => ?_⟩
  · have z0 : zs.length ≠ 0 := by
      rw [lc] at hc
      intro e; rw [e] at hc; exact absurd hc (by decide)
    (conv => whnf); (repeat (first | (refine ⟨fun hx => absurd hx Bool.false_ne_true, fun _ => ?_⟩; conv => whnf) | (refine ⟨fun _ => ?_, fun hx => absurd (Eq.symm hx) Bool.false_ne_true⟩; conv => whnf) | (refine ⟨_, rfl, ?_⟩; conv => whnf) | (refine ⟨mulOk_r (by decide), ?_⟩; conv => whnf) | (refine ⟨mulOk_l (by decide), ?_⟩; conv => whnf) | (refine ⟨(nofun : _ ≠ Wd.other), ?_⟩; conv => whnf) | (refine ⟨Or.inl (Eq.refl Wd.lst), ?_⟩; conv => whnf) | (refine ⟨Or.inr (Eq.refl Wd.tup), ?_⟩; conv => whnf) | (refine ⟨by decide, ?_⟩; conv => whnf)))
    exact ⟨Or.inr ⟨rfl, no fun k e _ _ => z0 (by rw [e]; rfl)⟩, F0⟩
  have z0 : zs = [] := by
    rw [lc] at hc
    have : decide ((3 : Int) + (zs.length : Nat) = 3) = true := by simpa using hc
    exact List.length_eq_zero_iff.mp (by have := of_decide_eq_true this; omega)
  clear hc
  subst z0
  (conv => whnf)
  refine ⟨_, rfl, ?_⟩
  (conv => whnf)
  refine callz (s_is_int (by decide) pp) ?_
  rintro _ h1 ⟨rfl, F1⟩
  have e1 := F1.get (by simp) e0
  (conv => whnf)
  refine ⟨fun hc => ?_, fun hc => ?_⟩
  · have hi : ¬ ∃ i, p = .int i := dec_no (by simpa using hc)
    (conv => whnf); (repeat (first | (refine ⟨fun hx => absurd hx Bool.false_ne_true, fun _ => ?_⟩; conv => whnf) | (refine ⟨fun _ => ?_, fun hx => absurd (Eq.symm hx) Bool.false_ne_true⟩; conv => whnf) | (refine ⟨_, rfl, ?_⟩; conv => whnf) | (refine ⟨mulOk_r (by decide), ?_⟩; conv => whnf) | (refine ⟨mulOk_l (by decide), ?_⟩; conv => whnf) | (refine ⟨(nofun : _ ≠ Wd.other), ?_⟩; conv => whnf) | (refine ⟨Or.inl (Eq.refl Wd.lst), ?_⟩; conv => whnf) | (refine ⟨Or.inr (Eq.refl Wd.tup), ?_⟩; conv => whnf) | (refine ⟨by decide, ?_⟩; conv => whnf)))
    exact ⟨Or.inr ⟨rfl, no fun k _ e _ => hi ⟨_, e⟩⟩, F0.trans F1⟩
  obtain ⟨i, rfl⟩ : ∃ i, p = .int i := dec_iff.mp (by simpa using hc)
  (conv => whnf)
  refine ⟨_, rfl, ?_⟩
  (conv => whnf)
  refine ⟨fun hc => ?_, fun hc => ?_⟩
  · have i0 : (0 : Int) ≤ i := of_decide_eq_true hc
    obtain ⟨k, rfl⟩ : ∃ k : Nat, i = k := ⟨i.toNat, by omega⟩
    (conv => whnf)
    refine ⟨_, e1, ?_⟩
    (conv => whnf)
    refine ⟨nofun, ?_⟩
    (conv => whnf)
    rw [List.length_map]
    refine ⟨fun hc => ?_, fun hc => ?_⟩
    · have hk : ¬ (k : Int) < (g.bs.length : Nat) := of_decide_eq_false (by simpa using hc)
      (conv => whnf)
      exact ⟨Or.inr ⟨rfl, no fun j _ e l => by have := int_inj e; omega⟩, F0.trans F1⟩
    have hk : k < g.bs.length := by
      have : (k : Int) < (g.bs.length : Nat) := of_decide_eq_true (by simpa using hc)
      omega
    have bo := o.bk g.bs[k] (List.getElem_mem _)
    (conv => whnf)
    refine ⟨_, rfl, ?_⟩
    (conv => whnf)
    refine ⟨_, e1, _, at_map hk, ?_⟩
    (conv => whnf)
    refine ⟨_, rfl, ?_⟩
    rcases hw with rfl | rfl
    · -- times
      (conv => whnf)
      refine ⟨_, eqStr k_times k_deed, ?_⟩
      (conv => whnf)
      refine ⟨fun hc => (n_times_deed (of_decide_eq_true hc)).elim, fun _ => ?_⟩
      (conv => whnf)
      refine ⟨_, rfl, ?_⟩
      (conv => whnf)
      refine callz (s_row (by decide) px sx) ?_
      rintro _ h2 ⟨rfl, F2⟩
      have e2 := F2.get (by simp) e1
      (conv => whnf)
      refine ⟨fun hc => ?_, fun hc => ?_⟩
      · have hn : ¬ LRow 0 60 1 6 x := dec_no (by simpa using hc)
        (conv => whnf)
        refine ⟨Or.inr ⟨rfl, fun g' a => ?_⟩, F0.trans (F1.trans F2)⟩
        rcases a with ⟨p2, hp2, ts, e, r, l1, l6, _⟩ | ⟨p2, hp2, is, a, b, e, _⟩ | ⟨p2, hp2, st, e, _⟩ | ⟨p2, hp2, gs, tk, e, _⟩
        · simp only [D.tup.injEq, List.cons.injEq, and_true, true_and] at e
          exact hn ⟨ts, ⟨e.2, r⟩, by omega, by omega⟩
        · exact (ne_w n_times_deed e).elim
        · exact (ne_w n_times_start e).elim
        · exact (ne_w n_times_rates e).elim
      obtain ⟨ts, ⟨rfl, r⟩, l1, l6⟩ := dec_iff.mp (show dec (LRow 0 60 1 6 x) = true by simpa using hc)
      (conv => whnf)
      refine ⟨_, rfl, ?_⟩
      (conv => whnf)
      refine comp_map (fun y => match y with
        | .tup [.int s, a, .int t, b, c] => if s = (k : Int) ∨ t = (k : Int) then some y else none
        | _ => none) (by dsimp only; rw [List.length_map]; have := o.q160; unfold sizeLine; omega) stays_nil ?_ ?_
      · intro y my h3 F3 G kk
        obtain ⟨q, mq, rfl⟩ := List.mem_map.mp my
        (conv => whnf)
        refine ⟨_, rfl, ?_⟩
        (conv => whnf)
        refine ⟨_, rfl, ?_⟩
        (conv => whnf)
        refine ⟨fun hc => ?_, fun hc => ?_⟩
        · have hs := of_decide_eq_true hc
          have := kk h3 Frm.refl
          simp only [Qe.d, hs, true_or, if_true] at this
          (conv => whnf); (repeat (first | (refine ⟨fun hx => absurd hx Bool.false_ne_true, fun _ => ?_⟩; conv => whnf) | (refine ⟨fun _ => ?_, fun hx => absurd (Eq.symm hx) Bool.false_ne_true⟩; conv => whnf)))
          simp only [Qe.d, hs]
          exact this
        · have hs := of_decide_eq_false hc
          (conv => whnf)
          refine ⟨_, rfl, ?_⟩
          (conv => whnf)
          refine ⟨_, rfl, ?_⟩
          (conv => whnf)
          refine ⟨fun hc => ?_, fun hc => ?_⟩
          · have ht := of_decide_eq_true hc
            have := kk h3 Frm.refl
            simp only [Qe.d, ht, or_true, if_true] at this
            (conv => whnf)
            simp only [Qe.d, ht]
            exact this
          · have ht := of_decide_eq_false hc
            have := kk h3 Frm.refl
            simp only [Qe.d, hs, ht, or_self, if_false] at this
            (conv => whnf)
            exact this
      intro h3 F3
      dsimp only
      have hz : ∀ (zs : List Qe), (zs.map Qe.d).filterMap (fun y => match y with
        | .tup [.int s, a, .int t, b, c] => if s = (k : Int) ∨ t = (k : Int) then some y else none
        | _ => none) = [] ↔ ∀ q ∈ zs, q.s ≠ k ∧ q.t ≠ k := by
        intro zs
        rw [List.filterMap_eq_nil_iff]
        constructor
        · intro a q m
          have := a q.d (List.mem_map_of_mem m)
          simp only [Qe.d] at this
          split at this
          · cases this
          · omega
        · intro a y m
          obtain ⟨q, mq, rfl⟩ := List.mem_map.mp m
          have := a q mq
          simp only [Qe.d]
          rw [if_neg (by omega)]
      have hq := hz g.qs
      generalize (g.qs.map Qe.d).filterMap (fun y => match y with
        | .tup [.int s, a, .int t, b, c] => if s = (k : Int) ∨ t = (k : Int) then some y else none
        | _ => none) = js at hq ⊢
      have e3 := F3.get (by simp) e2
      have FF := F0.trans (F1.trans (F2.trans F3))
      have done : (ts.length = g.bs[k].ts.length ∨ js = []) → ∀ {h4 : Hh} {u3 : Option D}, Frm [] h h4 → h4[h.length]? = some (.lst (g.bs.map Bk.d)) →
          wS.wSs xs (phi xs defs i__law_block_after) (d24.body.drop 7) [some g.d, some (.tup [.str "times", .int (k : Int), TI ts]), some (.ref h.length), u3, some (.str g.bs[k].nm), some (TI g.bs[k].ts), some (TI [g.bs[k].a, g.bs[k].b]), none] h4 ⟨fun _ _ => False, fun r h' => AftR g (.tup [.str "times", .int (k : Int), TI ts]) r ∧ Frm [] h h', fun _ _ => False, fun _ _ => False⟩ X0 := by
        intro cond h4 u3 F4 e4
        (conv => whnf)
        refine ⟨_, rfl, ?_⟩
        (conv => whnf)
        refine ⟨_, rfl, ?_⟩
        (conv => whnf)
        refine ⟨_, _, e4, ixN_nat (by rw [List.length_map]; exact hk), ?_⟩
        (conv => whnf)
        refine ⟨_, List.getElem?_set_self (List.getElem?_eq_some_iff.mp e4).1, ?_⟩
        (conv => whnf)
        refine ⟨Or.inl rfl, ?_⟩
        (conv => whnf)
        refine ⟨_, rfl, ?_⟩
        (conv => whnf)
        refine ⟨Or.inl ⟨_, Or.inl ⟨k, hk, ts, rfl, r, by omega, by omega, cond.imp id hq.mp, rfl⟩, set_bk (k := ⟨g.bs[k].nm, ts, g.bs[k].a, g.bs[k].b⟩)⟩, big F4⟩
      (conv => whnf)
      have F5 : Frm [] h (h3 ++ [.lst js]) := FF.trans (Frm.app _)
      have e5 : (h3 ++ [Cell.lst js])[h.length]? = some (.lst (g.bs.map Bk.d)) := (Frm.app (S := []) _).get (by simp) e3
      refine ⟨_, rfl, ?_⟩
      (conv => whnf)
      refine ⟨nofun, ?_⟩
      (conv => whnf)
      refine ⟨nofun, ?_⟩
      (conv => whnf)
      rw [List.length_map, List.length_map]
      refine ⟨fun hc => ?_, fun hc => ?_⟩
      · have hne : ts.length ≠ g.bs[k].ts.length := by
          intro e; rw [e] at hc; simp at hc
        (conv => whnf)
        refine ⟨_, new_cell, ?_⟩
        (conv => whnf)
        refine ⟨nofun, ?_⟩
        (conv => whnf)
        refine ⟨fun hc => ?_, fun hc => ?_⟩
        · have hj : js ≠ [] := by
            rintro rfl
            simp at hc
          (conv => whnf)
          refine ⟨Or.inr ⟨rfl, fun g' a => ?_⟩, F5⟩
          rcases a with ⟨p2, hp2, ts2, e, _, _, _, hq2, _⟩ | ⟨p2, hp2, is, a, b, e, _⟩ | ⟨p2, hp2, st, e, _⟩ | ⟨p2, hp2, gs, tk, e, _⟩
          · simp only [D.tup.injEq, List.cons.injEq, and_true, true_and] at e
            obtain ⟨u, v⟩ := e
            obtain rfl := int_inj u
            have v2 := map_int_inj v
            rw [← v2] at hq2
            rcases hq2 with hq2 | hq2
            · exact hne hq2
            · exact hj (hq.mpr hq2)
          · exact (ne_w n_times_deed e).elim
          · exact (ne_w n_times_start e).elim
          · exact (ne_w n_times_rates e).elim
        · have hj : js = [] := by
            have : ¬ (0 : Int) < (js.length : Nat) := of_decide_eq_false hc
            exact List.length_eq_zero_iff.mp (by omega)
          exact done (Or.inr hj) F5 e5
      · have hne : ts.length = g.bs[k].ts.length := by
          have : decide (((ts.length : Nat) : Int) = (g.bs[k].ts.length : Nat)) = true := by simpa using hc
          have := of_decide_eq_true this
          omega
        (conv => whnf)
        refine ⟨fun hx => absurd hx Bool.false_ne_true, fun _ => ?_⟩
        exact done (Or.inl hne) F5 e5
    · -- deed
      (conv => whnf)
      refine ⟨_, eqStr k_deed k_deed, ?_⟩
      (conv => whnf)
      refine ⟨fun _ => ?_, fun hc => (of_decide_eq_false hc rfl).elim⟩
      (conv => whnf)
      refine ⟨_, rfl, ?_⟩
      (conv => whnf)
      refine callz (s_row (by decide) px sx) ?_
      rintro _ h2 ⟨rfl, F2⟩
      have e2 := F2.get (by simp) e1
      (conv => whnf)
      refine ⟨fun hc => ?_, fun hc => ?_⟩
      · have hn : ¬ LRow 0 9972 2 2 x := dec_no (by simpa using hc)
        (conv => whnf)
        refine ⟨Or.inr ⟨rfl, fun g' a => ?_⟩, F0.trans (F1.trans F2)⟩
        rcases a with ⟨p2, hp2, ts, e, _⟩ | ⟨p2, hp2, is, a, b, e, rfl, r, _⟩ | ⟨p2, hp2, st, e, _⟩ | ⟨p2, hp2, gs, tk, e, _⟩
        · exact (ne_w n_deed_times e).elim
        · simp only [D.tup.injEq, List.cons.injEq, and_true, true_and] at e
          exact hn ⟨[a, b], ⟨e.2, r⟩, by simp, by simp⟩
        · exact (ne_w n_deed_start e).elim
        · exact (ne_w n_deed_rates e).elim
      obtain ⟨is, ⟨rfl, r⟩, l1, l6⟩ := dec_iff.mp (show dec (LRow 0 9972 2 2 x) = true by simpa using hc)
      have l2 : is.length = 2 := by omega
      match is, l2, r with
      | [a, b], _, r =>
      (conv => whnf)
      refine ⟨_, rfl, ?_⟩
      (conv => whnf)
      refine ⟨_, rfl, ?_⟩
      (conv => whnf)
      refine ⟨_, _, e2, ixN_nat (by rw [List.length_map]; exact hk), ?_⟩
      (conv => whnf)
      refine ⟨_, List.getElem?_set_self (List.getElem?_eq_some_iff.mp e2).1, ?_⟩
      (conv => whnf)
      refine ⟨Or.inl rfl, ?_⟩
      (conv => whnf)
      refine ⟨_, rfl, ?_⟩
      (conv => whnf)
      exact ⟨Or.inl ⟨_, Or.inr (Or.inl ⟨k, hk, [a, b], a, b, rfl, rfl, r, rfl⟩), set_bk (k := ⟨g.bs[k].nm, g.bs[k].ts, a, b⟩)⟩, big (F0.trans (F1.trans F2))⟩
  · have i0 : ¬ (0 : Int) ≤ i := of_decide_eq_false hc
    (conv => whnf); (repeat (first | (refine ⟨fun hx => absurd hx Bool.false_ne_true, fun _ => ?_⟩; conv => whnf) | (refine ⟨fun _ => ?_, fun hx => absurd (Eq.symm hx) Bool.false_ne_true⟩; conv => whnf) | (refine ⟨_, rfl, ?_⟩; conv => whnf) | (refine ⟨mulOk_r (by decide), ?_⟩; conv => whnf) | (refine ⟨mulOk_l (by decide), ?_⟩; conv => whnf) | (refine ⟨(nofun : _ ≠ Wd.other), ?_⟩; conv => whnf) | (refine ⟨Or.inl (Eq.refl Wd.lst), ?_⟩; conv => whnf) | (refine ⟨Or.inr (Eq.refl Wd.tup), ?_⟩; conv => whnf) | (refine ⟨by decide, ?_⟩; conv => whnf)))
    exact ⟨Or.inr ⟨rfl, no fun k _ e _ => by injection e with e; omega⟩, F0.trans F1⟩
end Tx
set_option Elab.async false
set_option linter.all false
set_option maxRecDepth 100000
set_option maxHeartbeats 4000000
namespace Tx
open PySem Mp
open PySem.PyData (strOk)
theorem s_queue_after {n : Nat} (hn : i__law_queue_after < n) {h : Hh} {g : Gr} (o : g.Ok) {w p x : D} {zs : List D} (hw : w = .str "start" ∨ w = .str "rates") (pp : Pu 3 p) (px : Pu 3 x) (sx : Sh x) (pz : ∀ z ∈ zs, Pu 3 z ∧ Sh z) (zl : zs.length ≤ 1000) :
    CallP (phi xs defs n i__law_queue_after [g.d, .tup (w :: p :: x :: zs)] h) (fun r h' => AftR g (.tup (w :: p :: x :: zs)) r ∧ Frm [] h h') X0 := by
  refine fn_ok hn rfl rfl stab_p stabX0 ?_
  have no : (∀ (k : Nat), p = .int (k : Nat) → k < g.qs.length → False) → ∀ g', ¬ Aft g (.tup (w :: p :: x :: zs)) g' := by
    intro q g' a
    rcases aft_cases a with ⟨k, z, e, l⟩ | ⟨k, z, e, l⟩ | ⟨k, z, e, l⟩ | ⟨k, z, y, e, l⟩ <;> simp only [List.cons.injEq] at e <;> obtain ⟨e1, e2, e3, e4⟩ := e
    · rcases hw with rfl | rfl
      · exact n_start_times (by injection e1)
      · exact n_rates_times (by injection e1)
    · rcases hw with rfl | rfl
      · exact n_start_deed (by injection e1)
      · exact n_rates_deed (by injection e1)
    · exact q k e2 l
    · exact q k e2 l
  have lc : ((w :: p :: x :: zs).length : Int) = 3 + (zs.length : Nat) := by simp only [List.length_cons]; omega
  (conv => whnf)
  refine ⟨_, rfl, ?_⟩
  (conv => whnf)
  refine ⟨Or.inr rfl, ?_⟩
  (conv => whnf)
  have F0 : Frm [] h (h ++ [.lst (g.qs.map Qe.d)]) := Frm.app _
  have e0 : (h ++ [.lst (g.qs.map Qe.d)])[h.length]? = some (.lst (g.qs.map Qe.d)) := new_cell
  have big : ∀ {h2 : Hh} {ys : List D}, Frm [] h h2 → Frm [] h (h2.set h.length (.lst ys)) := fun F => F.new (Frm.set (S := [h.length]) (by simp)) (by intro a m; simp at m; subst m; exact Or.inr (Nat.le_refl _))
  generalize (h ++ [.lst (g.qs.map Qe.d)]) = h0 at *
  refine ⟨_, at1, ?_⟩
  (conv => whnf)
  refine callz (s_is_int (by decide) pp) ?_
  rintro _ h1 ⟨rfl, F1⟩
  have e1 := F1.get (by simp) e0
  (conv => whnf)
  refine ⟨fun hc => ?_, fun hc => ?_⟩
  · have hi : ¬ ∃ i, p = .int i := dec_no (by simpa using hc)
    (conv => whnf); (repeat (first | (refine ⟨fun hx => absurd hx Bool.false_ne_true, fun _ => ?_⟩; conv => whnf) | (refine ⟨fun _ => ?_, fun hx => absurd (Eq.symm hx) Bool.false_ne_true⟩; conv => whnf) | (refine ⟨_, rfl, ?_⟩; conv => whnf) | (refine ⟨mulOk_r (by decide), ?_⟩; conv => whnf) | (refine ⟨mulOk_l (by decide), ?_⟩; conv => whnf) | (refine ⟨(nofun : _ ≠ Wd.other), ?_⟩; conv => whnf) | (refine ⟨Or.inl (Eq.refl Wd.lst), ?_⟩; conv => whnf) | (refine ⟨Or.inr (Eq.refl Wd.tup), ?_⟩; conv => whnf) | (refine ⟨by decide, ?_⟩; conv => whnf)))
    exact ⟨Or.inr ⟨rfl, no fun k e _ => hi ⟨_, e⟩⟩, F0.trans F1⟩
  obtain ⟨i, rfl⟩ : ∃ i, p = .int i := dec_iff.mp (by simpa using hc)
  (conv => whnf)
  refine ⟨_, at1, ?_⟩
  (conv => whnf)
  refine ⟨fun hc => ?_, fun hc => ?_⟩
  · have i0 : (0 : Int) ≤ i := of_decide_eq_true hc
    obtain ⟨k, rfl⟩ : ∃ k : Nat, i = k := ⟨i.toNat, by omega⟩
    (conv => whnf)
    refine ⟨_, e1, ?_⟩
    (conv => whnf)
    refine ⟨nofun, ?_⟩
    (conv => whnf)
    rw [List.length_map]
    refine ⟨fun hc => ?_, fun hc => ?_⟩
    · have hk : ¬ (k : Int) < (g.qs.length : Nat) := of_decide_eq_false (by simpa using hc)
      (conv => whnf)
      exact ⟨Or.inr ⟨rfl, no fun j e l => by have := int_inj e; omega⟩, F0.trans F1⟩
    have hk : k < g.qs.length := by
      have : (k : Int) < (g.qs.length : Nat) := of_decide_eq_true (by simpa using hc)
      omega
    have qo := o.qk g.qs[k] (List.getElem_mem _)
    have gl := qo.gs.len
    have tl := qo.tk.len
    (conv => whnf)
    refine ⟨_, at1, ?_⟩
    (conv => whnf)
    refine ⟨_, e1, _, at_map hk, ?_⟩
    (conv => whnf)
    refine ⟨_, at0, ?_⟩
    rcases hw with rfl | rfl
    · -- start
      (conv => whnf)
      refine ⟨_, eqStr k_start k_start, ?_⟩
      (conv => whnf)
      refine ⟨fun _ => ?_, fun hc => (of_decide_eq_false hc rfl).elim⟩
      (conv => whnf)
      refine ⟨nofun, ?_⟩
      (conv => whnf)
      refine ⟨fun hc => ?_, fun hc => ?_⟩
      · have z0 : zs.length ≠ 0 := by
          rw [lc] at hc
          intro e; rw [e] at hc; exact absurd hc (by decide)
        (conv => whnf); (repeat (first | (refine ⟨fun hx => absurd hx Bool.false_ne_true, fun _ => ?_⟩; conv => whnf) | (refine ⟨fun _ => ?_, fun hx => absurd (Eq.symm hx) Bool.false_ne_true⟩; conv => whnf) | (refine ⟨_, rfl, ?_⟩; conv => whnf) | (refine ⟨mulOk_r (by decide), ?_⟩; conv => whnf) | (refine ⟨mulOk_l (by decide), ?_⟩; conv => whnf) | (refine ⟨(nofun : _ ≠ Wd.other), ?_⟩; conv => whnf) | (refine ⟨Or.inl (Eq.refl Wd.lst), ?_⟩; conv => whnf) | (refine ⟨Or.inr (Eq.refl Wd.tup), ?_⟩; conv => whnf) | (refine ⟨by decide, ?_⟩; conv => whnf)))
        refine ⟨Or.inr ⟨rfl, fun g' a => ?_⟩, F0.trans F1⟩
        rcases aft_cases a with ⟨k, z, e, l⟩ | ⟨k, z, e, l⟩ | ⟨k, z, e, l⟩ | ⟨k, z, y, e, l⟩ <;> simp only [List.cons.injEq] at e <;> obtain ⟨e1, e2, e3, e4⟩ := e
        · exact n_start_times (by injection e1)
        · exact n_start_deed (by injection e1)
        · exact z0 (by rw [e4]; rfl)
        · exact n_start_rates (by injection e1)
      have z0 : zs = [] := by
        rw [lc] at hc
        have : decide ((3 : Int) + (zs.length : Nat) = 3) = true := by simpa using hc
        exact List.length_eq_zero_iff.mp (by have := of_decide_eq_true this; omega)
      clear hc
      subst z0
      (conv => whnf)
      refine ⟨_, rfl, ?_⟩
      (conv => whnf)
      refine callz (s_row (by decide) px sx) ?_
      rintro _ h2 ⟨rfl, F2⟩
      have e2 := F2.get (by simp) e1
      (conv => whnf)
      refine ⟨fun hc => ?_, fun hc => ?_⟩
      · have hn : ¬ LRow 0 9972 0 60 x := dec_no (by simpa using hc)
        (conv => whnf)
        refine ⟨Or.inr ⟨rfl, fun g' a => ?_⟩, F0.trans (F1.trans F2)⟩
        rcases a with ⟨p2, hp2, ts, e, _⟩ | ⟨p2, hp2, is, a, b, e, _⟩ | ⟨p2, hp2, st, e, r, l, _⟩ | ⟨p2, hp2, gs, tk, e, _⟩
        · exact (ne_w n_start_times e).elim
        · exact (ne_w n_start_deed e).elim
        · simp only [D.tup.injEq, List.cons.injEq, and_true, true_and] at e
          exact hn ⟨st, ⟨e.2, r⟩, by omega, by omega⟩
        · exact (ne_w n_start_rates e).elim
      obtain ⟨st, ⟨rfl, r⟩, l1, l6⟩ := dec_iff.mp (show dec (LRow 0 9972 0 60 x) = true by simpa using hc)
      (conv => whnf)
      refine ⟨_, rfl, ?_⟩
      (conv => whnf)
      refine ⟨_, rfl, ?_⟩
      (conv => whnf)
      refine ⟨_, _, e2, ixN_nat (by rw [List.length_map]; exact hk), ?_⟩
      (conv => whnf)
      refine ⟨_, rfl, ?_⟩
      (conv => whnf)
      refine ⟨_, List.getElem?_set_self (List.getElem?_eq_some_iff.mp e2).1, ?_⟩
      (conv => whnf)
      refine ⟨Or.inl rfl, ?_⟩
      (conv => whnf)
      exact ⟨Or.inl ⟨_, Or.inr (Or.inr (Or.inl ⟨k, hk, st, rfl, r, by omega, rfl⟩)), set_qe (k := ⟨g.qs[k].s, g.qs[k].gs, g.qs[k].t, g.qs[k].tk, st⟩)⟩, big (F0.trans (F1.trans F2))⟩
    · -- rates
      (conv => whnf)
      refine ⟨_, eqStr k_rates k_start, ?_⟩
      (conv => whnf)
      refine ⟨fun hc => (n_rates_start (of_decide_eq_true hc)).elim, fun _ => ?_⟩
      (conv => whnf)
      refine ⟨nofun, ?_⟩
      (conv => whnf)
      refine ⟨fun hc => ?_, fun hc => ?_⟩
      · have z0 : zs.length ≠ 1 := by
          rw [lc] at hc
          intro e; rw [e] at hc; exact absurd hc (by decide)
        (conv => whnf); (repeat (first | (refine ⟨fun hx => absurd hx Bool.false_ne_true, fun _ => ?_⟩; conv => whnf) | (refine ⟨fun _ => ?_, fun hx => absurd (Eq.symm hx) Bool.false_ne_true⟩; conv => whnf) | (refine ⟨_, rfl, ?_⟩; conv => whnf) | (refine ⟨mulOk_r (by decide), ?_⟩; conv => whnf) | (refine ⟨mulOk_l (by decide), ?_⟩; conv => whnf) | (refine ⟨(nofun : _ ≠ Wd.other), ?_⟩; conv => whnf) | (refine ⟨Or.inl (Eq.refl Wd.lst), ?_⟩; conv => whnf) | (refine ⟨Or.inr (Eq.refl Wd.tup), ?_⟩; conv => whnf) | (refine ⟨by decide, ?_⟩; conv => whnf)))
        refine ⟨Or.inr ⟨rfl, fun g' a => ?_⟩, F0.trans F1⟩
        rcases aft_cases a with ⟨k, z, e, l⟩ | ⟨k, z, e, l⟩ | ⟨k, z, e, l⟩ | ⟨k, z, y, e, l⟩ <;> simp only [List.cons.injEq] at e <;> obtain ⟨e1, e2, e3, e4⟩ := e
        · exact n_rates_times (by injection e1)
        · exact n_rates_deed (by injection e1)
        · exact n_rates_start (by injection e1)
        · exact z0 (by rw [e4]; rfl)
      have z1 : zs.length = 1 := by
        rw [lc] at hc
        have : decide ((3 : Int) + (zs.length : Nat) = 4) = true := by simpa using hc
        have := of_decide_eq_true this
        omega
      clear hc
      obtain ⟨y, rfl⟩ := List.length_eq_one_iff.mp z1
      obtain ⟨py, sy⟩ := pz y (by simp)
      have none : (¬ (RatesP g.qs[k].gs.length x ∧ RatesP g.qs[k].tk.length y)) → ∀ g', ¬ Aft g (.tup [.str "rates", .int (k : Int), x, y]) g' := by
        intro q g' a
        rcases a with ⟨p2, hp2, ts, e, _⟩ | ⟨p2, hp2, is, a, b, e, _⟩ | ⟨p2, hp2, st, e, _⟩ | ⟨p2, hp2, gs, tk, e, go, to, _⟩
        · exact (ne_w n_rates_times e).elim
        · exact (ne_w n_rates_deed e).elim
        · exact (ne_w n_rates_start e).elim
        · simp only [D.tup.injEq, List.cons.injEq, and_true, true_and] at e
          obtain ⟨u, v, w⟩ := e
          obtain rfl := int_inj u
          exact q ⟨⟨gs, v, go⟩, ⟨tk, w, to⟩⟩
      (conv => whnf)
      refine ⟨_, rfl, ?_⟩
      (conv => whnf)
      refine callz (s_rates_fit (by decide) px sx) ?_
      rintro _ h2 ⟨rfl, F2⟩
      (conv => whnf)
      refine ⟨fun hc => ?_, fun hc => ?_⟩
      · have hn : ¬ RatesP g.qs[k].gs.length x := dec_no (by simpa using hc)
        (conv => whnf); (repeat (first | (refine ⟨fun hx => absurd hx Bool.false_ne_true, fun _ => ?_⟩; conv => whnf) | (refine ⟨fun _ => ?_, fun hx => absurd (Eq.symm hx) Bool.false_ne_true⟩; conv => whnf) | (refine ⟨_, rfl, ?_⟩; conv => whnf) | (refine ⟨mulOk_r (by decide), ?_⟩; conv => whnf) | (refine ⟨mulOk_l (by decide), ?_⟩; conv => whnf) | (refine ⟨(nofun : _ ≠ Wd.other), ?_⟩; conv => whnf) | (refine ⟨Or.inl (Eq.refl Wd.lst), ?_⟩; conv => whnf) | (refine ⟨Or.inr (Eq.refl Wd.tup), ?_⟩; conv => whnf) | (refine ⟨by decide, ?_⟩; conv => whnf)))
        exact ⟨Or.inr ⟨rfl, none fun u => hn u.1⟩, F0.trans (F1.trans F2)⟩
      obtain ⟨gs, rfl, go⟩ := dec_iff.mp (show dec (RatesP g.qs[k].gs.length x) = true by simpa using hc)
      (conv => whnf)
      refine ⟨_, rfl, ?_⟩
      (conv => whnf)
      refine callz (s_rates_fit (by decide) py sy) ?_
      rintro _ h3 ⟨rfl, F3⟩
      (conv => whnf)
      refine ⟨fun hc => ?_, fun hc => ?_⟩
      · have hn : ¬ RatesP g.qs[k].tk.length y := dec_no (by simpa using hc)
        (conv => whnf)
        exact ⟨Or.inr ⟨rfl, none fun u => hn u.2⟩, F0.trans (F1.trans (F2.trans F3))⟩
      obtain ⟨tk, rfl, to⟩ := dec_iff.mp (show dec (RatesP g.qs[k].tk.length y) = true by simpa using hc)
      have e3 := F3.get (by simp) (F2.get (by simp) e1)
      (conv => whnf)
      refine ⟨_, rfl, ?_⟩
      (conv => whnf)
      refine ⟨_, rfl, ?_⟩
      (conv => whnf)
      refine ⟨_, rfl, ?_⟩
      (conv => whnf)
      refine ⟨_, _, e3, ixN_nat (by rw [List.length_map]; exact hk), ?_⟩
      (conv => whnf)
      refine ⟨_, rfl, ?_⟩
      (conv => whnf)
      refine ⟨_, List.getElem?_set_self (List.getElem?_eq_some_iff.mp e3).1, ?_⟩
      (conv => whnf)
      refine ⟨Or.inl rfl, ?_⟩
      (conv => whnf)
      exact ⟨Or.inl ⟨_, Or.inr (Or.inr (Or.inr ⟨k, hk, gs, tk, rfl, go, to, rfl⟩)), set_qe (k := ⟨g.qs[k].s, gs, g.qs[k].t, tk, g.qs[k].st⟩)⟩, big (F0.trans (F1.trans (F2.trans F3)))⟩
  · have i0 : ¬ (0 : Int) ≤ i := of_decide_eq_false hc
    (conv => whnf); (repeat (first | (refine ⟨fun hx => absurd hx Bool.false_ne_true, fun _ => ?_⟩; conv => whnf) | (refine ⟨fun _ => ?_, fun hx => absurd (Eq.symm hx) Bool.false_ne_true⟩; conv => whnf) | (refine ⟨_, rfl, ?_⟩; conv => whnf) | (refine ⟨mulOk_r (by decide), ?_⟩; conv => whnf) | (refine ⟨mulOk_l (by decide), ?_⟩; conv => whnf) | (refine ⟨(nofun : _ ≠ Wd.other), ?_⟩; conv => whnf) | (refine ⟨Or.inl (Eq.refl Wd.lst), ?_⟩; conv => whnf) | (refine ⟨Or.inr (Eq.refl Wd.tup), ?_⟩; conv => whnf) | (refine ⟨by decide, ?_⟩; conv => whnf)))
    exact ⟨Or.inr ⟨rfl, no fun k e _ => by injection e with e; omega⟩, F0.trans F1⟩
theorem s_after {n : Nat} (hn : i__law_after < n) {h : Hh} {g : Gr} (o : g.Ok) {T : List Nat} {d : D} (dk : DeedOk T h d) :
    CallP (phi xs defs n i__law_after [g.d, d] h) (fun r h' => AftR g d r ∧ Frm [] h h') X0 := by
  refine fn_ok hn rfl rfl stab_p stabX0 ?_
  have nt : (∀ ds, d ≠ .tup ds) → ∀ g', ¬ Aft g d g' := fun q g' a => by obtain ⟨ds, e⟩ := aft_tup a; exact q ds e
  rcases dk with ⟨a, ys, rfl, _, ea⟩ | ⟨p4, sq⟩
  · (conv => whnf)
    refine ⟨_, ea, ?_⟩
    (conv => whnf); (repeat (first | (refine ⟨fun hx => absurd hx Bool.false_ne_true, fun _ => ?_⟩; conv => whnf) | (refine ⟨fun _ => ?_, fun hx => absurd (Eq.symm hx) Bool.false_ne_true⟩; conv => whnf) | (refine ⟨_, rfl, ?_⟩; conv => whnf) | (refine ⟨mulOk_r (by decide), ?_⟩; conv => whnf) | (refine ⟨mulOk_l (by decide), ?_⟩; conv => whnf) | (refine ⟨(nofun : _ ≠ Wd.other), ?_⟩; conv => whnf) | (refine ⟨Or.inl (Eq.refl Wd.lst), ?_⟩; conv => whnf) | (refine ⟨Or.inr (Eq.refl Wd.tup), ?_⟩; conv => whnf) | (refine ⟨by decide, ?_⟩; conv => whnf)))
    exact ⟨Or.inr ⟨rfl, nt fun ds e => by cases e⟩, Frm.refl⟩
  cases d with
  | ref a => exact (p4.not_ref).elim
  | fro a => exact (p4.not_fro).elim
  | tup ds =>
    have pd := p4.of_tup
    have sd := (sq ds rfl).2
    have dl := (sq ds rfl).1
    (conv => whnf); (repeat (first | (refine ⟨fun hx => absurd hx Bool.false_ne_true, fun _ => ?_⟩; conv => whnf) | (refine ⟨fun _ => ?_, fun hx => absurd (Eq.symm hx) Bool.false_ne_true⟩; conv => whnf)))
    refine ⟨nofun, ?_⟩
    (conv => whnf)
    refine ⟨fun hc => ?_, fun hc => ?_⟩
    · have hl : (ds.length : Int) < 3 := of_decide_eq_true hc
      (conv => whnf)
      refine ⟨Or.inr ⟨rfl, fun g' a => ?_⟩, Frm.refl⟩
      rcases aft_cases a with ⟨k, x, rfl, _⟩ | ⟨k, x, rfl, _⟩ | ⟨k, x, rfl, _⟩ | ⟨k, x, y, rfl, _⟩ <;> simp at hl
    have hl : ¬ (ds.length : Int) < 3 := of_decide_eq_false hc
    have two : ∃ w p x zs, ds = w :: p :: x :: zs := by
      match ds, hl with
      | w :: p :: x :: zs, _ => exact ⟨w, p, x, zs, rfl⟩
      | [], hl => simp at hl
      | [_], hl => simp at hl
      | [_, _], hl => simp at hl
    obtain ⟨w, p, x, zs, rfl⟩ := two
    have zl : zs.length ≤ 1000 := by simp only [List.length_cons] at dl; omega
    have pw := pd w (by simp)
    have blk : (w = .str "times" ∨ w = .str "deed") → CallP (phi xs defs i__law_after 24 [g.d, .tup (w :: p :: x :: zs)] h) (fun r h' => AftR g (.tup (w :: p :: x :: zs)) r ∧ Frm [] h h') X0 := fun hw => s_block_after (by decide) o hw (pd p (by simp)) (pd x (by simp)) (sd x (by simp)) zl
    have que : (w = .str "start" ∨ w = .str "rates") → CallP (phi xs defs i__law_after 26 [g.d, .tup (w :: p :: x :: zs)] h) (fun r h' => AftR g (.tup (w :: p :: x :: zs)) r ∧ Frm [] h h') X0 := fun hw => s_queue_after (by decide) o hw (pd p (by simp)) (pd x (by simp)) (sd x (by simp)) (fun z m => ⟨pd z (by simp [m]), sd z (by simp [m])⟩) zl
    (conv => whnf)
    refine ⟨_, at0, ?_⟩
    (conv => whnf)
    refine ⟨_, eqD_str pw (by decide) k_times _, ?_⟩
    (conv => whnf)
    refine ⟨fun hs => ?_, fun hs => ?_⟩
    · (conv => whnf); (repeat (first | (refine ⟨fun hx => absurd hx Bool.false_ne_true, fun _ => ?_⟩; conv => whnf) | (refine ⟨fun _ => ?_, fun hx => absurd (Eq.symm hx) Bool.false_ne_true⟩; conv => whnf)))
      exact callz (blk (Or.inl (isStrD_iff.mp hs))) fun _ _ q => q
    (conv => whnf)
    refine ⟨_, at0, ?_⟩
    (conv => whnf)
    refine ⟨_, eqD_str pw (by decide) k_deed _, ?_⟩
    (conv => whnf)
    refine ⟨fun hs2 => ?_, fun hs2 => ?_⟩
    · (conv => whnf)
      exact callz (blk (Or.inr (isStrD_iff.mp hs2))) fun _ _ q => q
    (conv => whnf)
    refine ⟨_, at0, ?_⟩
    (conv => whnf)
    refine ⟨_, eqD_str pw (by decide) k_start _, ?_⟩
    (conv => whnf)
    refine ⟨fun hs3 => ?_, fun hs3 => ?_⟩
    · (conv => whnf); (repeat (first | (refine ⟨fun hx => absurd hx Bool.false_ne_true, fun _ => ?_⟩; conv => whnf) | (refine ⟨fun _ => ?_, fun hx => absurd (Eq.symm hx) Bool.false_ne_true⟩; conv => whnf)))
      exact callz (que (Or.inl (isStrD_iff.mp hs3))) fun _ _ q => q
    (conv => whnf)
    refine ⟨_, at0, ?_⟩
    (conv => whnf)
    refine ⟨_, eqD_str pw (by decide) k_rates _, ?_⟩
    (conv => whnf)
    refine ⟨fun hs4 => ?_, fun hs4 => ?_⟩
    · (conv => whnf)
      exact callz (que (Or.inr (isStrD_iff.mp hs4))) fun _ _ q => q
    (conv => whnf)
    refine ⟨Or.inr ⟨rfl, fun g' a => ?_⟩, Frm.refl⟩
    rcases aft_cases a with ⟨k, z, e, l⟩ | ⟨k, z, e, l⟩ | ⟨k, z, e, l⟩ | ⟨k, z, y, e, l⟩ <;> simp only [List.cons.injEq] at e
    · exact isStr_f hs e.1
    · exact isStr_f hs2 e.1
    · exact isStr_f hs3 e.1
    · exact isStr_f hs4 e.1
  | _ =>
    (conv => whnf); (repeat (first | (refine ⟨fun hx => absurd hx Bool.false_ne_true, fun _ => ?_⟩; conv => whnf) | (refine ⟨fun _ => ?_, fun hx => absurd (Eq.symm hx) Bool.false_ne_true⟩; conv => whnf) | (refine ⟨_, rfl, ?_⟩; conv => whnf) | (refine ⟨mulOk_r (by decide), ?_⟩; conv => whnf) | (refine ⟨mulOk_l (by decide), ?_⟩; conv => whnf) | (refine ⟨(nofun : _ ≠ Wd.other), ?_⟩; conv => whnf) | (refine ⟨Or.inl (Eq.refl Wd.lst), ?_⟩; conv => whnf) | (refine ⟨Or.inr (Eq.refl Wd.tup), ?_⟩; conv => whnf) | (refine ⟨by decide, ?_⟩; conv => whnf)))
    exact ⟨Or.inr ⟨rfl, nt fun ds e => by cases e⟩, Frm.refl⟩
end Tx
set_option Elab.async false
set_option linter.all false
set_option maxRecDepth 100000
set_option maxHeartbeats 4000000
namespace Tx
open PySem Mp
open PySem.PyData (strOk)
/-- what is_fact can be asked of -/
def FactE (h : Hh) (x : D) : Prop := (∃ (a : Nat) (ys : List D), x = .ref a ∧ h[a]? = some (.lst ys)) ∨ (∃ m, Pu m x) ∨ ∃ (a b c : D) (m : Nat), x = .tup [a, b, c] ∧ Pu m a ∧ Pu m b
theorem FactE.frm {h h' : Hh} {x : D} (p : FactE h x) (F : Frm [] h h') : FactE h' x := by
  rcases p with ⟨a, ys, rfl, e⟩ | p | p
  · exact Or.inl ⟨a, ys, rfl, F.get (by simp) e⟩
  · exact Or.inr (Or.inl p)
  · exact Or.inr (Or.inr p)
def FactP (x : D) : Prop := ∃ t s dd, x = .tup [t, s, dd] ∧ WholeP 0 1000000 t ∧ WholeP 0 1000000 s
theorem s_is_fact {n : Nat} (hn : i_is_fact < n) {h : Hh} {x : D} (p : FactE h x) :
    CallP (phi xs defs n i_is_fact [x] h) (fun d h' => d = .bl (dec (FactP x)) ∧ Frm [] h h') X0 := by
  refine fn_ok hn rfl rfl stab_p stabX0 ?_
  have nt : (∀ a b c, x ≠ .tup [a, b, c]) → D.bl false = .bl (dec (FactP x)) := fun q => (congrArg D.bl (dec_f fun ⟨t, s, dd, e, _⟩ => q t s dd e)).symm
  have three : ∀ {a b c : D} {m : Nat}, x = .tup [a, b, c] → Pu m a → Pu m b → wS.wSs xs (phi xs defs i_is_fact) d32.body [some x] h ⟨fun _ h' => D.non = .bl (dec (FactP x)) ∧ Frm [] h h', fun d h' => d = .bl (dec (FactP x)) ∧ Frm [] h h', fun _ _ => False, fun _ _ => False⟩ X0 := by
    intro a b c m e pa pb
    subst e
    (conv => whnf); (repeat (first | (refine ⟨fun hx => absurd hx Bool.false_ne_true, fun _ => ?_⟩; conv => whnf) | (refine ⟨fun _ => ?_, fun hx => absurd (Eq.symm hx) Bool.false_ne_true⟩; conv => whnf) | (refine ⟨_, rfl, ?_⟩; conv => whnf) | (refine ⟨mulOk_r (by decide), ?_⟩; conv => whnf) | (refine ⟨mulOk_l (by decide), ?_⟩; conv => whnf) | (refine ⟨(nofun : _ ≠ Wd.other), ?_⟩; conv => whnf) | (refine ⟨Or.inl (Eq.refl Wd.lst), ?_⟩; conv => whnf) | (refine ⟨Or.inr (Eq.refl Wd.tup), ?_⟩; conv => whnf) | (refine ⟨by decide, ?_⟩; conv => whnf)))
    refine callz (s_whole (by decide) pa) ?_
    rintro _ h1 ⟨rfl, F1⟩
    (conv => whnf)
    refine ⟨fun hc => ?_, fun hc => ?_⟩
    · have ha := dec_iff.mp hc
      (conv => whnf); (repeat (first | (refine ⟨fun hx => absurd hx Bool.false_ne_true, fun _ => ?_⟩; conv => whnf) | (refine ⟨fun _ => ?_, fun hx => absurd (Eq.symm hx) Bool.false_ne_true⟩; conv => whnf) | (refine ⟨_, rfl, ?_⟩; conv => whnf) | (refine ⟨mulOk_r (by decide), ?_⟩; conv => whnf) | (refine ⟨mulOk_l (by decide), ?_⟩; conv => whnf) | (refine ⟨(nofun : _ ≠ Wd.other), ?_⟩; conv => whnf) | (refine ⟨Or.inl (Eq.refl Wd.lst), ?_⟩; conv => whnf) | (refine ⟨Or.inr (Eq.refl Wd.tup), ?_⟩; conv => whnf) | (refine ⟨by decide, ?_⟩; conv => whnf)))
      refine callz (s_whole (by decide) pb) ?_
      rintro _ h2 ⟨rfl, F2⟩
      (conv => whnf)
      refine ⟨blr ?_, F1.trans F2⟩
      rw [dec_iff]
      constructor
      · intro u; exact ⟨a, b, c, rfl, ha, u⟩
      · rintro ⟨t, s, dd, e, u, v⟩
        simp only [D.tup.injEq, List.cons.injEq, and_true] at e
        rw [e.2.1]; exact v
    · have ha := dec_no hc
      (conv => whnf)
      refine ⟨(congrArg D.bl (dec_f ?_)).symm, F1⟩
      rintro ⟨t, s, dd, e, u, v⟩
      simp only [D.tup.injEq, List.cons.injEq, and_true] at e
      rw [← e.1] at u
      exact ha u
  rcases p with ⟨a, ys, rfl, e⟩ | ⟨m, p⟩ | ⟨a, b, c, m, e, pa, pb⟩
  · (conv => whnf)
    refine ⟨_, e, ?_⟩
    (conv => whnf); (repeat (first | (refine ⟨fun hx => absurd hx Bool.false_ne_true, fun _ => ?_⟩; conv => whnf) | (refine ⟨fun _ => ?_, fun hx => absurd (Eq.symm hx) Bool.false_ne_true⟩; conv => whnf)))
    exact ⟨nt (fun a b c e => by cases e), Frm.refl⟩
  · cases x with
    | ref a => exact (p.not_ref).elim
    | fro a => exact (p.not_fro).elim
    | tup ys =>
      obtain ⟨k, py⟩ : ∃ k, ∀ y ∈ ys, Pu k y := by
        cases m with
        | zero => exact p.tup0.elim
        | succ k => exact ⟨k, p.of_tup⟩
      match ys, py with
      | [a, b, c], py => exact three rfl (py a (by simp)) (py b (by simp))
      | [], _ => (conv => whnf); (repeat (first | (refine ⟨fun hx => absurd hx Bool.false_ne_true, fun _ => ?_⟩; conv => whnf) | (refine ⟨fun _ => ?_, fun hx => absurd (Eq.symm hx) Bool.false_ne_true⟩; conv => whnf))); refine ⟨nofun, ?_⟩; (conv => whnf); (repeat (first | (refine ⟨fun hx => absurd hx Bool.false_ne_true, fun _ => ?_⟩; conv => whnf) | (refine ⟨fun _ => ?_, fun hx => absurd (Eq.symm hx) Bool.false_ne_true⟩; conv => whnf))); exact ⟨nt (fun a b c e => by simp at e), Frm.refl⟩
      | [_], _ => (conv => whnf); (repeat (first | (refine ⟨fun hx => absurd hx Bool.false_ne_true, fun _ => ?_⟩; conv => whnf) | (refine ⟨fun _ => ?_, fun hx => absurd (Eq.symm hx) Bool.false_ne_true⟩; conv => whnf))); refine ⟨nofun, ?_⟩; (conv => whnf); (repeat (first | (refine ⟨fun hx => absurd hx Bool.false_ne_true, fun _ => ?_⟩; conv => whnf) | (refine ⟨fun _ => ?_, fun hx => absurd (Eq.symm hx) Bool.false_ne_true⟩; conv => whnf))); exact ⟨nt (fun a b c e => by simp at e), Frm.refl⟩
      | [_, _], _ => (conv => whnf); (repeat (first | (refine ⟨fun hx => absurd hx Bool.false_ne_true, fun _ => ?_⟩; conv => whnf) | (refine ⟨fun _ => ?_, fun hx => absurd (Eq.symm hx) Bool.false_ne_true⟩; conv => whnf))); refine ⟨nofun, ?_⟩; (conv => whnf); (repeat (first | (refine ⟨fun hx => absurd hx Bool.false_ne_true, fun _ => ?_⟩; conv => whnf) | (refine ⟨fun _ => ?_, fun hx => absurd (Eq.symm hx) Bool.false_ne_true⟩; conv => whnf))); exact ⟨nt (fun a b c e => by simp at e), Frm.refl⟩
      | u1 :: u2 :: u3 :: u4 :: us, _ =>
        (conv => whnf); (repeat (first | (refine ⟨fun hx => absurd hx Bool.false_ne_true, fun _ => ?_⟩; conv => whnf) | (refine ⟨fun _ => ?_, fun hx => absurd (Eq.symm hx) Bool.false_ne_true⟩; conv => whnf)))
        refine ⟨nofun, ?_⟩
        (conv => whnf)
        refine ⟨fun _ => ?_, fun hc => ?_⟩
        · (conv => whnf); (repeat (first | (refine ⟨fun hx => absurd hx Bool.false_ne_true, fun _ => ?_⟩; conv => whnf) | (refine ⟨fun _ => ?_, fun hx => absurd (Eq.symm hx) Bool.false_ne_true⟩; conv => whnf)))
          exact ⟨nt (fun a b c e => by simp at e), Frm.refl⟩
        · exfalso
          have : decide ((((u1 :: u2 :: u3 :: u4 :: us).length : Nat) : Int) = 3) = true := by simpa using hc
          have := of_decide_eq_true this
          simp only [List.length_cons] at this
          omega
    | _ =>
      (conv => whnf); (repeat (first | (refine ⟨fun hx => absurd hx Bool.false_ne_true, fun _ => ?_⟩; conv => whnf) | (refine ⟨fun _ => ?_, fun hx => absurd (Eq.symm hx) Bool.false_ne_true⟩; conv => whnf)))
      exact ⟨nt (fun a b c e => by cases e), Frm.refl⟩
  · exact three e pa pb
def FactsE (h : Hh) (x : D) : Prop := (∃ (a : Nat) (ys : List D), x = .ref a ∧ h[a]? = some (.lst ys)) ∨ (∃ m, Pu m x ∧ ∀ ys, x ≠ .tup ys) ∨ ∃ ys : List D, x = .tup ys ∧ ys.length ≤ 1000 ∧ ∀ y ∈ ys, FactE h y
theorem FactsE.frm {h h' : Hh} {x : D} (p : FactsE h x) (F : Frm [] h h') : FactsE h' x := by
  rcases p with ⟨a, ys, rfl, e⟩ | p | ⟨ys, rfl, l, q⟩
  · exact Or.inl ⟨a, ys, rfl, F.get (by simp) e⟩
  · exact Or.inr (Or.inl p)
  · exact Or.inr (Or.inr ⟨ys, rfl, l, fun y m => (q y m).frm F⟩)
def FactsP (x : D) : Prop := ∃ ys : List D, x = .tup ys ∧ ys.length ≤ 40 ∧ ∀ y ∈ ys, FactP y
theorem s_check_facts {n : Nat} (hn : i_check_facts < n) {h : Hh} {x : D} (p : FactsE h x) :
    CallP (phi xs defs n i_check_facts [x] h) (fun d h' => (d = .non ∧ FactsP x) ∧ Frm [] h h') (BadP "facts" (¬ FactsP x) h) := by
  refine fn_ok hn rfl rfl stab_p stabB ?_
  have raise : ∀ {h1 : Hh}, Frm [] h h1 → ¬ FactsP x → mkK xs 1 [.str "facts"] h1 (BadP "facts" (¬ FactsP x) h) := fun F no => ⟨rfl, ⟨⟨rfl, no⟩, F⟩⟩
  rcases p with ⟨a, ys, rfl, e⟩ | ⟨m, p, nt⟩ | ⟨ys, rfl, l, q⟩
  · (conv => whnf)
    refine ⟨_, e, ?_⟩
    (conv => whnf); (repeat (first | (refine ⟨fun hx => absurd hx Bool.false_ne_true, fun _ => ?_⟩; conv => whnf) | (refine ⟨fun _ => ?_, fun hx => absurd (Eq.symm hx) Bool.false_ne_true⟩; conv => whnf)))
    exact raise Frm.refl fun ⟨ys, e, _⟩ => by cases e
  · cases x with
    | ref a => exact (p.not_ref).elim
    | fro a => exact (p.not_fro).elim
    | tup ys => exact (nt ys rfl).elim
    | _ =>
      (conv => whnf); (repeat (first | (refine ⟨fun hx => absurd hx Bool.false_ne_true, fun _ => ?_⟩; conv => whnf) | (refine ⟨fun _ => ?_, fun hx => absurd (Eq.symm hx) Bool.false_ne_true⟩; conv => whnf)))
      exact raise Frm.refl fun ⟨ys, e, _⟩ => by cases e
  · (conv => whnf); (repeat (first | (refine ⟨fun hx => absurd hx Bool.false_ne_true, fun _ => ?_⟩; conv => whnf) | (refine ⟨fun _ => ?_, fun hx => absurd (Eq.symm hx) Bool.false_ne_true⟩; conv => whnf)))
    refine ⟨nofun, ?_⟩
    (conv => whnf)
    refine ⟨fun hc => ?_, fun hc => ?_⟩
    · have hl : ¬ ((ys.length : Nat) : Int) ≤ 40 := of_decide_eq_false (by simpa using hc)
      (conv => whnf); (repeat (first | (refine ⟨fun hx => absurd hx Bool.false_ne_true, fun _ => ?_⟩; conv => whnf) | (refine ⟨fun _ => ?_, fun hx => absurd (Eq.symm hx) Bool.false_ne_true⟩; conv => whnf)))
      exact raise Frm.refl fun ⟨zs, e, l, _⟩ => by cases e; omega
    have hl : ((ys.length : Nat) : Int) ≤ 40 := of_decide_eq_true (by simpa using hc)
    (conv => whnf)
    refine comp_map (fun y => some (.bl (dec (FactP y)))) (by dsimp only; unfold sizeLine; omega) stays_nil ?_ ?_
    · intro y my h1 F1 G k
      (conv => whnf)
      refine callz (s_is_fact (by decide) ((q y my).frm F1)) ?_
      rintro _ h2 ⟨rfl, F2⟩
      exact k _ F2
    intro h1 F1
    (conv => whnf)
    refine ⟨_, all_dec [], ?_⟩
    (conv => whnf)
    refine ⟨fun hc => ?_, fun hc => ?_⟩
    · have hn : ¬ ∀ y ∈ ys, FactP y := dec_no (by simpa using hc)
      (conv => whnf)
      exact raise F1 fun ⟨zs, e, _, a⟩ => by cases e; exact hn a
    · have ha : ∀ y ∈ ys, FactP y := dec_iff.mp (by simpa using hc)
      (conv => whnf)
      exact ⟨⟨rfl, ys, rfl, by omega, ha⟩, F1⟩
theorem fs_p {h : Hh} {fs : List Fa} (F : Fs h fs) : FactsE h (.tup (fs.map Fa.d)) ∧ FactsP (.tup (fs.map Fa.d)) := by
  have l := F.1
  refine ⟨Or.inr (Or.inr ⟨_, rfl, by rw [List.length_map]; omega, fun y m => ?_⟩), ⟨_, rfl, by rw [List.length_map]; omega, fun y m => ?_⟩⟩
  · obtain ⟨f, mf, rfl⟩ := List.mem_map.mp m
    exact Or.inr (Or.inr ⟨_, _, _, 0, rfl, Pu.int, Pu.int⟩)
  · obtain ⟨f, mf, rfl⟩ := List.mem_map.mp m
    have o := F.2 f mf
    exact ⟨_, _, _, rfl, ⟨_, rfl, o.t0, o.t1⟩, ⟨_, rfl, o.s0, o.s1⟩⟩
theorem s_check_fs {n : Nat} (hn : i_check_facts < n) {h : Hh} {fs : List Fa} (F : Fs h fs) :
    CallP (phi xs defs n i_check_facts [.tup (fs.map Fa.d)] h) (fun d h' => d = .non ∧ Frm [] h h') X0 := by
  obtain ⟨a, b⟩ := fs_p F
  refine (s_check_facts hn a).imp (fun d h' p => ⟨p.1.1, p.2⟩) fun x h' p => (p.1.2 b).elim
theorem s_with_fact {n : Nat} (hn : i_with_fact < n) {h : Hh} {g : Gr} (o : g.Ok) {T : List Nat} {d : D} (dk : DeedOk T h d) :
    CallP (phi xs defs n i_with_fact [g.d, d] h) (fun r h' => (∃ g', aftO g d = some g' ∧ r = g'.d) ∧ Frm [] h h') (BadP "fact" (aftO g d = none) h) := by
  refine fn_ok hn rfl rfl stab_p stabB ?_
  (conv => whnf)
  refine call (s_changed (by decide) o dk) ?_ ?_
  · rintro r h1 ⟨⟨g', a, rfl⟩, F1⟩
    exact ⟨⟨g', aftO_some o a, rfl⟩, F1⟩
  · rintro x h1 ⟨⟨rfl, no⟩, F1⟩
    refine ⟨by decide, fun _ => ?_, fun hx => ?_⟩
    · exact ⟨rfl, ⟨⟨rfl, aftO_none no⟩, F1⟩⟩
    · exact absurd hx (by decide)
end Tx
set_option Elab.async false
set_option linter.all false
set_option maxRecDepth 100000
set_option maxHeartbeats 4000000
namespace Tx
open PySem Mp
open PySem.PyData (strOk)
def optD (o : Option Gr) : D := match o with
  | some g => g.d
  | none => .non
def askD (o : Option Gr) : D := match o with
  | some g => .tup [.str "seen", g.d]
  | none => .tup [.str "bad", .str "fact"]
theorem rows_get : ∀ (fs : List Fa) (n i : Nat) (hi : i < fs.length) (h2 : i < (rowsFrom n fs).length), (rowsFrom n fs)[i] = [fs[i].since, fs[i].told, ((n + i : Nat) : Int)]
  | f :: fs, n, 0, _, _ => by simp [rowsFrom]
  | f :: fs, n, i + 1, hi, h2 => by
    simp only [rowsFrom, List.getElem_cons_succ]
    rw [rows_get fs (n + 1) i (by simpa using hi) (by simpa [rowsFrom] using h2)]
    congr 3
    omega
theorem rows_rng (fs : List Fa) : (List.range fs.length).map (fun i => D.tup [.int ((fs.getD i ⟨0, 0, .non⟩).since), .int ((fs.getD i ⟨0, 0, .non⟩).told), .int (i : Nat)]) = (rowsFrom 0 fs).map tupI := by
  refine List.ext_getElem (by simp [rows_len]) fun i h1 h2 => ?_
  have hi : i < fs.length := by simpa using h1
  simp only [List.getElem_map, List.getElem_range]
  rw [rows_get fs 0 i hi (by simpa [rows_len] using hi)]
  simp [tupI, List.getD_eq_getElem?_getD, hi]
theorem rows_enum : ∀ (fs : List Fa) (n : Nat), (enumD n (fs.map Fa.d)).map (fun x => match x with
    | .tup [i, .tup [t, s, _]] => D.tup [s, t, i]
    | _ => .non) = (rowsFrom n fs).map tupI
  | [], _ => rfl
  | f :: fs, n => by
    simp only [List.map_cons, enumD, rowsFrom, rows_enum fs (n + 1)]
    rfl
theorem enum_mem : ∀ {xs : List D} {n : Nat} {x : D}, x ∈ enumD n xs → ∃ (i : Nat) (y : D), x = .tup [.int (i : Nat), y] ∧ y ∈ xs
  | [], _, _, m => nomatch m
  | y :: ys, n, x, m => by
    rcases List.mem_cons.mp m with rfl | m
    · exact ⟨n, y, rfl, by simp⟩
    · obtain ⟨i, z, e, mz⟩ := enum_mem m
      exact ⟨i, z, e, by simp [mz]⟩
theorem enum_len : ∀ (xs : List D) (n : Nat), (enumD n xs).length = xs.length
  | [], _ => rfl
  | _ :: xs, n => by simp [enumD, enum_len xs]
theorem fs_pos {h : Hh} {fs : List Fa} (F : Fs h fs) : ∀ f ∈ fs, 0 ≤ f.told ∧ 0 ≤ f.since := fun f m => ⟨(F.2 f m).t0, (F.2 f m).s0⟩
theorem fa_at {fs : List Fa} {i : Nat} (hi : i < fs.length) : L2.atI (fs.map Fa.d) (i : Int) = some (fs[i]).d := at_map hi
theorem ddAt_i {fs : List Fa} {i : Nat} (hi : i < fs.length) {s t : Int} : ddAt fs [s, t, (i : Int)] = fs[i].dd := by
  simp [ddAt, hi]
theorem keep_y {s t i m k : Int} (a : s ≤ m) (b : t ≤ k) : keep m k [s, t, i] = true := by
  simp only [keep, decide_eq_true a, decide_eq_true b, Bool.and_self]
theorem keep_n {s t i m k : Int} (a : ¬ (s ≤ m ∧ t ≤ k)) : ¬ keep m k [s, t, i] = true := by
  simp only [keep, Bool.and_eq_true, decide_eq_true_eq]
  exact a
theorem s_due {n : Nat} (hn : i__law_due < n) {h : Hh} {g : Gr} (o : g.Ok) {fs : List Fa} (F : Fs h fs) {m k : Int} :
    CallP (phi xs defs n i__law_due [g.d, .tup (fs.map Fa.d), .int m, .int k] h) (fun r h' => r = askD (dueF fs m k g) ∧ Frm [] h h') X0 := by
  refine fn_ok hn rfl rfl stab_p stabX0 ?_
  have l40 := F.1
  (conv => whnf)
  refine ⟨nofun, ?_⟩
  (conv => whnf)
  rw [List.length_map]
  refine ⟨by omega, ?_⟩
  (conv => whnf)
  refine comp_map (fun x => match x with
    | .int i => some (.tup [.int ((fs.getD i.toNat ⟨0, 0, .non⟩).since), .int ((fs.getD i.toNat ⟨0, 0, .non⟩).told), .int i])
    | _ => none) (by dsimp only; rw [rngD_len]; unfold sizeLine; omega) stays_nil ?_ ?_
  · intro x mx h1 F1 G kk
    obtain ⟨i, e, l⟩ := rngD_mem mx
    obtain rfl : x = .int (i : Nat) := by rw [e]; simp
    have hi : i < fs.length := by omega
    have gd : fs.getD i ⟨0, 0, .non⟩ = fs[i] := by simp [List.getD_eq_getElem?_getD, hi]
    (conv => whnf)
    refine ⟨_, fa_at hi, ?_⟩
    (conv => whnf)
    refine ⟨_, rfl, ?_⟩
    (conv => whnf)
    refine ⟨_, fa_at hi, ?_⟩
    (conv => whnf)
    refine ⟨_, rfl, ?_⟩
    have := kk h1 Frm.refl
    simp only [Int.toNat_natCast, gd] at this
    exact this
  intro h1 F1
  have es : ((rngD 0 (fs.length : Int)).filterMap fun x => match x with
    | .int i => some (D.tup [.int ((fs.getD i.toNat ⟨0, 0, .non⟩).since), .int ((fs.getD i.toNat ⟨0, 0, .non⟩).told), .int i])
    | _ => none) = (rowsFrom 0 fs).map tupI := by
    rw [rngD_zero, List.filterMap_map, ← rows_rng]
    rw [← fm_some]
    rfl
  dsimp only
  rw [es]
  (conv => whnf)
  refine ⟨_, sort_rows (by omega) (fs_pos F) [], ?_⟩
  (conv => whnf)
  refine ⟨_, new_cell, ?_⟩
  have e2 : (h1 ++ [.lst ((srt fs).map tupI)])[h1.length]? = some (.lst ((srt fs).map tupI)) := new_cell
  have F2 : Frm [] h (h1 ++ [.lst ((srt fs).map tupI)]) := F1.trans (Frm.app _)
  generalize h1.length = a at *
  generalize (h1 ++ [.lst ((srt fs).map tupI)]) = h2 at *
  refine for_inv (fun rs en h' => Frm [] h2 h' ∧ ∃ (q : Option Gr) (sf : List (List Int)) (u5 u6 : Option D), en = [some (optD q), some (.tup (fs.map Fa.d)), some (.int m), some (.int k), some (.ref a), u5, u6] ∧ rs = sf.map tupI ∧ (∀ r ∈ sf, r ∈ srt fs) ∧ (∀ g', q = some g' → g'.Ok) ∧ runF fs m k q sf = dueF fs m k g) ?_ ?_ ?_
  · exact ⟨Frm.refl, some g, srt fs, _, _, rfl, rfl, fun r m => m, (fun g' e => by injection e with e; rw [← e]; exact o), rfl⟩
  · rintro x rs en h3 ⟨F3, q, sf, u5, u6, rfl, er, sm, qo, rq⟩
    refine ⟨stays_frm F3 (fun _ _ => List.not_mem_nil) (fun p mp => by simp at mp; subst mp; exact e2), ?_⟩
    cases sf with
    | nil => cases er
    | cons r sf =>
      cases er
      obtain ⟨i, hi, rfl⟩ := srt_mem (sm r (by simp))
      have rq2 := rq
      rw [runF_cons, ddAt_i hi] at rq2
      have keepOn : ∀ {q2 : Option Gr} {h4 : Hh}, Frm [] h2 h4 → (∀ g', q2 = some g' → g'.Ok) → runF fs m k q2 sf = dueF fs m k g → Frm [] h2 h4 ∧ ∃ (q : Option Gr) (sf' : List (List Int)) (v5 v6 : Option D), [some (optD q2), some (.tup (fs.map Fa.d)), some (.int m), some (.int k), some (.ref a), some (tupI [fs[i].since, fs[i].told, (i : Int)]), u6] = [some (optD q), some (.tup (fs.map Fa.d)), some (.int m), some (.int k), some (.ref a), v5, v6] ∧ sf.map tupI = sf'.map tupI ∧ (∀ r ∈ sf', r ∈ srt fs) ∧ (∀ g', q = some g' → g'.Ok) ∧ runF fs m k q sf' = dueF fs m k g := fun F4 qo2 r2 => ⟨F4, _, sf, _, _, rfl, rfl, fun r mr => sm r (by simp [mr]), qo2, r2⟩
      (conv => whnf)
      refine ⟨_, rfl, ?_⟩
      (conv => whnf)
      refine ⟨fun hc => ?_, fun hc => ?_⟩
      · have c1 : fs[i].since ≤ m := of_decide_eq_true hc
        (conv => whnf)
        refine ⟨_, rfl, ?_⟩
        (conv => whnf)
        refine ⟨fun hc => ?_, fun hc => ?_⟩
        · have c2 : fs[i].told ≤ k := of_decide_eq_true hc
          rw [if_pos (keep_y c1 c2)] at rq2
          cases q with
          | none =>
            (conv => whnf); (repeat (first | (refine ⟨fun hx => absurd hx Bool.false_ne_true, fun _ => ?_⟩; conv => whnf) | (refine ⟨fun _ => ?_, fun hx => absurd (Eq.symm hx) Bool.false_ne_true⟩; conv => whnf)))
            exact keepOn F3 (fun g' e => by cases e) rq2
          | some g1 =>
            have o1 := qo g1 rfl
            (conv => whnf); (repeat (first | (refine ⟨fun hx => absurd hx Bool.false_ne_true, fun _ => ?_⟩; conv => whnf) | (refine ⟨fun _ => ?_, fun hx => absurd (Eq.symm hx) Bool.false_ne_true⟩; conv => whnf)))
            refine ⟨_, rfl, ?_⟩
            (conv => whnf)
            refine ⟨_, fa_at hi, ?_⟩
            (conv => whnf)
            refine ⟨_, rfl, ?_⟩
            (conv => whnf)
            have dk := ((F.2 fs[i] (List.getElem_mem _)).dk.frm F2 (fun _ z => nomatch z)).frm F3 (fun _ z => nomatch z)
            refine callz (s_after (by decide) o1 dk) ?_
            rintro r h4 ⟨ar, F4⟩
            have rq3 : runF fs m k (aftO g1 fs[i].dd) sf = dueF fs m k g := rq2
            rcases ar with ⟨g', af, rfl⟩ | ⟨rfl, na⟩
            · rw [aftO_some o1 af] at rq3
              exact keepOn (q2 := some g') (F3.trans F4) (fun g2 e => by injection e with e; rw [← e]; exact af.ok o1) rq3
            · rw [aftO_none na] at rq3
              exact keepOn (q2 := none) (F3.trans F4) (fun g2 e => by cases e) rq3
        · have c2 : ¬ fs[i].told ≤ k := of_decide_eq_false hc
          rw [if_neg (keep_n fun u => c2 u.2)] at rq2
          (conv => whnf); (repeat (first | (refine ⟨fun hx => absurd hx Bool.false_ne_true, fun _ => ?_⟩; conv => whnf) | (refine ⟨fun _ => ?_, fun hx => absurd (Eq.symm hx) Bool.false_ne_true⟩; conv => whnf)))
          exact keepOn F3 qo rq2
      · have c1 : ¬ fs[i].since ≤ m := of_decide_eq_false hc
        rw [if_neg (keep_n fun u => c1 u.1)] at rq2
        (conv => whnf); (repeat (first | (refine ⟨fun hx => absurd hx Bool.false_ne_true, fun _ => ?_⟩; conv => whnf) | (refine ⟨fun _ => ?_, fun hx => absurd (Eq.symm hx) Bool.false_ne_true⟩; conv => whnf)))
        exact keepOn F3 qo rq2
  · rintro en h3 ⟨F3, q, sf, u5, u6, rfl, er, sm, qo, rq⟩
    refine ⟨stays_frm F3 (fun _ _ => List.not_mem_nil) (fun p mp => by simp at mp; subst mp; exact e2), ?_⟩
    have : sf = [] := by
      cases sf with
      | nil => rfl
      | cons _ _ => cases er
    subst this
    have rq : q = dueF fs m k g := rq
    rw [← rq]
    cases q with
    | none => (conv => whnf); (repeat (first | (refine ⟨fun hx => absurd hx Bool.false_ne_true, fun _ => ?_⟩; conv => whnf) | (refine ⟨fun _ => ?_, fun hx => absurd (Eq.symm hx) Bool.false_ne_true⟩; conv => whnf))); exact ⟨rfl, F2.trans F3⟩
    | some g1 => (conv => whnf); (repeat (first | (refine ⟨fun hx => absurd hx Bool.false_ne_true, fun _ => ?_⟩; conv => whnf) | (refine ⟨fun _ => ?_, fun hx => absurd (Eq.symm hx) Bool.false_ne_true⟩; conv => whnf))); exact ⟨rfl, F2.trans F3⟩
theorem whole_t {lo hi i : Int} (a : lo ≤ i) (b : i ≤ hi) : dec (WholeP lo hi (.int i)) = true := dec_t ⟨i, rfl, a, b⟩
theorem s_seen {n : Nat} (hn : i_seen < n) {h : Hh} {g : Gr} (o : g.Ok) {fs : List Fa} (F : Fs h fs) {m k : Int} (m0 : 0 ≤ m) (m1 : m ≤ 1000000) (k0 : 0 ≤ k) (k1 : k ≤ 1000000) :
    CallP (phi xs defs n i_seen [g.d, .tup (fs.map Fa.d), .int m, .int k] h) (fun r h' => (∃ g', dueF fs m k g = some g' ∧ r = g'.d) ∧ Frm [] h h') (BadP "fact" (dueF fs m k g = none) h) := by
  refine fn_ok hn rfl rfl stab_p stabB ?_
  have l40 := F.1
  (conv => whnf)
  refine callz (s_check_ok (by decide) o) ?_
  rintro _ h1 ⟨rfl, F1⟩
  (conv => whnf)
  refine callz (s_check_fs (by decide) (F.frm F1.one)) ?_
  rintro _ h2 ⟨rfl, F2⟩
  (conv => whnf)
  refine callz (s_whole (by decide) (Pu.int (n := 0))) ?_
  rintro _ h3 ⟨rfl, F3⟩
  rw [whole_t m0 m1]
  (conv => whnf); (repeat (first | (refine ⟨fun hx => absurd hx Bool.false_ne_true, fun _ => ?_⟩; conv => whnf) | (refine ⟨fun _ => ?_, fun hx => absurd (Eq.symm hx) Bool.false_ne_true⟩; conv => whnf)))
  refine callz (s_whole (by decide) (Pu.int (n := 0))) ?_
  rintro _ h4 ⟨rfl, F4⟩
  rw [whole_t k0 k1]
  (conv => whnf); (repeat (first | (refine ⟨fun hx => absurd hx Bool.false_ne_true, fun _ => ?_⟩; conv => whnf) | (refine ⟨fun _ => ?_, fun hx => absurd (Eq.symm hx) Bool.false_ne_true⟩; conv => whnf)))
  refine ⟨Or.inr rfl, ?_⟩
  (conv => whnf)
  refine comp_map (fun x => some (match x with
    | .tup [i, .tup [t, s, _]] => D.tup [s, t, i]
    | _ => .non)) (by dsimp only; rw [enum_len, List.length_map]; unfold sizeLine; omega) stays_nil ?_ ?_
  · intro x mx h5 F5 G kk
    obtain ⟨i, y, rfl, my⟩ := enum_mem mx
    obtain ⟨f, mf, rfl⟩ := List.mem_map.mp my
    (conv => whnf)
    refine ⟨_, rfl, ?_⟩
    (conv => whnf)
    refine ⟨_, rfl, ?_⟩
    (conv => whnf)
    exact kk h5 Frm.refl
  intro h5 F5
  dsimp only
  rw [fm_some, rows_enum]
  (conv => whnf)
  have e6 : (h5 ++ [.lst ((rowsFrom 0 fs).map tupI)])[h5.length]? = some (.lst ((rowsFrom 0 fs).map tupI)) := new_cell
  refine ⟨_, e6, ?_⟩
  (conv => whnf)
  refine ⟨_, sort_rows (by omega) (fs_pos F) _, ?_⟩
  (conv => whnf)
  have F6 : Frm [] h (h5 ++ [.lst ((rowsFrom 0 fs).map tupI)]) := F1.trans (F2.trans (F3.trans (F4.trans (F5.trans (Frm.app _)))))
  generalize h5.length = b at *
  generalize (h5 ++ [.lst ((rowsFrom 0 fs).map tupI)]) = h6 at *
  refine for_inv (fun rs en h' => Frm [] h6 h' ∧ ∃ (q : Gr) (sf : List (List Int)) (u5 u6 u7 u8 : Option D), en = [some q.d, some (.tup (fs.map Fa.d)), some (.int m), some (.int k), some (.ref b), u5, u6, u7, u8] ∧ rs = sf.map tupI ∧ (∀ r ∈ sf, r ∈ srt fs) ∧ q.Ok ∧ runF fs m k (some q) sf = dueF fs m k g) ?_ ?_ ?_
  · exact ⟨Frm.refl, g, srt fs, _, _, _, _, rfl, rfl, fun r m => m, o, rfl⟩
  · rintro x rs en h7 ⟨F7, q, sf, u5, u6, u7, u8, rfl, er, sm, qo, rq⟩
    refine ⟨stays_nil, ?_⟩
    cases sf with
    | nil => cases er
    | cons r sf =>
      cases er
      obtain ⟨i, hi, rfl⟩ := srt_mem (sm r (by simp))
      have rq2 := rq
      rw [runF_cons, ddAt_i hi] at rq2
      (conv => whnf)
      refine ⟨fun hc => ?_, fun hc => ?_⟩
      · have c1 : fs[i].since ≤ m := of_decide_eq_true hc
        (conv => whnf)
        refine ⟨fun hc => ?_, fun hc => ?_⟩
        · have c2 : fs[i].told ≤ k := of_decide_eq_true hc
          rw [if_pos (keep_y c1 c2)] at rq2
          (conv => whnf)
          refine ⟨_, fa_at hi, ?_⟩
          (conv => whnf)
          refine ⟨_, rfl, ?_⟩
          (conv => whnf)
          have dk := ((F.2 fs[i] (List.getElem_mem _)).dk.frm F6 (fun _ z => nomatch z)).frm F7 (fun _ z => nomatch z)
          have rq3 : runF fs m k (aftO q fs[i].dd) sf = dueF fs m k g := rq2
          refine call (s_with_fact (by decide) qo dk) ?_ ?_
          · rintro r h8 ⟨⟨g', af, rfl⟩, F8⟩
            rw [af] at rq3
            exact ⟨F7.trans F8, g', sf, _, _, _, _, rfl, rfl, fun r mr => sm r (by simp [mr]), (aftO_inv af).ok qo, rq3⟩
          · rintro x h8 ⟨⟨rfl, af⟩, F8⟩
            rw [af, runF_none] at rq3
            exact ⟨⟨rfl, rq3.symm⟩, F6.trans (F7.trans F8)⟩
        · have c2 : ¬ fs[i].told ≤ k := of_decide_eq_false hc
          rw [if_neg (keep_n fun u => c2 u.2)] at rq2
          exact ⟨F7, q, sf, _, _, _, _, rfl, rfl, fun r mr => sm r (by simp [mr]), qo, rq2⟩
      · have c1 : ¬ fs[i].since ≤ m := of_decide_eq_false hc
        rw [if_neg (keep_n fun u => c1 u.1)] at rq2
        (conv => whnf); (repeat (first | (refine ⟨fun hx => absurd hx Bool.false_ne_true, fun _ => ?_⟩; conv => whnf) | (refine ⟨fun _ => ?_, fun hx => absurd (Eq.symm hx) Bool.false_ne_true⟩; conv => whnf)))
        exact ⟨F7, q, sf, _, _, _, _, rfl, rfl, fun r mr => sm r (by simp [mr]), qo, rq2⟩
  · rintro en h7 ⟨F7, q, sf, u5, u6, u7, u8, rfl, er, sm, qo, rq⟩
    refine ⟨stays_nil, ?_⟩
    have : sf = [] := by
      cases sf with
      | nil => rfl
      | cons _ _ => cases er
    subst this
    have rq : some q = dueF fs m k g := rq
    (conv => whnf)
    exact ⟨⟨q, rq.symm, rfl⟩, F6.trans F7⟩
end Tx
set_option Elab.async false
set_option linter.all false
set_option maxRecDepth 100000
set_option maxHeartbeats 4000000
namespace Tx
open PySem Mp
open PySem.PyData (strOk)
def badD (w : Str) : D := .tup [.str "bad", .str w]
theorem hnd {c : HE} {w : Str} {sl : Nat} {en : En} {h : Hh} {K : Ks} {X : XQ} (hc : evHE xs (bad w) c = some (.bl true)) (hs : sl < en.length) (k : K.rt (badD w) h) : handK xs (bad w) (.cond c (.tup [(.cst (.str "bad")), (.fld 1 "part")])) sl en h K X := by
  refine ⟨hs, true, hc, fun _ => ⟨badD w, ?_, k⟩, fun e => by cases e⟩
  have e : (bad w).fs.lookup ("part" : Str) = some (D.str w) := by
    show List.lookup ("part" : Str) [(("part" : Str), D.str w)] = _
    rw [List.lookup_cons_self]
  simp only [evHE, evHE.evHEs, e, if_pos (show (bad w).cls = 1 from rfl), Option.map_some]
  rfl
def chgD (o : Option Gr) : D := match o with
  | some g => .tup [.str "left", g.d]
  | none => badD "deed"
theorem s_law_changed {n : Nat} (hn : i__law_changed < n) {h : Hh} {g : Gr} (o : g.Ok) {T : List Nat} {d : D} (dk : DeedOk T h d) :
    CallP (phi xs defs n i__law_changed [g.d, d] h) (fun r h' => r = chgD (aftO g d) ∧ Frm [] h h') X0 := by
  refine fn_ok hn rfl rfl stab_p stabX0 ?_
  (conv => whnf)
  refine call (s_changed (by decide) o dk) ?_ ?_
  · rintro r h1 ⟨⟨g', a, rfl⟩, F1⟩
    (conv => whnf)
    exact ⟨by rw [aftO_some o a]; rfl, F1⟩
  · rintro x h1 ⟨⟨rfl, no⟩, F1⟩
    refine ⟨by decide, fun _ => ?_, fun hx => absurd hx (by decide)⟩
    exact hnd (w := "deed") rfl (show 2 < 3 by decide) ⟨by rw [aftO_none no]; rfl, F1⟩
theorem s_asked {n : Nat} (hn : i__law_asked < n) {h : Hh} {g : Gr} (o : g.Ok) {fs : List Fa} (F : Fs h fs) {m k : Int} (m0 : 0 ≤ m) (m1 : m ≤ 1000000) (k0 : 0 ≤ k) (k1 : k ≤ 1000000) :
    CallP (phi xs defs n i__law_asked [g.d, .tup (fs.map Fa.d), .int m, .int k] h) (fun r h' => r = askD (dueF fs m k g) ∧ Frm [] h h') X0 := by
  refine fn_ok hn rfl rfl stab_p stabX0 ?_
  (conv => whnf)
  refine call (s_seen (by decide) o F m0 m1 k0 k1) ?_ ?_
  · rintro r h1 ⟨⟨g', a, rfl⟩, F1⟩
    (conv => whnf)
    exact ⟨by rw [a]; rfl, F1⟩
  · rintro x h1 ⟨⟨rfl, no⟩, F1⟩
    refine ⟨by decide, fun _ => ?_, fun hx => absurd hx (by decide)⟩
    exact hnd (w := "fact") rfl (show 4 < 5 by decide) ⟨by rw [no]; rfl, F1⟩
/-- what is no graph -/
def GBad (h : Hh) (x : D) : Prop := (∃ (a : Nat) (ys : List D), x = .ref a ∧ h[a]? = some (.lst ys)) ∨ (∃ ds : List D, x = .tup ds ∧ ds.length ≠ 2) ∨ ∃ bs qs, x = .tup [.tup (bs.map BD.d), .tup qs] ∧ BsP bs ∧ QsP qs ∧ ¬ GraphP x
theorem s_graph_bad {n : Nat} (hn : i_is_graph < n) {h : Hh} {x : D} (b : GBad h x) :
    CallP (phi xs defs n i_is_graph [x] h) (fun d h' => d = .bl false ∧ Frm [] h h') X0 := by
  rcases b with ⟨a, ys, rfl, e⟩ | ⟨ds, rfl, l⟩ | ⟨bs, qs, rfl, bp, qp, no⟩
  · refine fn_ok hn rfl rfl stab_p stabX0 ?_
    (conv => whnf)
    refine ⟨_, e, ?_⟩
    (conv => whnf); (repeat (first | (refine ⟨fun hx => absurd hx Bool.false_ne_true, fun _ => ?_⟩; conv => whnf) | (refine ⟨fun _ => ?_, fun hx => absurd (Eq.symm hx) Bool.false_ne_true⟩; conv => whnf)))
    exact ⟨rfl, Frm.refl⟩
  · refine fn_ok hn rfl rfl stab_p stabX0 ?_
    (conv => whnf); (repeat (first | (refine ⟨fun hx => absurd hx Bool.false_ne_true, fun _ => ?_⟩; conv => whnf) | (refine ⟨fun _ => ?_, fun hx => absurd (Eq.symm hx) Bool.false_ne_true⟩; conv => whnf)))
    refine ⟨nofun, ?_⟩
    (conv => whnf)
    refine ⟨fun _ => ?_, fun hc => ?_⟩
    · (conv => whnf)
      exact ⟨rfl, Frm.refl⟩
    · exfalso
      have : decide (((ds.length : Nat) : Int) = 2) = true := by simpa using hc
      have := of_decide_eq_true this
      omega
  · exact (s_is_graph hn bp qp).imp (fun d h' p => ⟨by rw [p.1, dec_f no], p.2⟩) fun _ _ f => f
theorem s_check_bad {n : Nat} (hn : i_check_graph < n) {h : Hh} {x : D} (b : GBad h x) :
    CallP (phi xs defs n i_check_graph [x] h) (fun _ _ => False) (BadP "graph" True h) := by
  refine fn_ok hn rfl rfl (fun _ _ f _ => f) stabB ?_
  (conv => whnf)
  refine callz (s_graph_bad (by decide) b) ?_
  rintro _ h1 ⟨rfl, F1⟩
  (conv => whnf); (repeat (first | (refine ⟨fun hx => absurd hx Bool.false_ne_true, fun _ => ?_⟩; conv => whnf) | (refine ⟨fun _ => ?_, fun hx => absurd (Eq.symm hx) Bool.false_ne_true⟩; conv => whnf)))
  exact ⟨rfl, ⟨⟨rfl, trivial⟩, F1⟩⟩
theorem s_changed_bad {n : Nat} (hn : i__law_changed < n) {h : Hh} {x d : D} (b : GBad h x) :
    CallP (phi xs defs n i__law_changed [x, d] h) (fun r h' => r = badD "graph" ∧ Frm [] h h') X0 := by
  refine fn_ok hn rfl rfl stab_p stabX0 ?_
  (conv => whnf)
  refine call (Q' := fun _ _ => False) (X' := BadP "graph" True h) ?_ (fun _ _ f => f.elim) ?_
  · refine fn_ok (by decide) rfl rfl (fun _ _ f _ => f) stabB ?_
    (conv => whnf)
    exact call (s_check_bad (by decide) b) (fun _ _ f => f.elim) fun _ _ q => q
  · rintro y h1 ⟨⟨rfl, _⟩, F1⟩
    refine ⟨by decide, fun _ => ?_, fun hx => absurd hx (by decide)⟩
    exact hnd (w := "graph") rfl (show 2 < 3 by decide) ⟨rfl, F1⟩
theorem asked_of {n : Nat} (hn : i__law_asked < n) {h : Hh} {x f m k : D} {w : Str} (s : CallP (phi xs defs i__law_asked i_seen [x, f, m, k] h) (fun _ _ => False) (BadP w True h)) :
    CallP (phi xs defs n i__law_asked [x, f, m, k] h) (fun r h' => r = badD w ∧ Frm [] h h') X0 := by
  refine fn_ok hn rfl rfl stab_p stabX0 ?_
  (conv => whnf)
  refine call s (fun _ _ f => f.elim) ?_
  rintro y h1 ⟨⟨rfl, _⟩, F1⟩
  refine ⟨show 1 < 3 by decide, fun _ => ?_, fun hx => absurd hx (show ¬ xs.isx 1 0 = false by decide)⟩
  exact hnd rfl (show 4 < 5 by decide) ⟨rfl, F1⟩
theorem s_asked_g {n : Nat} (hn : i__law_asked < n) {h : Hh} {x f m k : D} (b : GBad h x) :
    CallP (phi xs defs n i__law_asked [x, f, m, k] h) (fun r h' => r = badD "graph" ∧ Frm [] h h') X0 := by
  refine asked_of hn ?_
  refine fn_ok (by decide) rfl rfl (fun _ _ f _ => f) stabB ?_
  (conv => whnf)
  exact call (s_check_bad (by decide) b) (fun _ _ f => f.elim) fun _ _ q => q
theorem s_asked_f {n : Nat} (hn : i__law_asked < n) {h : Hh} {g : Gr} (o : g.Ok) {f m k : D} (fe : FactsE h f) (nf : ¬ FactsP f) :
    CallP (phi xs defs n i__law_asked [g.d, f, m, k] h) (fun r h' => r = badD "facts" ∧ Frm [] h h') X0 := by
  refine asked_of hn ?_
  refine fn_ok (by decide) rfl rfl (fun _ _ f _ => f) stabB ?_
  (conv => whnf)
  refine callz (s_check_ok (by decide) o) ?_
  rintro _ h1 ⟨rfl, F1⟩
  (conv => whnf)
  refine call (s_check_facts (by decide) (fe.frm F1)) ?_ ?_
  · rintro _ _ ⟨⟨_, p⟩, _⟩
    exact (nf p).elim
  · rintro x h2 ⟨⟨rfl, _⟩, F2⟩
    exact ⟨⟨rfl, trivial⟩, F1.trans F2⟩
theorem s_asked_m {n : Nat} (hn : i__law_asked < n) {h : Hh} {g : Gr} (o : g.Ok) {fs : List Fa} (F : Fs h fs) {m k : D} (pm : Pu 1 m) (nm : ¬ WholeP 0 1000000 m) :
    CallP (phi xs defs n i__law_asked [g.d, .tup (fs.map Fa.d), m, k] h) (fun r h' => r = badD "moment" ∧ Frm [] h h') X0 := by
  refine asked_of hn ?_
  refine fn_ok (by decide) rfl rfl (fun _ _ f _ => f) stabB ?_
  (conv => whnf)
  refine callz (s_check_ok (by decide) o) ?_
  rintro _ h1 ⟨rfl, F1⟩
  (conv => whnf)
  refine callz (s_check_fs (by decide) (F.frm F1.one)) ?_
  rintro _ h2 ⟨rfl, F2⟩
  (conv => whnf)
  refine callz (s_whole (by decide) pm) ?_
  rintro _ h3 ⟨rfl, F3⟩
  rw [dec_f nm]
  (conv => whnf); (repeat (first | (refine ⟨fun hx => absurd hx Bool.false_ne_true, fun _ => ?_⟩; conv => whnf) | (refine ⟨fun _ => ?_, fun hx => absurd (Eq.symm hx) Bool.false_ne_true⟩; conv => whnf)))
  exact ⟨rfl, ⟨⟨rfl, trivial⟩, F1.trans (F2.trans F3)⟩⟩
theorem s_asked_k {n : Nat} (hn : i__law_asked < n) {h : Hh} {g : Gr} (o : g.Ok) {fs : List Fa} (F : Fs h fs) {m : Int} {k : D} (m0 : 0 ≤ m) (m1 : m ≤ 1000000) (pk : Pu 1 k) (nk : ¬ WholeP 0 1000000 k) :
    CallP (phi xs defs n i__law_asked [g.d, .tup (fs.map Fa.d), .int m, k] h) (fun r h' => r = badD "known" ∧ Frm [] h h') X0 := by
  refine asked_of hn ?_
  refine fn_ok (by decide) rfl rfl (fun _ _ f _ => f) stabB ?_
  (conv => whnf)
  refine callz (s_check_ok (by decide) o) ?_
  rintro _ h1 ⟨rfl, F1⟩
  (conv => whnf)
  refine callz (s_check_fs (by decide) (F.frm F1.one)) ?_
  rintro _ h2 ⟨rfl, F2⟩
  (conv => whnf)
  refine callz (s_whole (by decide) (Pu.int (n := 0))) ?_
  rintro _ h3 ⟨rfl, F3⟩
  rw [whole_t m0 m1]
  (conv => whnf); (repeat (first | (refine ⟨fun hx => absurd hx Bool.false_ne_true, fun _ => ?_⟩; conv => whnf) | (refine ⟨fun _ => ?_, fun hx => absurd (Eq.symm hx) Bool.false_ne_true⟩; conv => whnf)))
  refine callz (s_whole (by decide) pk) ?_
  rintro _ h4 ⟨rfl, F4⟩
  rw [dec_f nk]
  (conv => whnf); (repeat (first | (refine ⟨fun hx => absurd hx Bool.false_ne_true, fun _ => ?_⟩; conv => whnf) | (refine ⟨fun _ => ?_, fun hx => absurd (Eq.symm hx) Bool.false_ne_true⟩; conv => whnf)))
  exact ⟨rfl, ⟨⟨rfl, trivial⟩, F1.trans (F2.trans (F3.trans F4))⟩⟩
/-! ### edges -/
theorem mapK_ints : ∀ ns : List Int, mapK intD (ns.map .int) = some ns
  | [] => rfl
  | n :: ns => by simp only [List.map_cons, mapK, mapK_ints ns]; rfl
theorem sort_ints (is : List Int) (g : List (Nat × List D)) : sqR .sorted ⟨is.map .int, g, .lst⟩ = some (.fresh ((sortI is).map .int)) := by
  show (sortD (is.map .int)).map Rv.fresh = _
  unfold sortD
  rw [ints_map]
  rfl
theorem ms_fm (k : Int) : ∀ fs : List Fa, ((fs.map Fa.d).filterMap fun x => match x with
    | .tup [.int t, s, _] => if t ≤ k then some s else none
    | _ => none) = (msOf k fs).map D.int
  | [] => rfl
  | f :: fs => by
    have ih := ms_fm k fs
    unfold msOf at ih ⊢
    simp only [List.map_cons, List.filterMap_cons, Fa.d, List.filter_cons, ih]
    by_cases h : f.told ≤ k
    · rw [if_pos h, if_pos (decide_eq_true h)]; rfl
    · rw [if_neg h, if_neg (by simpa using h)]
theorem ms_len (k : Int) (fs : List Fa) : (msOf k fs).length ≤ fs.length := by
  unfold msOf
  rw [List.length_map]
  exact List.length_filter_le _ _
theorem s_edges {n : Nat} (hn : i_edges < n) {h : Hh} {fs : List Fa} (F : Fs h fs) {k : Int} (k0 : 0 ≤ k) (k1 : k ≤ 1000000) :
    CallP (phi xs defs n i_edges [.tup (fs.map Fa.d), .int k] h) (fun r h' => r = TI (edgF fs k) ∧ Frm [] h h') X0 := by
  refine fn_ok hn rfl rfl stab_p stabX0 ?_
  have l40 := F.1
  have lm := ms_len k fs
  (conv => whnf)
  refine callz (s_check_fs (by decide) F) ?_
  rintro _ h1 ⟨rfl, F1⟩
  (conv => whnf)
  refine callz (s_whole (by decide) (Pu.int (n := 0))) ?_
  rintro _ h2 ⟨rfl, F2⟩
  rw [whole_t k0 k1]
  (conv => whnf); (repeat (first | (refine ⟨fun hx => absurd hx Bool.false_ne_true, fun _ => ?_⟩; conv => whnf) | (refine ⟨fun _ => ?_, fun hx => absurd (Eq.symm hx) Bool.false_ne_true⟩; conv => whnf)))
  refine comp_map (fun x => match x with
    | .tup [.int t, s, _] => if t ≤ k then some s else none
    | _ => none) (by dsimp only; rw [List.length_map]; unfold sizeLine; omega) stays_nil ?_ ?_
  · intro x mx h3 F3 G kk
    obtain ⟨f, mf, rfl⟩ := List.mem_map.mp mx
    have kk := kk h3 Frm.refl
    simp only [Fa.d] at kk
    (conv => whnf)
    refine ⟨_, rfl, ?_⟩
    (conv => whnf)
    refine ⟨fun hc => ?_, fun hc => ?_⟩
    · have c : f.told ≤ k := of_decide_eq_true hc
      rw [if_pos c] at kk
      (conv => whnf)
      refine ⟨_, rfl, ?_⟩
      exact kk
    · have c : ¬ f.told ≤ k := of_decide_eq_false hc
      rw [if_neg c] at kk
      (conv => whnf)
      exact kk
  intro h3 F3
  dsimp only
  rw [ms_fm]
  (conv => whnf)
  have ea := F3.get (by simp) (new_cell (h := h2) (c := .lst [D.int 0]))
  refine ⟨_, _, (Frm.app (S := []) _).get (by simp) ea, new_cell, by rw [List.length_map]; simp; unfold sizeLine; omega, ?_⟩
  (conv => whnf)
  refine ⟨_, new_cell, ?_⟩
  (conv => whnf)
  have st : stays [((h3 ++ [Cell.lst ((msOf k fs).map D.int)]).length, [D.int 0] ++ (msOf k fs).map D.int)] (h3 ++ [Cell.lst ((msOf k fs).map D.int)] ++ [Cell.lst ([D.int 0] ++ (msOf k fs).map D.int)]) := fun p m => by
    simp only [List.mem_singleton] at m
    subst m
    exact new_cell
  refine comp_map (fun x => some x) (by dsimp only; rw [List.length_append, List.length_map]; simp; unfold sizeLine; omega) st ?_ ?_
  · intro x mx h4 F4 G kk
    (conv => whnf)
    exact kk h4 Frm.refl
  intro h4 F4
  have es : sortsetO (([D.int 0] ++ (msOf k fs).map D.int).filterMap fun x => some x) = some (.fresh ((edgF fs k).map .int)) := by
    rw [fm_some, List.map_id']
    show sortsetO ((0 :: msOf k fs).map D.int) = _
    unfold sortsetO
    rw [mapK_ints]
    dsimp only
    rw [if_pos (by simp; omega)]
    rfl
  refine ⟨_, es, ?_⟩
  (conv => whnf)
  refine ⟨Or.inl rfl, ?_⟩
  (conv => whnf)
  exact ⟨rfl, F1.trans (F2.trans ((Frm.app _).trans (F3.trans ((Frm.app _).trans ((Frm.app _).trans F4)))))⟩
def edD (is : List Int) : D := .tup [.str "edges", TI is]
theorem s_law_edges {n : Nat} (hn : i__law_edges < n) {h : Hh} {fs : List Fa} (F : Fs h fs) {k : Int} (k0 : 0 ≤ k) (k1 : k ≤ 1000000) :
    CallP (phi xs defs n i__law_edges [.tup (fs.map Fa.d), .int k] h) (fun r h' => r = edD (edgF fs k) ∧ Frm [] h h') X0 := by
  refine fn_ok hn rfl rfl stab_p stabX0 ?_
  (conv => whnf)
  refine callz (s_edges (by decide) F k0 k1) ?_
  rintro _ h1 ⟨rfl, F1⟩
  exact ⟨rfl, F1⟩
theorem edges_of {n : Nat} (hn : i__law_edges < n) {h : Hh} {f k : D} {w : Str} (s : CallP (phi xs defs i__law_edges i_edges [f, k] h) (fun _ _ => False) (BadP w True h)) :
    CallP (phi xs defs n i__law_edges [f, k] h) (fun r h' => r = badD w ∧ Frm [] h h') X0 := by
  refine fn_ok hn rfl rfl stab_p stabX0 ?_
  (conv => whnf)
  refine call s (fun _ _ f => f.elim) ?_
  rintro y h1 ⟨⟨rfl, _⟩, F1⟩
  refine ⟨show 1 < 3 by decide, fun _ => ?_, fun hx => absurd hx (show ¬ xs.isx 1 0 = false by decide)⟩
  exact hnd rfl (show 2 < 3 by decide) ⟨rfl, F1⟩
theorem s_law_edges_f {n : Nat} (hn : i__law_edges < n) {h : Hh} {f k : D} (fe : FactsE h f) (nf : ¬ FactsP f) :
    CallP (phi xs defs n i__law_edges [f, k] h) (fun r h' => r = badD "facts" ∧ Frm [] h h') X0 := by
  refine edges_of hn ?_
  refine fn_ok (by decide) rfl rfl (fun _ _ f _ => f) stabB ?_
  (conv => whnf)
  refine call (s_check_facts (by decide) fe) ?_ ?_
  · rintro _ _ ⟨⟨_, p⟩, _⟩
    exact (nf p).elim
  · rintro x h2 ⟨⟨rfl, _⟩, F2⟩
    exact ⟨⟨rfl, trivial⟩, F2⟩
theorem s_law_edges_k {n : Nat} (hn : i__law_edges < n) {h : Hh} {fs : List Fa} (F : Fs h fs) {k : D} (pk : Pu 1 k) (nk : ¬ WholeP 0 1000000 k) :
    CallP (phi xs defs n i__law_edges [.tup (fs.map Fa.d), k] h) (fun r h' => r = badD "known" ∧ Frm [] h h') X0 := by
  refine edges_of hn ?_
  refine fn_ok (by decide) rfl rfl (fun _ _ f _ => f) stabB ?_
  (conv => whnf)
  refine callz (s_check_fs (by decide) F) ?_
  rintro _ h2 ⟨rfl, F2⟩
  (conv => whnf)
  refine callz (s_whole (by decide) pk) ?_
  rintro _ h3 ⟨rfl, F3⟩
  rw [dec_f nk]
  (conv => whnf); (repeat (first | (refine ⟨fun hx => absurd hx Bool.false_ne_true, fun _ => ?_⟩; conv => whnf) | (refine ⟨fun _ => ?_, fun hx => absurd (Eq.symm hx) Bool.false_ne_true⟩; conv => whnf)))
  exact ⟨rfl, ⟨⟨rfl, trivial⟩, F2.trans F3⟩⟩
theorem inD_ref {h : Hh} {a : Nat} {is : List Int} (e : h[a]? = some (.lst (is.map .int))) (ng : Bool) (k : Int) : inD h ng (.int k) (.ref a) = some (.bl (xor ng (is.any fun z => decide (z = k)))) := by
  have q : seqPy h (.ref a) = some (is.map .int) := by
    unfold seqPy D.py
    simp only [D.pyW, pyN, e, pysW_ints, Option.map_some]
  have z : SeqAt.shaped (.list (is.map .int)) = true := by
    obtain ⟨a, b⟩ := lay_ints is
    unfold SeqAt.shaped
    rw [show PyData.canLay0 (.list (is.map .int)) = _ by simp only [PyData.canLay0]; exact a]
    simp only [PyData.depth, b, Nat.zero_add, Bool.true_and]
    decide
  have e2 : ((is.map PyData.int).any fun z => PyData.eqv z (.int k)) = is.any fun z => decide (z = k) := by
    rw [List.any_map]
    congr 1
  show (match D.py h (.int k), seqPy h (.ref a) with
    | some d, some ds => if SeqAt.shaped d && SeqAt.shaped (.list ds) then some (D.bl (xor ng (ds.any fun z => PyData.eqv z d))) else none
    | _, _ => none) = _
  rw [q, show D.py h (.int k) = some (.int k) from rfl]
  simp only [shaped_int, z, Bool.and_self, if_true, e2]
theorem s_edges_due {n : Nat} (hn : i__law_edges_due < n) {h : Hh} {fs : List Fa} (F : Fs h fs) {k : Int} :
    CallP (phi xs defs n i__law_edges_due [.tup (fs.map Fa.d), .int k] h) (fun r h' => r = TI (edgF fs k) ∧ Frm [] h h') X0 := by
  refine fn_ok hn rfl rfl stab_p stabX0 ?_
  have l40 := F.1
  (conv => whnf)
  have e0 : (h ++ [.lst [D.int 0]])[h.length]? = some (.lst ((eD [0]).map D.int)) := new_cell
  have F0 : Frm [] h (h ++ [.lst [D.int 0]]) := Frm.app _
  generalize (h ++ [.lst [D.int 0]]) = h0 at *
  refine for_inv (fun rs en h' => Frm [] h h' ∧ ∃ (pre suf : List Fa) (u : Option D), en = [some (.tup (fs.map Fa.d)), some (.int k), some (.ref h.length), u] ∧ fs = pre ++ suf ∧ rs = suf.map Fa.d ∧ h'[h.length]? = some (.lst ((eD (0 :: msOf k pre)).map D.int))) ?_ ?_ ?_
  · exact ⟨F0, [], fs, _, rfl, rfl, rfl, e0⟩
  · rintro x rs en h1 ⟨F1, pre, suf, u, rfl, ef, er, e1⟩
    refine ⟨stays_nil, ?_⟩
    cases suf with
    | nil => cases er
    | cons f suf =>
      cases er
      have step : ∀ {h2 : Hh}, Frm [] h h2 → h2[h.length]? = some (.lst ((eD (0 :: msOf k (pre ++ [f]))).map D.int)) → Frm [] h h2 ∧ ∃ (pre' suf' : List Fa) (v : Option D), [some (.tup (fs.map Fa.d)), some (.int k), some (.ref h.length), some f.d] = [some (.tup (fs.map Fa.d)), some (.int k), some (.ref h.length), v] ∧ fs = pre' ++ suf' ∧ suf.map Fa.d = suf'.map Fa.d ∧ h2[h.length]? = some (.lst ((eD (0 :: msOf k pre')).map D.int)) := fun F2 e2 => ⟨F2, pre ++ [f], suf, _, rfl, by rw [ef]; simp, rfl, e2⟩
      have ms : msOf k (pre ++ [f]) = if f.told ≤ k then msOf k pre ++ [f.since] else msOf k pre := by
        unfold msOf
        rw [List.filter_append, List.map_append]
        by_cases hk : f.told ≤ k
        · rw [if_pos hk]; simp [hk]
        · rw [if_neg hk]; simp [hk]
      have len : (eD (0 :: msOf k pre)).length ≤ 41 := by
        have a := eraseLe _ (0 :: msOf k pre) (Nat.le_refl _)
        have b := ms_len k pre
        have c : pre.length ≤ fs.length := by rw [ef]; simp
        simp only [List.length_cons] at a
        have d : (eD (0 :: msOf k pre)).length ≤ (msOf k pre).length + 1 := by
          have : @List.eraseDups Int instBEqOfDecidableEq (0 :: msOf k pre) = eD (0 :: msOf k pre) := rfl
          exact a
        omega
      (conv => whnf)
      refine ⟨_, rfl, ?_⟩
      (conv => whnf)
      refine ⟨fun hc => ?_, fun hc => ?_⟩
      · have c : f.told ≤ k := of_decide_eq_true hc
        rw [if_pos c] at ms
        have sn := eD_snoc (0 :: msOf k pre) f.since
        rw [show (0 :: msOf k pre) ++ [f.since] = 0 :: msOf k (pre ++ [f]) by rw [ms]; rfl] at sn
        (conv => whnf)
        refine ⟨_, rfl, ?_⟩
        (conv => whnf)
        refine ⟨_, inD_ref e1 _ _, ?_⟩
        (conv => whnf)
        have mem : ((eD (0 :: msOf k pre)).any fun z => decide (z = f.since)) = decide (f.since ∈ (0 :: msOf k pre)) := by
          rw [Bool.eq_iff_iff, List.any_eq_true, decide_eq_true_iff]
          constructor
          · rintro ⟨z, mz, e⟩
            rw [← of_decide_eq_true e]; exact List.mem_eraseDups.mp mz
          · intro m; exact ⟨_, List.mem_eraseDups.mpr m, decide_eq_true rfl⟩
        rw [mem]
        refine ⟨fun hc => ?_, fun hc => ?_⟩
        · have nm : f.since ∉ (0 :: msOf k pre) := by
            have : decide (f.since ∈ (0 :: msOf k pre)) = false := by simpa using hc
            exact of_decide_eq_false this
          rw [if_neg nm] at sn
          (conv => whnf)
          refine ⟨_, e1, ?_⟩
          (conv => whnf)
          refine ⟨_, rfl, ?_⟩
          (conv => whnf)
          refine ⟨_, e1, by rw [List.length_map]; unfold sizeLine; omega, ?_⟩
          (conv => whnf)
          refine step (F1.new (Frm.set (S := [h.length]) (by simp)) (by intro a m; simp at m; subst m; exact Or.inr (Nat.le_refl _))) ?_
          rw [List.getElem?_set_self (List.getElem?_eq_some_iff.mp e1).1, sn, List.map_append]
          rfl
        · have nm : f.since ∈ (0 :: msOf k pre) := by
            have : decide (f.since ∈ (0 :: msOf k pre)) = true := by
              cases hd : decide (f.since ∈ (0 :: msOf k pre)) with
              | true => rfl
              | false => rw [hd] at hc; exact absurd hc (by decide)
            exact of_decide_eq_true this
          rw [if_pos nm] at sn
          (conv => whnf)
          exact step F1 (by rw [sn]; exact e1)
      · have c : ¬ f.told ≤ k := of_decide_eq_false hc
        rw [if_neg c] at ms
        (conv => whnf); (repeat (first | (refine ⟨fun hx => absurd hx Bool.false_ne_true, fun _ => ?_⟩; conv => whnf) | (refine ⟨fun _ => ?_, fun hx => absurd (Eq.symm hx) Bool.false_ne_true⟩; conv => whnf)))
        exact step F1 (by rw [ms]; exact e1)
  · rintro en h1 ⟨F1, pre, suf, u, rfl, ef, er, e1⟩
    refine ⟨stays_nil, ?_⟩
    have : suf = [] := by
      cases suf with
      | nil => rfl
      | cons _ _ => cases er
    subst this
    rw [List.append_nil] at ef
    subst ef
    (conv => whnf)
    refine ⟨_, e1, ?_⟩
    (conv => whnf)
    refine ⟨_, sort_ints _ _, ?_⟩
    (conv => whnf)
    refine ⟨Or.inl rfl, ?_⟩
    (conv => whnf)
    exact ⟨rfl, F1⟩
end Tx
set_option Elab.async false
set_option linter.all false
set_option maxRecDepth 100000
set_option maxHeartbeats 4000000
namespace Tx
open PySem Mp
open PySem.PyData (strOk)
theorem p6 : (10 : Int) ^ Int.toNat 6 = 1000000 := by decide
theorem s_near {n : Nat} (hn : i__law_near < n) {h : Hh} (S : St h) {fs : List Fa} (F : Fs h fs) {p : Int} (hp : p = 0 ∨ p = 1) :
    CallP (phi xs defs n i__law_near [.ref 1, .tup (fs.map Fa.d), .int p] h) (fun d h' => (∃ i, d = .int i ∧ 0 ≤ i ∧ i ≤ 1000000) ∧ St h' ∧ Frm [1] h h') X0 := by
  refine fn_ok hn rfl rfl (stab_d S) stabX0 ?_
  have l40 := F.1
  (conv => whnf)
  refine ⟨nofun, ?_⟩
  (conv => whnf)
  rw [List.length_map]
  refine ⟨fun hc => ?_, fun hc => ?_⟩
  · (conv => whnf); (repeat (first | (refine ⟨fun hx => absurd hx Bool.false_ne_true, fun _ => ?_⟩; conv => whnf) | (refine ⟨fun _ => ?_, fun hx => absurd (Eq.symm hx) Bool.false_ne_true⟩; conv => whnf)))
    refine callz (s_time (by decide) S) ?_
    rintro _ h1 ⟨p, S1, F1⟩
    exact ⟨p, S1, F1⟩
  have l0 : fs.length ≠ 0 := by
    have := of_decide_eq_false hc
    omega
  (conv => whnf)
  refine callz (s_draw (by decide) S (by decide) (by decide)) ?_
  rintro _ h1 ⟨⟨i, rfl, i0, i1⟩, S1, F1⟩
  (conv => whnf)
  refine ⟨fun hc => ?_, fun hc => ?_⟩
  · (conv => whnf)
    refine callz (s_time (by decide) S1) ?_
    rintro _ h2 ⟨p, S2, F2⟩
    exact ⟨p, S2, F1.trans F2⟩
  (conv => whnf)
  refine callz (s_pick_t (by decide) S1 (by intro e; simp at e; exact l0 (by rw [e]; rfl)) (by rw [List.length_map]; omega)) ?_
  rintro x h2 ⟨mx, S2, F2⟩
  obtain ⟨f, mf, rfl⟩ := List.mem_map.mp mx
  have at' : ∃ z : Int, L2.atI [D.int f.told, .int f.since, f.dd] p = some (.int z) := by
    rcases hp with rfl | rfl
    · exact ⟨_, rfl⟩
    · exact ⟨_, rfl⟩
  obtain ⟨z, ez⟩ := at'
  (conv => whnf)
  refine ⟨_, ez, ?_⟩
  (conv => whnf)
  refine callz (s_draw (by decide) S2 (by decide) (by decide)) ?_
  rintro _ h3 ⟨⟨j, rfl, j0, j1⟩, S3, F3⟩
  (conv => whnf)
  refine ⟨_, pow_eq (by decide) (by decide) (by decide), ?_⟩
  (conv => whnf)
  refine ⟨_, rfl, ?_⟩
  (conv => whnf)
  refine ⟨_, rfl, ?_⟩
  rw [p6]
  (conv => whnf)
  refine ⟨⟨_, rfl, ?_, ?_⟩, S3, F1.trans (F2.trans F3)⟩
  · split <;> omega
  · split <;> split <;> omega
theorem s_shuffled {n : Nat} (hn : i__law_shuffled < n) {h : Hh} (S : St h) {a : Nat} {ys : List D} (ea : h[a]? = some (.lst ys)) (l : ys.length < 1000) :
    CallP (phi xs defs n i__law_shuffled [.ref 1, .ref a] h) (fun d h' => ∃ (b : Nat) (zs : List D), d = .ref b ∧ h.length ≤ b ∧ h'[b]? = some (.lst zs) ∧ (∀ z ∈ zs, z ∈ ys) ∧ zs.length ≤ ys.length ∧ St h' ∧ Frm [1] h h') X0 := by
  refine fn_ok hn rfl rfl (fun d h' p c => ?_) stabX0 ?_
  · obtain ⟨b, zs, rfl, l, _⟩ := p
    exact (closD_ref l c).elim
  have L := S.len
  (conv => whnf)
  refine ⟨_, ea, ?_⟩
  (conv => whnf)
  refine ⟨Or.inl rfl, ?_⟩
  (conv => whnf)
  have e1 : (h ++ [Cell.lst ys] ++ [Cell.lst []])[h.length]? = some (.lst ys) := (Frm.app (S := []) _).get (by simp) new_cell
  have e2 : (h ++ [Cell.lst ys] ++ [Cell.lst []])[(h ++ [Cell.lst ys]).length]? = some (.lst []) := new_cell
  have F2 : Frm [1] h (h ++ [Cell.lst ys] ++ [Cell.lst []]) := (Frm.app _).trans (Frm.app _)
  have S2 : St (h ++ [Cell.lst ys] ++ [Cell.lst []]) := (S.pure (Frm.app _)).pure (Frm.app _)
  have bl : (h ++ [Cell.lst ys]).length = h.length + 1 := by simp
  refine ⟨_, e1, ?_⟩
  (conv => whnf)
  refine ⟨nofun, ?_⟩
  (conv => whnf)
  refine ⟨by omega, ?_⟩
  (conv => whnf)
  generalize (h ++ [Cell.lst ys] ++ [Cell.lst []]) = h2 at *
  generalize (h ++ [Cell.lst ys]).length = b at *
  generalize hc1 : h.length = c at *
  refine for_inv (fun rs en h' => St h' ∧ Frm [1] h h' ∧ ∃ (u : Option D) (lf zs : List D), en = [some (.ref 1), some (.ref a), some (.ref c), some (.ref b), u] ∧ h'[c]? = some (.lst lf) ∧ h'[b]? = some (.lst zs) ∧ (∀ z ∈ lf, z ∈ ys) ∧ (∀ z ∈ zs, z ∈ ys) ∧ lf.length = rs.length ∧ lf.length + zs.length = ys.length) ?_ ?_ ?_
  · exact ⟨S2, F2, _, ys, [], rfl, e1, e2, fun z m => m, (fun z m => nomatch m), by dsimp only; rw [rngD_len]; simp, by simp⟩
  · rintro x rs en h3 ⟨S3, F3, u, lf, zs, rfl, ec, eb, ml, mz, ll, lt⟩
    refine ⟨stays_nil, ?_⟩
    simp only [List.length_cons] at ll
    have c1 : c ≠ 1 := by omega
    have b1 : b ≠ 1 := by omega
    (conv => whnf)
    refine ⟨_, eb, ?_⟩
    (conv => whnf)
    refine ⟨_, ec, ?_⟩
    (conv => whnf)
    refine ⟨_, ec, ?_⟩
    (conv => whnf)
    refine ⟨nofun, ?_⟩
    (conv => whnf)
    refine callz (s_draw (by decide) S3 (by omega) (by omega)) ?_
    rintro _ h4 ⟨⟨i, rfl, i0, i1⟩, S4, F4⟩
    obtain ⟨i, rfl⟩ : ∃ k : Nat, i = k := ⟨i.toNat, by omega⟩
    have ec4 := F4.get (by simpa using c1) ec
    have eb4 := F4.get (by simpa using b1) eb
    have lc4 := (List.getElem?_eq_some_iff.mp ec4).1
    have lb4 := (List.getElem?_eq_some_iff.mp eb4).1
    have hil : i < lf.length := by omega
    (conv => whnf)
    refine ⟨_, i, lf[i], ec4, rfl, by omega, List.getElem?_eq_getElem hil, ?_⟩
    have eb5 : (h4.set c (.lst (lf.eraseIdx i)))[b]? = some (.lst zs) := by
      rw [List.getElem?_set_ne (by omega)]; exact eb4
    (conv => whnf)
    refine ⟨_, eb5, by unfold sizeLine; omega, ?_⟩
    (conv => whnf)
    have FF : Frm [1, c, b] h3 ((h4.set c (.lst (lf.eraseIdx i))).set b (.lst (zs ++ [lf[i]]))) := ((F4.mono (by simp)).trans (Frm.set (by simp))).trans (Frm.set (by simp))
    refine ⟨?_, F3.new FF (by intro z m; simp at m; rcases m with rfl | rfl | rfl; exact Or.inl (by simp); exact Or.inr (by omega); exact Or.inr (by omega)), _, lf.eraseIdx i, zs ++ [lf[i]], rfl, ?_, ?_, ?_, ?_, ?_, ?_⟩
    · exact (S4.frm (T := [c]) (Frm.set (by simp)) (by simp; omega) (by simp; omega)).frm (T := [b]) (Frm.set (by simp)) (by simp; omega) (by simp; omega)
    · rw [List.getElem?_set_ne (by omega), List.getElem?_set_self lc4]
    · rw [List.getElem?_set_self (by rw [List.length_set]; exact lb4)]
    · exact fun z m => ml z (List.mem_of_mem_eraseIdx m)
    · intro z m
      rcases List.mem_append.mp m with m | m
      · exact mz z m
      · rw [List.mem_singleton.mp m]; exact ml _ (List.getElem_mem _)
    · rw [List.length_eraseIdx, if_pos hil]; omega
    · rw [List.length_eraseIdx, if_pos hil]; simp; omega
  · rintro en h3 ⟨S3, F3, u, lf, zs, rfl, ec, eb, ml, mz, ll, lt⟩
    refine ⟨stays_nil, ?_⟩
    (conv => whnf)
    exact ⟨b, zs, rfl, by omega, eb, mz, by omega, S3, F3⟩
theorem gr_pu {g : Gr} (o : g.Ok) : Pu 4 g.d := by
  refine Pu.tup (all_c (Pu.tup fun x m => ?_) (all_c (Pu.tup fun x m => ?_) all_n))
  · obtain ⟨b, mb, rfl⟩ := List.mem_map.mp m
    exact Pu.tup (all_c (Pu.str (o.bk b mb).so) (all_c pu_ints (all_c (pu_ints (xs := [b.a, b.b])) all_n)))
  · obtain ⟨q, mq, rfl⟩ := List.mem_map.mp m
    exact Pu.tup (all_c Pu.int (all_c pu_ints (all_c Pu.int (all_c pu_ints (all_c pu_ints all_n)))))
theorem run_ok (fs : List Fa) (m k : Int) : ∀ (rs : List (List Int)) (q : Option Gr), (∀ g, q = some g → g.Ok) → ∀ g', runF fs m k q rs = some g' → g'.Ok
  | [], q, o, g', e => o g' e
  | r :: rs, q, o, g', e => by
    rw [runF_cons] at e
    refine run_ok fs m k rs _ (fun g1 e1 => ?_) g' e
    split at e1
    · cases q with
      | none => cases e1
      | some g0 => exact (aftO_inv e1).ok (o g0 rfl)
    · exact o g1 e1
theorem due_ok {fs : List Fa} {m k : Int} {g g' : Gr} (o : g.Ok) (e : dueF fs m k g = some g') : g'.Ok := run_ok fs m k _ _ (fun g1 e1 => by injection e1 with e1; rw [← e1]; exact o) g' e
theorem ask_pu {o : Option Gr} (h : ∀ g, o = some g → g.Ok) : Pu 5 (askD o) := by
  cases o with
  | none => exact (Pu.tup (all_c (Pu.str (n := 0) (by decide +kernel)) (all_c (Pu.str (by decide +kernel)) all_n))).mono (by decide)
  | some g => exact Pu.tup (all_c (Pu.str (by decide +kernel)) (all_c (gr_pu (h g rfl)) all_n))
theorem dueP {fs : List Fa} {m k : Int} {g : Gr} (o : g.Ok) : Pu 5 (askD (dueF fs m k g)) := ask_pu fun g' e => due_ok o e
theorem edg_rg {h : Hh} {fs : List Fa} (F : Fs h fs) {k z : Int} (m : z ∈ edgF fs k) : 0 ≤ z ∧ z ≤ 1000000 := by
  rcases edg_mem.mp m with rfl | ⟨f, mf, _, rfl⟩
  · omega
  · exact ⟨(F.2 f mf).s0, (F.2 f mf).s1⟩
theorem edg_len {fs : List Fa} (k : Int) : (edgF fs k).length ≤ fs.length + 1 := by
  unfold edgF sortI
  rw [List.length_mergeSort]
  have a := eraseLe _ (0 :: msOf k fs) (Nat.le_refl _)
  have b := ms_len k fs
  simp only [List.length_cons] at a
  have : (eD (0 :: msOf k fs)).length ≤ (msOf k fs).length + 1 := a
  omega
theorem s_edges_hold {n : Nat} (hn : i__law_edges_hold < n) {h : Hh} (S : St h) {g : Gr} (o : g.Ok) {fs : List Fa} (F : Fs h fs) {k : Int} (k0 : 0 ≤ k) (k1 : k ≤ 1000000) :
    CallP (phi xs defs n i__law_edges_hold [.ref 1, g.d, .tup (fs.map Fa.d), .int k] h) (fun r h' => r = .bl true ∧ St h' ∧ Frm [1] h h') X0 := by
  refine fn_ok hn rfl rfl (stab_d S) stabX0 ?_
  have l40 := F.1
  have el := edg_len (fs := fs) k
  have ep := edg_pos (fs := fs) (k := k)
  have rg : ∀ z ∈ edgF fs k, 0 ≤ z ∧ z ≤ 1000000 := fun z m => edg_rg F m
  have nx : ∀ {j : Nat} (hj : j < (edgF fs k).length) {f : Fa}, f ∈ fs → f.told ≤ k → (edgF fs k)[j] < f.since → ∃ h : j + 1 < (edgF fs k).length, (edgF fs k)[j + 1] ≤ f.since := fun hj f mf hk gt => edg_next hj mf hk gt
  have sort := edg_sorted fs k
  have st1 : ∀ (z : Int) (v : Int), True := fun _ _ => trivial
  have pb : ∀ (h' : Hh) (q : Option Gr), (∀ g', q = some g' → g'.Ok) → eqD h' (askD q) (askD q) = some true := fun h' q hq => eqD_refl (ask_pu hq) (by decide) h'
  refine cutN 5 (fun en h' => St h' ∧ Frm [1] h h' ∧ ∃ (p : Nat) (ps : List D) (u7 u8 : Option D), en = [some (.ref 1), some g.d, some (.tup (fs.map Fa.d)), some (.int k), some (TI (edgF fs k)), some (TI (edgF fs k)), some (.ref p), u7, u8] ∧ p ≠ 1 ∧ h'[p]? = some (.lst ps) ∧ ∀ x ∈ ps, ∃ j : Nat, x = .int (j : Nat) ∧ j < (edgF fs k).length) ?_ ?_
  · (conv => whnf)
    refine callz (s_edges_due (by decide) F) ?_
    rintro _ h1 ⟨rfl, F1⟩
    (conv => whnf)
    refine callz (s_edges (by decide) (F.frm F1.one) k0 k1) ?_
    rintro _ h2 ⟨rfl, F2⟩
    (conv => whnf)
    refine callz (s_is_ints (by decide) pu_ints (El.ints (by omega)).s) ?_
    rintro _ h3 ⟨rfl, F3⟩
    rw [dec_t ⟨_, rfl⟩]
    (conv => whnf); (repeat (first | (refine ⟨fun hx => absurd hx Bool.false_ne_true, fun _ => ?_⟩; conv => whnf) | (refine ⟨fun _ => ?_, fun hx => absurd (Eq.symm hx) Bool.false_ne_true⟩; conv => whnf)))
    refine ⟨_, eqD_refl (pu_ints (xs := edgF fs k)) (by decide) _, ?_⟩
    (conv => whnf); (repeat (first | (refine ⟨fun hx => absurd hx Bool.false_ne_true, fun _ => ?_⟩; conv => whnf) | (refine ⟨fun _ => ?_, fun hx => absurd (Eq.symm hx) Bool.false_ne_true⟩; conv => whnf)))
    have FA : Frm [] h h3 := F1.trans (F2.trans F3)
    have S3 := S.pure FA
    clear F1 F2 F3
    refine ⟨nofun, ?_⟩
    (conv => whnf)
    rw [List.length_map]
    refine ⟨by omega, ?_⟩
    (conv => whnf)
    refine comp_map (fun x => some x) (by dsimp only; rw [rngD_len]; unfold sizeLine; omega) stays_nil ?_ ?_
    · intro x mx h4 F4 G kk
      (conv => whnf)
      exact kk h4 Frm.refl
    intro h4 F4
    dsimp only
    rw [fm_some, List.map_id']
    have L4 := (S3.pure F4).len
    have S5 : St (h4 ++ [.lst (rngD 0 ((edgF fs k).length : Nat))]) := (S3.pure F4).pure (Frm.app _)
    have F5 : Frm [1] h (h4 ++ [.lst (rngD 0 ((edgF fs k).length : Nat))]) := (FA.trans (F4.trans (Frm.app _))).one
    have e5 : (h4 ++ [Cell.lst (rngD 0 ((edgF fs k).length : Nat))])[h4.length]? = some (.lst (rngD 0 ((edgF fs k).length : Nat))) := new_cell
    have rm : ∀ x ∈ rngD 0 ((edgF fs k).length : Nat), ∃ j : Nat, x = .int (j : Nat) ∧ j < (edgF fs k).length := fun x m => by
      obtain ⟨i, e, l⟩ := rngD_mem m
      exact ⟨i, by rw [e]; simp, by omega⟩
    have rl : (rngD 0 ((edgF fs k).length : Nat)).length = (edgF fs k).length := by rw [rngD_len]; simp
    (conv => whnf)
    refine ⟨nofun, ?_⟩
    (conv => whnf)
    rw [List.length_map]
    refine ⟨fun hc => ?_, fun hc => ?_⟩
    · (conv => whnf)
      refine callz (s_shuffled (by decide) S5 e5 (by omega)) ?_
      rintro _ h6 ⟨b, zs, rfl, lb, eb, mz, lz, S6, F6⟩
      have L6 := S6.len
      (conv => whnf)
      refine ⟨_, eb, ?_⟩
      (conv => whnf)
      exact ⟨S6.pure (Frm.app _), F5.trans (F6.trans (Frm.app _)), _, _, _, _, rfl, by omega, new_cell, fun x m => rm x (mz x (mem_cutD m))⟩
    · exact ⟨S5, F5, _, _, _, _, rfl, by omega, e5, rm⟩
  rintro en h1 ⟨S1, F1, p, ps, u7, u8, rfl, np, ep1, pr⟩
  generalize hrow : edgF fs k = row at *
  have FF1 : ∀ {h' : Hh}, Frm [1] h h' → Fs h' fs := fun q => F.frm q
  (conv => whnf)
  refine ⟨_, ep1, ?_⟩
  refine for_inv (fun rs en h' => St h' ∧ Frm [1] h1 h' ∧ ∃ (u7 u8 : Option D), en = [some (.ref 1), some g.d, some (.tup (fs.map Fa.d)), some (.int k), some (TI row), some (TI row), some (.ref p), u7, u8] ∧ ∀ x ∈ rs, ∃ j : Nat, x = .int (j : Nat) ∧ j < row.length) ?_ ?_ ?_
  · exact ⟨S1, Frm.refl, _, _, rfl, pr⟩
  · rintro x rs en h2 ⟨S2, F2, u7, u8, rfl, xr⟩
    refine ⟨stays_frm F2 (by simp; exact np) (fun q m => by simp at m; subst m; exact ep1), ?_⟩
    obtain ⟨j, rfl, hj⟩ := xr _ List.mem_cons_self
    obtain ⟨j0, j1⟩ := rg row[j] (List.getElem_mem _)
    (conv => whnf)
    refine ⟨_, at_map hj, ?_⟩
    (conv => whnf)
    refine callz (s_asked (by decide) o (FF1 (F1.trans F2)) j0 j1 k0 k1) ?_
    rintro _ h3 ⟨rfl, F3⟩
    (conv => whnf)
    refine ⟨_, at_map hj, ?_⟩
    (conv => whnf)
    refine callz (s_due (by decide) o (FF1 (F1.trans (F2.trans F3.one)))) ?_
    rintro _ h4 ⟨rfl, F4⟩
    have e : eqK h4 (askD (dueF fs row[j] k g)) (askD (dueF fs row[j] k g)) = fun K => ∃ b, eqD h4 (askD (dueF fs row[j] k g)) (askD (dueF fs row[j] k g)) = some b ∧ K b := by
      cases dueF fs row[j] k g <;> rfl
    show eqK h4 (askD (dueF fs row[j] k g)) (askD (dueF fs row[j] k g)) _
    rw [e]
    refine ⟨_, pb _ _ fun g' e => due_ok o e, ?_⟩
    (conv => whnf); (repeat (first | (refine ⟨fun hx => absurd hx Bool.false_ne_true, fun _ => ?_⟩; conv => whnf) | (refine ⟨fun _ => ?_, fun hx => absurd (Eq.symm hx) Bool.false_ne_true⟩; conv => whnf)))
    exact ⟨S2.pure (F3.trans F4), F2.trans (F3.trans F4).one, _, _, rfl, fun x m => xr x (List.mem_cons_of_mem _ m)⟩
  · rintro en h2 ⟨S2, F2, u7, u8, rfl, _⟩
    refine ⟨stays_frm F2 (by simp; exact np) (fun q m => by simp at m; subst m; exact ep1), ?_⟩
    (conv => whnf)
    refine ⟨nofun, ?_⟩
    (conv => whnf)
    rw [List.length_map]
    refine callz (s_draw (by decide) S2 (by omega) (by omega)) ?_
    rintro _ h3 ⟨⟨i, rfl, i0, i1⟩, S3, F3⟩
    obtain ⟨j, rfl⟩ : ∃ z : Nat, i = z := ⟨i.toNat, by omega⟩
    have hj : j < row.length := by omega
    (conv => whnf)
    refine ⟨_, pow_eq (by decide) (by decide) (by decide), ?_⟩
    rw [p6]
    (conv => whnf)
    refine ⟨nofun, ?_⟩
    (conv => whnf)
    rw [List.length_map]
    have fin : ∀ (last : Int), 0 ≤ last → last ≤ 1000000 → (∀ f ∈ fs, f.told ≤ k → (f.since ≤ last ↔ f.since ≤ row[j])) → ∀ (h4 : Hh), St h4 → Frm [1] h h4 →
        wS.wSs xs (phi xs defs i__law_edges_hold) (d58.body.drop 9) [some (.ref 1), some g.d, some (.tup (fs.map Fa.d)), some (.int k), some (TI row), some (TI row), some (.ref p), some (.int (j : Int)), some (.int last)] h4 ⟨fun _ _ => False, fun r h' => r = .bl true ∧ St h' ∧ Frm [1] h h', fun _ _ => False, fun _ _ => False⟩ X0 := by
      intro last l0 l1 same h4 S4 F4
      have ds := due_same (k := k) g same
      (conv => whnf)
      refine callz (s_asked (by decide) o (FF1 F4) l0 l1 k0 k1) ?_
      rintro _ h5 ⟨rfl, F5⟩
      (conv => whnf)
      refine ⟨_, at_map hj, ?_⟩
      (conv => whnf)
      refine callz (s_due (by decide) o (FF1 (F4.trans F5.one))) ?_
      rintro _ h6 ⟨rfl, F6⟩
      rw [ds]
      have e : eqK h6 (askD (dueF fs row[j] k g)) (askD (dueF fs row[j] k g)) = fun K => ∃ b, eqD h6 (askD (dueF fs row[j] k g)) (askD (dueF fs row[j] k g)) = some b ∧ K b := by
        cases dueF fs row[j] k g <;> rfl
      show eqK h6 (askD (dueF fs row[j] k g)) (askD (dueF fs row[j] k g)) _
      rw [e]
      refine ⟨_, pb _ _ fun g' e => due_ok o e, ?_⟩
      (conv => whnf)
      exact ⟨rfl, S4.pure (F5.trans F6), F4.trans (F5.trans F6).one⟩
    have FA : Frm [1] h h3 := F1.trans (F2.trans F3)
    refine ⟨fun hc => ?_, fun hc => ?_⟩
    · have hj1 : j + 1 < row.length := by
        have := of_decide_eq_true hc
        omega
      have lt : row[j] < row[j + 1] := List.pairwise_iff_getElem.mp sort j (j + 1) hj hj1 (by omega)
      obtain ⟨a0, a1⟩ := rg row[j] (List.getElem_mem _)
      obtain ⟨b0, b1⟩ := rg row[j + 1] (List.getElem_mem _)
      (conv => whnf)
      refine ⟨_, show L2.atI (row.map D.int) ((j : Int) + 1) = some (.int row[j + 1]) from (by rw [show ((j : Int) + 1) = ((j + 1 : Nat) : Int) by omega]; exact at_map hj1), ?_⟩
      (conv => whnf)
      refine fin (row[j + 1] - 1) (by omega) (by omega) (fun f mf hk => ⟨fun u => ?_, fun u => by omega⟩) h3 S3 FA
      rcases Int.lt_or_le row[j] f.since with gt | le
      · obtain ⟨_, l⟩ := nx hj mf hk gt
        omega
      · exact le
    · have hj1 : ¬ j + 1 < row.length := by
        have := of_decide_eq_false hc
        omega
      refine fin 1000000 (by decide) (by decide) (fun f mf hk => ⟨fun u => ?_, fun u => ?_⟩) h3 S3 FA
      · rcases Int.lt_or_le row[j] f.since with gt | le
        · obtain ⟨l, _⟩ := nx hj mf hk gt
          exact (hj1 l).elim
        · exact le
      · exact (F.2 f mf).s1
end Tx
set_option Elab.async false
set_option linter.all false
set_option maxRecDepth 100000
set_option maxHeartbeats 4000000
namespace Tx
open PySem Mp
open PySem.PyData (strOk)
theorem cut_hi0 (xs : List D) (p : Nat) : cutD xs (some ((p : Nat) : Int)) none = xs.drop p := by
  cases p with
  | zero =>
    unfold cutD
    rw [HT.sIx_none]
    rw [show HT.sIx xs.length 0 (some ((0 : Nat) : Int)) = min 0 xs.length from HT.sIx_nat _ _ _]
    simp
  | succ p => exact cut_hi xs p
theorem ins_map {fs : List Fa} {p : Nat} {f : Fa} : cutD (fs.map Fa.d) none (some ((p : Nat) : Int)) ++ [f.d] ++ cutD (fs.map Fa.d) (some ((p : Nat) : Int)) none = (fs.take p ++ f :: fs.drop p).map Fa.d := by
  rw [cut_lo, cut_hi0]
  simp
theorem s_with_late {n : Nat} (hn : i__law_with_late < n) {h : Hh} (S : St h) {g : Gr} (o : g.Ok) {fs : List Fa} (F : Fs h fs) {m k : Int} (m0 : 0 ≤ m) (m1 : m ≤ 1000000) (k0 : 0 ≤ k) (k1 : k ≤ 1000000) :
    CallP (phi xs defs n i__law_with_late [.ref 1, g.d, .tup (fs.map Fa.d), .int m, .int k] h) (fun r h' => (∃ fs' : List Fa, r = .tup (fs'.map Fa.d) ∧ Fs h' fs' ∧ ∀ g, dueF fs' m k g = dueF fs m k g) ∧ St h' ∧ Frm [1] h h') X0 := by
  refine fn_ok hn rfl rfl (fun d h' p c => ?_) stabX0 ?_
  · obtain ⟨⟨fs', rfl, p1, p2⟩, S', F⟩ := p
    exact ⟨⟨fs', rfl, ⟨p1.1, facts_take p1.2 c⟩, p2⟩, S'.take S.len, F.take⟩
  have L := S.len
  have a1 : h.length ≠ 1 := by omega
  have a0 : h.length ≠ 0 := by omega
  refine cutN 4 (fun en h' => St h' ∧ Frm [1] h h' ∧ ∃ ws : List D, en = [some (.ref 1), some g.d, some (.tup (fs.map Fa.d)), some (.int m), some (.int k), some (.tup (fs.map Fa.d)), some (.ref h.length), none, none, none, none, none] ∧ h'[h.length]? = some (.lst ws) ∧ ws.length ≤ 2 ∧ ∀ x ∈ ws, (x = .int 0 ∧ k < 1000000) ∨ (x = .int 1 ∧ m < 1000000)) ?_ ?_
  · (conv => whnf)
    refine ⟨_, pow_eq (by decide) (by decide) (by decide), ?_⟩
    rw [p6]
    (conv => whnf)
    have e1 : (h ++ [Cell.lst []])[h.length]? = some (.lst []) := new_cell
    have cell : ∀ {h2 : Hh} {ws : List D}, h.length < h2.length → St h2 → Frm [1] h h2 → St (h2.set h.length (.lst ws)) ∧ Frm [1] h (h2.set h.length (.lst ws)) ∧ (h2.set h.length (.lst ws))[h.length]? = some (.lst ws) := fun l S2 F2 => ⟨S2.frm (T := [h.length]) (Frm.set (by simp)) (by simpa using a0.symm) (by simpa using a1.symm), F2.new (Frm.set (S := [h.length]) (by simp)) (by intro c mc; simp at mc; subst mc; exact Or.inr (Nat.le_refl _)), List.getElem?_set_self l⟩
    have S1 : St (h ++ [.lst []]) := S.pure (Frm.app _)
    have F1 : Frm [1] h (h ++ [.lst []]) := Frm.app _
    have l1 : h.length < (h ++ [Cell.lst []]).length := by simp
    generalize (h ++ [Cell.lst []]) = h1 at *
    have second : ∀ {h2 : Hh} {ws : List D}, St h2 → Frm [1] h h2 → h2[h.length]? = some (.lst ws) → ws.length ≤ 1 → (∀ x ∈ ws, (x = .int 0 ∧ k < 1000000) ∨ (x = .int 1 ∧ m < 1000000)) →
        wS.wSs xs (phi xs defs i__law_with_late) ((d29.body.take 4).drop 3) [some (.ref 1), some g.d, some (.tup (fs.map Fa.d)), some (.int m), some (.int k), some (.tup (fs.map Fa.d)), some (.ref h.length), none, none, none, none, none] h2 ⟨fun en h' => St h' ∧ Frm [1] h h' ∧ ∃ ws : List D, en = [some (.ref 1), some g.d, some (.tup (fs.map Fa.d)), some (.int m), some (.int k), some (.tup (fs.map Fa.d)), some (.ref h.length), none, none, none, none, none] ∧ h'[h.length]? = some (.lst ws) ∧ ws.length ≤ 2 ∧ ∀ x ∈ ws, (x = .int 0 ∧ k < 1000000) ∨ (x = .int 1 ∧ m < 1000000), fun r h' => (∃ fs' : List Fa, r = .tup (fs'.map Fa.d) ∧ Fs h' fs' ∧ ∀ g, dueF fs' m k g = dueF fs m k g) ∧ St h' ∧ Frm [1] h h', fun _ _ => False, fun _ _ => False⟩ X0 := by
      intro h2 ws S2 F2 e2 wl wq
      have l2 := (List.getElem?_eq_some_iff.mp e2).1
      (conv => whnf)
      refine ⟨_, pow_eq (by decide) (by decide) (by decide), ?_⟩
      rw [p6]
      (conv => whnf)
      refine ⟨fun hc => ?_, fun hc => ?_⟩
      · have c := of_decide_eq_true hc
        (conv => whnf)
        refine ⟨_, e2, ?_⟩
        (conv => whnf)
        refine ⟨_, e2, by unfold sizeLine; omega, ?_⟩
        obtain ⟨c1, c2, c3⟩ := cell (ws := ws ++ [.int 1]) l2 S2 F2
        (conv => whnf)
        refine ⟨c1, c2, _, rfl, c3, by simp; omega, fun x mx => ?_⟩
        rcases List.mem_append.mp mx with mx | mx
        · exact wq x mx
        · rw [List.mem_singleton.mp mx]; exact Or.inr ⟨rfl, c⟩
      · exact ⟨S2, F2, _, rfl, e2, by omega, wq⟩
    refine ⟨fun hc => ?_, fun hc => ?_⟩
    · have c := of_decide_eq_true hc
      (conv => whnf)
      refine ⟨_, e1, ?_⟩
      (conv => whnf)
      refine ⟨_, e1, by simp; unfold sizeLine; omega, ?_⟩
      obtain ⟨c1, c2, c3⟩ := cell (ws := [] ++ [.int 0]) l1 S1 F1
      exact second c1 c2 c3 (by simp) fun x mx => by simp at mx; exact Or.inl ⟨mx, c⟩
    · exact second S1 F1 e1 (by simp) fun x mx => nomatch mx
  rintro en h1 ⟨S1, F1, ws, rfl, ew, wl, wq⟩
  (conv => whnf)
  refine callz (s_draw (by decide) S1 (by decide) (by decide)) ?_
  rintro _ h2 ⟨⟨i, rfl, i0, i1⟩, S2, F2⟩
  (conv => whnf)
  refine ⟨by omega, ?_⟩
  have ew2 := F2.get (by simpa using a1) ew
  refine for_inv (fun rs en h' => St h' ∧ Frm [1] h h' ∧ ∃ (ff : List Fa) (u7 u8 u9 u10 u11 : Option D), en = [some (.ref 1), some g.d, some (.tup (fs.map Fa.d)), some (.int m), some (.int k), some (.tup (ff.map Fa.d)), some (.ref h.length), u7, u8, u9, u10, u11] ∧ h'[h.length]? = some (.lst ws) ∧ Fs h' ff ∧ ∀ g, dueF ff m k g = dueF fs m k g) ?_ ?_ ?_
  · exact ⟨S2, F1.trans F2, fs, _, _, _, _, _, rfl, ew2, F.frm (F1.trans F2), fun _ => rfl⟩
  · rintro x rs en h3 ⟨S3, F3, ff, u7, u8, u9, u10, u11, rfl, ew3, fo, fd⟩
    refine ⟨stays_nil, ?_⟩
    have l40 := fo.1
    (conv => whnf)
    refine ⟨_, ew3, ?_⟩
    (conv => whnf)
    refine ⟨nofun, ?_⟩
    (conv => whnf)
    refine ⟨fun hc => ?_, fun hc => ?_⟩
    · have w0 : ws ≠ [] := by
        have := of_decide_eq_true hc
        intro e; rw [e] at this; simp at this
      (conv => whnf)
      refine ⟨nofun, ?_⟩
      (conv => whnf)
      rw [List.length_map]
      refine ⟨fun hc => ?_, fun hc => ?_⟩
      · have fl : ff.length < 40 := by
          have := of_decide_eq_true hc
          omega
        refine cutN 2 (fun en h' => St h' ∧ Frm [1] h3 h' ∧ ∃ (dd : D) (u7 u9 u10 u11 : Option D), en = [some (.ref 1), some g.d, some (.tup (fs.map Fa.d)), some (.int m), some (.int k), some (.tup (ff.map Fa.d)), some (.ref h.length), u7, some dd, u9, u10, u11] ∧ DeedOk [1] h' dd) ?_ ?_
        · (conv => whnf)
          refine callz (s_spot (by decide) S3 o) ?_
          rintro sp h4 ⟨so, S4, F4⟩
          (conv => whnf)
          refine callz (s_deed_at (by decide) S4 o so) ?_
          rintro dd h5 ⟨rd, S5, F5⟩
          (conv => whnf)
          refine callz (s_draw (by decide) S5 (by decide) (by decide)) ?_
          rintro _ h6 ⟨⟨i, rfl, i0, i1⟩, S6, F6⟩
          (conv => whnf)
          refine ⟨fun hc => ?_, fun hc => ?_⟩
          · (conv => whnf)
            refine callz (s_bent (by decide) S6 o rd) ?_
            rintro bd h7 ⟨bo, S7, F7⟩
            refine ⟨S7, F4.trans (F5.trans (F6.trans F7)), _, _, _, _, _, rfl, ?_⟩
            rcases bo with ⟨a, ys, rfl, l, e⟩ | p
            · exact Or.inl ⟨a, ys, rfl, by simp; have := S6.len; omega, e⟩
            · exact Or.inr p
          · exact ⟨S6, F4.trans (F5.trans F6), _, _, _, _, _, rfl, Or.inr rd.pu⟩
        rintro en h4 ⟨S4, F4, dd, v7, v9, v10, v11, rfl, dk⟩
        refine cutN 2 (fun en h' => St h' ∧ Frm [1] h4 h' ∧ ∃ (t s : Int) (u7 u9 : Option D), en = [some (.ref 1), some g.d, some (.tup (fs.map Fa.d)), some (.int m), some (.int k), some (.tup (ff.map Fa.d)), some (.ref h.length), u7, some dd, u9, some (.int t), some (.int s)] ∧ (0 ≤ t ∧ t ≤ 1000000) ∧ (0 ≤ s ∧ s ≤ 1000000) ∧ ¬ (s ≤ m ∧ t ≤ k)) ?_ ?_
        · dsimp only [List.drop, List.take]
          (conv => whnf)
          refine callz (s_time (by decide) S4) ?_
          rintro _ h5 ⟨⟨t, rfl, t0, t1⟩, S5, F5⟩
          (conv => whnf)
          refine callz (s_time (by decide) S5) ?_
          rintro _ h6 ⟨⟨s, rfl, s0, s1⟩, S6, F6⟩
          have ew6 := (F4.trans (F5.trans F6)).get (by simpa using a1) ew3
          (conv => whnf)
          refine callz (s_pick_l (by decide) S6 a1 ew6 w0 (by omega)) ?_
          rintro x h7 ⟨mx, S7, F7⟩
          rcases wq x mx with ⟨rfl, kk⟩ | ⟨rfl, mm⟩
          · (conv => whnf); (repeat (first | (refine ⟨fun hx => absurd hx Bool.false_ne_true, fun _ => ?_⟩; conv => whnf) | (refine ⟨fun _ => ?_, fun hx => absurd (Eq.symm hx) Bool.false_ne_true⟩; conv => whnf)))
            refine ⟨_, pow_eq (by decide) (by decide) (by decide), ?_⟩
            rw [p6]
            (conv => whnf)
            refine ⟨_, rfl, ?_⟩
            (conv => whnf)
            refine callz (s_draw (by decide) S7 (by split <;> omega) (by split <;> omega)) ?_
            rintro _ h8 ⟨⟨j, rfl, j0, j1⟩, S8, F8⟩
            have j2 : j < 1000000 - k := by split at j1 <;> omega
            exact ⟨S8, F5.trans (F6.trans (F7.trans F8)), k + 1 + j, s, _, _, rfl, ⟨by omega, by omega⟩, ⟨s0, s1⟩, fun u => by omega⟩
          · (conv => whnf); (repeat (first | (refine ⟨fun hx => absurd hx Bool.false_ne_true, fun _ => ?_⟩; conv => whnf) | (refine ⟨fun _ => ?_, fun hx => absurd (Eq.symm hx) Bool.false_ne_true⟩; conv => whnf)))
            refine ⟨_, pow_eq (by decide) (by decide) (by decide), ?_⟩
            rw [p6]
            (conv => whnf)
            refine ⟨_, rfl, ?_⟩
            (conv => whnf)
            refine callz (s_draw (by decide) S7 (by split <;> omega) (by split <;> omega)) ?_
            rintro _ h8 ⟨⟨j, rfl, j0, j1⟩, S8, F8⟩
            have j2 : j < 1000000 - m := by split at j1 <;> omega
            exact ⟨S8, F5.trans (F6.trans (F7.trans F8)), t, m + 1 + j, _, _, rfl, ⟨t0, t1⟩, ⟨by omega, by omega⟩, fun u => by omega⟩
        rintro en h5 ⟨S5, F5, t, s, w7, w9, rfl, tt, ss, late⟩
        dsimp only [List.drop]
        (conv => whnf)
        refine ⟨nofun, ?_⟩
        (conv => whnf)
        rw [List.length_map]
        refine callz (s_draw (by decide) S5 (by omega) (by omega)) ?_
        rintro _ h6 ⟨⟨p, rfl, p0, p1⟩, S6, F6⟩
        obtain ⟨p, rfl⟩ : ∃ z : Nat, p = z := ⟨p.toNat, by omega⟩
        have e1 := len_cutD (xs := ff.map Fa.d) (lo := none) (hi := some ((p : Nat) : Int))
        have e2 := len_cutD (xs := ff.map Fa.d) (lo := some ((p : Nat) : Int)) (hi := none)
        rw [List.length_map] at e1 e2
        (conv => whnf)
        refine ⟨by simp only [List.length_cons, List.length_nil]; unfold sizeLine; omega, ?_⟩
        (conv => whnf)
        refine ⟨by simp only [List.length_append, List.length_cons, List.length_nil]; unfold sizeLine; omega, ?_⟩
        have im := ins_map (fs := ff) (p := p) (f := ⟨t, s, dd⟩)
        have FF : Frm [1] h3 h6 := F4.trans (F5.trans F6)
        (conv => whnf)
        refine ⟨S6, F3.trans FF, ff.take p ++ ⟨t, s, dd⟩ :: ff.drop p, _, _, _, _, _, by rw [← im]; rfl, FF.get (by simpa using a1) ew3, ⟨by simp; omega, ?_⟩, ?_⟩
        · intro f mf
          have fo2 := fo.frm FF
          rcases List.mem_append.mp mf with mf | mf
          · exact fo2.2 f (List.mem_of_mem_take mf)
          rcases List.mem_cons.mp mf with rfl | mf
          · exact ⟨tt.1, tt.2, ss.1, ss.2, dk.frm (F5.trans F6) (fun _ m => m)⟩
          · exact fo2.2 f (List.mem_of_mem_drop mf)
        · intro g
          rw [due_late _ _ _ _ _ _ late, List.take_append_drop]
          exact fd g
      · (conv => whnf)
        exact ⟨S3, F3, ff, _, _, _, _, _, rfl, ew3, fo, fd⟩
    · (conv => whnf); (repeat (first | (refine ⟨fun hx => absurd hx Bool.false_ne_true, fun _ => ?_⟩; conv => whnf) | (refine ⟨fun _ => ?_, fun hx => absurd (Eq.symm hx) Bool.false_ne_true⟩; conv => whnf)))
      exact ⟨S3, F3, ff, _, _, _, _, _, rfl, ew3, fo, fd⟩
  · rintro en h3 ⟨S3, F3, ff, u7, u8, u9, u10, u11, rfl, ew3, fo, fd⟩
    refine ⟨stays_nil, ?_⟩
    (conv => whnf)
    exact ⟨⟨ff, rfl, fo, fd⟩, S3, F3⟩
end Tx
set_option Elab.async false
set_option linter.all false
set_option maxRecDepth 100000
set_option maxHeartbeats 4000000
namespace Tx
open PySem Mp
open PySem.PyData (strOk)
def FE1 (h : Hh) (x : D) : Prop := (∃ (a : Nat) (ys : List D), x = .ref a ∧ a ≠ 1 ∧ h[a]? = some (.lst ys)) ∨ (∃ m, Pu m x) ∨ ∃ (a b c : D) (m : Nat), x = .tup [a, b, c] ∧ Pu m a ∧ Pu m b
theorem FE1.to {h : Hh} {x : D} (p : FE1 h x) : FactE h x := by
  rcases p with ⟨a, ys, e, _, q⟩ | p | p
  · exact Or.inl ⟨a, ys, e, q⟩
  · exact Or.inr (Or.inl p)
  · exact Or.inr (Or.inr p)
theorem FE1.frm {h h' : Hh} {x : D} (p : FE1 h x) (F : Frm [1] h h') : FE1 h' x := by
  rcases p with ⟨a, ys, e, n, q⟩ | p | p
  · exact Or.inl ⟨a, ys, e, n, F.get (by simpa using n) q⟩
  · exact Or.inr (Or.inl p)
  · exact Or.inr (Or.inr p)
theorem FE1.take {h : Hh} {x : D} {n : Nat} (p : FE1 h x) (c : closD n x = true) : FE1 (h.take n) x := by
  rcases p with ⟨a, ys, rfl, m, q⟩ | p | p
  · simp only [closD, decide_eq_true_eq] at c
    exact Or.inl ⟨a, ys, rfl, m, by rw [List.getElem?_take_of_lt c]; exact q⟩
  · exact Or.inr (Or.inl p)
  · exact Or.inr (Or.inr p)
def FsE1 (h : Hh) (x : D) : Prop := (∃ (a : Nat) (ys : List D), x = .ref a ∧ a ≠ 1 ∧ h[a]? = some (.lst ys)) ∨ (∃ m, Pu m x ∧ ∀ ys, x ≠ .tup ys) ∨ ∃ ys : List D, x = .tup ys ∧ ys.length ≤ 1000 ∧ ∀ y ∈ ys, FE1 h y
theorem FsE1.to {h : Hh} {x : D} (p : FsE1 h x) : FactsE h x := by
  rcases p with ⟨a, ys, e, _, q⟩ | p | ⟨ys, e, l, q⟩
  · exact Or.inl ⟨a, ys, e, q⟩
  · exact Or.inr (Or.inl p)
  · exact Or.inr (Or.inr ⟨ys, e, l, fun y m => (q y m).to⟩)
theorem FsE1.frm {h h' : Hh} {x : D} (p : FsE1 h x) (F : Frm [1] h h') : FsE1 h' x := by
  rcases p with ⟨a, ys, e, n, q⟩ | p | ⟨ys, e, l, q⟩
  · exact Or.inl ⟨a, ys, e, n, F.get (by simpa using n) q⟩
  · exact Or.inr (Or.inl p)
  · exact Or.inr (Or.inr ⟨ys, e, l, fun y m => (q y m).frm F⟩)
theorem FsE1.take {h : Hh} {x : D} {n : Nat} (p : FsE1 h x) (c : closD n x = true) : FsE1 (h.take n) x := by
  rcases p with ⟨a, ys, rfl, m, q⟩ | p | ⟨ys, rfl, l, q⟩
  · simp only [closD, decide_eq_true_eq] at c
    exact Or.inl ⟨a, ys, rfl, m, by rw [List.getElem?_take_of_lt c]; exact q⟩
  · exact Or.inr (Or.inl p)
  · simp only [closD] at c
    exact Or.inr (Or.inr ⟨ys, rfl, l, fun y m => (q y m).take (closDs_all c y m)⟩)
theorem not_fp {x : D} (n : ∀ a b c, x = .tup [a, b, c] → WholeP 0 1000000 a → WholeP 0 1000000 b → False) : ¬ FactP x := fun ⟨t, s, dd, e, u, v⟩ => n t s dd e u v
theorem fe_facts {h : Hh} {fs : List Fa} {xs : List D} (s : ∀ x ∈ xs, x ∈ fs.map Fa.d) : ∀ x ∈ xs, FE1 h x := fun x m => by
  obtain ⟨f, _, rfl⟩ := List.mem_map.mp (s x m)
  exact Or.inr (Or.inr ⟨_, _, _, 0, rfl, Pu.int, Pu.int⟩)
theorem p6' : (10 : Int) ^ Int.toNat 6 + 1 = 1000001 := by decide
theorem s_odd_facts {n : Nat} (hn : i__law_odd_facts < n) {h : Hh} (S : St h) {fs : List Fa} (F : Fs h fs) {dd : D} (rd : RD dd) :
    CallP (phi xs defs n i__law_odd_facts [.ref 1, .tup (fs.map Fa.d), dd] h) (fun r h' => (FsE1 h' r ∧ ¬ FactsP r) ∧ St h' ∧ Frm [1] h h') X0 := by
  refine fn_ok hn rfl rfl (fun d h' p c => ⟨⟨p.1.1.take c, p.1.2⟩, p.2.1.take S.len, p.2.2.take⟩) stabX0 ?_
  have l40 := F.1
  have dp := rd.pu.1
  have L := S.len
  refine cutN 5 (fun en h' => St h' ∧ Frm [1] h h' ∧ ∃ (i : Int) (o : Nat) (xs : List D), en = [some (.ref 1), some (.tup (fs.map Fa.d)), some dd, some (.int i), some (.ref o), none, none] ∧ o ≠ 1 ∧ h'[o]? = some (.lst xs) ∧ xs.length = 14 ∧ ∀ x ∈ xs, FE1 h' x ∧ ¬ FactP x) ?_ ?_
  rotate_left
  · rintro en h1 ⟨S1, F1, i, o, xs, rfl, no, eo, xl, xq⟩
    have cl := len_cutD (xs := fs.map Fa.d) (lo := none) (hi := some 39)
    rw [List.length_map] at cl
    have cm : ∀ x ∈ cutD (fs.map Fa.d) none (some 39), x ∈ fs.map Fa.d := fun x m => mem_cutD m
    (conv => whnf)
    generalize cutD (fs.map Fa.d) none (some 39) = part at cl cm ⊢
    refine ⟨nofun, ?_⟩
    (conv => whnf)
    refine callz (s_draw (by decide) S1 (by omega) (by omega)) ?_
    rintro _ h2 ⟨⟨p, rfl, p0, p1⟩, S2, F2⟩
    have eo2 := F2.get (by simpa using no) eo
    have e1 := len_cutD (xs := part) (lo := none) (hi := some p)
    have e2 := len_cutD (xs := part) (lo := some p) (hi := none)
    (conv => whnf)
    refine callz (s_pick_l (by decide) S2 no eo2 (by intro e; rw [e] at xl; cases xl) (by omega)) ?_
    rintro x h3 ⟨mx, S3, F3⟩
    obtain ⟨x1, x2⟩ := xq x mx
    have x3 := x1.frm (F2.trans F3)
    (conv => whnf)
    refine ⟨by simp only [List.length_cons, List.length_nil]; unfold sizeLine; omega, ?_⟩
    (conv => whnf)
    refine ⟨by simp only [List.length_append, List.length_cons, List.length_nil]; unfold sizeLine; omega, ?_⟩
    (conv => whnf)
    refine ⟨⟨Or.inr (Or.inr ⟨_, rfl, by simp only [List.length_append, List.length_cons, List.length_nil]; omega, fun y m => ?_⟩), fun ⟨ys, e, _, a⟩ => ?_⟩, S3, F1.trans (F2.trans F3)⟩
    · rcases List.mem_append.mp m with m | m
      · rcases List.mem_append.mp m with m | m
        · exact fe_facts (fs := fs) cm y (mem_cutD m)
        · rw [List.mem_singleton.mp m]; exact x3
      · exact fe_facts (fs := fs) cm y (mem_cutD m)
    · cases e
      exact x2 (a x (by simp))
  (conv => whnf)
  refine callz (s_draw (by decide) S (by decide) (by decide)) ?_
  rintro _ h1 ⟨⟨i, rfl, i0, i1⟩, S1, F1⟩
  have L1 := S1.len
  have tri : ∀ {a b : D} {m : Nat} {hh : Hh}, Pu m a → Pu m b → FE1 hh (.tup [a, b, dd]) := fun p q => Or.inr (Or.inr ⟨_, _, _, _, rfl, p, q⟩)
  have nw : ∀ {x : D}, (∀ i, x ≠ .int i) → ¬ WholeP 0 1000000 x := fun n ⟨i, e, _⟩ => n i e
  have nr : ∀ {z : Int}, (z < 0 ∨ 1000000 < z) → ¬ WholeP 0 1000000 (.int z) := fun n ⟨i, e, u, v⟩ => by injection e with e; omega
  have nf : ∀ {a b : D}, (¬ WholeP 0 1000000 a ∨ ¬ WholeP 0 1000000 b) → ¬ FactP (.tup [a, b, dd]) := fun k => not_fp fun a b c e u v => by
    simp only [D.tup.injEq, List.cons.injEq, and_true] at e
    rcases k with k | k
    · rw [e.1] at k; exact k u
    · rw [e.2.1] at k; exact k v
  (conv => whnf)
  refine ⟨fun hc => ?_, fun hc => ?_⟩
  · (conv => whnf)
    refine ⟨Or.inr rfl, ?_⟩
    (conv => whnf)
    exact ⟨⟨Or.inl ⟨_, _, rfl, by omega, new_cell⟩, fun ⟨ys, e, _⟩ => by cases e⟩, S1.pure (Frm.app _), F1.trans (Frm.app _)⟩
  (conv => whnf)
  refine ⟨fun hc => ?_, fun hc => ?_⟩
  · (conv => whnf)
    refine callz (s_pick_l (by decide) (S1.pure (Frm.app _)) (by omega) new_cell (by simp) (by simp)) ?_
    rintro x h2 ⟨mx, S2, F2⟩
    refine ⟨?_, S2, F1.trans ((Frm.app _).trans F2)⟩
    have nt : ∀ {z : D}, Pu 0 z → (∀ ys, z ≠ .tup ys) → FsE1 h2 z ∧ ¬ FactsP z := fun p n => ⟨Or.inr (Or.inl ⟨0, p, n⟩), fun ⟨ys, e, _⟩ => n ys e⟩
    have Q : ∀ x ∈ [D.non, .int 0, .str "", .str "facts", .tup [.int 0, .int 0, dd], .tup [.tup [.int 0, .int 0, dd], .non]], FsE1 h2 x ∧ ¬ FactsP x := by
      refine all_c (nt Pu.non fun ys e => by cases e) (all_c (nt Pu.int fun ys e => by cases e) (all_c (nt (Pu.str (by decide +kernel)) fun ys e => by cases e) (all_c (nt (Pu.str (by decide +kernel)) fun ys e => by cases e) (all_c ?_ (all_c ?_ all_n)))))
      · refine ⟨Or.inr (Or.inr ⟨_, rfl, by simp, all_c (Or.inr (Or.inl ⟨0, Pu.int⟩)) (all_c (Or.inr (Or.inl ⟨0, Pu.int⟩)) (all_c (Or.inr (Or.inl ⟨4, dp⟩)) all_n))⟩), fun ⟨ys, e, _, a⟩ => ?_⟩
        cases e
        obtain ⟨_, _, _, e, _⟩ := a (.int 0) (by simp)
        cases e
      · refine ⟨Or.inr (Or.inr ⟨_, rfl, by simp, all_c (tri (m := 0) Pu.int Pu.int) (all_c (Or.inr (Or.inl ⟨0, Pu.non⟩)) all_n)⟩), fun ⟨ys, e, _, a⟩ => ?_⟩
        cases e
        obtain ⟨_, _, _, e, _⟩ := a .non (by simp)
        cases e
    exact Q x mx
  (conv => whnf); (repeat (first | (refine ⟨fun hx => absurd hx Bool.false_ne_true, fun _ => ?_⟩; conv => whnf) | (refine ⟨fun _ => ?_, fun hx => absurd (Eq.symm hx) Bool.false_ne_true⟩; conv => whnf) | (refine ⟨_, rfl, ?_⟩; conv => whnf) | (refine ⟨mulOk_r (by decide), ?_⟩; conv => whnf) | (refine ⟨mulOk_l (by decide), ?_⟩; conv => whnf) | (refine ⟨(nofun : _ ≠ Wd.other), ?_⟩; conv => whnf) | (refine ⟨Or.inl (Eq.refl Wd.lst), ?_⟩; conv => whnf) | (refine ⟨Or.inr (Eq.refl Wd.tup), ?_⟩; conv => whnf) | (refine ⟨by decide, ?_⟩; conv => whnf)))
  refine ⟨_, _, (Frm.app (S := []) _).get (by simp) ((Frm.app (S := []) _).get (by simp) new_cell), new_cell, (show 8 + 6 ≤ 2 ^ 24 by decide), ?_⟩
  have er : ∀ (c1 c2 c3 c4 : Cell), (h1 ++ [c1] ++ [c2] ++ [c3] ++ [c4])[(h1 ++ [c1]).length]? = some c2 := fun c1 c2 c3 c4 => (Frm.app (S := []) _).get (by simp) ((Frm.app (S := []) _).get (by simp) new_cell)
  (conv => whnf)
  refine ⟨(((S1.pure (Frm.app _)).pure (Frm.app _)).pure (Frm.app _)).pure (Frm.app _), F1.trans ((Frm.app _).trans ((Frm.app _).trans ((Frm.app _).trans (Frm.app _)))), i, _, _, rfl, by simp only [List.length_append, List.length_cons, List.length_nil]; omega, new_cell, rfl, ?_⟩
  have pu2 : ∀ {hh : Hh} {z : D}, Pu 5 z → FE1 hh z := fun p => Or.inr (Or.inl ⟨5, p⟩)
  have nt : ∀ {z : D}, (∀ ys, z ≠ .tup ys) → ¬ FactP z := fun n => not_fp fun a b c e => (n _ e).elim
  have n2 : ∀ {a b : D}, ¬ FactP (.tup [a, b]) := not_fp fun a b c e => by simp at e
  refine all_c ⟨pu2 (Pu.tup (all_c Pu.int (all_c Pu.int all_n))), n2⟩ (all_c ⟨pu2 (Pu.tup (all_c Pu.int all_n)), not_fp fun a b c e => by simp at e⟩ (all_c ⟨pu2 (Pu.tup all_n), not_fp fun a b c e => by simp at e⟩ (all_c ⟨pu2 Pu.non, nt fun ys e => by cases e⟩ ?_)))
  refine all_c ⟨tri (m := 0) Pu.int Pu.int, nf (Or.inl (nr (by decide)))⟩ (all_c ⟨tri (m := 0) Pu.int Pu.int, nf (Or.inr (nr (by decide)))⟩ (all_c ⟨tri (m := 0) Pu.int Pu.int, nf (Or.inl (nr (by rw [p6']; decide)))⟩ (all_c ⟨tri (m := 0) Pu.int Pu.int, nf (Or.inr (nr (by rw [p6']; decide)))⟩ ?_)))
  refine all_c ⟨tri (m := 0) Pu.bl Pu.int, nf (Or.inl (nw fun i e => by cases e))⟩ (all_c ⟨tri (m := 0) Pu.int Pu.bl, nf (Or.inr (nw fun i e => by cases e))⟩ (all_c ⟨tri (m := 0) Pu.int Pu.non, nf (Or.inr (nw fun i e => by cases e))⟩ (all_c ⟨Or.inl ⟨_, _, rfl, by simp only [List.length_append, List.length_cons, List.length_nil]; omega, er _ _ _ _⟩, nt fun ys e => by cases e⟩ ?_)))
  refine all_c ⟨pu2 (Pu.tup (all_c Pu.int (all_c Pu.int (all_c dp (all_c dp all_n))))), not_fp fun a b c e => by simp at e⟩ (all_c ⟨tri (m := 0) (Pu.str (by decide +kernel)) Pu.int, nf (Or.inl (nw fun i e => by cases e))⟩ all_n)
end Tx
set_option Elab.async false
set_option linter.all false
set_option maxRecDepth 100000
set_option maxHeartbeats 4000000
namespace Tx
open PySem Mp
open PySem.PyData (strOk)
theorem gr_len {x : D} {g : Gr} : True := trivial
theorem not_gp {bs : List BD} {qs : List D} (n : ∀ g : Gr, g.Ok → bs = g.bs.map Bk.bd → qs = g.qs.map Qe.d → False) : ¬ GraphP (.tup [.tup (bs.map BD.d), .tup qs]) := fun ⟨g, e, o⟩ => n g o (gr_inj e).1 (gr_inj e).2
theorem gbad3 {h : Hh} {bs : List BD} {qs : List D} (a : BsP bs) (b : QsP qs) (n : ∀ g : Gr, g.Ok → bs = g.bs.map Bk.bd → qs = g.qs.map Qe.d → False) : GBad h (.tup [.tup (bs.map BD.d), .tup qs]) := Or.inr (Or.inr ⟨bs, qs, rfl, a, b, not_gp n⟩)
theorem s_odd_graph {n : Nat} (hn : i__law_odd_graph < n) {h : Hh} (S : St h) {g : Gr} (o : g.Ok) :
    CallP (phi xs defs n i__law_odd_graph [.ref 1, g.d] h) (fun r h' => GBad h' r ∧ St h' ∧ Frm [1] h h') X0 := by
  refine fn_ok hn rfl rfl (fun d h' p c => ⟨?_, p.2.1.take S.len, p.2.2.take⟩) stabX0 ?_
  · rcases p.1 with ⟨a, ys, rfl, e⟩ | q | q
    · simp only [closD, decide_eq_true_eq] at c
      exact Or.inl ⟨a, ys, rfl, by rw [List.getElem?_take_of_lt c]; exact e⟩
    · exact Or.inr (Or.inl q)
    · exact Or.inr (Or.inr q)
  have b1 := o.b1
  have b60 := o.b60
  have q160 := o.q160
  rw [gr_d]
  (conv => whnf)
  refine callz (s_draw (by decide) S (by decide) (by decide)) ?_
  rintro _ h1 ⟨⟨i, rfl, i0, i1⟩, S1, F1⟩
  (conv => whnf)
  refine ⟨fun hc => ?_, fun hc => ?_⟩
  · (conv => whnf)
    refine ⟨Or.inr rfl, ?_⟩
    (conv => whnf)
    exact ⟨Or.inl ⟨_, _, rfl, new_cell⟩, S1.pure (Frm.app _), F1.trans (Frm.app _)⟩
  (conv => whnf)
  refine ⟨fun hc => ?_, fun hc => ?_⟩
  · (conv => whnf)
    refine ⟨show 2 + 1 ≤ 2 ^ 24 by decide, ?_⟩
    (conv => whnf)
    exact ⟨Or.inr (Or.inl ⟨_, rfl, by simp⟩), S1, F1⟩
  (conv => whnf)
  refine ⟨fun hc => ?_, fun hc => ?_⟩
  · (conv => whnf)
    exact ⟨gbad3 (bs := []) (qs := []) ⟨(fun _ m => nomatch m), by simp⟩ ⟨(fun _ m => nomatch m), by simp⟩ fun g o e _ => by have := o.b1; have := congrArg List.length e; simp at this; omega, S1, F1⟩
  obtain ⟨b, bs, eb⟩ : ∃ b bs, g.bs = b :: bs := by
    cases e : g.bs with
    | nil => rw [e] at b1; simp at b1
    | cons b bs => exact ⟨b, bs, rfl⟩
  have at' : L2.atI ((g.bs.map Bk.bd).map BD.d) 0 = some b.bd.d := by
    rw [eb]; exact at0
  have hb := gr_bs o
  have hq := gr_qs o
  (conv => whnf)
  refine ⟨fun hc => ?_, fun hc => ?_⟩
  · (conv => whnf)
    refine ⟨_, at', ?_⟩
    (conv => whnf)
    refine ⟨by simp only [List.length_map, List.length_cons, List.length_nil]; unfold sizeLine; omega, ?_⟩
    (conv => whnf)
    have G := gbad3 (h := h1) (bs := g.bs.map Bk.bd ++ [b.bd]) (qs := g.qs.map Qe.d) ⟨fun c m => by
      rcases List.mem_append.mp m with m | m
      · exact hb.p c m
      · rw [List.mem_singleton.mp m]; exact hb.p _ (by rw [eb]; simp), by simp; omega⟩ hq fun g2 o2 e _ => by
        have nd := o2.nd
        have e2 : g2.bs = g.bs ++ [b] := by
          refine bks_inj ?_
          rw [← e, List.map_append]; rfl
        rw [e2, eb] at nd
        simp at nd
    rw [List.map_append] at G
    exact ⟨G, S1, F1⟩
  · (conv => whnf)
    refine ⟨_, at', ?_⟩
    (conv => whnf)
    refine ⟨_, rfl, ?_⟩
    (conv => whnf)
    have bo := o.bk b (by rw [eb]; simp)
    have l6 := bo.l6
    refine comp_map (fun _ => some (.int 1)) (by dsimp only; rw [List.length_map]; unfold sizeLine; omega) stays_nil ?_ ?_
    · intro x mx h2 F2 G k
      (conv => whnf)
      exact k _ Frm.refl
    intro h2 F2
    dsimp only
    rw [fm_some, List.map_map]
    have e1 : (b.ts.map ((fun _ => D.int 1) ∘ D.int)) = (b.ts.map fun _ => (1 : Int)).map D.int := by rw [List.map_map]; rfl
    rw [e1]
    (conv => whnf)
    refine ⟨Or.inl rfl, ?_⟩
    (conv => whnf)
    refine ⟨nofun, ?_⟩
    (conv => whnf)
    refine ⟨by simp only [List.length_map, List.length_cons, List.length_nil]; unfold sizeLine; omega, ?_⟩
    (conv => whnf)
    rw [List.length_map, List.length_map]
    have dq : DePu (.tup [.int 0, TI (b.ts.map fun _ => (1 : Int)), .int (g.bs.length : Nat), .tup [.int 1], .tup []]) := DePu.tup (all_c El.int (all_c (El.ints (by rw [List.length_map]; omega)) (all_c El.int (all_c (El.tup (pu_all Pu.int pu_nil) (by simp)) (all_c (El.tup pu_nil (by simp)) all_n))))) (by simp)
    refine ⟨gbad3 (bs := g.bs.map Bk.bd) (qs := g.qs.map Qe.d ++ [.tup [.int 0, TI (b.ts.map fun _ => (1 : Int)), .int (g.bs.length : Nat), .tup [.int 1], .tup []]]) hb ⟨fun c m => ?_, by simp; omega⟩ (fun g2 o2 eb2 eq2 => ?_), S1.pure F2, F1.trans F2.one⟩
    · rcases List.mem_append.mp m with m | m
      · exact hq.p c m
      · rw [List.mem_singleton.mp m]; exact dq
    · have e2 : g2.bs = g.bs := bks_inj eb2.symm
      have m : D.tup [.int 0, TI (b.ts.map fun _ => (1 : Int)), .int (g.bs.length : Nat), .tup [.int 1], .tup []] ∈ g2.qs.map Qe.d := by rw [← eq2]; simp
      obtain ⟨q, mq, e⟩ := List.mem_map.mp m
      obtain ⟨_, _, et, _⟩ := qd_inj e.symm
      have ht := (o2.qk q mq).ht
      have := int_inj et
      rw [e2] at ht
      omega
theorem pysW_pu (h : Hh) (m : Nat) : ∀ {xs : List D} {n : Nat}, (∀ x ∈ xs, Pu n x) → ∃ es, D.pysW (pyN h m) xs = some es ∧ PyData.canLayAll0 es = true ∧ PyData.depthAll es ≤ n := fun p => by
  obtain ⟨es, a, b, c⟩ := pus_ex _ p
  exact ⟨es, pysW_of _ _ _ a, b, c⟩
theorem eqD_lists {h : Hh} {a b n : Nat} {xs : List D} (ea : h[a]? = some (.lst xs)) (eb : h[b]? = some (.lst xs)) (p : ∀ x ∈ xs, Pu n x) (l : n < 64) : eqD h (.ref a) (.ref b) = some true := by
  obtain ⟨es, q, c, d⟩ := pysW_pu h 7 p
  have ra : D.py h (.ref a) = some (.list es) := by
    show (match h[a]? with
      | some (.lst xs) => (D.pysW (pyN h 7) xs).map PyData.list
      | _ => none) = _
    rw [ea]
    dsimp only
    rw [q]
    rfl
  have rb : D.py h (.ref b) = some (.list es) := by
    show (match h[b]? with
      | some (.lst xs) => (D.pysW (pyN h 7) xs).map PyData.list
      | _ => none) = _
    rw [eb]
    dsimp only
    rw [q]
    rfl
  have sh : SeqAt.shaped (.list es) = true := by
    unfold SeqAt.shaped
    rw [show PyData.canLay0 (.list es) = _ by simp only [PyData.canLay0]; exact c]
    show (true && decide (PyData.depthAll es + 1 ≤ 64)) = true
    rw [Bool.true_and, decide_eq_true_iff]
    omega
  unfold eqD
  rw [ra, rb]
  simp only [sh, Bool.and_self, if_true, SeqAt.eqv_refl _ (SeqAt.canLay_of_shaped sh)]
theorem bad_pu {w : Str} (h : strOk w = true) : Pu 1 (badD w) := Pu.tup (all_c (Pu.str (by decide +kernel)) (all_c (Pu.str h) all_n))
theorem k_graph : strOk "graph" = true := by decide +kernel
theorem k_facts : strOk "facts" = true := by decide +kernel
theorem k_moment : strOk "moment" = true := by decide +kernel
theorem k_known : strOk "known" = true := by decide +kernel
theorem due_none {fs : List Fa} {m k : Int} {g : Gr} (n : ∀ f ∈ fs, ¬ (f.since ≤ m ∧ f.told ≤ k)) : dueF fs m k g = some g := by
  unfold dueF runF
  have : (srt fs).filter (keep m k) = [] := by
    rw [List.filter_eq_nil_iff]
    intro r mr
    obtain ⟨i, hi, rfl⟩ := srt_mem mr
    exact keep_n (n fs[i] (List.getElem_mem _))
  rw [this]
  rfl
theorem edg_01 {fs : List Fa} {k : Int} (a : ∃ f ∈ fs, f.told ≤ k) (s : ∀ f ∈ fs, f.since = 1) : edgF fs k = [0, 1] := by
  have st := edg_sorted fs k
  have mem : ∀ z, z ∈ edgF fs k ↔ z = 0 ∨ z = 1 := fun z => by
    rw [edg_mem]
    constructor
    · rintro (h | ⟨f, mf, _, rfl⟩)
      · exact Or.inl h
      · exact Or.inr (s f mf)
    · rintro (h | rfl)
      · exact Or.inl h
      · obtain ⟨f, mf, hk⟩ := a
        exact Or.inr ⟨f, mf, hk, s f mf⟩
  match e : edgF fs k with
  | [] => rw [e] at mem; have := (mem 0).mpr (Or.inl rfl); cases this
  | [a] =>
    rw [e] at mem
    have h0 := (mem 0).mpr (Or.inl rfl)
    have h1 := (mem 1).mpr (Or.inr rfl)
    simp at h0 h1
    omega
  | [a, b] =>
    rw [e] at mem st
    have ha := (mem a).mp (by simp)
    have hb := (mem b).mp (by simp)
    have : a < b := by simpa using st
    have : a = 0 := by omega
    have : b = 1 := by omega
    subst a b
    rfl
  | a :: b :: c :: r =>
    rw [e] at mem st
    have ha := (mem a).mp (by simp)
    have hb := (mem b).mp (by simp)
    have hc := (mem c).mp (by simp)
    simp only [List.pairwise_cons] at st
    have h1 := st.1 b (by simp)
    have h2 := st.2.1 c (by simp)
    omega
theorem s_refusals {n : Nat} (hn : i__law_refusals_hold < n) {h : Hh} (S : St h) {g : Gr} (o : g.Ok) {fs : List Fa} (F : Fs h fs) :
    CallP (phi xs defs n i__law_refusals_hold [.ref 1, g.d, .tup (fs.map Fa.d)] h) (fun r h' => r = .bl true ∧ St h' ∧ Frm [1] h h') X0 := by
  refine fn_ok hn rfl rfl (stab_d S) stabX0 ?_
  refine cutN 4 (fun en h' => St h' ∧ Frm [1] h h' ∧ ∃ (dd od rows other : D), en = [some (.ref 1), some g.d, some (.tup (fs.map Fa.d)), some dd, some od, some rows, some other, none, none, none, none] ∧ RD dd ∧ (Pu 1 od ∧ ¬ WholeP 0 1000000 od) ∧ (FsE1 h' rows ∧ ¬ FactsP rows) ∧ GBad h' other) ?_ ?_
  · (conv => whnf)
    refine callz (s_spot (by decide) S o) ?_
    rintro sp h1 ⟨so, S1, F1⟩
    (conv => whnf)
    refine callz (s_deed_at (by decide) S1 o so) ?_
    rintro dd h2 ⟨rd, S2, F2⟩
    have L2 := S2.len
    (conv => whnf); (repeat (first | (refine ⟨fun hx => absurd hx Bool.false_ne_true, fun _ => ?_⟩; conv => whnf) | (refine ⟨fun _ => ?_, fun hx => absurd (Eq.symm hx) Bool.false_ne_true⟩; conv => whnf) | (refine ⟨_, rfl, ?_⟩; conv => whnf) | (refine ⟨mulOk_r (by decide), ?_⟩; conv => whnf) | (refine ⟨mulOk_l (by decide), ?_⟩; conv => whnf) | (refine ⟨(nofun : _ ≠ Wd.other), ?_⟩; conv => whnf) | (refine ⟨Or.inl (Eq.refl Wd.lst), ?_⟩; conv => whnf) | (refine ⟨Or.inr (Eq.refl Wd.tup), ?_⟩; conv => whnf) | (refine ⟨by decide, ?_⟩; conv => whnf)))
    refine callz (s_pick_l (by decide) (S2.pure (Frm.app _)) (by omega) new_cell (by simp) (by simp)) ?_
    rintro x h3 ⟨mx, S3, F3⟩
    have nw : ∀ {x : D}, (∀ i, x ≠ .int i) → ¬ WholeP 0 1000000 x := fun n ⟨i, e, _⟩ => n i e
    have nr : ∀ {z : Int}, (z < 0 ∨ 1000000 < z) → ¬ WholeP 0 1000000 (.int z) := fun n ⟨i, e, u, v⟩ => by injection e with e; omega
    have p30 : (1000000 : Int) < 10 ^ Int.toNat 30 := by decide
    have px : Pu 1 x ∧ ¬ WholeP 0 1000000 x := (all_c ⟨Pu.int, nr (by decide)⟩ (all_c ⟨Pu.int, nr (by rw [p6']; decide)⟩ (all_c ⟨Pu.bl, nw fun i e => by cases e⟩ (all_c ⟨Pu.bl, nw fun i e => by cases e⟩ (all_c ⟨Pu.non, nw fun i e => by cases e⟩ (all_c ⟨Pu.str (by decide +kernel), nw fun i e => by cases e⟩ (all_c ⟨Pu.tup (all_c Pu.int all_n), nw fun i e => by cases e⟩ (all_c ⟨Pu.int, nr (Or.inr p30)⟩ all_n))))))) : ∀ y ∈ _, Pu 1 y ∧ ¬ WholeP 0 1000000 y) x mx
    have FF : Frm [1] h h3 := F1.trans (F2.trans ((Frm.app _).trans F3))
    (conv => whnf)
    refine callz (s_odd_facts (by decide) S3 (F.frm FF) rd) ?_
    rintro rows h4 ⟨ro, S4, F4⟩
    (conv => whnf)
    refine callz (s_odd_graph (by decide) S4 o) ?_
    rintro other h5 ⟨go, S5, F5⟩
    exact ⟨S5, FF.trans (F4.trans F5), dd, x, rows, other, rfl, rd, px, ⟨ro.1.frm F5, ro.2⟩, go⟩
  rintro en h1 ⟨S1, F1, dd, od, rows, other, rfl, rd, ⟨pod, nod⟩, ⟨fr, nfr⟩, gb⟩
  have gbf : ∀ {h' : Hh}, Frm [] h1 h' → GBad h' other := fun q => by
    rcases gb with ⟨a, ys, rfl, e⟩ | q2 | q2
    · exact Or.inl ⟨a, ys, rfl, q.get (by simp) e⟩
    · exact Or.inr (Or.inl q2)
    · exact Or.inr (Or.inr q2)
  have frf : ∀ {h' : Hh}, Frm [] h1 h' → FactsE h' rows := fun q => (fr.frm q.one).to
  have fsf : ∀ {h' : Hh}, Frm [] h1 h' → Fs h' fs := fun q => F.frm (F1.trans q.one)
  refine cutN 2 (fun en h' => Frm [] h1 h' ∧ ∃ u : Option D, en = [some (.ref 1), some g.d, some (.tup (fs.map Fa.d)), some dd, some od, some rows, some other, u, none, none, none]) ?_ ?_
  · dsimp only [List.drop, List.take]
    (conv => whnf)
    refine callz (s_asked_g (by decide) gb) ?_
    rintro _ h2 ⟨rfl, F2⟩
    (conv => whnf)
    refine callz (s_asked_f (by decide) o (frf F2) nfr) ?_
    rintro _ h3 ⟨rfl, F3⟩
    (conv => whnf)
    refine ⟨_, eqD_lists (n := 1) ((Frm.app (S := []) _).get (by simp) new_cell) new_cell (all_c (bad_pu k_graph) (all_c (bad_pu k_facts) all_n)) (by decide), ?_⟩
    (conv => whnf); (repeat (first | (refine ⟨fun hx => absurd hx Bool.false_ne_true, fun _ => ?_⟩; conv => whnf) | (refine ⟨fun _ => ?_, fun hx => absurd (Eq.symm hx) Bool.false_ne_true⟩; conv => whnf)))
    exact ⟨F2.trans (F3.trans ((Frm.app _).trans (Frm.app _))), _, rfl⟩
  rintro en h2 ⟨F2, u, rfl⟩
  refine cutN 2 (fun en h' => Frm [] h1 h' ∧ ∃ u : Option D, en = [some (.ref 1), some g.d, some (.tup (fs.map Fa.d)), some dd, some od, some rows, some other, u, none, none, none]) ?_ ?_
  · dsimp only [List.drop, List.take]
    (conv => whnf)
    refine callz (s_asked_m (by decide) o (fsf F2) pod nod) ?_
    rintro _ h3 ⟨rfl, F3⟩
    (conv => whnf)
    refine ⟨_, pow_eq (by decide) (by decide) (by decide), ?_⟩
    rw [p6]
    (conv => whnf)
    refine callz (s_asked_k (by decide) o (fsf (F2.trans F3)) (by decide) (by decide) pod nod) ?_
    rintro _ h4 ⟨rfl, F4⟩
    (conv => whnf)
    refine ⟨_, eqD_lists (n := 1) ((Frm.app (S := []) _).get (by simp) new_cell) new_cell (all_c (bad_pu k_moment) (all_c (bad_pu k_known) all_n)) (by decide), ?_⟩
    (conv => whnf); (repeat (first | (refine ⟨fun hx => absurd hx Bool.false_ne_true, fun _ => ?_⟩; conv => whnf) | (refine ⟨fun _ => ?_, fun hx => absurd (Eq.symm hx) Bool.false_ne_true⟩; conv => whnf)))
    exact ⟨F2.trans (F3.trans (F4.trans ((Frm.app _).trans (Frm.app _)))), _, rfl⟩
  clear u F2
  rintro en h2 ⟨F2, u, rfl⟩
  refine cutN 2 (fun en h' => Frm [] h1 h' ∧ ∃ u : Option D, en = [some (.ref 1), some g.d, some (.tup (fs.map Fa.d)), some dd, some od, some rows, some other, u, none, none, none]) ?_ ?_
  · dsimp only [List.drop, List.take]
    (conv => whnf)
    refine callz (s_law_edges_f (by decide) (frf F2) nfr) ?_
    rintro _ h3 ⟨rfl, F3⟩
    (conv => whnf)
    refine callz (s_law_edges_k (by decide) (fsf (F2.trans F3)) pod nod) ?_
    rintro _ h4 ⟨rfl, F4⟩
    (conv => whnf)
    refine callz (s_changed_bad (by decide) (gbf (F2.trans (F3.trans F4)))) ?_
    rintro _ h5 ⟨rfl, F5⟩
    (conv => whnf)
    refine ⟨_, eqD_lists (n := 1) ((Frm.app (S := []) _).get (by simp) new_cell) new_cell (all_c (bad_pu k_facts) (all_c (bad_pu k_known) (all_c (bad_pu k_graph) all_n))) (by decide), ?_⟩
    (conv => whnf); (repeat (first | (refine ⟨fun hx => absurd hx Bool.false_ne_true, fun _ => ?_⟩; conv => whnf) | (refine ⟨fun _ => ?_, fun hx => absurd (Eq.symm hx) Bool.false_ne_true⟩; conv => whnf)))
    exact ⟨F2.trans (F3.trans (F4.trans (F5.trans ((Frm.app _).trans (Frm.app _))))), _, rfl⟩
  clear u F2
  rintro en h2 ⟨F2, u, rfl⟩
  have fo : ∀ {h' : Hh} (n : Nat), n ≤ 40 → Fs h' (List.replicate n ⟨1, 1, dd⟩) := fun n l => ⟨by simp; exact l, fun f m => by
    rw [List.eq_of_mem_replicate m]
    exact ⟨show (0 : Int) ≤ 1 by decide, show (1 : Int) ≤ 1000000 by decide, show (0 : Int) ≤ 1 by decide, show (1 : Int) ≤ 1000000 by decide, Or.inr rd.pu⟩⟩
  (conv => whnf)
  refine ⟨by decide, ?_⟩
  (conv => whnf)
  refine comp_map (fun _ => some (.tup [.int 1, .int 1, dd])) (by dsimp only; rw [rngD_len]; unfold sizeLine; decide) stays_nil ?_ ?_
  · intro x mx h3 F3 G kk
    (conv => whnf)
    exact kk _ Frm.refl
  intro h3 F3
  have ef : ((rngD 0 40).filterMap fun _ => some (D.tup [.int 1, .int 1, dd])) = (List.replicate 40 (⟨1, 1, dd⟩ : Fa)).map Fa.d := by
    rw [fm_some, List.map_const', List.map_replicate, rngD_len]
    rfl
  dsimp only
  rw [ef]
  (conv => whnf)
  refine ⟨Or.inl rfl, ?_⟩
  (conv => whnf)
  refine ⟨_, pow_eq (by decide) (by decide) (by decide), ?_⟩
  rw [p6]
  (conv => whnf)
  refine callz (s_asked (by decide) o (fo 40 (by decide)) (by decide) (by decide) (by decide) (by decide)) ?_
  rintro _ h4 ⟨rfl, F4⟩
  rw [due_none (fun f m => by rw [List.eq_of_mem_replicate m]; exact show ¬ ((1 : Int) ≤ 0 ∧ (1 : Int) ≤ 1000000) by decide)]
  (conv => whnf)
  refine ⟨_, eqD_refl (ask_pu (o := some g) fun g' e => by injection e with e; rw [← e]; exact o) (by decide) _, ?_⟩
  (conv => whnf); (repeat (first | (refine ⟨fun hx => absurd hx Bool.false_ne_true, fun _ => ?_⟩; conv => whnf) | (refine ⟨fun _ => ?_, fun hx => absurd (Eq.symm hx) Bool.false_ne_true⟩; conv => whnf)))
  refine callz (s_law_edges (by decide) (fo 40 (by decide)) (by decide) (by decide)) ?_
  rintro _ h5 ⟨rfl, F5⟩
  rw [edg_01 ⟨⟨1, 1, dd⟩, by simp, show (1 : Int) ≤ 1 by decide⟩ (fun f m => by rw [List.eq_of_mem_replicate m])]
  (conv => whnf)
  refine ⟨_, eqD_refl (n := 2) (Pu.tup (all_c (Pu.str (by decide +kernel)) (all_c (pu_ints (xs := [0, 1])) all_n))) (by decide) _, ?_⟩
  (conv => whnf); (repeat (first | (refine ⟨fun hx => absurd hx Bool.false_ne_true, fun _ => ?_⟩; conv => whnf) | (refine ⟨fun _ => ?_, fun hx => absurd (Eq.symm hx) Bool.false_ne_true⟩; conv => whnf)))
  refine ⟨show ((List.replicate 40 (⟨1, 1, dd⟩ : Fa)).map Fa.d).length + 1 ≤ 2 ^ 24 by rw [List.length_map, List.length_replicate]; decide, ?_⟩
  have em : (List.replicate 40 (⟨1, 1, dd⟩ : Fa)).map Fa.d ++ [.tup [.int 1, .int 1, dd]] = (List.replicate 41 (⟨1, 1, dd⟩ : Fa)).map Fa.d := by
    rw [show (41 : Nat) = 40 + 1 from rfl, List.replicate_succ', List.map_append]; rfl
  rw [em]
  have nf : ¬ FactsP (.tup ((List.replicate 41 (⟨1, 1, dd⟩ : Fa)).map Fa.d)) := fun ⟨ys, e, l, _⟩ => by
    injection e with e
    rw [← e, List.length_map, List.length_replicate] at l
    exact absurd l (by decide)
  have ff : ∀ h' : Hh, FactsE h' (.tup ((List.replicate 41 (⟨1, 1, dd⟩ : Fa)).map Fa.d)) := fun h' => Or.inr (Or.inr ⟨_, rfl, by rw [List.length_map, List.length_replicate]; decide, fun y m => (fe_facts (h := h') (fun _ z => z) y m).to⟩)
  (conv => whnf)
  refine callz (s_asked_f (by decide) o (ff _) nf) ?_
  rintro _ h6 ⟨rfl, F6⟩
  (conv => whnf)
  refine ⟨_, eqD_refl (bad_pu k_facts) (by decide) _, ?_⟩
  (conv => whnf); (repeat (first | (refine ⟨fun hx => absurd hx Bool.false_ne_true, fun _ => ?_⟩; conv => whnf) | (refine ⟨fun _ => ?_, fun hx => absurd (Eq.symm hx) Bool.false_ne_true⟩; conv => whnf)))
  refine callz (s_law_edges_f (by decide) (ff _) nf) ?_
  rintro _ h7 ⟨rfl, F7⟩
  (conv => whnf)
  refine ⟨_, eqD_refl (bad_pu k_facts) (by decide) _, ?_⟩
  (conv => whnf)
  have G : Frm [] h1 h7 := F2.trans (F3.trans (F4.trans (F5.trans (F6.trans F7))))
  exact ⟨rfl, S1.pure G, F1.trans G.one⟩
end Tx
set_option Elab.async false
set_option linter.all false
set_option maxRecDepth 100000
set_option maxHeartbeats 4000000
namespace Tx
open PySem Mp
open PySem.PyData (strOk)
theorem eqK_tup {h : Hh} {x y : D} {K : Bool → Prop} {b : Bool} (e : eqD h x y = some b) (ty : ∃ ys, y = .tup ys) (k : K b) : eqK h x y K := by
  obtain ⟨ys, rfl⟩ := ty
  exact ⟨b, e, k⟩
theorem ask_tup (o : Option Gr) : ∃ ys, askD o = .tup ys := by cases o <;> exact ⟨_, rfl⟩
theorem chg_tup (o : Option Gr) : ∃ ys, chgD o = .tup ys := by cases o <;> exact ⟨_, rfl⟩
theorem chg_pu {o : Option Gr} (h : ∀ g, o = some g → g.Ok) : Pu 5 (chgD o) := by
  cases o with
  | none => exact (bad_pu k_deed).mono (by decide)
  | some g => exact Pu.tup (all_c (Pu.str (by decide +kernel)) (all_c (gr_pu (h g rfl)) all_n))
theorem law_one {ns : List Int} (hl : ns.length ≤ 63) : CallP (phi xs defs 63 i_law [.fro (ns.map .int)] []) (fun d _ => d = .bl true) X0 := by
  refine fn_ok (by decide) rfl rfl (fun _ _ p _ => p) stabX0 ?_
  (conv => whnf)
  refine callz (s_begin (by decide) hl) ?_
  rintro _ h1 ⟨rfl, S1⟩
  (conv => whnf)
  refine callz (s_draw (by decide) S1 (by decide) (by decide)) ?_
  rintro _ h2 ⟨⟨z, rfl, _, _⟩, S2, _⟩
  (conv => whnf)
  refine callz (s_world (by decide) S2) ?_
  rintro _ h3 ⟨⟨g, rfl, o⟩, S3, _⟩
  (conv => whnf)
  refine callz (s_facts (by decide) S3 o) ?_
  rintro _ h4 ⟨⟨fs, rfl, F4⟩, S4, _⟩
  clear S1 S2 S3
  have l40 := F4.1
  have cm : ∀ x ∈ cutD (fs.map Fa.d) none (some 8), x ∈ fs.map Fa.d := fun x m => mem_cutD m
  (conv => whnf)
  generalize cutD (fs.map Fa.d) none (some 8) = part at cm ⊢
  refine for_inv (fun rs en h' => Frm [] h4 h' ∧ (∀ x ∈ rs, x ∈ fs.map Fa.d) ∧ ∃ (u5 u6 u7 u8 u9 u10 : Option D), en = [some (.fro (ns.map .int)), some (.ref 1), some (.int z), some g.d, some (.tup (fs.map Fa.d)), u5, u6, u7, u8, u9, u10]) ?_ ?_ ?_
  · exact ⟨Frm.refl, cm, _, _, _, _, _, _, rfl⟩
  · rintro x rs en h5 ⟨F5, rm, u5, u6, u7, u8, u9, u10, rfl⟩
    refine ⟨stays_nil, ?_⟩
    obtain ⟨f, mf, rfl⟩ := List.mem_map.mp (rm x (by simp))
    have dk := ((F4.2 f mf).dk).frm F5 (fun _ m => nomatch m)
    have rm2 : ∀ y ∈ rs, y ∈ fs.map Fa.d := fun y m => rm y (List.mem_cons_of_mem _ m)
    (conv => whnf)
    refine ⟨_, rfl, ?_⟩
    (conv => whnf)
    refine callz (s_after (by decide) o dk) ?_
    rintro r h6 ⟨ar, F6⟩
    have dk6 := dk.frm F6 (fun _ m => nomatch m)
    have cp : Pu 5 (chgD (aftO g f.dd)) := chg_pu fun g' e => (aftO_inv e).ok o
    rcases ar with ⟨g', af, rfl⟩ | ⟨rfl, na⟩
    · have e : aftO g f.dd = some g' := aftO_some o af
      rw [e] at cp
      (conv => whnf); (repeat (first | (refine ⟨fun hx => absurd hx Bool.false_ne_true, fun _ => ?_⟩; conv => whnf) | (refine ⟨fun _ => ?_, fun hx => absurd (Eq.symm hx) Bool.false_ne_true⟩; conv => whnf)))
      refine ⟨_, rfl, ?_⟩
      (conv => whnf)
      refine callz (s_law_changed (by decide) o dk6) ?_
      rintro _ h7 ⟨rfl, F7⟩
      rw [e]
      (conv => whnf)
      refine ⟨_, eqD_refl cp (by decide) _, ?_⟩
      (conv => whnf); (repeat (first | (refine ⟨fun hx => absurd hx Bool.false_ne_true, fun _ => ?_⟩; conv => whnf) | (refine ⟨fun _ => ?_, fun hx => absurd (Eq.symm hx) Bool.false_ne_true⟩; conv => whnf)))
      exact ⟨F5.trans (F6.trans F7), rm2, _, _, _, _, _, _, rfl⟩
    · have e : aftO g f.dd = none := aftO_none na
      rw [e] at cp
      (conv => whnf); (repeat (first | (refine ⟨fun hx => absurd hx Bool.false_ne_true, fun _ => ?_⟩; conv => whnf) | (refine ⟨fun _ => ?_, fun hx => absurd (Eq.symm hx) Bool.false_ne_true⟩; conv => whnf)))
      refine ⟨_, rfl, ?_⟩
      (conv => whnf)
      refine callz (s_law_changed (by decide) o dk6) ?_
      rintro _ h7 ⟨rfl, F7⟩
      rw [e]
      (conv => whnf)
      refine ⟨_, eqD_refl cp (by decide) _, ?_⟩
      (conv => whnf); (repeat (first | (refine ⟨fun hx => absurd hx Bool.false_ne_true, fun _ => ?_⟩; conv => whnf) | (refine ⟨fun _ => ?_, fun hx => absurd (Eq.symm hx) Bool.false_ne_true⟩; conv => whnf)))
      exact ⟨F5.trans (F6.trans F7), rm2, _, _, _, _, _, _, rfl⟩
  rintro en h5 ⟨F5, _, u5, u6, u7, u8, u9, u10, rfl⟩
  refine ⟨stays_nil, ?_⟩
  have S5 := S4.pure F5
  have G5 := F4.frm F5.one
  (conv => whnf)
  refine callz (s_near (by decide) S5 G5 (Or.inr rfl)) ?_
  rintro _ h6 ⟨⟨a, rfl, a0, a1⟩, S6, F6⟩
  (conv => whnf)
  refine callz (s_near (by decide) S6 (G5.frm F6) (Or.inr rfl)) ?_
  rintro _ h7 ⟨⟨b, rfl, b0, b1⟩, S7, F7⟩
  (conv => whnf)
  refine ⟨_, rfl, ?_⟩
  (conv => whnf)
  refine callz (s_near (by decide) S7 (G5.frm (F6.trans F7)) (Or.inl rfl)) ?_
  rintro _ h8 ⟨⟨c, rfl, c0, c1⟩, S8, F8⟩
  (conv => whnf)
  refine callz (s_near (by decide) S8 (G5.frm (F6.trans (F7.trans F8))) (Or.inl rfl)) ?_
  rintro _ h9 ⟨⟨d, rfl, d0, d1⟩, S9, F9⟩
  have G9 := G5.frm (F6.trans (F7.trans (F8.trans F9)))
  (conv => whnf)
  refine ⟨_, rfl, ?_⟩
  have m0 : 0 ≤ (if b > a then b else a) := by split <;> omega
  have m1 : (if b > a then b else a) ≤ 1000000 := by split <;> omega
  have k0 : 0 ≤ (if d > c then d else c) := by split <;> omega
  have k1 : (if d > c then d else c) ≤ 1000000 := by split <;> omega
  generalize (if b > a then b else a) = m at *
  generalize (if d > c then d else c) = k at *
  have dp := dueP (fs := fs) (m := m) (k := k) o
  have dt := ask_tup (dueF fs m k g)
  (conv => whnf)
  refine callz (s_due (by decide) o G9) ?_
  rintro _ h10 ⟨rfl, F10⟩
  have G10 := G9.frm F10.one
  (conv => whnf)
  refine callz (s_asked (by decide) o G10 m0 m1 k0 k1) ?_
  rintro _ h11 ⟨rfl, F11⟩
  have G11 := G10.frm F11.one
  have S11 := (S9.pure F10).pure F11
  generalize hd : askD (dueF fs m k g) = due at *
  obtain ⟨ys, rfl⟩ := dt
  (conv => whnf)
  refine ⟨_, eqD_refl dp (by decide) _, ?_⟩
  (conv => whnf); (repeat (first | (refine ⟨fun hx => absurd hx Bool.false_ne_true, fun _ => ?_⟩; conv => whnf) | (refine ⟨fun _ => ?_, fun hx => absurd (Eq.symm hx) Bool.false_ne_true⟩; conv => whnf)))
  refine callz (s_edges_hold (by decide) S11 o G11 k0 k1) ?_
  rintro _ h12 ⟨rfl, S12, F12⟩
  have G12 := G11.frm F12
  (conv => whnf); (repeat (first | (refine ⟨fun hx => absurd hx Bool.false_ne_true, fun _ => ?_⟩; conv => whnf) | (refine ⟨fun _ => ?_, fun hx => absurd (Eq.symm hx) Bool.false_ne_true⟩; conv => whnf)))
  refine callz (s_with_late (by decide) S12 o G12 m0 m1 k0 k1) ?_
  rintro _ h13 ⟨⟨ls, rfl, L13, same⟩, S13, F13⟩
  have G13 := G12.frm F13
  have el := L13.1
  (conv => whnf)
  refine callz (s_law_edges (by decide) L13 k0 k1) ?_
  rintro _ h14 ⟨rfl, F14⟩
  have L14 := L13.frm F14.one
  (conv => whnf)
  refine callz (s_edges_due (by decide) L14) ?_
  rintro _ h15 ⟨rfl, F15⟩
  have L15 := L14.frm F15.one
  have ep : Pu 2 (edD (edgF ls k)) := Pu.tup (all_c (Pu.str (by decide +kernel)) (all_c pu_ints all_n))
  (conv => whnf)
  refine ⟨_, eqD_refl ep (by decide) _, ?_⟩
  (conv => whnf); (repeat (first | (refine ⟨fun hx => absurd hx Bool.false_ne_true, fun _ => ?_⟩; conv => whnf) | (refine ⟨fun _ => ?_, fun hx => absurd (Eq.symm hx) Bool.false_ne_true⟩; conv => whnf)))
  refine callz (s_asked (by decide) o L15 m0 m1 k0 k1) ?_
  rintro _ h16 ⟨rfl, F16⟩
  rw [same, hd]
  (conv => whnf)
  refine ⟨_, eqD_refl dp (by decide) _, ?_⟩
  (conv => whnf); (repeat (first | (refine ⟨fun hx => absurd hx Bool.false_ne_true, fun _ => ?_⟩; conv => whnf) | (refine ⟨fun _ => ?_, fun hx => absurd (Eq.symm hx) Bool.false_ne_true⟩; conv => whnf)))
  have FF := F14.trans (F15.trans F16)
  have S16 := S13.pure FF
  have G16 := G13.frm FF.one
  refine callz (s_refusals (by decide) S16 o G16) ?_
  rintro _ h17 ⟨rfl, S17, F17⟩
  (conv => whnf); (repeat (first | (refine ⟨fun hx => absurd hx Bool.false_ne_true, fun _ => ?_⟩; conv => whnf) | (refine ⟨fun _ => ?_, fun hx => absurd (Eq.symm hx) Bool.false_ne_true⟩; conv => whnf)))
  refine callz (s_asked (by decide) o (G16.frm F17) m0 m1 k0 k1) ?_
  rintro _ h18 ⟨rfl, F18⟩
  rw [hd]
  (conv => whnf)
  refine ⟨_, eqD_refl dp (by decide) _, ?_⟩
  (conv => whnf)
theorem pure_holds : ∀ ns : List Int, ns.length ≤ 63 → ∃ h, phi xs defs 63 62 [.fro (ns.map .int)] [] = .ok (.bl true) h := by
  intro ns hl
  have p := (law_one hl).ok
  generalize hr : phi xs defs 63 i_law [.fro (ns.map .int)] [] = r at p
  cases r with
  | ok d h =>
    have e : d = .bl true := p
    subst e
    exact ⟨h, rfl⟩
  | err x h => exact p.elim
  | bad => exact p.elim
end Tx
theorem PySem.Challenge.cw_ratewarrant_k97_whole_two_times_holds : PySem.Challenge.rw_ratewarrant_k97_whole_two_times.Holds :=
  holds_of Tx.pure_holds
