import PyProof.Rows.All
import Wide.All
import OpenK.AllK
import Wide.FinOn
import HandS.Hot
import HandS.HotCalls
import HandS.Iter
import HandS.Zip0
import HandS.Zip
import HandS.Comp
import Wide.Once
import HandS.ForMost
import HandS.ForExc
import HandS.TupAny
import HandS.TupMul
import HandS.Style
import HandS.IsInst
import HandS.Deep
import HandS.Codes
import HandS.RaiseMore
import HandS.ExcCtx
import HandS.RevTup
import HandS.ExcIs
import HandS.Property
import HandS.ExcField
import KE.KExcIs
import KE.KIsAll
import HandS.HeadWalk
import HandS.HeadHook1
import KE.KExcSuper
import KE.KSuper
import KE.KExcInit
import KE.KRevSl
import HandS.HeadHook2
import HandS.HeadHook3
import HandS.Head0
import HandS.Head1
import HandS.Head2
import HandS.HeadEnd
import PySem.Challenge.RW_lentlimits_k88_whole_texts_of_trees
set_option Elab.async false
set_option linter.all false
set_option maxRecDepth 100000
set_option maxHeartbeats 2000000
/-! LP, the plain part: small programs as data, and what they do. No Python object in sight. -/
namespace LP
/-- a text: its signs -/
abbrev Tx := List Nat
/-- a plain value. What nobody changes is plain; what is changed stands in a cell (ref). frz: a list that may only be read -/
inductive W where
  | non | bl (b : Bool) | int (i : Int) | str (x : Tx)
  | tup (xs : List W) | lst (xs : List W) | frz (xs : List W) | ref (n : Nat)
  | ins (c : Nat) (fs : List (Nat × W)) | cls (c : Nat) | exn (c : Nat) (p : W)
abbrev DK := Sum Int Tx
/-- a cell -/
inductive O where
  | lst (xs : List W) | dct (kvs : List (DK × W)) | ins (c : Nat) (fs : List (Nat × W)) | dead
abbrev Hh := List O
abbrev Env := List (Option W)
/-- what comes of an expression: a value; an error of a class with what it keeps; nothing is said -/
inductive Rs (α : Type) where
  | ok (a : α) (h : Hh) | exc (c : Nat) (p : W) (h : Hh) | bad
@[inline] def Rs.bnd {α β : Type} (r : Rs α) (f : α → Hh → Rs β) : Rs β := match r with
  | .ok a h => f a h
  | .exc c p h => .exc c p h
  | .bad => .bad
/-- an error is not told -/
def Rs.cl {α : Type} (r : Rs α) : Rs α := match r with
  | .exc _ _ _ => .bad
  | r => r
/-- what comes of a statement -/
inductive Rf where
  | nx (r : Env) (h : Hh) | rt (w : W) (h : Hh) | bk (r : Env) (h : Hh) | ct (r : Env) (h : Hh)
  | exc (c : Nat) (p : W) (r : Env) (h : Hh) | bad
/-- the most items, signs -/
def big : Nat := 4000000

/-! ### cells below a place -/
mutual
def wlo (n : Nat) : W → Bool
  | .tup xs => wlos n xs
  | .lst xs => wlos n xs
  | .frz xs => wlos n xs
  | .ref m => decide (m < n)
  | .ins _ fs => wlof n fs
  | .exn _ p => wlo n p
  | _ => true
def wlos (n : Nat) : List W → Bool
  | [] => true
  | x :: xs => wlo n x && wlos n xs
def wlof (n : Nat) : List (Nat × W) → Bool
  | [] => true
  | (_, x) :: xs => wlo n x && wlof n xs
end
def wlok (n : Nat) : List (DK × W) → Bool
  | [] => true
  | (_, x) :: xs => wlo n x && wlok n xs
def O.lo (n : Nat) : O → Bool
  | .lst xs => wlos n xs
  | .dct kvs => wlok n kvs
  | .ins _ fs => wlof n fs
  | .dead => true

/-! ### what a value is -/
/-- a list that may be changed or not, by its items -/
def asL (h : Hh) : W → Option (List W)
  | .lst xs => some xs
  | .ref n => (match h[n]? with
    | some (.lst xs) => some xs
    | _ => none)
  | _ => none
/-- a list that is read -/
def asF (h : Hh) : W → Option (List W)
  | .frz xs => some xs
  | w => asL h w
/-- a list or a tuple that is read -/
def asQ (h : Hh) : W → Option (List W)
  | .tup xs => some xs
  | w => asF h w
def flat : W → Bool
  | .non => true
  | .bl _ => true
  | .int _ => true
  | .str _ => true
  | _ => false
mutual
/-- == of data -/
def eqB : W → W → Bool
  | .non, .non => true
  | .bl a, .bl b => a == b
  | .bl a, .int j => (if a then 1 else 0) == j
  | .int i, .bl b => i == (if b then 1 else 0)
  | .int i, .int j => i == j
  | .str x, .str y => x == y
  | .lst xs, .lst ys => eqBs xs ys
  | .tup xs, .tup ys => eqBs xs ys
  | _, _ => false
def eqBs : List W → List W → Bool
  | [], [] => true
  | x :: xs, y :: ys => eqB x y && eqBs xs ys
  | _, _ => false
end
mutual
/-- data alone -/
def dat : W → Bool
  | .non => true
  | .bl _ => true
  | .int _ => true
  | .str _ => true
  | .lst xs => dats xs
  | .tup xs => dats xs
  | _ => false
def dats : List W → Bool
  | [] => true
  | x :: xs => dat x && dats xs
end
mutual
def dep : W → Nat
  | .lst xs => deps xs + 1
  | .tup xs => deps xs + 1
  | _ => 0
def deps : List W → Nat
  | [] => 0
  | x :: xs => max (dep x) (deps xs)
end
/-- a cell's list as a plain one -/
def plainly (h : Hh) : W → W
  | .ref n => (match h[n]? with
    | some (.lst xs) => .lst xs
    | _ => .ref n)
  | w => w
def eqO (h : Hh) (a b : W) : Option Bool :=
  if dat (plainly h a) && dat (plainly h b) && decide (min (dep (plainly h a)) (dep (plainly h b)) ≤ 60) then some (eqB (plainly h a) (plainly h b)) else none
def inO (h : Hh) (a b : W) : Option Bool := match b with
  | .str y => (match a with
    | .str [c] => some (decide (c ∈ y))
    | _ => none)
  | b => (match asQ h b with
    | some xs => if flat a && xs.all flat then some (xs.any fun y => eqB y a) else none
    | none => none)
/-- truth -/
def tru (h : Hh) : W → Option Bool
  | .non => some false
  | .bl b => some b
  | .int i => some (i != 0)
  | .str x => some (!x.isEmpty)
  | w => (match asQ h w with
    | some xs => some (!xs.isEmpty)
    | none => none)

/-! ### operators -/
inductive Bo where
  | add | sub | mul | mod | fdv | pow
inductive Co where
  | eq | ne | lt | le | gt | ge | is | isn | inn | nin
def mkL (r : Bool) (xs : List W) (h : Hh) : Rs W := if xs.length ≤ big then (if r then .ok (.ref h.length) (h ++ [.lst xs]) else .ok (.lst xs) h) else .bad
def mkT (xs : List W) (h : Hh) : Rs W := if xs.length ≤ big then .ok (.tup xs) h else .bad
def mkX (x : Tx) (h : Hh) : Rs W := if x.length ≤ big then .ok (.str x) h else .bad
def small (i : Int) : Bool := decide (-18446744073709551616 < i) && decide (i < 18446744073709551616)
def addO (r : Bool) (h : Hh) : W → W → Rs W
  | .int i, .int j => .ok (.int (i + j)) h
  | .str x, .str y => mkX (x ++ y) h
  | .tup xs, .tup ys => mkT (xs ++ ys) h
  | a, b => (match asL h a, asL h b with
    | some xs, some ys => mkL r (xs ++ ys) h
    | _, _ => .bad)
def mulO (r : Bool) (h : Hh) : W → W → Rs W
  | .int i, .int j => if small i || small j then .ok (.int (i * j)) h else .bad
  | .tup xs, .int k => if 1 ≤ k ∧ k ≤ 1000 ∧ xs.length ≤ 1000 ∧ xs.isEmpty = false then .ok (.tup (List.replicate k.toNat xs).flatten) h else .bad
  | a, .int k => (match asL h a with
    | some xs => if 0 ≤ k ∧ k ≤ 4000000 ∧ xs.length * k.toNat ≤ big then mkL r (List.replicate k.toNat xs).flatten h else .bad
    | none => .bad)
  | _, _ => .bad
def binO (r : Bool) (o : Bo) (a b : W) (h : Hh) : Rs W := match o with
  | .add => addO r h a b
  | .mul => mulO r h a b
  | .sub => (match a, b with
    | .int i, .int j => .ok (.int (i - j)) h
    | _, _ => .bad)
  | .mod => (match a, b with
    | .int i, .int j => if 0 < j then .ok (.int (i % j)) h else .bad
    | _, _ => .bad)
  | .fdv => (match a, b with
    | .int i, .int j => if 0 < j ∧ j < 1073741824 then .ok (.int (i / j)) h else .bad
    | _, _ => .bad)
  | .pow => (match a, b with
    | .int i, .int j => if 0 ≤ j ∧ j ≤ 1000 ∧ small i = true then .ok (.int (i ^ j.toNat)) h else .bad
    | _, _ => .bad)
def isO (h : Hh) (a b : W) : Option Bool := match b with
  | .non => (match a with
    | .non => some true
    | .ref n => (match h[n]? with
      | some .dead => none
      | some _ => some false
      | none => none)
    | _ => some false)
  | .bl c => (match a with
    | .bl d => some (d == c)
    | _ => none)
  | _ => none
def ordO (f : Int → Int → Bool) (a b : W) : Option Bool := match a, b with
  | .int i, .int j => some (f i j)
  | _, _ => none
def cmpO (o : Co) (a b : W) (h : Hh) : Option Bool := match o with
  | .eq => eqO h a b
  | .ne => (eqO h a b).map (!·)
  | .lt => ordO (fun i j => decide (i < j)) a b
  | .le => ordO (fun i j => decide (i ≤ j)) a b
  | .gt => ordO (fun i j => decide (j < i)) a b
  | .ge => ordO (fun i j => decide (j ≤ i)) a b
  | .is => isO h a b
  | .isn => (isO h a b).map (!·)
  | .inn => inO h a b
  | .nin => (inO h a b).map (!·)
def outB (o : Option Bool) (h : Hh) : Rs W := match o with
  | some b => .ok (.bl b) h
  | none => .bad

/-! ### places, slices -/
def nthI {α : Type} (xs : List α) (i : Int) : Option Nat := if 0 ≤ i then (if i < xs.length then some i.toNat else none) else if -(xs.length : Int) ≤ i then some (i + xs.length).toNat else none
def atW {α : Type} (xs : List α) (i : Int) : Option α := (nthI xs i).bind fun j => xs[j]?
def hasDK (k : DK) (kvs : List (DK × W)) : Bool := kvs.any fun p => decide (p.1 = k)
/-- in its place, or at the end -/
def putDK (k : DK) (w : W) (kvs : List (DK × W)) : List (DK × W) := if hasDK k kvs = true then kvs.map (fun p => if p.1 = k then (p.1, w) else p) else kvs ++ [(k, w)]
def getDK (k : DK) (kvs : List (DK × W)) : Option W := (kvs.find? fun p => decide (p.1 = k)).map (·.2)
def keyOf : W → Option DK
  | .int i => some (.inl i)
  | .str x => some (.inr x)
  | _ => none
def ixO (h : Hh) (a b : W) : Option W := match a with
  | .str x => (match b with
    | .int i => (match atW x i with
      | some c => some (.str [c])
      | none => none)
    | _ => none)
  | a => (match asQ h a with
    | some xs => (match b with
      | .int i => atW xs i
      | _ => none)
    | none => (match a with
      | .ref n => (match h[n]? with
        | some (.dct kvs) => (match keyOf b with
          | some k => getDK k kvs
          | none => none)
        | _ => none)
      | _ => none))
def bound1 (n d : Nat) : Option Int → Nat
  | none => d
  | some v => if v < 0 then (v + (n : Int)).toNat else min v.toNat n
def cutW {α : Type} (xs : List α) (lo hi : Option Int) : List α := (xs.drop (bound1 xs.length 0 lo)).take (bound1 xs.length xs.length hi - bound1 xs.length 0 lo)
def slO (r : Bool) (h : Hh) (a : W) (lo hi : Option Int) : Rs W := match a with
  | .str x => .ok (.str (cutW x lo hi)) h
  | .tup xs => .ok (.tup (cutW xs lo hi)) h
  | a => (match asF h a with
    | some xs => mkL r (cutW xs lo hi) h
    | none => .bad)
/-- o[i] = w -/
def setO (h : Hh) (o i w : W) : Option Hh := match o with
  | .ref n => (match h[n]? with
    | some (.lst xs) => (match i with
      | .int k => (match nthI xs k with
        | some j => some (h.set n (.lst (xs.set j w)))
        | none => none)
      | _ => none)
    | some (.dct kvs) => (match keyOf i with
      | some k => if kvs.length < 1000 then some (h.set n (.dct (putDK k w kvs))) else none
      | none => none)
    | _ => none)
  | _ => none
def getF (f : Nat) : List (Nat × W) → Option W
  | [] => none
  | (g, w) :: r => if g = f then some w else getF f r
def putFW (f : Nat) (w : W) : List (Nat × W) → List (Nat × W)
  | [] => [(f, w)]
  | (g, x) :: r => if g = f then (g, w) :: r else (g, x) :: putFW f w r
/-- an instance: its class, its attributes -/
def insO (h : Hh) : W → Option (Nat × List (Nat × W))
  | .ins c fs => some (c, fs)
  | .ref n => (match h[n]? with
    | some (.ins c fs) => some (c, fs)
    | _ => none)
  | _ => none
def fldO (h : Hh) (o : W) (f : Nat) : Option W := match insO h o with
  | some (_, fs) => getF f fs
  | none => none
def setF (h : Hh) (o : W) (f : Nat) (w : W) : Option Hh := match o with
  | .ref n => (match h[n]? with
    | some (.ins c fs) => if fs.length < 900 then some (h.set n (.ins c (putFW f w fs))) else none
    | _ => none)
  | _ => none

/-! ### built-in calls -/
inductive Bi where
  | len | abs | max2 | min2 | maxl | minl | suml | all | any | int | str | tup | lst (r : Bool) | dmod
def intsOf : List W → Option (List Int)
  | [] => some []
  | .int i :: r => (match intsOf r with
    | some l => some (i :: l)
    | none => none)
  | _ :: _ => none
def blsOf : List W → Option (List Bool)
  | [] => some []
  | .bl i :: r => (match blsOf r with
    | some l => some (i :: l)
    | none => none)
  | _ :: _ => none
def strsOf : List W → Option (List Tx)
  | [] => some []
  | .str i :: r => (match strsOf r with
    | some l => some (i :: l)
    | none => none)
  | _ :: _ => none
def digits (n : Nat) : Tx := (Nat.toDigits 10 n).map Char.toNat
def numTx (i : Int) : Tx := if i < 0 then 45 :: digits i.natAbs else digits i.natAbs
def digVal (x : Tx) : Nat := x.foldl (fun a c => a * 10 + (c - 48)) 0
def maxI : Int → List Int → Int
  | m, [] => m
  | m, a :: r => maxI (if m < a then a else m) r
def minI : Int → List Int → Int
  | m, [] => m
  | m, a :: r => minI (if a < m then a else m) r
/-- where an exception is handled, some are not told -/
def coldB : Bi → Bool
  | .max2 => true
  | .min2 => true
  | .maxl => true
  | .minl => true
  | .suml => true
  | .all => true
  | .any => true
  | _ => false
def outW (o : Option W) (h : Hh) : Rs W := match o with
  | some w => .ok w h
  | none => .bad
def biO (b : Bi) (as : List W) (h : Hh) : Rs W := match b, as with
  | .len, [.str x] => .ok (.int x.length) h
  | .len, [a] => (match asQ h a with
    | some xs => .ok (.int xs.length) h
    | none => .bad)
  | .abs, [.int i] => .ok (.int (if i < 0 then -i else i)) h
  | .max2, [.int i, .int j] => .ok (.int (if j > i then j else i)) h
  | .min2, [.int i, .int j] => .ok (.int (if j < i then j else i)) h
  | .maxl, [a] => (match asF h a with
    | some xs => (match intsOf xs with
      | some (i :: r) => .ok (.int (maxI i r)) h
      | _ => .bad)
    | none => .bad)
  | .minl, [a] => (match asF h a with
    | some xs => (match intsOf xs with
      | some (i :: r) => .ok (.int (minI i r)) h
      | _ => .bad)
    | none => .bad)
  | .suml, [a] => (match asF h a with
    | some xs => (match intsOf xs with
      | some l => .ok (.int l.sum) h
      | _ => .bad)
    | none => .bad)
  | .all, [a] => (match asF h a with
    | some xs => (match blsOf xs with
      | some l => .ok (.bl (l.all id)) h
      | _ => .bad)
    | none => .bad)
  | .any, [a] => (match asF h a with
    | some xs => (match blsOf xs with
      | some l => .ok (.bl (l.any id)) h
      | _ => .bad)
    | none => .bad)
  | .int, [.int i] => .ok (.int i) h
  | .int, [.str x] => if x ≠ [] ∧ x.all (fun c => decide (48 ≤ c) && decide (c ≤ 57)) = true ∧ x.length ≤ 640 then .ok (.int (digVal x : Nat)) h else .bad
  | .str, [.int i] => if small i then .ok (.str (numTx i)) h else .bad
  | .str, [.str x] => .ok (.str x) h
  | .tup, [a] => (match asQ h a with
    | some xs => .ok (.tup xs) h
    | none => .bad)
  | .lst r, [a] => (match asQ h a with
    | some xs => mkL r xs h
    | none => .bad)
  | .dmod, [.int i, .int j] => if 0 < j ∧ j < 1073741824 then .ok (.tup [.int (i / j), .int (i % j)]) h else .bad
  | _, _ => .bad

/-! ### methods of built-in types -/
inductive Me where
  | split (r : Bool) | join | append | index | get
/-- parts between signs c -/
def splT (c : Nat) : Tx → List Tx
  | [] => [[]]
  | d :: r => if d = c then [] :: splT c r else (match splT c r with
    | p :: ps => (d :: p) :: ps
    | [] => [[d]])
def joinT (s : Tx) : List Tx → Tx
  | [] => []
  | [p] => p
  | p :: q :: r => p ++ (s ++ joinT s (q :: r))
def idxO (x : W) : List W → Nat → Option Nat
  | [], _ => none
  | y :: r, n => if eqB y x then some n else idxO x r (n + 1)
/-- the receiver is of the method's type -/
def meT (m : Me) (h : Hh) (o : W) : Bool := match m with
  | .split _ => (match o with
    | .str _ => true
    | _ => false)
  | .join => (match o with
    | .str _ => true
    | _ => false)
  | .append => (asL h o).isSome
  | .index => (asF h o).isSome
  | .get => (match o with
    | .ref n => (match h[n]? with
      | some (.dct _) => true
      | _ => false)
    | _ => false)
def meO (m : Me) (o : W) (as : List W) (h : Hh) : Rs W := match m, as with
  | .split r, [.str [c]] => (match o with
    | .str x => if c < 256 ∧ x.length ≤ big then mkL r ((splT c x).map .str) h else .bad
    | _ => .bad)
  | .join, [a] => (match o with
    | .str s => (match asQ h a with
      | some xs => (match strsOf xs with
        | some l => if (l.map List.length).sum + l.length * s.length ≤ big then .ok (.str (joinT s l)) h else .bad
        | none => .bad)
      | none => .bad)
    | _ => .bad)
  | .append, [a] => (match o with
    | .ref n => (match h[n]? with
      | some (.lst xs) => if xs.length < big then .ok .non (h.set n (.lst (xs ++ [a]))) else .bad
      | _ => .bad)
    | _ => .bad)
  | .index, [a] => (match asF h o with
    | some xs => if flat a && xs.all flat then (match idxO a xs 0 with
      | some k => .ok (.int k) h
      | none => .bad) else .bad
    | none => .bad)
  | .get, [a, d] => (match o with
    | .ref n => (match h[n]? with
      | some (.dct kvs) => (match keyOf a with
        | some k => .ok ((getDK k kvs).getD d) h
        | none => .bad)
      | _ => .bad)
    | _ => .bad)
  | _, _ => .bad

/-! ### what is walked -/
inductive Ik where
  | seq | r1 | r2 | r3 | en | z2 | z3
inductive Iv where
  | q (w : W) | rg (lo c : Int) (n : Nat) | en (w : W) | z2 (a b : W) | z3 (a b c : W)
def rgOk (i : Int) : Bool := decide (-4611686018427387904 ≤ i) && decide (i < 4611686018427387904)
def isSeq (h : Hh) : W → Bool
  | .str _ => true
  | w => (asQ h w).isSome
/-- what is walked where an exception is handled -/
def hotK : Ik → Bool
  | .z2 => true
  | _ => false
def ivC (h : Hh) (k : Ik) (ws : List W) : Option Iv := match k, ws with
  | .seq, [w] => if isSeq h w then some (.q w) else none
  | .r1, [.int j] => if rgOk j then some (.rg 0 1 j.toNat) else none
  | .r2, [.int i, .int j] => if rgOk i && rgOk j then some (.rg i 1 (j - i).toNat) else none
  | .r3, [.int i, .int j, .int c] => if rgOk i && rgOk j && c == -1 then some (.rg i (-1) (i - j).toNat) else none
  | .en, [w] => if (asF h w).isSome then some (.en w) else none
  | .z2, [.tup a, .tup b] => some (.z2 (.tup a) (.tup b))
  | .z2, [a, b] => if (asF h a).isSome && (asF h b).isSome then some (.z2 a b) else none
  | _, _ => none
/-- the item of turn i: nothing is said; none: the end -/
def nthV (h : Hh) (i : Nat) : Iv → Option (Option W)
  | .q (.str x) => some ((x[i]?).map fun c => .str [c])
  | .q w => (asQ h w).map fun xs => xs[i]?
  | .rg lo c n => some (if i < n then some (.int (lo + (i : Int) * c)) else none)
  | .en w => (asQ h w).map fun xs => (xs[i]?).map fun x => .tup [.int i, x]
  | .z2 a b => (match asQ h a, asQ h b with
    | some xs, some ys => some (match xs[i]?, ys[i]? with
      | some x, some y => some (.tup [x, y])
      | _, _ => none)
    | _, _ => none)
  | .z3 a b c => (match asQ h a, asQ h b, asQ h c with
    | some xs, some ys, some zs => some (match xs[i]?, ys[i]?, zs[i]? with
      | some x, some y, some z => some (.tup [x, y, z])
      | _, _, _ => none)
    | _, _, _ => none)
/-- how many turns at most -/
def lenV (h : Hh) : Iv → Nat
  | .q (.str x) => x.length
  | .q w => ((asQ h w).getD []).length
  | .rg _ _ n => n
  | .en w => ((asQ h w).getD []).length
  | .z2 a b => min ((asQ h a).getD []).length ((asQ h b).getD []).length
  | .z3 a b c => min ((asQ h a).getD []).length (min ((asQ h b).getD []).length ((asQ h c).getD []).length)

/-! ### programs -/
inductive Ty where
  | int | bool | str | tup | lst | dict | own (c : Nat)
/-- names by slot, nested -/
inductive Tg where
  | nm (i : Nat) | tp (ts : List Tg)
inductive E where
  | var (i : Nat) | non | tt (b : Bool) | int (i : Int) | str (x : Tx) | gl (k : Nat)
  | bin (r : Bool) (o : Bo) (a b : E) | cmp (o : Co) (a b : E) | chn (o p : Co) (a b c : E) | neg (a : E)
  | not (a : E) | and (a b : E) | or (a b : E) | ite (c a b : E)
  | tup (es : List E) | lst (r : Bool) (es : List E) | dct (ks : List DK) (es : List E)
  | call (f : Nat) (es : List E) | blt (b : Bi) (es : List E) | mth (m : Me) (o : E) (es : List E) | omt (c f : Nat) (o : E) (es : List E)
  | ix (a i : E) | sln (r : Bool) (a : E) | slf (r : Bool) (a lo : E) | slt (r : Bool) (a hi : E) | slb (r : Bool) (a lo hi : E) | rev (a : E)
  | fld (a : E) (f : Nat) | xfl (i f : Nat) | xis (i : Nat) (cs : List Nat) | prp (c f : Nat) (a : E) | isi (a : E) (ts : List Ty)
  | mk (c f : Nat) (es : List E) | frz (a : E)
  | lc (r : Bool) (elt : E) (tg : Tg) (k : Ik) (its : List E) (ifs : List E) (vs : List Nat)
  | lc2 (r : Bool) (elt : E) (tg : Tg) (k : Ik) (its : List E) (ifs : List E) (tg1 : Tg) (k1 : Ik) (its1 : List E) (ifs1 : List E) (vs vs1 : List Nat)
inductive Tt where
  | nm (i : Nat) | ix (a i : E) | fd (a : E) (f : Nat) | tp (ts : List Tt)
inductive S where
  | set (i : Nat) (e : E) | asg (t : Tt) (e : E) | par (is : List Nat) (es : List E) | exp (e : E) | ret (e : E) | rtn
  | iff (c : E) (a b : List S) | whl (c : E) (b : List S) | fo (tg : Tg) (k : Ik) (its : List E) (b : List S)
  | pass | brk | cnt | rai (c : Nat) (e : E) | rai0 (c : Nat)
  | tra (b : List S) (c i : Nat) (s : List S)
structure Df where
  n : Nat
  sl : Nat
  tr : Bool
  body : List S
structure Pg where
  defs : List Df
  gl : List W
  sub : Nat → Nat → Bool
  /-- how many classes of errors -/
  nx : Nat
  /-- the attribute of an error class -/
  pay : Nat → Option Nat

/-! ### what they do -/
mutual
def asgN : Tg → W → Env → Option Env
  | .nm i, w, ρ => some (ρ.set i (some w))
  | .tp ts, .tup xs, ρ => asgNs ts xs ρ
  | .tp _, _, _ => none
def asgNs : List Tg → List W → Env → Option Env
  | [], [], ρ => some ρ
  | t :: ts, x :: xs, ρ => (match asgN t x ρ with
    | some ρ' => asgNs ts xs ρ'
    | none => none)
  | _, _, _ => none
end
def wipeE (ρ : Env) : List Nat → Env
  | [] => ρ
  | v :: vs => (wipeE ρ vs).set v none
def tyO (h : Hh) (sub : Nat → Nat → Bool) (w : W) (t : Ty) : Option Bool := match t with
  | .int => (match w with
    | .int _ => some true
    | .bl _ => some true
    | .non => some false
    | .str _ => some false
    | .tup _ => some false
    | w => if (asF h w).isSome then some false else none)
  | .bool => (match w with
    | .int _ => some false
    | .bl _ => some true
    | .non => some false
    | .str _ => some false
    | .tup _ => some false
    | w => if (asF h w).isSome then some false else none)
  | .str => (match w with
    | .int _ => some false
    | .bl _ => some false
    | .non => some false
    | .str _ => some true
    | .tup _ => some false
    | w => if (asF h w).isSome then some false else none)
  | .tup => (match w with
    | .int _ => some false
    | .bl _ => some false
    | .non => some false
    | .str _ => some false
    | .tup _ => some true
    | w => if (asF h w).isSome then some false else none)
  | .lst => (match w with
    | .int _ => some false
    | .bl _ => some false
    | .non => some false
    | .str _ => some false
    | .tup _ => some false
    | w => if (asF h w).isSome then some true else none)
  | .dict => none
  | .own _ => none
def tysO (h : Hh) (sub : Nat → Nat → Bool) (w : W) : List Ty → Option Bool
  | [] => some false
  | t :: ts => (match tyO h sub w t with
    | some true => some true
    | some false => tysO h sub w ts
    | none => none)
def isExn : W → Bool
  | .exn _ _ => true
  | _ => false
def noX (ρ : Env) : Bool := ρ.all fun o => match o with
  | some w => !isExn w
  | none => true
/-- a slot's value; an exception is not told -/
def outV (o : Option W) (h : Hh) : Rs W := match o with
  | some w => if isExn w then .bad else .ok w h
  | none => .bad
/-- the end of an expression, as a value or as a test -/
def fin (t : Bool) (r : Rs W) : Rs W := if t then r.bnd fun w h => outB (tru h w) h else r
/-- the turns of a list made item by item -/
def lcL (iv : Iv) (turn : W → List W → Hh → Rs (List W)) : Nat → Nat → List W → Hh → Rs (List W)
  | 0, i, acc, h => (match nthV h i iv with
    | some none => .ok acc h
    | _ => .bad)
  | n + 1, i, acc, h => (match nthV h i iv with
    | some none => .ok acc h
    | some (some x) => (turn x acc h).bnd fun acc' h' => lcL iv turn n (i + 1) acc' h'
    | none => .bad)
def lcEnd (r : Bool) (xs : List W) (h : Hh) : Rs W := if r then .ok (.ref h.length) (h ++ [.lst xs]) else .ok (.lst xs) h
def exitD (d : Df) (n : Nat) (w : W) (h : Hh) : Rs W := if d.tr then (if wlo n w && (h.take n).all (O.lo n) then .ok w (h.take n) else .bad) else .ok w h
def exitX (d : Df) (n : Nat) (c : Nat) (w : W) (h : Hh) : Rs W := if wlo n w && (h.take n).all (O.lo n) then .exc c w (h.take n) else .bad
def frzO (w : W) (h : Hh) : Rs W := match w with
  | .ref n => (match h[n]? with
    | some (.lst xs) => .ok (.lst xs) (h.set n .dead)
    | some (.ins c fs) => .ok (.ins c fs) (h.set n .dead)
    | _ => .bad)
  | w => .ok w h
def zipDK : List DK → List W → List (DK × W) → Option (List (DK × W))
  | [], [], acc => some acc
  | k :: ks, w :: ws, acc => zipDK ks ws (putDK k w acc)
  | _, _, _ => none
section
variable (P : Pg) (hot : Bool) (cf : Nat → List W → Hh → Rs W)
mutual
/-- t: as a test -/
def ev (t : Bool) : E → Env → Hh → Rs W
  | .var i, ρ, h => fin t (outV ((ρ[i]?).join) h)
  | .non, _, h => fin t (.ok .non h)
  | .tt b, _, h => fin t (.ok (.bl b) h)
  | .int i, _, h => fin t (.ok (.int i) h)
  | .str x, _, h => fin t (.ok (.str x) h)
  | .gl k, _, h => fin t (outW P.gl[k]? h)
  | .bin r o a b, ρ, h => fin t ((ev false a ρ h).bnd fun x h => (ev false b ρ h).bnd fun y h => binO r o x y h)
  | .cmp o a b, ρ, h => fin t ((ev false a ρ h).bnd fun x h => (ev false b ρ h).bnd fun y h => outB (cmpO o x y h) h)
  | .chn o p a b c, ρ, h => fin t ((ev false a ρ h).bnd fun x h => (ev false b ρ h).bnd fun y h => match cmpO o x y h with
    | some true => (ev false c ρ h).bnd fun z h => outB (cmpO p y z h) h
    | some false => .ok (.bl false) h
    | none => .bad)
  | .neg a, ρ, h => fin t ((ev false a ρ h).bnd fun x h => match x with
    | .int i => .ok (.int (-i)) h
    | _ => .bad)
  | .not a, ρ, h => (if t then ev true a ρ h else fin true (ev false a ρ h)).bnd fun x h => match x with
    | .bl b => .ok (.bl (!b)) h
    | _ => .bad
  | .and a b, ρ, h => (ev t a ρ h).bnd fun x h => match x with
    | .bl true => ev t b ρ h
    | .bl false => .ok (.bl false) h
    | _ => .bad
  | .or a b, ρ, h => (ev t a ρ h).bnd fun x h => match x with
    | .bl true => .ok (.bl true) h
    | .bl false => ev t b ρ h
    | _ => .bad
  | .ite c a b, ρ, h => fin t ((ev true c ρ h).bnd fun x h => match x with
    | .bl true => ev false a ρ h
    | .bl false => ev false b ρ h
    | _ => .bad)
  | .tup es, ρ, h => fin t ((evs es ρ h).bnd fun ws h => mkT ws h)
  | .lst r es, ρ, h => fin t ((evs es ρ h).bnd fun ws h => mkL r ws h)
  | .dct ks es, ρ, h => fin t ((evs es ρ h).bnd fun ws h => match zipDK ks ws [] with
    | some kvs => .ok (.ref h.length) (h ++ [.dct kvs])
    | none => .bad)
  | .call f es, ρ, h => fin t ((evs es ρ h).bnd fun ws h => cf f ws h)
  | .blt b es, ρ, h => fin t ((evs es ρ h).bnd fun ws h => if hot && coldB b then .bad else biO b ws h)
  | .mth m o es, ρ, h => fin t ((ev false o ρ h).bnd fun x h => if meT m h x then (evs es ρ h).bnd fun ws h => meO m x ws h else .bad)
  | .omt c f o es, ρ, h => fin t ((ev false o ρ h).bnd fun x h => match insO h x with
    | some (c', _) => if c' = c then (evs es ρ h).bnd fun ws h => cf f (x :: ws) h else .bad
    | none => .bad)
  | .ix a i, ρ, h => fin t ((ev false a ρ h).bnd fun x h => (ev false i ρ h).bnd fun y h => outW (ixO h x y) h)
  | .sln r a, ρ, h => fin t ((ev false a ρ h).bnd fun x h => slO r h x none none)
  | .slf r a lo, ρ, h => fin t ((ev false a ρ h).bnd fun x h => (ev false lo ρ h).bnd fun y h => match y with
    | .int i => slO r h x (some i) none
    | _ => .bad)
  | .slt r a hi, ρ, h => fin t ((ev false a ρ h).bnd fun x h => (ev false hi ρ h).bnd fun y h => match y with
    | .int i => slO r h x none (some i)
    | _ => .bad)
  | .slb r a lo hi, ρ, h => fin t ((ev false a ρ h).bnd fun x h => (ev false lo ρ h).bnd fun y h => match y with
    | .int i => (ev false hi ρ h).bnd fun z h => (match z with
      | .int j => slO r h x (some i) (some j)
      | _ => .bad)
    | _ => .bad)
  | .rev a, ρ, h => fin t ((ev false a ρ h).bnd fun x h => match x with
    | .tup xs => .ok (.tup xs.reverse) h
    | _ => .bad)
  | .fld a f, ρ, h => fin t ((ev false a ρ h).bnd fun x h => outW (fldO h x f) h)
  | .xfl i f, ρ, h => fin t (match (ρ[i]?).join with
    | some (.exn c p) => if P.pay c = some f then .ok p h else .bad
    | _ => .bad)
  | .xis i cs, ρ, h => fin t (match (ρ[i]?).join with
    | some (.exn c _) => if c < P.nx then .ok (.bl (cs.any (P.sub c))) h else .bad
    | _ => .bad)
  | .prp c f a, ρ, h => fin t ((ev false a ρ h).bnd fun x h => match insO h x with
    | some (c', _) => if c' = c then cf f [x] h else .bad
    | none => .bad)
  | .isi a ts, ρ, h => fin t ((ev false a ρ h).bnd fun x h => outB (tysO h P.sub x ts) h)
  | .mk c f es, ρ, h => fin t ((evs es ρ h).bnd fun ws h => (cf f (.ref h.length :: ws) (h ++ [.ins c []])).bnd fun w h' => match w with
    | .non => .ok (.ref h.length) h'
    | _ => .bad)
  | .frz a, ρ, h => fin t ((ev false a ρ h).bnd fun x h => frzO x h)
  | .lc r elt tg k its ifs vs, ρ, h => fin t (if hot && !hotK k then .bad else (evs its ρ h).bnd fun ws h => match ivC h k ws with
    | some iv => ((lcL iv (fun x acc h => match asgN tg x (wipeE ρ vs) with
        | some ρ' => (evi ifs ρ' h).bnd fun c h => match c with
          | .bl true => (ev false elt ρ' h).bnd fun y h => if acc.length < big then .ok (acc ++ [y]) h else .bad
          | .bl false => .ok acc h
          | _ => .bad
        | none => .bad) (lenV h iv) 0 [] h).cl).bnd fun xs h => lcEnd r xs h
    | none => .bad)
  | .lc2 r elt tg k its ifs tg1 k1 its1 ifs1 vs vs1, ρ, h => fin t (if hot then .bad else (evs its ρ h).bnd fun ws h => match ivC h k ws with
    | some iv => ((lcL iv (fun x acc h => match asgN tg x (wipeE ρ vs) with
        | some ρ' => (evi ifs ρ' h).bnd fun c h => match c with
          | .bl true => (evs its1 ρ' h).bnd fun ws h => match ivC h k1 ws with
            | some iv1 => lcL iv1 (fun x acc h => match asgN tg1 x (wipeE ρ' vs1) with
              | some ρ2 => (evi ifs1 ρ2 h).bnd fun c h => match c with
                | .bl true => (ev false elt ρ2 h).bnd fun y h => if acc.length < big then .ok (acc ++ [y]) h else .bad
                | .bl false => .ok acc h
                | _ => .bad
              | none => .bad) (lenV h iv1) 0 acc h
            | none => .bad
          | .bl false => .ok acc h
          | _ => .bad
        | none => .bad) (lenV h iv) 0 [] h).cl).bnd fun xs h => lcEnd r xs h
    | none => .bad)
termination_by structural e => e
def evs : List E → Env → Hh → Rs (List W)
  | [], _, h => .ok [] h
  | e :: es, ρ, h => (ev false e ρ h).bnd fun w h => (evs es ρ h).bnd fun ws h => .ok (w :: ws) h
termination_by structural e => e
/-- all tests hold -/
def evi : List E → Env → Hh → Rs W
  | [], _, h => .ok (.bl true) h
  | e :: es, ρ, h => (ev true e ρ h).bnd fun c h => match c with
    | .bl true => evi es ρ h
    | .bl false => .ok (.bl false) h
    | _ => .bad
termination_by structural e => e
end
def Rs.rf (r : Rs W) (ρ : Env) (f : W → Hh → Rf) : Rf := match r with
  | .ok w h => f w h
  | .exc c p h => .exc c p ρ h
  | .bad => .bad
def Rs.rfs (r : Rs (List W)) (ρ : Env) (f : List W → Hh → Rf) : Rf := match r with
  | .ok w h => f w h
  | .exc c p h => .exc c p ρ h
  | .bad => .bad
def Rf.nxt (r : Rf) (f : Env → Hh → Rf) : Rf := match r with
  | .nx ρ h => f ρ h
  | r => r
mutual
def asgT : Tt → W → Env → Hh → Rf
  | .nm i, w, ρ, h => .nx (ρ.set i (some w)) h
  | .ix a i, w, ρ, h => (ev P hot cf false a ρ h).rf ρ fun x h => (ev P hot cf false i ρ h).rf ρ fun y h => match setO h x y w with
    | some h' => .nx ρ h'
    | none => .bad
  | .fd a f, w, ρ, h => (ev P hot cf false a ρ h).rf ρ fun x h => match setF h x f w with
    | some h' => .nx ρ h'
    | none => .bad
  | .tp ts, .tup xs, ρ, h => if hot || !(xs.length == ts.length) then .bad else asgTs ts xs ρ h
  | .tp _, _, _, _ => .bad
def asgTs : List Tt → List W → Env → Hh → Rf
  | [], [], ρ, h => .nx ρ h
  | t :: ts, x :: xs, ρ, h => (asgT t x ρ h).nxt fun ρ h => asgTs ts xs ρ h
  | _, _, _, _ => .bad
end
def setAll : List Nat → List W → Env → Option Env
  | [], [], ρ => some ρ
  | i :: is, w :: ws, ρ => setAll is ws (ρ.set i (some w))
  | _, _, _ => none
/-- the turns of a for -/
def foL (iv : Iv) (turn : W → Env → Hh → Rf) : Nat → Nat → Env → Hh → Rf
  | 0, i, ρ, h => (match nthV h i iv with
    | some none => .nx ρ h
    | _ => .bad)
  | n + 1, i, ρ, h => (match nthV h i iv with
    | some none => .nx ρ h
    | some (some x) => (match turn x ρ h with
      | .nx ρ h => foL iv turn n (i + 1) ρ h
      | .ct ρ h => foL iv turn n (i + 1) ρ h
      | .bk ρ h => .nx ρ h
      | r => r)
    | none => .bad)
/-- the turns of a while -/
def whL (test : Env → Hh → Rs W) (turn : Env → Hh → Rf) : Nat → Env → Hh → Rf
  | 0, _, _ => .bad
  | n + 1, ρ, h => (test ρ h).rf ρ fun c h => match c with
    | .bl true => (match turn ρ h with
      | .nx ρ h => whL test turn n ρ h
      | .ct ρ h => whL test turn n ρ h
      | .bk ρ h => .nx ρ h
      | r => r)
    | .bl false => .nx ρ h
    | _ => .bad
end
section
variable (P : Pg) (cf : Bool → Nat → List W → Hh → Rs W)
mutual
def ex (hot : Bool) : S → Env → Hh → Rf
  | .set i e, ρ, h => (ev P hot (cf hot) false e ρ h).rf ρ fun w h => .nx (ρ.set i (some w)) h
  | .asg t e, ρ, h => (ev P hot (cf hot) false e ρ h).rf ρ fun w h => asgT P hot (cf hot) t w ρ h
  | .par is es, ρ, h => if hot then .bad else (evs P hot (cf hot) es ρ h).rfs ρ fun ws h => match setAll is ws ρ with
    | some ρ' => .nx ρ' h
    | none => .bad
  | .exp e, ρ, h => (ev P hot (cf hot) false e ρ h).rf ρ fun _ h => .nx ρ h
  | .ret e, ρ, h => (ev P hot (cf hot) false e ρ h).rf ρ fun w h => .rt w h
  | .rtn, _, h => .rt .non h
  | .iff c a b, ρ, h => (ev P hot (cf hot) true c ρ h).rf ρ fun x h => match x with
    | .bl true => exs hot a ρ h
    | .bl false => exs hot b ρ h
    | _ => .bad
  | .whl c b, ρ, h => whL (ev P hot (cf hot) true c) (exs hot b) big ρ h
  | .fo tg k its b, ρ, h => if hot then .bad else (evs P hot (cf hot) its ρ h).rfs ρ fun ws h => match ivC h k ws with
    | some iv => foL iv (fun x ρ h => match asgN tg x ρ with
      | some ρ' => exs hot b ρ' h
      | none => .bad) (lenV h iv) 0 ρ h
    | none => .bad
  | .pass, ρ, h => .nx ρ h
  | .brk, ρ, h => .bk ρ h
  | .cnt, ρ, h => .ct ρ h
  | .rai c e, ρ, h => if hot then .bad else (ev P hot (cf hot) false e ρ h).rf ρ fun w h => .exc c w ρ h
  | .rai0 c, ρ, h => if hot then .bad else .exc c .non ρ h
  | .tra b c i s, ρ, h => if hot then .bad else match exs hot b ρ h with
    | .exc d p ρ h => if d < P.nx then (if P.sub d c then (match exs true s (ρ.set i (some (.exn d p))) h with
        | .nx ρ h => if noX (ρ.set i none) then .nx (ρ.set i none) h else .bad
        | .rt w h => .rt w h
        | .bk ρ h => if noX (ρ.set i none) then .bk (ρ.set i none) h else .bad
        | .ct ρ h => if noX (ρ.set i none) then .ct (ρ.set i none) h else .bad
        | _ => .bad) else .exc d p ρ h) else .bad
    | r => r
termination_by structural e => e
def exs (hot : Bool) : List S → Env → Hh → Rf
  | [], ρ, h => .nx ρ h
  | s :: ss, ρ, h => (ex hot s ρ h).nxt fun ρ h => exs hot ss ρ h
termination_by structural e => e
end
end
/-- a def is called, at most so many calls deep -/
def cal (P : Pg) : Nat → Bool → Nat → List W → Hh → Rs W
  | 0, _, _, _, _ => .bad
  | d + 1, hot, f, ws, h => (match P.defs[f]? with
    | some D => if ws.length = D.n then (match exs P (cal P d) hot D.body (ws.map some ++ List.replicate (D.sl - D.n) none) h with
        | .rt w h' => exitD D h.length w h'
        | .nx _ h' => exitD D h.length .non h'
        | .exc c p _ h' => exitX D h.length c p h'
        | _ => .bad) else .bad
    | none => .bad)
end LP
/-! LP, hot walks: the end of what is walked while an exception is handled. -/
namespace HW
open PySem PySem.Spec PyProof.Rows HotX
section
variable {prog : Program} {w : World} {A : Around} {E : Value → Shared → Prop} {s : Shared} {x1 : Addr}
theorem hot_on {h h' : Heap} (t : HotAt A x1 h) (k : ∀ o, h.get? x1 = some o → h'.get? x1 = some o) : HotAt A x1 h' := by
  obtain ⟨e, o, vs, g, d, c⟩ := t
  exact ⟨e, o, vs, k o g, d, c⟩
/-- the end is told by an exception, which bears the one handled -/
theorem stop_hot {α : Type} {Q : α → Shared → Prop} (t : HotAt A x1 s.heap) (kE : ∀ h' e, (∀ b o, s.heap.get? b = some o → h'.get? b = some o) → (∃ o, h'.get? e = some o ∧ o.cls = .type "StopIteration") → E (.ref e) { s with heap := h' }) :
    wpAny (model prog w) A (newExc (.type "StopIteration") [] >>= fun e => (raiseNew e : Sem α)) Q E s := by
  obtain ⟨hh, o1, vs1, g1, d1, c1⟩ := t
  unfold newExc newTuple
  refine wpAny_bind (wpAny_bind (wpAny_newObj_type (wpAny_bind (m := firstArgMember _ _) (wpAny_of_eq (a := Value.none) (by first | rfl | (unfold firstArgMember; rfl)) (wpAny_newObj_type ?_ (by size_fits)))) (by size_fits)))
  refine raiseNew_hot ⟨hh, o1, vs1, Heap.get?_push_of_some _ (Heap.get?_push_of_some _ g1), d1, c1⟩ (Nat.ne_of_lt (Heap.lt_size (Heap.get?_push_of_some _ g1))) (Heap.get?_push_size _ rfl) rfl (by first | (simp; done) | (simp; omega) | (simp only [Array.size_append]; simp; omega)) ?_
  refine kE _ _ (fun b o g => ?_) ⟨_, Heap.get?_update_self _ (Heap.get?_push_size _ rfl) rfl, rfl⟩
  rw [Heap.get?_update_other _ _ (Nat.ne_of_gt (Heap.lt_size (Heap.get?_push_of_some _ g)))]
  exact Heap.get?_push_of_some _ (Heap.get?_push_of_some _ g)
theorem isn : ∀ a : Addr, ¬ ((Value.ref a == Value.none) = true) := fun _ => Bool.false_ne_true
/-- the iterator over a list has come to the end -/
theorem nextL_hot {j a : Addr} {i : Nat} {zs : Array Value} {Q : Value → Shared → Prop} (t : HotAt A x1 s.heap) (hj : s.heap.IsListIter j a i) (ha : s.heap.IsList a zs) (z : zs[i]? = none) (nj : x1 ≠ j)
    (kE : ∀ h' e, Heap.ExtBut j s.heap h' → (∃ o, h'.get? e = some o ∧ o.cls = .type "StopIteration") → E (.ref e) { s with heap := h' }) : wpAny (model prog w) A (Builtin.SmallTypes.nextOf (.ref j)) Q E s := by
  obtain ⟨oj, gj, cj, dj⟩ := id hj
  obtain ⟨oa, ga, _, na, da⟩ := ha
  unfold Builtin.SmallTypes.nextOf
  refine wpAny_bind (wpAny_callSpecial?_slot (name := Str.ofString "__next__") hj.typeIs slot_listiter_next (wpAny_call_entry slot_listiter_next hj.typeIs entry_listiter_next ?_ (args_listiter_next _)))
  show wpAny _ _ (field (.ref j) 0 >>= _) _ _ s
  refine wpAny_bind (wpAny_field gj dj (x := .ref a) rfl ?_)
  show wpAny _ _ (if (Value.ref a == Value.none) = true then _ else _) _ _ s
  rw [if_neg (isn a)]
  show wpAny _ _ (field (.ref j) 1 >>= _) _ _ s
  refine wpAny_bind (wpAny_field gj dj (x := .int i 0) rfl ?_)
  show wpAny _ _ (seqItems? (.ref a) >>= _) _ _ s
  refine wpAny_bind (wpAny_seqItems ga da ?_)
  simp only [Int.toNat_natCast, z]
  refine wpAny_bind (wpAny_rule (wpAny_bind (wpAny_setField gj dj (by simp) ?_)))
  show wpAny _ _ (newExc (.type "StopIteration") [] >>= fun e => raiseNew e) _ _ _
  refine stop_hot (hot_on t fun o g => ?_) fun h' e k c => kE h' e (fun b o nb g => k b o ?_) c
  · exact (Heap.SameBut.update ..).extBut x1 o nj g
  · exact (Heap.SameBut.update ..).extBut b o nb g
/-- .. over a tuple -/
theorem nextT_hot {j a : Addr} {i : Nat} {zs : Array Value} {Q : Value → Shared → Prop} (t : HotAt A x1 s.heap) (hj : s.heap.IsTupleIter j a i) (ha : s.heap.IsTuple a zs) (z : zs[i]? = none) (nj : x1 ≠ j)
    (kE : ∀ h' e, Heap.ExtBut j s.heap h' → (∃ o, h'.get? e = some o ∧ o.cls = .type "StopIteration") → E (.ref e) { s with heap := h' }) : wpAny (model prog w) A (Builtin.SmallTypes.nextOf (.ref j)) Q E s := by
  obtain ⟨oj, gj, cj, dj⟩ := id hj
  obtain ⟨oa, ga, _, na, da⟩ := ha
  unfold Builtin.SmallTypes.nextOf
  refine wpAny_bind (wpAny_callSpecial?_slot (name := Str.ofString "__next__") hj.typeIs F.slot_tuple_iterator_next (wpAny_call_entry F.slot_tuple_iterator_next hj.typeIs F.entry_tuple_iterator_next ?_ (F.args_tuple_iterator_next_1 _)))
  show wpAny _ _ (field (.ref j) 0 >>= _) _ _ s
  refine wpAny_bind (wpAny_field gj dj (x := .ref a) rfl ?_)
  show wpAny _ _ (if (Value.ref a == Value.none) = true then _ else _) _ _ s
  rw [if_neg (isn a)]
  show wpAny _ _ (field (.ref j) 1 >>= _) _ _ s
  refine wpAny_bind (wpAny_field gj dj (x := .int i 0) rfl ?_)
  show wpAny _ _ (seqItems? (.ref a) >>= _) _ _ s
  refine wpAny_bind (wpAny_seqItems ga da ?_)
  simp only [Int.toNat_natCast, z]
  refine wpAny_bind (wpAny_rule (wpAny_bind (wpAny_setField gj dj (by simp) ?_)))
  show wpAny _ _ (newExc (.type "StopIteration") [] >>= fun e => raiseNew e) _ _ _
  refine stop_hot (hot_on t fun o g => ?_) fun h' e k c => kE h' e (fun b o nb g => k b o ?_) c
  · exact (Heap.SameBut.update ..).extBut x1 o nj g
  · exact (Heap.SameBut.update ..).extBut b o nb g
/-- what next tells then -/
theorem nextT_none {j a : Addr} {i : Nat} {zs : Array Value} {Q : Option Value → Shared → Prop} (t : HotAt A x1 s.heap) (hj : IsTupIter s.heap j a i) (ha : IsTup s.heap a zs) (z : zs[i]? = none) (nj : x1 ≠ j)
    (k : ∀ h', Heap.ExtBut j s.heap h' → Q none { s with heap := h' }) : wpAny (model prog w) A (pyNext (.ref j)) Q E s := by
  obtain ⟨oj, gj, cj, dj⟩ := id hj
  obtain ⟨oa, ga, _, na, da⟩ := ha
  unfold pyNext
  refine wpAny_bind (wpAny_attempt (wpAny_callSpecial?_slot (name := Str.ofString "__next__") hj.typeIs slot_tupleiter_next (wpAny_call_entry slot_tupleiter_next hj.typeIs entry_tupleiter_next ?_ (args_tupleiter_next _))))
  show wpAny _ _ (field (.ref j) 0 >>= _) _ _ s
  refine wpAny_bind (wpAny_field gj dj (x := .ref a) rfl ?_)
  show wpAny _ _ (if (Value.ref a == Value.none) = true then _ else _) _ _ s
  rw [if_neg (isn a)]
  show wpAny _ _ (field (.ref j) 1 >>= _) _ _ s
  refine wpAny_bind (wpAny_field gj dj (x := .int i 0) rfl ?_)
  show wpAny _ _ (seqItems? (.ref a) >>= _) _ _ s
  refine wpAny_bind (wpAny_seqItems ga da ?_)
  simp only [Int.toNat_natCast, z]
  refine wpAny_bind (wpAny_rule (wpAny_bind (wpAny_setField gj dj (by simp) ?_)))
  show wpAny _ _ (newExc (.type "StopIteration") [] >>= fun e => raiseNew e) _ _ _
  refine stop_hot (hot_on t fun o g => ?_) fun h' e kk ⟨oe, ge, ce⟩ => ?_
  · exact (Heap.SameBut.update ..).extBut x1 o nj g
  · refine wpAny_bind (wpAny_isInstance (b := true) (T := "StopIteration") ⟨oe, ge, ce⟩ isSubtype_stop (wpAny_pure (k h' fun b o nb g => kk b o ?_)))
    exact (Heap.SameBut.update ..).extBut b o nb g
/-- a tuple taken apart -/
theorem take_apart {env : Env} {elts : List Expr} {kk : Nat} {pos : Pos} {a : Addr} {zs : Array Value} {Q : Unit → Shared → Prop} (t : HotAt A x1 s.heap) (ha : IsTup s.heap a zs)
    (hn : (assignEach elts env).length = zs.size) (hst : (assignEach elts env).findIdx? (·.1) = none)
    (k : ∀ h', Heap.ExtBut s.heap.objs.size s.heap h' → wpAny (model prog w) A (assignInOrder ((assignEach elts env).map (·.2)) zs.toList) Q E { s with heap := h' }) :
    wpAny (model prog w) A (assign (.Tuple elts kk pos) env (.ref a)) Q E s := by
  have na : a ≠ s.heap.objs.size := by obtain ⟨o, g, _⟩ := ha; exact Nat.ne_of_lt (Heap.lt_size g)
  have nx : x1 ≠ s.heap.objs.size := by obtain ⟨_, o, _, g, _⟩ := t; exact Nat.ne_of_lt (Heap.lt_size g)
  rw [assign_Tuple]
  refine wpAny_bind (wpAny_standAt ?_)
  unfold unpack
  rw [hn, hst]
  refine wpAny_bind (wpAny_holding ?_)
  unfold unpackItems notIterableAtAll
  refine wpAny_bind (wpAny_bind (wpAny_specialOf ha.typeIs slot_tuple_iter.lookup (wpAny_pure ?_)))
  simp only [if_false, Bool.false_eq_true]
  refine wpAny_bind (wpAny_holding (iter_tuple ha (wpAny_bind (wpAny_holding (draw_tuple na zs.size 0 _ _ ⟨_, Heap.get?_push_size _ rfl, rfl, rfl⟩ (ha.push _) (by omega) fun h1 j1 e1 => ?_)))))
  have whole : (zs.toList.drop 0).take zs.size = zs.toList := by rw [List.drop_zero]; exact List.take_of_length_le (by simp)
  rw [whole, if_neg (by simp)]
  refine wpAny_bind (wpAny_holding (nextT_none (x1 := x1) (hot_on t fun o g => e1.extBut x1 o nx (Heap.get?_push_of_some _ g)) j1 ((ha.push _).extBut e1.extBut na) (by simp) nx fun h2 e2 => ?_))
  simp only [Option.isSome_none, if_false, Bool.false_eq_true]
  exact wpAny_pure (k h2 fun b o nb g => e2 b o nb (e1.extBut b o nb (Heap.get?_push_of_some _ g)))
/-- zip has come to an end: an iterator of it has -/
theorem zip_hot {z ti to i1 i2 : Addr} {b : Bool} {Q : Option Value → Shared → Prop} {p q u : Value} (t : HotAt A x1 s.heap) (n0 : x1 ≠ z) (n1 : x1 ≠ i1) (n3 : x1 ≠ to) (tiz : ti ≠ z) (toz : to ≠ z) (i1z : i1 ≠ z) (i2z : i2 ≠ z) (toi1 : to ≠ i1)
    (gz : IsZip s.heap z ti to .none) (gi : IsPair s.heap ti (.ref i1) (.ref i2)) (go : IsPair s.heap to p q)
    (h1 : ∀ (A : Around) (h : Heap) (Q : Value → Shared → Prop) (E : Value → Shared → Prop), HotAt A x1 h → Heap.SameBut z s.heap h →
      (b = true → (∀ h' e, Heap.ExtBut i1 h h' → (∃ o, h'.get? e = some o ∧ o.cls = .type "StopIteration") → E (.ref e) { s with heap := h' }) → wpAny (model prog w) A (Builtin.SmallTypes.nextOf (.ref i1)) Q E { s with heap := h }) ∧
      (b = false → (∀ h', Heap.SameBut i1 h h' → Q u { s with heap := h' }) → wpAny (model prog w) A (Builtin.SmallTypes.nextOf (.ref i1)) Q E { s with heap := h }))
    (h2 : b = false → ∀ (A : Around) (h : Heap) (Q : Value → Shared → Prop) (E : Value → Shared → Prop), HotAt A x1 h → (∀ c o, c ≠ z → c ≠ i1 → c ≠ to → s.heap.get? c = some o → h.get? c = some o) →
      (∀ h' e, Heap.ExtBut i2 h h' → (∃ o, h'.get? e = some o ∧ o.cls = .type "StopIteration") → E (.ref e) { s with heap := h' }) → wpAny (model prog w) A (Builtin.SmallTypes.nextOf (.ref i2)) Q E { s with heap := h })
    (k : ∀ h', (∀ c o, c ≠ z → c ≠ to → c ≠ i1 → c ≠ i2 → s.heap.get? c = some o → h'.get? c = some o) → Q none { s with heap := h' }) : wpAny (model prog w) A (pyNext (.ref z)) Q E s := by
  have tz : s.TypeIs (.ref z) "zip" := ⟨_, gz, rfl⟩
  unfold pyNext
  refine wpAny_bind (wpAny_attempt (wpAny_callSpecial?_slot (name := Str.ofString "__next__") tz F.slot_zip_next (wpAny_call_entry F.slot_zip_next tz F.entry_zip_next ?_ (F.args_zip_next_1 _))))
  show wpAny _ _ (field (.ref z) 2 >>= _) _ _ s
  refine wpAny_bind (wpAny_field gz rfl (x := .bool false) rfl ?_)
  show wpAny _ _ (field (.ref z) 3 >>= _) _ _ s
  refine wpAny_bind (wpAny_field gz rfl (x := .ref ti) rfl (wpAny_bind (wpAny_seqItems gi rfl ?_)))
  show wpAny _ _ (Builtin.SmallTypes.ownedTupleIsFree (.ref z) >>= _) _ _ s
  unfold Builtin.SmallTypes.ownedTupleIsFree
  refine wpAny_bind (wpAny_bind (wpAny_field gz rfl (x := .none) rfl (wpAny_pure ?_)))
  rw [if_pos rfl]
  refine wpAny_bind (wpAny_rule (wpAny_bind (wpAny_field gz rfl (x := .ref to) rfl (wpAny_bind (wpAny_setField_rec gz (by simp) fun a1 z1 e1 => ?_)))))
  have z1 : IsZip a1 z ti to .ellipsis := z1
  simp only [List.zipIdx_cons, List.zipIdx_nil, List.forIn_nil, List.forIn_cons]
  refine wpAny_bind (wpAny_bind (wpAny_bind (wpAny_onRaise ?_)))
  show wpAny _ _ (Builtin.SmallTypes.nextOf (.ref i1) >>= _) _ _ _
  have t1 : HotAt A x1 a1 := hot_on t fun o g => e1.extBut x1 o n0 g
  have n2' : ∀ c o, c ≠ z → s.heap.get? c = some o → a1.get? c = some o := fun c o h g => e1.extBut c o h g
  cases b with
  | true =>
    refine wpAny_bind ((h1 A.in1 a1 _ _ t1 e1).1 rfl fun a2 e e2 ⟨oe, ge, ce⟩ => ?_)
    have z2 : IsZip a2 z ti to .ellipsis := e2 z _ i1z.symm z1
    have ez : e ≠ z := fun y => by
      rw [y, z2] at ge
      cases ge
      exact absurd (show Value.type "zip" = Value.type "StopIteration" from ce) (by decide)
    refine wpAny_setField_rec z2 (by simp) fun a3 _ e3 => ?_
    refine wpAny_bind (wpAny_isInstance (b := true) (T := "StopIteration") ⟨oe, e3.extBut e oe ez ge, ce⟩ isSubtype_stop (wpAny_pure (k a3 fun c o c1 _ c3 _ g => ?_)))
    exact e3.extBut c o c1 (e2 c o c3 (n2' c o c1 g))
  | false =>
    refine wpAny_bind ((h1 A.in1 a1 _ _ t1 e1).2 rfl fun a2 e2 => wpAny_pure ?_)
    have g2 : IsPair a2 to p q := e2.extBut to _ toi1 (n2' to _ toz go)
    refine wpAny_bind (wpAny_seqItems g2 rfl (wpAny_bind (wpAny_updateSeq_pair g2 fun a3 _ e3 => wpAny_bind (wpAny_letGo (wpAny_pure ?_)))))
    refine wpAny_bind (wpAny_bind (wpAny_onRaise ?_))
    show wpAny _ _ (Builtin.SmallTypes.nextOf (.ref i2) >>= _) _ _ _
    have up : ∀ c o, c ≠ z → c ≠ i1 → c ≠ to → s.heap.get? c = some o → a3.get? c = some o := fun c o c1 c2 c3 g => e3.extBut c o c3 (e2.extBut c o c2 (n2' c o c1 g))
    refine wpAny_bind (h2 rfl A.in1 a3 _ _ (hot_on t fun o g => up x1 o n0 n1 n3 g) up fun a4 e e4 ⟨oe, ge, ce⟩ => ?_)
    have z4 : IsZip a4 z ti to .ellipsis := e4 z _ i2z.symm (e3.extBut z _ toz.symm (e2.extBut z _ i1z.symm z1))
    have ez : e ≠ z := fun y => by
      rw [y, z4] at ge
      cases ge
      exact absurd (show Value.type "zip" = Value.type "StopIteration" from ce) (by decide)
    refine wpAny_setField_rec z4 (by simp) fun a5 _ e5 => ?_
    refine wpAny_bind (wpAny_isInstance (b := true) (T := "StopIteration") ⟨oe, e5.extBut e oe ez ge, ce⟩ isSubtype_stop (wpAny_pure (k a5 fun c o c1 c2 c3 c4 g => ?_)))
    exact e5.extBut c o c1 (e4 c o c4 (up c o c1 c3 c2 g))
end
end HW
/-! LP, hot walks: zip, tuples taken apart, lists made item by item. -/
namespace HW
open PySem PySem.Spec PyProof.Rows HotX L2 L2H
theorem far {X : Cx} {pins : List (Addr × Obj)} {σ : L2.St} {H : Hp} {s : Shared} {fp : List Addr} (c : HotC X) (I : Inv X pins σ H s) (hf : ∀ b ∈ fp, FpOk X pins H b) : ∃ x1, HotAt X.A x1 s.heap ∧ ∀ b ∈ fp, x1 ≠ b := by
  obtain ⟨p, ⟨hh, v1, e1, c1⟩, hp⟩ := c
  exact ⟨p.1, ⟨hh, p.2, v1, (I.pin p (List.mem_append_left _ hp)).1, e1, c1⟩, fun b hb => (hf b hb).2.2.2.2.2 p (List.mem_append_left _ hp)⟩
section
variable {X : Cx} {pins : List (Addr × Obj)} {σ : L2.St} {H : Hp} {s : Shared} {z ti to i1 i2 a b : Addr} {fp : List Addr}
theorem mem5 {c : Addr} : c ∈ [z, ti, to, i1, i2] ↔ c = z ∨ c = ti ∨ c = to ∨ c = i1 ∨ c = i2 := by simp
/-- a pair that zip has made -/
theorem pair_inv (I : Inv X pins σ H s) (hf : ∀ c ∈ [z, ti, to, i1, i2], FpOk X pins H c) {x y : V} {u v : Value} (rx : RelV x u) (ry : RelV y v) {h1 h2 : Heap} (nz : s.heap.objs.size ≠ z) (gT : IsPair h1 s.heap.objs.size u v)
    (hk : ∀ c o, c ≠ z → c ≠ to → c ≠ i1 → c ≠ i2 → s.heap.get? c = some o → h1.get? c = some o) (sb : Heap.SameBut z h1 h2) : Inv X pins σ (upd H s.heap.objs.size (.tup [x, y])) { s with heap := h2 } := by
  have g2 : h2.get? s.heap.objs.size = some { cls := .type "tuple", data := .seq #[u, v] } := (sb.2 _ nz).trans gT
  refine I.turnedNew (t' := s.toks) (ch := [z, ti, to, i1, i2]) (fun c o hb g => ?_) hf (Nat.le_refl _) ⟨show 2 ≤ sizeLine by decide, [u, v], .cons rx (.cons ry .nil), _, g2, rfl, _, rfl⟩
  have nb := fun q => hb (mem5.mpr q)
  exact (sb.2 c (fun q => nb (.inl q))).trans (hk c o (fun q => nb (.inl q)) (fun q => nb (.inr (.inr (.inl q)))) (fun q => nb (.inr (.inr (.inr (.inl q))))) (fun q => nb (.inr (.inr (.inr (.inr q))))) g)
end
theorem turn_zT {P : Program} {w : World} {K : PySem.W.Frag} {elts : List Expr} {kk : Nat} {tpos : Pos} {a b z ti to i1 i2 : Addr} (D : ZipApart z ti to i1 i2 a b) :
    TurnH P w K (.Tuple elts kk tpos) (RZ.ItzT K a b) [z, ti, to, i1, i2] z (fun i h => IsZip h z ti to .none ∧ IsPair h ti (.ref i1) (.ref i2) ∧ (∃ x y, IsPair h to x y) ∧ h.IsTupleIter i1 a i ∧ h.IsTupleIter i2 b i) where
  mem := (RZ.turn_zipT (P := P) (w := w) (K := K) (elts := elts) (kk := kk) (tpos := tpos) D).mem
  obj := (RZ.turn_zipT (P := P) (w := w) (K := K) (elts := elts) (kk := kk) (tpos := tpos) D).obj
  keep := (RZ.turn_zipT (P := P) (w := w) (K := K) (elts := elts) (kk := kk) (tpos := tpos) D).keep
  self := (RZ.turn_zipT (P := P) (w := w) (K := K) (elts := elts) (kk := kk) (tpos := tpos) D).self
  item := by
    rintro X rfl rfl rfl _ i pins s σ H E I hf ⟨gz, gi, ⟨p0, q0, go⟩, j1, j2⟩ ⟨xs, ys, x, y, sx, sy, ex, ey⟩
    obtain ⟨us, r1, t1, _⟩ := I.tuple sx
    obtain ⟨vs, r2, t2, _⟩ := I.tuple sy
    obtain ⟨u, eu, ru⟩ := r1.get ex
    obtain ⟨v, ev, rv⟩ := r2.get ey
    have nz : s.heap.objs.size ≠ z := Nat.ne_of_gt (Heap.lt_size gz)
    refine RZ.pyNext_zipT_item D gz gi go j1 j2 t1 t2 (x := u) (y := v) (by simpa using eu) (by simpa using ev) fun h1 z1 o1 k1 k2 gT _ hk => ?_
    refine ⟨_, rfl, wpAny_letOwnedTupleGo_zip (s := { s with heap := h1 }) z1 fun h2 z2 sb => ⟨.ref s.heap.objs.size, _, pair_inv I hf ru rv nz gT hk sb, rfl, ⟨_, x, y, rfl, I.hok.fresh (Nat.le_refl _), rfl, fun l hl => ?_, fun l hl => ?_⟩, ⟨z2, ?_, ⟨u, v, ?_⟩, ?_, ?_⟩, fun c hc => ?_⟩⟩
    · rw [I.tuple_inj hl sx]; exact ex
    · rw [I.tuple_inj hl sy]; exact ey
    · exact (sb.2 _ D.TIz).trans (hk _ _ D.TIz D.TITO D.TIi1 D.TIi2 gi)
    · exact (sb.2 _ D.TOz).trans o1
    · exact k1.at fun o g => (sb.2 _ D.i1z).trans g
    · exact k2.at fun o g => (sb.2 _ D.i2z).trans g
    · have hl : c < s.heap.objs.size := by
        rcases mem5.mp hc with q | q | q | q | q
        · exact q ▸ Heap.lt_size gz
        · exact q ▸ Heap.lt_size gi
        · exact q ▸ Heap.lt_size go
        · obtain ⟨_, g, _⟩ := j1; exact q ▸ Heap.lt_size g
        · obtain ⟨_, g, _⟩ := j2; exact q ▸ Heap.lt_size g
      rw [upd_ne (Nat.ne_of_lt hl)]
      exact (hf c hc).1
  done := by
    rintro X rfl rfl rfl c i pins s σ H E I hf ⟨gz, gi, ⟨p0, q0, go⟩, j1, j2⟩ ⟨xs, ys, sx, sy, he⟩
    obtain ⟨us, r1, t1, _⟩ := I.tuple sx
    obtain ⟨vs, r2, t2, _⟩ := I.tuple sy
    have e1 := r1.length
    have e2 := r2.length
    obtain ⟨x1, hot, nf⟩ := far c I hf
    have fin : ∀ h', (∀ c o, c ≠ z → c ≠ to → c ≠ i1 → c ≠ i2 → s.heap.get? c = some o → h'.get? c = some o) → (none : Option Value) = none ∧ Inv X pins σ H { s with heap := h' } := fun h' hk => ⟨rfl, I.turnedL (t' := s.toks) (ch := [z, ti, to, i1, i2]) (fun c o hb g => by
      have nb := fun q => hb (mem5.mpr q)
      exact hk c o (fun q => nb (.inl q)) (fun q => nb (.inr (.inr (.inl q)))) (fun q => nb (.inr (.inr (.inr (.inl q))))) (fun q => nb (.inr (.inr (.inr (.inr q))))) g) hf⟩
    have n0 := nf z (by simp)
    have n1 := nf i1 (by simp)
    have n2 := nf i2 (by simp)
    have n3 := nf to (by simp)
    by_cases q : us.toArray[i]? = none
    · refine zip_hot (b := true) (u := .none) hot n0 n1 n3 D.TIz D.TOz D.i1z D.i2z D.TOi1 gz gi go (fun A h Q E ht sb => ⟨fun _ kE => ?_, fun y => nomatch y⟩) (fun y => nomatch y) fin
      exact nextT_hot (s := { s with heap := h }) ht (j1.extBut sb.extBut D.i1z) (Heap.IsTuple.extBut t1 sb.extBut D.l1z) q n1 kE
    · have q2 : vs.toArray[i]? = none := by
        rcases he with y | y
        · exact absurd (by simp; omega) q
        · simp; omega
      obtain ⟨u, eu⟩ := Option.ne_none_iff_exists'.mp q
      refine zip_hot (b := false) (u := u) hot n0 n1 n3 D.TIz D.TOz D.i1z D.i2z D.TOi1 gz gi go (fun A h Q E ht sb => ⟨fun y => (nomatch y), fun _ kQ => ?_⟩) (fun _ A h Q E ht hk kE => ?_) fin
      · exact RZ.nextOf_tuple_item (s := { s with heap := h }) (j1.extBut sb.extBut D.i1z) (Heap.IsTuple.extBut t1 sb.extBut D.l1z) eu fun h' _ e => kQ h' e
      · refine nextT_hot (s := { s with heap := h }) ht (j2.at fun o g => hk i2 o D.i2z D.i12.symm D.TOi2.symm g) ?_ q2 n2 kE
        obtain ⟨o, g, r⟩ := t2
        exact ⟨o, hk b o D.l2z D.l2i1 D.l2TO g, r⟩
theorem turn_zL {P : Program} {w : World} {K : PySem.W.Frag} {elts : List Expr} {kk : Nat} {tpos : Pos} {a b z ti to i1 i2 : Addr} (D : ZipApart z ti to i1 i2 a b) :
    TurnH P w K (.Tuple elts kk tpos) (Itz K a b) [z, ti, to, i1, i2] z (fun i h => IsZip h z ti to .none ∧ IsPair h ti (.ref i1) (.ref i2) ∧ (∃ x y, IsPair h to x y) ∧ h.IsListIter i1 a i ∧ h.IsListIter i2 b i) where
  mem := (turn_zip (P := P) (w := w) (K := K) (elts := elts) (kk := kk) (tpos := tpos) D).mem
  obj := (turn_zip (P := P) (w := w) (K := K) (elts := elts) (kk := kk) (tpos := tpos) D).obj
  keep := (turn_zip (P := P) (w := w) (K := K) (elts := elts) (kk := kk) (tpos := tpos) D).keep
  self := (turn_zip (P := P) (w := w) (K := K) (elts := elts) (kk := kk) (tpos := tpos) D).self
  item := by
    rintro X rfl rfl rfl _ i pins s σ H E I hf ⟨gz, gi, ⟨p0, q0, go⟩, j1, j2⟩ ⟨xs, ys, x, y, sx, sy, ex, ey⟩
    obtain ⟨us, r1, t1, _⟩ := I.list sx
    obtain ⟨vs, r2, t2, _⟩ := I.list sy
    obtain ⟨u, eu, ru⟩ := r1.get ex
    obtain ⟨v, ev, rv⟩ := r2.get ey
    have nz : s.heap.objs.size ≠ z := Nat.ne_of_gt (Heap.lt_size gz)
    refine wpAny_pyNext_zip_item D gz gi go j1 j2 t1.isList t2.isList (x := u) (y := v) (by simpa using eu) (by simpa using ev) fun h1 z1 o1 k1 k2 gT _ hk => ?_
    refine ⟨_, rfl, wpAny_letOwnedTupleGo_zip (s := { s with heap := h1 }) z1 fun h2 z2 sb => ⟨.ref s.heap.objs.size, _, pair_inv I hf ru rv nz gT hk sb, rfl, ⟨_, x, y, rfl, I.hok.fresh (Nat.le_refl _), rfl, fun l hl => ?_, fun l hl => ?_⟩, ⟨z2, ?_, ⟨u, v, ?_⟩, ?_, ?_⟩, fun c hc => ?_⟩⟩
    · rw [I.list_inj hl sx]; exact ex
    · rw [I.list_inj hl sy]; exact ey
    · exact (sb.2 _ D.TIz).trans (hk _ _ D.TIz D.TITO D.TIi1 D.TIi2 gi)
    · exact (sb.2 _ D.TOz).trans o1
    · exact k1.at fun o g => (sb.2 _ D.i1z).trans g
    · exact k2.at fun o g => (sb.2 _ D.i2z).trans g
    · have hl : c < s.heap.objs.size := by
        rcases mem5.mp hc with q | q | q | q | q
        · exact q ▸ Heap.lt_size gz
        · exact q ▸ Heap.lt_size gi
        · exact q ▸ Heap.lt_size go
        · obtain ⟨_, g, _⟩ := j1; exact q ▸ Heap.lt_size g
        · obtain ⟨_, g, _⟩ := j2; exact q ▸ Heap.lt_size g
      rw [upd_ne (Nat.ne_of_lt hl)]
      exact (hf c hc).1
  done := by
    rintro X rfl rfl rfl c i pins s σ H E I hf ⟨gz, gi, ⟨p0, q0, go⟩, j1, j2⟩ ⟨xs, ys, sx, sy, he⟩
    obtain ⟨us, r1, t1, _⟩ := I.list sx
    obtain ⟨vs, r2, t2, _⟩ := I.list sy
    have e1 := r1.length
    have e2 := r2.length
    obtain ⟨x1, hot, nf⟩ := far c I hf
    have fin : ∀ h', (∀ c o, c ≠ z → c ≠ to → c ≠ i1 → c ≠ i2 → s.heap.get? c = some o → h'.get? c = some o) → (none : Option Value) = none ∧ Inv X pins σ H { s with heap := h' } := fun h' hk => ⟨rfl, I.turnedL (t' := s.toks) (ch := [z, ti, to, i1, i2]) (fun c o hb g => by
      have nb := fun q => hb (mem5.mpr q)
      exact hk c o (fun q => nb (.inl q)) (fun q => nb (.inr (.inr (.inl q)))) (fun q => nb (.inr (.inr (.inr (.inl q))))) (fun q => nb (.inr (.inr (.inr (.inr q))))) g) hf⟩
    have n0 := nf z (by simp)
    have n1 := nf i1 (by simp)
    have n2 := nf i2 (by simp)
    have n3 := nf to (by simp)
    by_cases q : us.toArray[i]? = none
    · refine zip_hot (b := true) (u := .none) hot n0 n1 n3 D.TIz D.TOz D.i1z D.i2z D.TOi1 gz gi go (fun A h Q E ht sb => ⟨fun _ kE => ?_, fun y => nomatch y⟩) (fun y => nomatch y) fin
      exact nextL_hot (s := { s with heap := h }) ht (j1.extBut sb.extBut D.i1z) (t1.isList.extBut sb.extBut D.l1z) q n1 kE
    · have q2 : vs.toArray[i]? = none := by
        rcases he with y | y
        · exact absurd (by simp; omega) q
        · simp; omega
      obtain ⟨u, eu⟩ := Option.ne_none_iff_exists'.mp q
      refine zip_hot (b := false) (u := u) hot n0 n1 n3 D.TIz D.TOz D.i1z D.i2z D.TOi1 gz gi go (fun A h Q E ht sb => ⟨fun y => (nomatch y), fun _ kQ => ?_⟩) (fun _ A h Q E ht hk kE => ?_) fin
      · exact wpAny_nextOf_list_item (s := { s with heap := h }) (j1.extBut sb.extBut D.i1z) (t1.isList.extBut sb.extBut D.l1z) eu fun h' _ e => kQ h' e
      · refine nextL_hot (s := { s with heap := h }) ht (j2.at fun o g => hk i2 o D.i2z D.i12.symm D.TOi2.symm g) ?_ q2 n2 kE
        obtain ⟨o, g, r⟩ := t2.isList
        exact ⟨o, hk b o D.l2z D.l2i1 D.l2TO g, r⟩
/-- an expression zip(a, b) -/
theorem pi_zH {X : Cx} {e e2 : Expr} {ta : TA} {p pos tpos : Pos} {elts : List Expr} {kk : Nat} (hg : Gl X "zip") (hm : X.mg "zip" = none) (ha : PA X [e, e2] ta)
    (hs : starEach [e, e2] X.env = (false, eval e X.env) :: starEach [e2] X.env := by rfl) (hpl : (backTo pos (starEach [e2] X.env)).any (·.1) = false := by rfl) :
    PIH X (.Tuple elts kk tpos) (.Call (.Name "zip" p) [e, e2] [] pos) (RZ.iZipA X.K ta) := by
  refine ⟨fun pins s σ H R I h => Call_ (ld_blt I hg hm PyProof.Rows.boot_zip (PyProof.Rows.callWith_type1 (thn (ha.run pos pins s σ H _ I h) ?_) hs hpl))⟩
  rintro us s1 ⟨vs, H1, I1, r1, a, b, xs, ys, rfl, q1⟩
  obtain ⟨u, us, rfl⟩ : ∃ u r, us = u :: r := by cases r1; exact ⟨_, _, rfl⟩
  obtain ⟨v, us, rfl⟩ : ∃ u r, us = u :: r := by cases r1 with | cons _ rr => cases rr; exact ⟨_, _, rfl⟩
  obtain rfl : us = [] := by cases r1 with | cons _ rr => cases rr with | cons _ rr => cases rr; rfl
  obtain rfl : u = .ref a := by cases r1 with | cons r _ => exact r
  obtain rfl : v = .ref b := by cases r1 with | cons _ rr => cases rr with | cons r _ => exact r
  have new : ∀ c, c ∈ [s1.heap.objs.size + 4, s1.heap.objs.size + 2, s1.heap.objs.size + 3, s1.heap.objs.size, s1.heap.objs.size + 1] → FpOk X pins H1 c := fun c hc => by
    have hl : s1.heap.objs.size ≤ c := by rcases mem5.mp hc with q | q | q | q | q <;> rw [q] <;> first | exact Nat.le_add_right _ _ | exact Nat.le_refl _
    exact I1.fpOk hl (I1.hok.fresh hl)
  rcases q1 with ⟨sx, sy, q⟩ | ⟨sx, sy, q⟩
  · obtain ⟨us, _, t1, _⟩ := I1.list sx
    obtain ⟨vs, _, t2, _⟩ := I1.list sy
    refine call_zip_2 t1.isList t2.isList fun h' gz gi go j1 j2 _ hk => wpAny_pyIter_zip gz ?_
    exact ⟨_, _, _, _, H1, rfl, I1.kept (t' := s1.toks) hk, turn_zL (PySem.W.ktu_apart s1.heap.objs.size a b t1.lt t2.lt), ⟨gz, gi, ⟨_, _, go⟩, j1, j2⟩, new, q⟩
  · obtain ⟨us, _, t1, _⟩ := I1.tuple sx
    obtain ⟨vs, _, t2, _⟩ := I1.tuple sy
    obtain ⟨_, g1, _⟩ := id t1
    obtain ⟨_, g2, _⟩ := id t2
    refine RZ.call_zipT (xs := us.toArray) (ys := vs.toArray) t1 t2 fun h' gz gi go j1 j2 _ hk => wpAny_pyIter_zip gz ?_
    exact ⟨_, _, _, _, H1, rfl, I1.kept (t' := s1.toks) hk, turn_zT (PySem.W.ktu_apart s1.heap.objs.size a b (Heap.lt_size g1) (Heap.lt_size g2)), ⟨gz, gi, ⟨_, _, go⟩, j1, j2⟩, new, q⟩
/-- a target that takes a tuple apart -/
theorem pg_tH {X : Cx} {es : List Expr} {k : Nat} {t : TGs} {n : Nat} {pos : Pos} (hc : HotC X) (h : PGs X es t) (hn : (assignEach es X.env).length = n) (hst : (assignEach es X.env).findIdx? (·.1) = none) : PG X (.Tuple es k pos) (gTup X.K n t) := by
  refine ⟨fun pins s σ H v u Q I r ⟨a, xs, e1, sx, hl, hw⟩ => ?_⟩
  subst e1
  obtain rfl : u = .ref a := r
  obtain ⟨us, rv, ht, _⟩ := I.tuple sx
  obtain ⟨x1, hot⟩ := hc.at I
  refine take_apart hot ht (by simp [hn, ← hl, rv.length]) hst fun h' hx => h.run pins _ σ H xs us Q (I.kept (t' := s.toks) fun b o g => hx b o (Nat.ne_of_lt (Heap.lt_size g)) g) (by simpa using rv) hw
end HW
/-! LP, hot walks: a list made item by item. -/
namespace HW
open PySem PySem.Spec PyProof.Rows HotX L2 L2H
/-- a block's context while an exception is handled -/
abbrev blkH (X : Cx) (s : Shared) (H : Hp) (scope : Scope) (cenv : Env) (fp : List Addr) : Cx := { X.blk s H scope cenv fp with pn := X.pn }
section
variable {X : Cx} {pins : List (Addr × Obj)} {σ : L2.St} {H : Hp} {s : Shared}
theorem hot_blk (c : HotC X) (s : Shared) (H : Hp) (scope : Scope) (cenv : Env) (fp : List Addr) : HotC (blkH X s H scope cenv fp) := c
theorem start_H {scope : Scope} {own : List (Str × Nat)} {fp : List Addr} (I : Inv X pins σ H s) (ok : BlkOk X.N X.env.scope scope own) (hN : X.N.Nodup) (hfp : ∀ b ∈ fp, FpOk X pins H b ∧ b < s.heap.objs.size) :
    Inv (blkH X s H scope (compEnvC scope (cellsFrom (s.heap.objs.size + 1) scope.names (cloFrom X.env.cells scope.names [])) s.heap.objs.size X.env) fp) [] (wipe σ (own.map (·.2))) H { s with heap := pushCells (s.heap.push { cls := .type "dict", data := .dict #[] }) scope.names } := by
  have B := block_start I ok hN hfp
  have k := B.ok
  refine ⟨⟨k.mod, k.kind, k.glob, k.blt, k.above, k.inj, k.has, k.cab, k.hd, k.frames, k.stk, k.exf, k.bs, k.bsz, k.noex, k.exfs, k.funs, k.frf⟩, B.os, B.bare, B.base, B.loc, B.cell, B.free, B.freeC, fun p hp => ?_, B.hok, B.len⟩
  have hp : p ∈ X.pn := by simpa using (show p ∈ X.pn ++ [] from hp)
  obtain ⟨g, h1, h2, h3, h4⟩ := I.pin p (List.mem_append_left _ hp)
  refine ⟨pushCells_keeps _ _ _ _ (Heap.get?_push_of_some _ g), h1, Nat.ne_of_lt (Heap.lt_size g), fun z => ?_, h4⟩
  rcases List.mem_cons.mp (I.stkSub p.1 z) with z | z
  · exact h2 z
  · exact h3 z
end
section
variable {X : Cx} {elt tg iter : Expr} {ifs : List Expr} {scope : Scope} {own : List (Str × Nat)} {pos pos' : Pos} {wi : TI} {g : TG} {tt : TT} {te : TE}
theorem pe_lcH (hc : HotC X) (hN : X.N.Nodup) (hi : PIH X tg iter wi) (ok : BlkOk X.N X.env.scope scope own)
    (hg : ∀ (s : Shared) (H : Hp) (C : Addr) (cl : List (Str × Addr)) (fp : List Addr), PG (blkH X s H scope (compEnvC scope cl C X.env) fp) tg g) (ht : ∀ (s : Shared) (H : Hp) (C : Addr) (cl : List (Str × Addr)) (fp : List Addr), PTs (blkH X s H scope (compEnvC scope cl C X.env) fp) ifs tt)
    (he : ∀ (s : Shared) (H : Hp) (C : Addr) (cl : List (Str × Addr)) (fp : List Addr), PE (blkH X s H scope (compEnvC scope cl C X.env) fp) elt te) (hs : ∀ x, foldedSetIterable iter X.env x = pure x) :
    PE X (.ListComp elt [⟨tg, iter, ifs, 0⟩] scope pos) (tLc wi g tt te (own.map (·.2))) := by
  refine ⟨fun pins s σ H Q I h => ?_⟩
  rw [eval_ListComp]
  have clo : ∀ y ∈ scope.names, y.2 = .free → ∃ c, X.env.cells.lookup y.1 = some c := fun y hy e => (ok.free y hy e).elim (fun k => I.ok.has _ (.inl k)) fun k => I.ok.has _ (.inr k)
  refine wpAny_comprehension_free (use := none) rfl hs (closure_ok clo) ok.kind (fun y hy e => by rw [ok.uniq y hy, e]) (thn (hi.run pins s σ H _ I h) fun v s1 h1 => thn h1 fun itv s2 ⟨it, fp, tn, J, H2, e, I2, T, st, fok, q⟩ => ?_)
  subst e
  refine wpAny_newObj_type (newEnv_comp ?_) (by show 0 ≤ sizeLine; decide)
  obtain ⟨W, ⟨m0, w0⟩, turn⟩ := q s2.heap.objs.size (I2.hok.fresh (Nat.le_refl _))
  -- the new list
  have I3 : Inv X pins σ (upd H2 s2.heap.objs.size (.lst [])) { s2 with heap := s2.heap.push { cls := .type "list", data := .seq ([] : List Value).toArray } } :=
    I2.laid (t' := s2.toks) (fun b o e => Heap.get?_push_of_some _ e) (Nat.le_refl _) ⟨Nat.zero_le _, [], 0, .nil, Heap.get?_push_size _ rfl⟩
  have lt : ∀ b ∈ fp, b < s2.heap.objs.size := fun b hb => by
    obtain ⟨o, e, _⟩ := T.obj _ _ st b hb
    exact Heap.lt_size e
  generalize hD : s2.heap.objs.size = D at *
  generalize hs3 : ({ s2 with heap := s2.heap.push { cls := .type "list", data := .seq ([] : List Value).toArray } } : Shared) = s3 at *
  generalize hH3 : upd H2 D (.lst []) = H3 at *
  have z3 : s3.heap.objs.size = D + 1 := by rw [← hs3, ← hD]; exact Heap.size_push ..
  have f3 : ∀ b ∈ fp, FpOk X pins H3 b ∧ b < s3.heap.objs.size := fun b hb => by
    refine ⟨⟨?_, (fok b hb).2⟩, by rw [z3]; exact Nat.lt_succ_of_lt (lt b hb)⟩
    rw [← hH3, upd_ne (Nat.ne_of_lt (lt b hb))]
    exact (fok b hb).1
  have st3 : tn 0 s3.heap := T.keep _ _ _ st fun b _ o e => by rw [← hs3]; exact Heap.get?_push_of_some _ e
  have I4 := start_H I3 ok hN f3
  have pg := hg s3 H3 s3.heap.objs.size (cellsFrom (s3.heap.objs.size + 1) scope.names (cloFrom X.env.cells scope.names [])) fp
  have pt := ht s3 H3 s3.heap.objs.size (cellsFrom (s3.heap.objs.size + 1) scope.names (cloFrom X.env.cells scope.names [])) fp
  have pe := he s3 H3 s3.heap.objs.size (cellsFrom (s3.heap.objs.size + 1) scope.names (cloFrom X.env.cells scope.names [])) fp
  have goal : codeAny (model X.prog X.w) X.A (.compStart (.ListComp elt [⟨tg, iter, ifs, 0⟩] scope pos) 0 (.ref it) (.ref D) (compEnvC scope (cellsFrom (s3.heap.objs.size + 1) scope.names (cloFrom X.env.cells scope.names [])) s3.heap.objs.size X.env)) (compPost (model X.prog X.w) X.A X.xe none (EP X pins σ Q) (.ref D) s3.heap.objs.size) { s3 with heap := pushCells (s3.heap.push { cls := .type "dict", data := .dict #[] }) scope.names } := by
    generalize hce : compEnvC scope (cellsFrom (s3.heap.objs.size + 1) scope.names (cloFrom X.env.cells scope.names [])) s3.heap.objs.size X.env = ce at I4 pg pt pe ⊢
    have cL : ce.locals = s3.heap.objs.size := by rw [← hce]; rfl
    generalize hs4 : ({ s3 with heap := pushCells (s3.heap.push { cls := .type "dict", data := .dict #[] }) scope.names } : Shared) = s4 at I4 ⊢
    have st4 : tn 0 s4.heap := T.keep _ _ _ st3 fun b _ o e => by rw [← hs4]; exact pushCells_keeps _ _ _ _ (Heap.get?_push_of_some _ e)
    have hcB : HotC (blkH X s3 H3 scope ce fp) := hot_blk hc s3 H3 scope ce fp
    -- the walked objects, to the block's eye
    have stat : ∀ {σ' : L2.St} {H' : Hp} {s' : Shared}, Inv (blkH X s3 H3 scope ce fp) [] σ' H' s' → (∀ b ∈ fp, H' b = none) → ∀ b ∈ fp, FpOk (blkH X s3 H3 scope ce fp) [] H' b := fun I' n b hb =>
      ⟨n b hb, (I'.ok.exf b hb).1, I'.ok.exfs b hb, .inl hb, fun x c e => (I'.ok.exf b hb).2 x c e, fun p hp => (f3 b hb).1.2.2.2.2.2 p (List.mem_append_left _ (by simpa using (show p ∈ X.pn ++ [] from hp)))⟩
    have loop : codeAny (model X.prog X.w) X.A (.compLoop (.ListComp elt [⟨tg, iter, ifs, 0⟩] scope pos) 0 (.ref it) (.ref D) ce) (compPost (model X.prog X.w) X.A X.xe none (EP X pins σ Q) (.ref D) s3.heap.objs.size) s4 := by
      refine compLoop_any (fun m s' => ∃ i H', Inv (blkH X s3 H3 scope ce fp) [] (wipe σ (own.map (·.2))) H' s' ∧ tn i s'.heap ∧ (∀ b ∈ fp, H' b = none) ∧ W i m H') ?_ m0 ⟨0, H3, I4, st4, fun b hb => (f3 b hb).1.1, w0⟩
      rintro n s5 ⟨i, H5, I5, st5, n5, w5⟩
      rcases turn i n H5 w5 with ⟨stop, qq⟩ | ⟨go, Nx, hNx, step⟩
      · refine thnF (T.done (blkH X s3 H3 scope ce fp) rfl rfl rfl hcB i [] s5 _ H5 (fun _ _ => False) I5 (stat I5 n5) st5 stop) ?_
        rintro r s6 ⟨rfl, I6⟩
        -- the def's own context again
        have I7 : Inv X pins σ H5 s6 := I3.call' (ch := fp) I6.os I6.base I6.hok I6.bare fun b hb => by
          obtain ⟨⟨_, y1, _, y2, y3, y4⟩, _⟩ := f3 b hb
          exact ⟨y2, y1, y3, y4⟩
        have nC : H5 s3.heap.objs.size = none := cL ▸ (show H5 ce.locals = none from I6.free)
        obtain ⟨m, hn, _⟩ := I6.loc
        have hn : s6.heap.Ns s3.heap.objs.size m := cL ▸ (show s6.heap.Ns ce.locals m from hn)
        obtain ⟨g0, g1, g2, g3, g4, g5⟩ := I3.fpOk (Nat.le_refl _) nC
        exact ⟨m, hn, fun h'' sb => ⟨.ref D, H5, I7.turned (t' := s6.toks) (fun b o nb e => (sb.2 b nb).trans e) g0 g1 g3 g4 g5, rfl, qq⟩⟩
      · refine thnF (T.item (blkH X s3 H3 scope ce fp) rfl rfl rfl hcB i [] s5 _ H5 (fun _ _ => False) I5 (stat I5 n5) st5 go) ?_
        rintro r s6 ⟨u, rfl, h6⟩
        refine thnF h6 fun _ s7 ⟨x, H7, I7, r7, y7, st7, n7⟩ => ?_
        have I8 := I7.pinned (stat I7 n7) (T.obj _ _ st7)
        refine thnF (pg.run _ s7 _ H7 x u _ I8 r7 (step x H7 y7)) fun _ s8 ⟨σ8, H8, I9, hw, q8⟩ => thnF (pt.run _ s8 σ8 H8 _ I9 q8) fun b s9 ⟨H9, I10, q9⟩ => ?_
        -- how a turn ends
        have fin : ∀ {s' : Shared} {H' : Hp}, Inv (blkH X s3 H3 scope ce fp) ([] ++ pinsAt fp s7.heap) σ8 H' s' → Nx H' → ∃ m, m < n ∧ ∃ i H', Inv (blkH X s3 H3 scope ce fp) [] (wipe σ (own.map (·.2))) H' s' ∧ tn i s'.heap ∧ (∀ b ∈ fp, H' b = none) ∧ W i m H' := fun {s' H'} J' nx => by
          obtain ⟨m', hm, w'⟩ := hNx H' nx
          have kept : ∀ b ∈ fp, ∀ o, s7.heap.get? b = some o → s'.heap.get? b = some o ∧ H' b = none := fun b hb o e => by
            have y := J'.pin (b, o) (List.mem_append_right _ (List.mem_append_right _ (mem_pinsAt hb e)))
            exact ⟨y.1, y.2.1⟩
          refine ⟨m', hm, i + 1, H', (J'.unpinned (pins := [])).weak (by rw [← hw, wipe_length]) (fun j v e => (wipe_some (hw ▸ e)).1), T.keep _ _ _ st7 fun b hb o e => (kept b hb o e).1, fun b hb => ?_, w'⟩
          obtain ⟨o, e, _⟩ := T.obj _ _ st7 b hb
          exact (kept b hb o e).2
        cases b with
        | false => exact fin I10 q9
        | true =>
          refine thnF (pe.run _ s9 σ8 H9 _ I10 q9) fun y s10 ⟨yv, H10, I11, r10, acc, gD, lD, nx⟩ => ?_
          exact app_ok (X := blkH X s3 H3 scope ce fp) I11 gD lD r10 fun s11 I12 => fin I12 nx
    exact codeAny_compStart_list loop (T.self X.A 0 _ _ _ st4 loop)
  exact goal
end
end HW
/-! LP, part 1: plain values W over the layer's values V; a plain heap; how both go together. -/
namespace LP
open L2 PySem PySem.Spec PyProof.Rows

def mkS (x : Tx) : Str := ⟨x.toArray⟩
theorem mkS_inj {x y : Tx} (h : mkS x = mkS y) : x = y := by
  have e : x.toArray = y.toArray := congrArg Str.cps h
  simpa using e
theorem mkS_tl (x : Tx) : TL.tl (mkS x) = x := by simp [TL.tl, mkS]
theorem mkS_len (x : Tx) : (mkS x).length = x.length := by simp [Str.length, mkS]
theorem mkS_of (s : Str) : mkS (TL.tl s) = s := TL.mk_tl s

/-- where the cells stand; none for a dead one -/
structure LL where
  cs : List (Option Addr)
  /-- objects that are being made, out of reach -/
  bz : List Addr
def Live (L : LL) (a : Addr) : Prop := some a ∈ L.cs ∨ a ∈ L.bz

structure Tb where
  K : PySem.W.Frag
  cA : Nat → Addr
  fN : Nat → Str
  pay : Nat → Option Nat

section
variable (T : Tb) (L : LL) (H : Hp)
def TupAt (a : Addr) (vs : List V) : Prop := (Rd H a (.tup vs) ∧ ¬ Live L a) ∨ ∀ G : Hp, SqT T.K G a vs
def LstAt (a : Addr) (vs : List V) : Prop := H a = some (.lst vs) ∧ ¬ Live L a
def FrzAt (a : Addr) (vs : List V) : Prop := (Rd H a (.lst vs) ∧ ¬ Live L a) ∨ ∀ G : Hp, SqL T.K G a vs
def okT (x : Tx) : Prop := (∀ c ∈ x, c < 1114112) ∧ x.length ≤ big
mutual
/-- the plain value w stands for v -/
def RV : W → V → Prop
  | .non, v => v = .non
  | .bl b, v => v = .bl b
  | .int i, v => v = .int i
  | .str x, v => v = .str (mkS x) ∧ okT x
  | .tup xs, v => ∃ a vs, v = .ref a ∧ TupAt T L H a vs ∧ RVs xs vs
  | .lst xs, v => ∃ a vs, v = .ref a ∧ LstAt L H a vs ∧ RVs xs vs
  | .frz xs, v => ∃ a vs, v = .ref a ∧ FrzAt T L H a vs ∧ RVs xs vs
  | .ref n, v => (∃ a, v = .ref a ∧ L.cs[n]? = some (some a)) ∨ L.cs[n]? = some none
  | .ins c fs, v => ∃ a dx fv, v = .ref a ∧ H a = some (.ins (T.cA c) dx fv) ∧ ¬ Live L a ∧ RFs fs fv
  | .cls c, v => v = .ref (T.cA c)
  | .exn _ _, _ => False
def RVs : List W → List V → Prop
  | [], vs => vs = []
  | x :: xs, vs => ∃ v r, vs = v :: r ∧ RV x v ∧ RVs xs r
def RFs : List (Nat × W) → List (Str × V) → Prop
  | [], vs => vs = []
  | (k, x) :: xs, vs => ∃ v r, vs = (T.fN k, v) :: r ∧ RV x v ∧ RFs xs r
end
def kS : DK → Key
  | .inl i => .inl i
  | .inr x => .inr (mkS x)
def RKs : List (DK × W) → List (Key × V) → Prop
  | [], vs => vs = []
  | (k, x) :: xs, vs => ∃ v r, vs = (kS k, v) :: r ∧ RV T L H x v ∧ RKs xs r
def RO : O → HO → Prop
  | .lst xs, o => ∃ vs, o = .lst vs ∧ RVs T L H xs vs
  | .dct kvs, o => ∃ kvv, o = .dK kvv ∧ RKs T L H kvs kvv
  | .ins c fs, o => ∃ dx fv, o = .ins (T.cA c) dx fv ∧ H dx ≠ none ∧ ¬ Live L dx ∧ RFs T L H fs fv
  | .dead, _ => True
end

/-- the plain heap h stands for H -/
structure Rel (T : Tb) (L : LL) (h : Hh) (H : Hp) : Prop where
  len : L.cs.length = h.length
  cell : ∀ (n : Nat) (a : Addr), L.cs[n]? = some (some a) → ∃ o ho, h[n]? = some o ∧ H a = some ho ∧ RO T L H o ho
  gone : ∀ (n : Nat), L.cs[n]? = some none → h[n]? = some .dead
  inj : ∀ (n m : Nat) (a : Addr), L.cs[n]? = some (some a) → L.cs[m]? = some (some a) → n = m
  busy : ∀ b, b ∈ L.bz → some b ∉ L.cs ∧ ∃ o, H b = some o

/-- what goes on between two moments -/
structure Evo0 (L : LL) (H : Hp) (L' : LL) (H' : Hp) : Prop where
  keep : ∀ a o, H a = some o → ¬ Live L a → H' a = some o
  nl : ∀ a o, H a = some o → ¬ Live L a → ¬ Live L' a
  ref : ∀ (n : Nat) (a : Addr), L.cs[n]? = some (some a) → L'.cs[n]? = some (some a) ∨ L'.cs[n]? = some none
  dead : ∀ (n : Nat), L.cs[n]? = some none → L'.cs[n]? = some none
structure Evo (L : LL) (H : Hp) (L' : LL) (H' : Hp) : Prop extends Evo0 L H L' H' where
  bz : L'.bz = L.bz
  bk : ∀ b, b ∈ L.bz → H' b = H b

theorem Evo0.trans {L L1 L2 : LL} {H H1 H2 : Hp} (a : Evo0 L H L1 H1) (b : Evo0 L1 H1 L2 H2) : Evo0 L H L2 H2 where
  keep := fun x o e n => b.keep x o (a.keep x o e n) (a.nl x o e n)
  nl := fun x o e n => b.nl x o (a.keep x o e n) (a.nl x o e n)
  ref := fun n x e => by
    rcases a.ref n x e with q | q
    · exact b.ref n x q
    · exact .inr (b.dead n q)
  dead := fun n e => b.dead n (a.dead n e)
theorem Evo.rfl' {L : LL} {H : Hp} : Evo L H L H := ⟨⟨fun _ _ e _ => e, fun _ _ _ e => e, fun _ _ e => .inl e, fun _ e => e⟩, rfl, fun _ _ => rfl⟩
theorem Evo.trans {L L1 L2 : LL} {H H1 H2 : Hp} (a : Evo L H L1 H1) (b : Evo L1 H1 L2 H2) : Evo L H L2 H2 := ⟨a.toEvo0.trans b.toEvo0, b.bz.trans a.bz, fun x hx => (b.bk x (by rw [a.bz]; exact hx)).trans (a.bk x hx)⟩

section
variable {T : Tb} {L L' : LL} {H H' : Hp}
theorem Rd.evo {a : Addr} {u : HO} (E : Evo0 L H L' H') (h : Rd H a u) (n : ¬ Live L a) : Rd H' a u ∧ ¬ Live L' a := by
  rcases h with h | ⟨o, h⟩
  · exact ⟨.inl (E.keep a u h n), E.nl a u h n⟩
  · exact ⟨.inr ⟨o, E.keep a _ h n⟩, E.nl a _ h n⟩
theorem TupAt.evo {a : Addr} {vs : List V} (E : Evo0 L H L' H') (h : TupAt T L H a vs) : TupAt T L' H' a vs := by
  rcases h with ⟨h, n⟩ | h
  · exact .inl (Rd.evo E h n)
  · exact .inr h
theorem LstAt.evo {a : Addr} {vs : List V} (E : Evo0 L H L' H') (h : LstAt L H a vs) : LstAt L' H' a vs := ⟨E.keep a _ h.1 h.2, E.nl a _ h.1 h.2⟩
theorem FrzAt.evo {a : Addr} {vs : List V} (E : Evo0 L H L' H') (h : FrzAt T L H a vs) : FrzAt T L' H' a vs := by
  rcases h with ⟨h, n⟩ | h
  · exact .inl (Rd.evo E h n)
  · exact .inr h
theorem TupAt.sq {a : Addr} {vs : List V} (h : TupAt T L H a vs) : SqT T.K H a vs := by
  rcases h with ⟨h, n⟩ | h
  · exact .inl h
  · exact h H
theorem FrzAt.sq {a : Addr} {vs : List V} (h : FrzAt T L H a vs) : SqL T.K H a vs := by
  rcases h with ⟨h, n⟩ | h
  · exact .inl h
  · exact h H
mutual
theorem RV.evo (E : Evo0 L H L' H') : ∀ (w : W) (v : V), RV T L H w v → RV T L' H' w v
  | .non, v, h => h
  | .bl b, v, h => h
  | .int i, v, h => h
  | .str x, v, h => h
  | .tup xs, v, h => by
    obtain ⟨a, vs, e, t, r⟩ := h
    exact ⟨a, vs, e, t.evo E, RVs.evo E xs vs r⟩
  | .lst xs, v, h => by
    obtain ⟨a, vs, e, t, r⟩ := h
    exact ⟨a, vs, e, t.evo E, RVs.evo E xs vs r⟩
  | .frz xs, v, h => by
    obtain ⟨a, vs, e, t, r⟩ := h
    exact ⟨a, vs, e, t.evo E, RVs.evo E xs vs r⟩
  | .ref n, v, h => by
    rcases h with ⟨a, e, q⟩ | q
    · rcases E.ref n a q with z | z
      · exact .inl ⟨a, e, z⟩
      · exact .inr z
    · exact .inr (E.dead n q)
  | .ins c fs, v, h => by
    obtain ⟨a, dx, fv, e, t, n, r⟩ := h
    exact ⟨a, dx, fv, e, E.keep a _ t n, E.nl a _ t n, RFs.evo E fs fv r⟩
  | .cls c, v, h => h
  | .exn c p, v, h => h
theorem RVs.evo (E : Evo0 L H L' H') : ∀ (w : List W) (v : List V), RVs T L H w v → RVs T L' H' w v
  | [], v, h => h
  | x :: xs, v, h => by
    obtain ⟨y, r, e, a, b⟩ := h
    exact ⟨y, r, e, RV.evo E x y a, RVs.evo E xs r b⟩
theorem RFs.evo (E : Evo0 L H L' H') : ∀ (w : List (Nat × W)) (v : List (Str × V)), RFs T L H w v → RFs T L' H' w v
  | [], v, h => h
  | (k, x) :: xs, v, h => by
    obtain ⟨y, r, e, a, b⟩ := h
    exact ⟨y, r, e, RV.evo E x y a, RFs.evo E xs r b⟩
end
theorem RKs.evo (E : Evo0 L H L' H') : ∀ (w : List (DK × W)) (v : List (Key × V)), RKs T L H w v → RKs T L' H' w v
  | [], v, h => h
  | (k, x) :: xs, v, h => by
    obtain ⟨y, r, e, a, b⟩ := h
    exact ⟨y, r, e, RV.evo E x y a, RKs.evo E xs r b⟩
theorem RO.evo (E : Evo0 L H L' H') : ∀ (o : O) (ho : HO), RO T L H o ho → RO T L' H' o ho
  | .lst xs, _, ⟨vs, e, r⟩ => ⟨vs, e, RVs.evo E xs vs r⟩
  | .dct kvs, _, ⟨vs, e, r⟩ => ⟨vs, e, RKs.evo E kvs vs r⟩
  | .ins c fs, _, ⟨dx, fv, e, nn, nl, r⟩ => by
    cases q : H dx with
    | none => exact absurd q nn
    | some o => exact ⟨dx, fv, e, (by rw [E.keep dx o q nl]; exact (fun z => nomatch z)), E.nl dx o q nl, RFs.evo E fs fv r⟩
  | .dead, _, _ => trivial

theorem RVs.length : ∀ {w : List W} {v : List V}, RVs T L H w v → v.length = w.length
  | [], v, h => by
    have e : v = [] := h
    subst e; rfl
  | x :: xs, v, h => by
    obtain ⟨y, r, e, a, b⟩ := h
    subst e
    simp [RVs.length b]
theorem RVs.get : ∀ {w : List W} {v : List V} {i : Nat} {x : W}, RVs T L H w v → w[i]? = some x → ∃ y, v[i]? = some y ∧ RV T L H x y
  | x :: xs, v, 0, z, h, e => by
    obtain ⟨y, r, e', a, b⟩ := h
    subst e'
    simp at e
    subst e
    exact ⟨y, rfl, a⟩
  | x :: xs, v, i + 1, z, h, e => by
    obtain ⟨y, r, e', a, b⟩ := h
    subst e'
    obtain ⟨u, q1, q2⟩ := RVs.get (i := i) b (by simpa using e)
    exact ⟨u, by simpa using q1, q2⟩
theorem RVs.got : ∀ {w : List W} {v : List V} {i : Nat} {y : V}, RVs T L H w v → v[i]? = some y → ∃ x, w[i]? = some x ∧ RV T L H x y
  | [], v, i, y, h, e => by
    have e' : v = [] := h
    subst e'
    simp at e
  | x :: xs, v, 0, z, h, e => by
    obtain ⟨y, r, e', a, b⟩ := h
    subst e'
    simp at e
    subst e
    exact ⟨x, rfl, a⟩
  | x :: xs, v, i + 1, z, h, e => by
    obtain ⟨y, r, e', a, b⟩ := h
    subst e'
    obtain ⟨u, q1, q2⟩ := RVs.got (i := i) b (by simpa using e)
    exact ⟨u, by simpa using q1, q2⟩
theorem RVs.append : ∀ {w w' : List W} {v v' : List V}, RVs T L H w v → RVs T L H w' v' → RVs T L H (w ++ w') (v ++ v')
  | [], _, v, _, h, h' => by
    have e : v = [] := h
    subst e
    simpa using h'
  | x :: xs, _, v, _, h, h' => by
    obtain ⟨y, r, e, a, b⟩ := h
    subst e
    exact ⟨y, r ++ _, rfl, a, RVs.append b h'⟩
theorem RVs.one {x : W} {y : V} (h : RV T L H x y) : RVs T L H [x] [y] := ⟨y, [], rfl, h, rfl⟩
theorem RVs.take : ∀ (n : Nat) {w : List W} {v : List V}, RVs T L H w v → RVs T L H (w.take n) (v.take n)
  | 0, _, _, _ => by simp [RVs]
  | n + 1, [], v, h => by
    have e : v = [] := h
    subst e
    simp [RVs]
  | n + 1, x :: xs, v, h => by
    obtain ⟨y, r, e, a, b⟩ := h
    subst e
    exact ⟨y, r.take n, rfl, a, RVs.take n b⟩
theorem RVs.drop : ∀ (n : Nat) {w : List W} {v : List V}, RVs T L H w v → RVs T L H (w.drop n) (v.drop n)
  | 0, _, _, h => by simpa using h
  | n + 1, [], v, h => by
    have e : v = [] := h
    subst e
    simp [RVs]
  | n + 1, x :: xs, v, h => by
    obtain ⟨y, r, e, a, b⟩ := h
    subst e
    exact RVs.drop n b
theorem RVs.set : ∀ (i : Nat) {w : List W} {v : List V} {x : W} {y : V}, RVs T L H w v → RV T L H x y → RVs T L H (w.set i x) (v.set i y)
  | _, [], v, _, _, h, _ => by
    have e : v = [] := h
    subst e
    simp [RVs]
  | 0, x :: xs, v, x', y', h, q => by
    obtain ⟨y, r, e, a, b⟩ := h
    subst e
    exact ⟨y', r, rfl, q, b⟩
  | i + 1, x :: xs, v, x', y', h, q => by
    obtain ⟨y, r, e, a, b⟩ := h
    subst e
    exact ⟨y, r.set i y', rfl, a, RVs.set i b q⟩
theorem RVs.paired : ∀ {w : List W} {v : List V}, RVs T L H w v → Paired (RV T L H) w v
  | [], v, h => by
    have e : v = [] := h
    subst e
    exact .nil
  | x :: xs, v, h => by
    obtain ⟨y, r, e, a, b⟩ := h
    subst e
    exact .cons a (RVs.paired b)
theorem RVs.of : ∀ {w : List W} {v : List V}, Paired (RV T L H) w v → RVs T L H w v
  | _, _, .nil => rfl
  | _, _, .cons a b => ⟨_, _, rfl, a, RVs.of b⟩
end
/-! ### cells: laid, written, dead, dropped -/
def LL.push (L : LL) (p : Addr) : LL := ⟨L.cs ++ [some p], L.bz⟩
def LL.kill (L : LL) (n : Nat) : LL := ⟨L.cs.set n none, L.bz⟩
def LL.take (L : LL) (n : Nat) : LL := ⟨L.cs.take n, L.bz⟩
def LL.open (L : LL) (b : Addr) : LL := ⟨L.cs, b :: L.bz⟩
section
variable {T : Tb} {L L' : LL} {H H' : Hp} {h : Hh}
theorem live_of {L : LL} {n : Nat} {a : Addr} (e : L.cs[n]? = some (some a)) : Live L a := .inl (List.mem_of_getElem? e)
theorem live_get {L : LL} {a : Addr} (e : some a ∈ L.cs) : ∃ n : Nat, L.cs[n]? = some (some a) := List.mem_iff_getElem?.mp e
theorem Rel.there (R : Rel T L h H) {a : Addr} (l : Live L a) : ∃ o, H a = some o := by
  rcases l with l | l
  · obtain ⟨n, e⟩ := live_get l
    obtain ⟨o, ho, _, q, _⟩ := R.cell n a e
    exact ⟨ho, q⟩
  · exact (R.busy a l).2
theorem Rel.fresh (R : Rel T L h H) {p : Addr} (hp : H p = none) : ¬ Live L p := fun l => by
  obtain ⟨o, e⟩ := R.there l
  rw [hp] at e; cases e
/-- a new plain object -/
theorem Rel.new (R : Rel T L h H) {p : Addr} (hp : H p = none) (o : HO) : Evo L H L (upd H p o) :=
  ⟨⟨fun a o' e _ => by rw [upd_ne (ne_of_none e hp)]; exact e, fun _ _ _ n => n, fun _ _ e => .inl e, fun _ e => e⟩, rfl, fun b hb => by
    obtain ⟨_, o', e2⟩ := R.busy b hb
    rw [upd_ne (ne_of_none e2 hp)]⟩
theorem Rel.newR (R : Rel T L h H) {p : Addr} (hp : H p = none) (o : HO) : Rel T L h (upd H p o) :=
  ⟨R.len, fun n a e => by
    obtain ⟨c, ho, e1, e2, e3⟩ := R.cell n a e
    exact ⟨c, ho, e1, by rw [upd_ne (ne_of_none e2 hp)]; exact e2, RO.evo (R.new hp o).toEvo0 c ho e3⟩, R.gone, R.inj, fun b hb => by
    obtain ⟨e1, o', e2⟩ := R.busy b hb
    exact ⟨e1, o', by rw [upd_ne (ne_of_none e2 hp)]; exact e2⟩⟩
/-- a new cell -/
theorem Rel.lay (R : Rel T L h H) {p : Addr} (hp : H p = none) (ho : HO) : Evo L H (L.push p) (upd H p ho) where
  keep := fun a o' e _ => by rw [upd_ne (ne_of_none e hp)]; exact e
  nl := fun a o' e n z => by
    rcases z with z | z
    · rcases List.mem_append.mp z with z | z
      · exact n (.inl z)
      · have e' : a = p := by simpa using z
        subst e'
        rw [hp] at e; cases e
    · exact n (.inr z)
  ref := fun n a e => .inl (by show (L.cs ++ [some p])[n]? = _; rw [List.getElem?_append_left (List.getElem?_eq_some_iff.mp e).1]; exact e)
  dead := fun n e => by show (L.cs ++ [some p])[n]? = _; rw [List.getElem?_append_left (List.getElem?_eq_some_iff.mp e).1]; exact e
  bz := rfl
  bk := fun b hb => by
    obtain ⟨_, o', e2⟩ := R.busy b hb
    rw [upd_ne (ne_of_none e2 hp)]
theorem push_get {L : LL} {p a : Addr} {n : Nat} (e : (L.push p).cs[n]? = some (some a)) : (n < L.cs.length ∧ L.cs[n]? = some (some a)) ∨ (n = L.cs.length ∧ a = p) := by
  have e : (L.cs ++ [some p])[n]? = some (some a) := e
  by_cases hn : n < L.cs.length
  · rw [List.getElem?_append_left hn] at e
    exact .inl ⟨hn, e⟩
  · have hl : n = L.cs.length := by
      have := (List.getElem?_eq_some_iff.mp e).1
      simp at this
      omega
    subst hl
    rw [List.getElem?_concat_length] at e
    cases e
    exact .inr ⟨rfl, rfl⟩
theorem push_last {L : LL} {p : Addr} : (L.push p).cs[L.cs.length]? = some (some p) := List.getElem?_concat_length
theorem Rel.layR (R : Rel T L h H) {p : Addr} {o : O} {ho : HO} (hp : H p = none) (r : RO T (L.push p) (upd H p ho) o ho) : Rel T (L.push p) (h ++ [o]) (upd H p ho) where
  len := by simp [R.len, LL.push]
  cell := fun n a e => by
    rcases push_get e with ⟨hn, q⟩ | ⟨hn, q⟩
    · obtain ⟨c, k, e1, e2, e3⟩ := R.cell n a q
      refine ⟨c, k, ?_, ?_, RO.evo (R.lay hp ho).toEvo0 c k e3⟩
      · rw [List.getElem?_append_left (by rw [← R.len]; exact hn)]; exact e1
      · rw [upd_ne (ne_of_none e2 hp)]; exact e2
    · subst hn q
      refine ⟨o, ho, ?_, upd_same, r⟩
      rw [R.len, List.getElem?_concat_length]
  gone := fun n e => by
    have e : (L.cs ++ [some p])[n]? = some none := e
    by_cases hn : n < L.cs.length
    · rw [List.getElem?_append_left hn] at e
      rw [List.getElem?_append_left (by rw [← R.len]; exact hn)]
      exact R.gone n e
    · have hl : n = L.cs.length := by
        have := (List.getElem?_eq_some_iff.mp e).1
        simp at this
        omega
      subst hl
      rw [List.getElem?_concat_length] at e
      cases e
  inj := fun n m a e1 e2 => by
    rcases push_get e1 with ⟨hn, q1⟩ | ⟨hn, q1⟩ <;> rcases push_get e2 with ⟨hm, q2⟩ | ⟨hm, q2⟩
    · exact R.inj n m a q1 q2
    · subst q2
      exact absurd (live_of q1) (R.fresh hp)
    · subst q1
      exact absurd (live_of q2) (R.fresh hp)
    · rw [hn, hm]
  busy := fun b hb => by
    obtain ⟨e1, o', e2⟩ := R.busy b hb
    refine ⟨fun z => ?_, o', by rw [upd_ne (ne_of_none e2 hp)]; exact e2⟩
    rcases List.mem_append.mp z with z | z
    · exact e1 z
    · have e' : b = p := by simpa using z
      subst e'
      rw [hp] at e2; cases e2
/-- a cell is written -/
theorem put0 {L : LL} {H : Hp} {a : Addr} (e : Live L a) (ho : HO) : Evo0 L H L (upd H a ho) :=
  ⟨fun b o' q nl => by rw [upd_ne (fun z => nl (by rw [z]; exact e))]; exact q, fun _ _ _ n => n, fun _ _ e => .inl e, fun _ e => e⟩
theorem Rel.put (R : Rel T L h H) {n : Nat} {a : Addr} (e : L.cs[n]? = some (some a)) (ho : HO) : Evo L H L (upd H a ho) :=
  ⟨put0 (live_of e) ho, rfl, fun b hb => by rw [upd_ne (fun z => (R.busy b hb).1 (by rw [z]; exact List.mem_of_getElem? e))]⟩
theorem Rel.putR (R : Rel T L h H) {n : Nat} {a : Addr} {o : O} {ho : HO} (e : L.cs[n]? = some (some a)) (r : RO T L (upd H a ho) o ho) : Rel T L (h.set n o) (upd H a ho) where
  len := by simp [R.len]
  cell := fun m b q => by
    by_cases hm : m = n
    · subst hm
      rw [e] at q; cases q
      refine ⟨o, ho, ?_, upd_same, r⟩
      rw [List.getElem?_set_self (by rw [← R.len]; exact (List.getElem?_eq_some_iff.mp e).1)]
    · have hb : b ≠ a := fun z => hm (R.inj m n b q (by rw [z]; exact e))
      obtain ⟨c, k, e1, e2, e3⟩ := R.cell m b q
      exact ⟨c, k, by rw [List.getElem?_set_ne (Ne.symm hm)]; exact e1, by rw [upd_ne hb]; exact e2, RO.evo (R.put e ho).toEvo0 c k e3⟩
  gone := fun m q => by
    have hm : n ≠ m := fun z => by
      subst z
      rw [e] at q; cases q
    rw [List.getElem?_set_ne hm]
    exact R.gone m q
  inj := R.inj
  busy := fun b hb => by
    obtain ⟨e1, o', e2⟩ := R.busy b hb
    refine ⟨e1, o', by rw [upd_ne (fun z => e1 (by rw [z]; exact List.mem_of_getElem? e))]; exact e2⟩
/-- a busy object is written -/
theorem Rel.putB (R : Rel T L h H) {a : Addr} {ho : HO} (hb : a ∈ L.bz) : Rel T L h (upd H a ho) where
  len := R.len
  cell := fun m b q => by
    have hne : b ≠ a := fun z => (R.busy a hb).1 (by rw [← z]; exact List.mem_of_getElem? q)
    obtain ⟨c, k, e1, e2, e3⟩ := R.cell m b q
    exact ⟨c, k, e1, by rw [upd_ne hne]; exact e2, RO.evo (put0 (.inr hb) ho) c k e3⟩
  gone := R.gone
  inj := R.inj
  busy := fun b hb' => by
    obtain ⟨e1, o', e2⟩ := R.busy b hb'
    by_cases z : b = a
    · subst z
      exact ⟨e1, ho, upd_same⟩
    · exact ⟨e1, o', by rw [upd_ne z]; exact e2⟩
/-- an object that is to be made -/
theorem Rel.opn (R : Rel T L h H) {p : Addr} (hp : H p = none) (ho : HO) : Evo0 L H (L.open p) (upd H p ho) where
  keep := fun a o' e _ => by rw [upd_ne (ne_of_none e hp)]; exact e
  nl := fun a o' e n z => by
    rcases z with z | z
    · exact n (.inl z)
    · rcases List.mem_cons.mp z with z | z
      · subst z
        rw [hp] at e; cases e
      · exact n (.inr z)
  ref := fun _ _ e => .inl e
  dead := fun _ e => e
theorem Rel.opnR (R : Rel T L h H) {p : Addr} (hp : H p = none) (ho : HO) : Rel T (L.open p) h (upd H p ho) where
  len := R.len
  cell := fun m b q => by
    obtain ⟨c, k, e1, e2, e3⟩ := R.cell m b q
    exact ⟨c, k, e1, by rw [upd_ne (ne_of_none e2 hp)]; exact e2, RO.evo (R.opn hp ho) c k e3⟩
  gone := R.gone
  inj := R.inj
  busy := fun b hb => by
    rcases List.mem_cons.mp hb with z | z
    · subst z
      exact ⟨fun z => R.fresh hp (.inl z), ho, upd_same⟩
    · obtain ⟨e1, o', e2⟩ := R.busy b z
      exact ⟨e1, o', by rw [upd_ne (ne_of_none e2 hp)]; exact e2⟩
/-- .. and is made: in reach from now on -/
theorem Evo0.shut {p : Addr} {bz : List Addr} (e : L.bz = p :: bz) : Evo0 L H ⟨L.cs, bz⟩ H where
  keep := fun _ _ e _ => e
  nl := fun a o _ nl z => nl (by
    rcases z with z | z
    · exact .inl z
    · exact .inr (by rw [e]; exact List.mem_cons_of_mem _ z))
  ref := fun _ _ e => .inl e
  dead := fun _ e => e
theorem Rel.shutR (R : Rel T L h H) {p : Addr} {bz : List Addr} (e : L.bz = p :: bz) : Rel T ⟨L.cs, bz⟩ h H where
  len := R.len
  cell := fun m b q => by
    obtain ⟨c, k, e1, e2, e3⟩ := R.cell m b q
    exact ⟨c, k, e1, e2, RO.evo (Evo0.shut e) c k e3⟩
  gone := R.gone
  inj := R.inj
  busy := fun b hb => R.busy b (by rw [e]; exact List.mem_cons_of_mem _ hb)
/-- from before it was to be made -/
theorem Evo.onto {L0 L1 : LL} {H0 H1 : Hp} {p : Addr} {bz : List Addr} (hp : H0 p = none) (E0 : Evo L0 H0 ⟨L.cs, bz⟩ H) (e : L.bz = p :: bz) (E : Evo L H L1 H1) : Evo L0 H0 ⟨L1.cs, bz⟩ H1 := by
  have nlL : ∀ a o, H0 a = some o → ¬ Live L0 a → ¬ Live L a := fun a o q n z => by
    have hn := E0.nl a o q n
    rcases z with z | z
    · exact hn (.inl z)
    · rw [e] at z
      rcases List.mem_cons.mp z with z | z
      · rw [z, hp] at q
        cases q
      · exact hn (.inr z)
  refine ⟨⟨fun a o q n => E.keep a o (E0.keep a o q n) (nlL a o q n), fun a o q n z => ?_, fun n a q => ?_, fun n q => E.dead n (E0.dead n q)⟩, E0.bz, fun b hb => ?_⟩
  · refine E.nl a o (E0.keep a o q n) (nlL a o q n) ?_
    rcases z with z | z
    · exact .inl z
    · exact .inr (by rw [E.bz, e]; exact List.mem_cons_of_mem _ z)
  · rcases E0.ref n a q with z | z
    · exact E.ref n a z
    · exact .inr (E.dead n z)
  · have hb' : b ∈ bz := by
      have := E0.bz
      rw [show bz = L0.bz from this]
      exact hb
    exact (E.bk b (by rw [e]; exact List.mem_cons_of_mem _ hb')).trans (E0.bk b hb)
theorem Rel.opn' (R : Rel T L h H) {p : Addr} (hp : H p = none) (ho : HO) : Evo L H ⟨(L.open p).cs, L.bz⟩ (upd H p ho) := R.new hp ho
/-- the object that was to be made becomes a cell -/
def LL.mv (L : LL) (p : Addr) (bz : List Addr) : LL := ⟨L.cs ++ [some p], bz⟩
theorem Evo0.mv {p : Addr} {bz : List Addr} (e : L.bz = p :: bz) : Evo0 L H (L.mv p bz) H where
  keep := fun _ _ q _ => q
  nl := fun a o _ nl z => nl (by
    rcases z with z | z
    · rcases List.mem_append.mp z with z | z
      · exact .inl z
      · have e' : a = p := by simpa using z
        exact .inr (by rw [e, e']; exact List.mem_cons_self)
    · exact .inr (by rw [e]; exact List.mem_cons_of_mem _ z))
  ref := fun n a q => .inl (by show (L.cs ++ [some p])[n]? = _; rw [List.getElem?_append_left (List.getElem?_eq_some_iff.mp q).1]; exact q)
  dead := fun n q => by show (L.cs ++ [some p])[n]? = _; rw [List.getElem?_append_left (List.getElem?_eq_some_iff.mp q).1]; exact q
theorem Rel.mvR (R : Rel T L h H) {p : Addr} {bz : List Addr} {o : O} {ho : HO} (nd : p ∉ bz) (e : L.bz = p :: bz) (q : H p = some ho) (r : RO T L H o ho) : Rel T (L.mv p bz) (h ++ [o]) H where
  len := by simp [R.len, LL.mv]
  cell := fun n a e1 => by
    rcases push_get (L := L) (p := p) e1 with ⟨hn, q1⟩ | ⟨hn, q1⟩
    · obtain ⟨c, k, e1, e2, e3⟩ := R.cell n a q1
      exact ⟨c, k, by rw [List.getElem?_append_left (by rw [← R.len]; exact hn)]; exact e1, e2, RO.evo (Evo0.mv e) c k e3⟩
    · subst hn q1
      exact ⟨o, ho, by rw [R.len, List.getElem?_concat_length], q, RO.evo (Evo0.mv e) o ho r⟩
  gone := fun n e1 => by
    have e1 : (L.cs ++ [some p])[n]? = some none := e1
    by_cases hn : n < L.cs.length
    · rw [List.getElem?_append_left hn] at e1
      rw [List.getElem?_append_left (by rw [← R.len]; exact hn)]
      exact R.gone n e1
    · have hl : n = L.cs.length := by
        have := (List.getElem?_eq_some_iff.mp e1).1
        simp at this
        omega
      subst hl
      rw [List.getElem?_concat_length] at e1
      cases e1
  inj := fun n m a e1 e2 => by
    have hpn := (R.busy p (by rw [e]; exact List.mem_cons_self)).1
    rcases push_get (L := L) (p := p) e1 with ⟨hn, q1⟩ | ⟨hn, q1⟩ <;> rcases push_get (L := L) (p := p) e2 with ⟨hm, q2⟩ | ⟨hm, q2⟩
    · exact R.inj n m a q1 q2
    · subst q2
      exact absurd (List.mem_of_getElem? q1) hpn
    · subst q1
      exact absurd (List.mem_of_getElem? q2) hpn
    · rw [hn, hm]
  busy := fun b hb => by
    obtain ⟨e1, e2⟩ := R.busy b (by rw [e]; exact List.mem_cons_of_mem _ hb)
    refine ⟨fun z => ?_, e2⟩
    rcases List.mem_append.mp z with z | z
    · exact e1 z
    · have e' : b = p := by simpa using z
      subst e'
      exact nd hb
/-- a cell is dead -/
theorem Evo.kill {L : LL} {H : Hp} (n : Nat) : Evo L H (L.kill n) H where
  keep := fun _ _ e _ => e
  nl := fun a o _ nl z => nl (by
    rcases z with z | z
    · rcases List.mem_or_eq_of_mem_set z with z | z
      · exact .inl z
      · cases z
    · exact .inr z)
  ref := fun m a e => by
    by_cases hm : m = n
    · subst hm
      exact .inr (by show (L.cs.set m none)[m]? = _; rw [List.getElem?_set_self (List.getElem?_eq_some_iff.mp e).1])
    · exact .inl (by show (L.cs.set n none)[m]? = _; rw [List.getElem?_set_ne (Ne.symm hm)]; exact e)
  dead := fun m e => by
    show (L.cs.set n none)[m]? = _
    by_cases hm : m = n
    · subst hm
      rw [List.getElem?_set_self (List.getElem?_eq_some_iff.mp e).1]
    · rw [List.getElem?_set_ne (Ne.symm hm)]; exact e
  bz := rfl
  bk := fun _ _ => rfl
theorem get_of_kill {L : LL} {n m : Nat} {a : Addr} (e : (L.kill n).cs[m]? = some (some a)) : m ≠ n ∧ L.cs[m]? = some (some a) := by
  have e : (L.cs.set n none)[m]? = some (some a) := e
  by_cases hm : m = n
  · subst hm
    by_cases hl : m < L.cs.length
    · rw [List.getElem?_set_self hl] at e; cases e
    · rw [List.getElem?_eq_none (by simpa using hl)] at e; cases e
  · rw [List.getElem?_set_ne (Ne.symm hm)] at e
    exact ⟨hm, e⟩
theorem Rel.killR (R : Rel T L h H) (n : Nat) : Rel T (L.kill n) (h.set n .dead) H where
  len := by simp [R.len, LL.kill]
  cell := fun m a e => by
    obtain ⟨hm, e'⟩ := get_of_kill e
    obtain ⟨c, k, e1, e2, e3⟩ := R.cell m a e'
    exact ⟨c, k, by rw [List.getElem?_set_ne (Ne.symm hm)]; exact e1, e2, RO.evo (Evo.kill n).toEvo0 c k e3⟩
  gone := fun m e => by
    have e : (L.cs.set n none)[m]? = some none := e
    by_cases hm : n = m
    · subst hm
      have hl : n < L.cs.length := by
        have := (List.getElem?_eq_some_iff.mp e).1
        simpa using this
      rw [List.getElem?_set_self (by rw [← R.len]; exact hl)]
    · rw [List.getElem?_set_ne hm] at e
      rw [List.getElem?_set_ne hm]
      exact R.gone m e
  inj := fun m k a e1 e2 => R.inj m k a (get_of_kill e1).2 (get_of_kill e2).2
  busy := fun b hb => by
    obtain ⟨e1, e2⟩ := R.busy b hb
    refine ⟨fun z => ?_, e2⟩
    rcases List.mem_or_eq_of_mem_set z with z | z
    · exact e1 z
    · cases z
theorem not_live_killed (R : Rel T L h H) {n : Nat} {a : Addr} (e : L.cs[n]? = some (some a)) : ¬ Live (L.kill n) a := fun l => by
  rcases l with l | l
  · obtain ⟨m, q⟩ := live_get l
    obtain ⟨hm, q'⟩ := get_of_kill q
    exact hm (R.inj m n a q' e)
  · exact (R.busy a l).1 (List.mem_of_getElem? e)

/-! ### the cells behind a place are dropped -/
theorem not_live_take {n : Nat} {a : Addr} (h : ¬ Live L a) : ¬ Live (L.take n) a := fun z => h (by
  rcases z with z | z
  · exact .inl (List.mem_of_mem_take z)
  · exact .inr z)
mutual
theorem RV.cut (n : Nat) : ∀ (w : W) (v : V), wlo n w = true → RV T L H w v → RV T (L.take n) H w v
  | .non, v, _, h => h
  | .bl b, v, _, h => h
  | .int i, v, _, h => h
  | .str x, v, _, h => h
  | .tup xs, v, b, h => by
    obtain ⟨a, vs, e, t, r⟩ := h
    refine ⟨a, vs, e, ?_, RVs.cut n xs vs b r⟩
    rcases t with ⟨t, q⟩ | t
    · exact .inl ⟨t, not_live_take q⟩
    · exact .inr t
  | .lst xs, v, b, h => by
    obtain ⟨a, vs, e, t, r⟩ := h
    exact ⟨a, vs, e, ⟨t.1, not_live_take t.2⟩, RVs.cut n xs vs b r⟩
  | .frz xs, v, b, h => by
    obtain ⟨a, vs, e, t, r⟩ := h
    refine ⟨a, vs, e, ?_, RVs.cut n xs vs b r⟩
    rcases t with ⟨t, q⟩ | t
    · exact .inl ⟨t, not_live_take q⟩
    · exact .inr t
  | .ref m, v, b, h => by
    have hm : m < n := of_decide_eq_true b
    rcases h with ⟨a, e, q⟩ | q
    · exact .inl ⟨a, e, by show (L.cs.take n)[m]? = _; rw [List.getElem?_take_of_lt hm]; exact q⟩
    · exact .inr (by show (L.cs.take n)[m]? = _; rw [List.getElem?_take_of_lt hm]; exact q)
  | .ins c fs, v, b, h => by
    obtain ⟨a, dx, fv, e, t, q, r⟩ := h
    exact ⟨a, dx, fv, e, t, not_live_take q, RFs.cut n fs fv b r⟩
  | .cls c, v, _, h => h
  | .exn c p, v, _, h => h
theorem RVs.cut (n : Nat) : ∀ (w : List W) (v : List V), wlos n w = true → RVs T L H w v → RVs T (L.take n) H w v
  | [], v, _, h => h
  | x :: xs, v, b, h => by
    obtain ⟨y, r, e, a, q⟩ := h
    have b' : (wlo n x && wlos n xs) = true := b
    rw [Bool.and_eq_true] at b'
    exact ⟨y, r, e, RV.cut n x y b'.1 a, RVs.cut n xs r b'.2 q⟩
theorem RFs.cut (n : Nat) : ∀ (w : List (Nat × W)) (v : List (Str × V)), wlof n w = true → RFs T L H w v → RFs T (L.take n) H w v
  | [], v, _, h => h
  | (k, x) :: xs, v, b, h => by
    obtain ⟨y, r, e, a, q⟩ := h
    have b' : (wlo n x && wlof n xs) = true := b
    rw [Bool.and_eq_true] at b'
    exact ⟨y, r, e, RV.cut n x y b'.1 a, RFs.cut n xs r b'.2 q⟩
end
theorem RKs.cut (n : Nat) : ∀ (w : List (DK × W)) (v : List (Key × V)), wlok n w = true → RKs T L H w v → RKs T (L.take n) H w v
  | [], v, _, h => h
  | (k, x) :: xs, v, b, h => by
    obtain ⟨y, r, e, a, q⟩ := h
    have b' : (wlo n x && wlok n xs) = true := b
    rw [Bool.and_eq_true] at b'
    exact ⟨y, r, e, RV.cut n x y b'.1 a, RKs.cut n xs r b'.2 q⟩
theorem RO.cut (n : Nat) : ∀ (o : O) (ho : HO), o.lo n = true → RO T L H o ho → RO T (L.take n) H o ho
  | .lst xs, _, b, ⟨vs, e, r⟩ => ⟨vs, e, RVs.cut n xs vs b r⟩
  | .dct kvs, _, b, ⟨vs, e, r⟩ => ⟨vs, e, RKs.cut n kvs vs b r⟩
  | .ins c fs, _, b, ⟨dx, fv, e, nn, nl, r⟩ => ⟨dx, fv, e, nn, not_live_take nl, RFs.cut n fs fv b r⟩
  | .dead, _, _, _ => trivial
theorem take_get {n m : Nat} {o : Option Addr} (e : (L.take n).cs[m]? = some o) : m < n ∧ L.cs[m]? = some o := by
  have e : (L.cs.take n)[m]? = some o := e
  have hm : m < n := by
    have := (List.getElem?_eq_some_iff.mp e).1
    simp at this
    omega
  rw [List.getElem?_take_of_lt hm] at e
  exact ⟨hm, e⟩
theorem Rel.cutR (R : Rel T L h H) (n : Nat) (b : (h.take n).all (O.lo n) = true) : Rel T (L.take n) (h.take n) H where
  len := by simp [R.len, LL.take]
  cell := fun m a e => by
    obtain ⟨hm, e⟩ := take_get e
    obtain ⟨c, k, e1, e2, e3⟩ := R.cell m a e
    have e1' : (h.take n)[m]? = some c := by rw [List.getElem?_take_of_lt hm]; exact e1
    exact ⟨c, k, e1', e2, RO.cut n c k (List.all_eq_true.mp b c (List.mem_of_getElem? e1')) e3⟩
  gone := fun m e => by
    obtain ⟨hm, e⟩ := take_get e
    rw [List.getElem?_take_of_lt hm]
    exact R.gone m e
  inj := fun m k a e1 e2 => R.inj m k a (take_get e1).2 (take_get e2).2
  busy := fun b hb => by
    obtain ⟨e1, e2⟩ := R.busy b hb
    exact ⟨fun z => e1 (List.mem_of_mem_take z), e2⟩
theorem Evo.cut (E : Evo L H L' H') (n : Nat) (hn : L.cs.length ≤ n) : Evo L H (L'.take n) H' where
  keep := E.keep
  nl := fun a o e q => not_live_take (E.nl a o e q)
  ref := fun m a e => by
    have hm : m < n := Nat.lt_of_lt_of_le (List.getElem?_eq_some_iff.mp e).1 hn
    show (L'.cs.take n)[m]? = _ ∨ (L'.cs.take n)[m]? = _
    rw [List.getElem?_take_of_lt hm]
    exact E.ref m a e
  dead := fun m e => by
    have hm : m < n := Nat.lt_of_lt_of_le (List.getElem?_eq_some_iff.mp e).1 hn
    show (L'.cs.take n)[m]? = _
    rw [List.getElem?_take_of_lt hm]
    exact E.dead m e
  bz := E.bz
  bk := E.bk
end

/-! ### slots -/
/-- an exception that is handled, at v -/
def RX (T : Tb) (L : LL) (H : Hp) (c : Nat) (p : W) (cls : Value) (d : Option Addr) : Prop :=
  cls = .ref (T.cA c) ∧ match T.pay c with
  | none => p = .non ∧ d = none
  | some f => ∃ dx u, d = some dx ∧ H dx = some (.xd [(T.fN f, u)]) ∧ ¬ Live L dx ∧ RV T L H p u
theorem RX.evo {T : Tb} {L L' : LL} {H H' : Hp} {c : Nat} {p : W} {cls : Value} {d : Option Addr} (E : Evo0 L H L' H') (r : RX T L H c p cls d) : RX T L' H' c p cls d := by
  obtain ⟨e, r⟩ := r
  refine ⟨e, ?_⟩
  split at r
  · exact r
  · obtain ⟨dx, u, e1, e2, e4, e5⟩ := r
    exact ⟨dx, u, e1, E.keep _ _ e2 e4, E.nl _ _ e2 e4, RV.evo E _ _ e5⟩
/-- a slot's value -/
def RS (T : Tb) (pn : List (Addr × Obj)) (L : LL) (H : Hp) (w : W) (v : V) : Prop := match w with
  | .exn c p => ∃ a oe d, v = .ref a ∧ (a, oe) ∈ pn ∧ oe.cls = .ref (T.cA c) ∧ oe.dict = d ∧ (∃ vs, oe.data = .fields vs) ∧ RX T L H c p (.ref (T.cA c)) d
  | w => RV T L H w v
theorem RS.evo {T : Tb} {pn : List (Addr × Obj)} {L L' : LL} {H H' : Hp} {w : W} {v : V} (E : Evo0 L H L' H') (r : RS T pn L H w v) : RS T pn L' H' w v := by
  cases w with
  | exn c p =>
    obtain ⟨a, oe, d, e1, e2, e3, e4, e5, e6⟩ := r
    exact ⟨a, oe, d, e1, e2, e3, e4, e5, e6.evo E⟩
  | _ => exact RV.evo E _ _ r
theorem RS.of {T : Tb} {pn : List (Addr × Obj)} {L : LL} {H : Hp} {w : W} {v : V} (r : RV T L H w v) : RS T pn L H w v := by
  cases w with
  | exn c p => exact r.elim
  | _ => exact r
theorem RS.rv {T : Tb} {pn : List (Addr × Obj)} {L : LL} {H : Hp} {w : W} {v : V} (r : RS T pn L H w v) (h : isExn w = false) : RV T L H w v := by
  cases w with
  | exn c p => cases h
  | _ => exact r
structure REnv (T : Tb) (pn : List (Addr × Obj)) (L : LL) (H : Hp) (ρ : Env) (σ : L2.St) : Prop where
  len : ρ.length = σ.length
  at_ : ∀ (i : Nat) (w : W), ρ[i]? = some (some w) → ∃ v, σ[i]? = some (some v) ∧ RS T pn L H w v
section
variable {T : Tb} {pn : List (Addr × Obj)} {L L' : LL} {H H' : Hp} {ρ : Env} {σ : L2.St}
theorem REnv.evo (E : Evo0 L H L' H') (R : REnv T pn L H ρ σ) : REnv T pn L' H' ρ σ :=
  ⟨R.len, fun i w e => let ⟨v, a, b⟩ := R.at_ i w e; ⟨v, a, b.evo E⟩⟩
theorem REnv.setS (R : REnv T pn L H ρ σ) (i : Nat) {w : W} {v : V} (r : RS T pn L H w v) : REnv T pn L H (ρ.set i (some w)) (σ.set i (some v)) := by
  refine ⟨by simp [R.len], fun j u e => ?_⟩
  by_cases hj : i = j
  · subst hj
    have hi : i < ρ.length := by
      have := (List.getElem?_eq_some_iff.mp e).1
      simpa using this
    rw [List.getElem?_set_self hi] at e
    cases e
    exact ⟨v, by rw [List.getElem?_set_self (by rw [← R.len]; exact hi)], r⟩
  · rw [List.getElem?_set_ne hj] at e
    obtain ⟨v', a, b⟩ := R.at_ j u e
    exact ⟨v', by rw [List.getElem?_set_ne hj]; exact a, b⟩
theorem REnv.set (R : REnv T pn L H ρ σ) (i : Nat) {w : W} {v : V} (r : RV T L H w v) : REnv T pn L H (ρ.set i (some w)) (σ.set i (some v)) := R.setS i (.of r)
theorem REnv.unset (R : REnv T pn L H ρ σ) (i : Nat) (o : Option V) : REnv T pn L H (ρ.set i none) (σ.set i o) := by
  refine ⟨by simp [R.len], fun j u e => ?_⟩
  by_cases hj : i = j
  · subst hj
    have hi : i < ρ.length := by
      have := (List.getElem?_eq_some_iff.mp e).1
      simpa using this
    rw [List.getElem?_set_self hi] at e
    cases e
  · rw [List.getElem?_set_ne hj] at e
    obtain ⟨v', a, b⟩ := R.at_ j u e
    exact ⟨v', by rw [List.getElem?_set_ne hj]; exact a, b⟩
theorem REnv.pins {pn' : List (Addr × Obj)} (R : REnv T pn L H ρ σ) (s : ∀ p ∈ pn, p ∈ pn') : REnv T pn' L H ρ σ :=
  ⟨R.len, fun i w e => by
    obtain ⟨v, a, b⟩ := R.at_ i w e
    refine ⟨v, a, ?_⟩
    cases w with
    | exn c p =>
      obtain ⟨a, oe, d, e1, e2, e3, e4, e5, e6⟩ := b
      exact ⟨a, oe, d, e1, s _ e2, e3, e4, e5, e6⟩
    | _ => exact b⟩
theorem REnv.nopins {pn' : List (Addr × Obj)} (R : REnv T pn L H ρ σ) (s : noX ρ = true) : REnv T pn' L H ρ σ :=
  ⟨R.len, fun i w e => by
    obtain ⟨v, a, b⟩ := R.at_ i w e
    have z := List.all_eq_true.mp s _ (List.mem_of_getElem? e)
    exact ⟨v, a, .of (b.rv (by simpa using z))⟩⟩
end
end LP
/-! LP, part 2: the operators, the built-in calls, by plain values. -/
namespace LP
open L2 PySem PySem.Spec PyProof.Rows

theorem mkS_app (x y : Tx) : mkS x ++ mkS y = mkS (x ++ y) := TL.ext_tl (by rw [TL.tl_append, mkS_tl, mkS_tl, mkS_tl])
theorem okT_app {x y : Tx} (h : okT x) (k : okT y) (z : (x ++ y).length ≤ big) : okT (x ++ y) := ⟨fun c m => by
  rcases List.mem_append.mp m with m | m
  · exact h.1 c m
  · exact k.1 c m, z⟩
theorem okT_sub {x y : Tx} (h : okT x) (k : y.Sublist x) : okT y := ⟨fun c m => h.1 c (k.subset m), Nat.le_trans k.length_le h.2⟩
theorem line_eq : (sizeLine : Nat) = 16777216 := by rw [sizeLine_eq]

section
variable {T : Tb} {L : LL} {h : Hh} {H : Hp}
theorem asL_ok (R : Rel T L h H) {w : W} {v : V} {xs : List W} (e : asL h w = some xs) (r : RV T L H w v) : ∃ a vs, v = .ref a ∧ H a = some (.lst vs) ∧ RVs T L H xs vs := by
  cases w with
  | lst ys =>
    have e' : ys = xs := by simpa [asL] using e
    subst e'
    obtain ⟨a, vs, q, t, k⟩ := r
    exact ⟨a, vs, q, t.1, k⟩
  | ref n =>
    rcases r with ⟨a, q, la⟩ | la
    · obtain ⟨o, ho, e1, e2, e3⟩ := R.cell n a la
      cases o with
      | lst ys =>
        have e' : ys = xs := by simpa [asL, e1] using e
        subst e'
        obtain ⟨vs, q2, k⟩ := e3
        subst q2
        exact ⟨a, vs, q, e2, k⟩
      | dct _ => simp [asL, e1] at e
      | ins _ _ => simp [asL, e1] at e
      | dead => simp [asL, e1] at e
    · have := R.gone n la
      simp [asL, this] at e
  | _ => simp [asL] at e
theorem asF_ok (R : Rel T L h H) {w : W} {v : V} {xs : List W} (e : asF h w = some xs) (r : RV T L H w v) : ∃ a vs, v = .ref a ∧ SqL T.K H a vs ∧ RVs T L H xs vs := by
  cases w with
  | frz ys =>
    have e' : ys = xs := by simpa [asF] using e
    subst e'
    obtain ⟨a, vs, q, t, k⟩ := r
    exact ⟨a, vs, q, t.sq, k⟩
  | lst ys =>
    obtain ⟨a, vs, q, t, k⟩ := asL_ok R (w := .lst ys) (by simpa [asF] using e) r
    exact ⟨a, vs, q, .of t, k⟩
  | ref n =>
    obtain ⟨a, vs, q, t, k⟩ := asL_ok R (w := .ref n) (by simpa [asF] using e) r
    exact ⟨a, vs, q, .of t, k⟩
  | _ => simp [asF, asL] at e
theorem asQ_ok (R : Rel T L h H) {w : W} {v : V} {xs : List W} (e : asQ h w = some xs) (r : RV T L H w v) :
    ∃ a vs, v = .ref a ∧ (SqL T.K H a vs ∨ SqT T.K H a vs) ∧ RVs T L H xs vs ∧ ((∃ ys, w = .tup ys) → TupAt T L H a vs) ∧ ((¬ ∃ ys, w = .tup ys) → SqL T.K H a vs) := by
  cases w with
  | tup ys =>
    have e' : ys = xs := by simpa [asQ] using e
    subst e'
    obtain ⟨a, vs, q, t, k⟩ := r
    exact ⟨a, vs, q, .inr t.sq, k, fun _ => t, fun z => absurd ⟨_, rfl⟩ z⟩
  | frz ys =>
    obtain ⟨a, vs, q, t, k⟩ := asF_ok R (w := .frz ys) (by simpa [asQ] using e) r
    exact ⟨a, vs, q, .inl t, k, (fun ⟨_, z⟩ => nomatch z), fun _ => t⟩
  | lst ys =>
    obtain ⟨a, vs, q, t, k⟩ := asF_ok R (w := .lst ys) (by simpa [asQ] using e) r
    exact ⟨a, vs, q, .inl t, k, (fun ⟨_, z⟩ => nomatch z), fun _ => t⟩
  | ref n =>
    obtain ⟨a, vs, q, t, k⟩ := asF_ok R (w := .ref n) (by simpa [asQ] using e) r
    exact ⟨a, vs, q, .inl t, k, (fun ⟨_, z⟩ => nomatch z), fun _ => t⟩
  | _ => simp [asQ, asF, asL] at e
end

/-- r is a value, and whatever stands for it is what is wanted -/
def Okp (T : Tb) (L : LL) (H : Hp) (r : Rs W) (Q : VK) : Prop := ∃ w h', r = .ok w h' ∧ ∀ v L' H', Rel T L' h' H' → Evo L H L' H' → RV T L' H' w v → Q v H'
def rdO (T : Tb) (g : W → W → Hh → Rs W) : R2 := fun x y H Q => ∃ L h a b, Rel T L h H ∧ RV T L H a x ∧ RV T L H b y ∧ Okp T L H (g a b h) Q
def rdU (T : Tb) (g : W → Hh → Rs W) : V → Hp → VK → Prop := fun x H Q => ∃ L h a, Rel T L h H ∧ RV T L H a x ∧ Okp T L H (g a h) Q
def rdB (T : Tb) (g : List W → Hh → Rs W) : List V → Hp → VK → Prop := fun xs H Q => ∃ L h as, Rel T L h H ∧ RVs T L H as xs ∧ Okp T L H (g as h) Q
def rdM (T : Tb) (g : W → List W → Hh → Rs W) : V → List V → Hp → VK → Prop := fun x xs H Q => ∃ L h o as, Rel T L h H ∧ RV T L H o x ∧ RVs T L H as xs ∧ Okp T L H (g o as h) Q

section
variable {T : Tb} {L : LL} {h : Hh} {H : Hp} {Q : VK}
/-- the heap is as it was -/
theorem Okp.same (R : Rel T L h H) {w : W} {v : V} (k : Okp T L H (.ok w h) Q) (r : RV T L H w v) : Q v H := by
  obtain ⟨w', h', e, k⟩ := k
  cases e
  exact k v L H R Evo.rfl' r
theorem Okp.newT (R : Rel T L h H) {xs : List W} {vs : List V} (k : Okp T L H (.ok (.tup xs) h) Q) (r : RVs T L H xs vs) {p : Addr} (hp : H p = none) : Q (.ref p) (upd H p (.tup vs)) := by
  obtain ⟨w', h', e, k⟩ := k
  cases e
  exact k _ L _ (R.newR hp _) (R.new hp _) ⟨p, vs, rfl, .inl ⟨.inl upd_same, R.fresh hp⟩, RVs.evo (R.new hp _).toEvo0 _ _ r⟩
theorem Okp.newL (R : Rel T L h H) {b : Bool} {xs : List W} {vs : List V} (k : Okp T L H (mkL b xs h) Q) (r : RVs T L H xs vs) {p : Addr} (hp : H p = none) : Q (.ref p) (upd H p (.lst vs)) := by
  obtain ⟨w', h', e, k⟩ := k
  unfold mkL at e
  split at e
  · split at e
    · cases e
      refine k _ _ _ (R.layR hp ⟨vs, rfl, RVs.evo (R.lay hp _).toEvo0 _ _ r⟩) (R.lay hp _) (.inl ⟨p, rfl, ?_⟩)
      rw [← R.len]; exact push_last
    · cases e
      exact k _ L _ (R.newR hp _) (R.new hp _) ⟨p, vs, rfl, ⟨upd_same, R.fresh hp⟩, RVs.evo (R.new hp _).toEvo0 _ _ r⟩
  · cases e
theorem mkL_big {b : Bool} {xs : List W} (k : Okp T L H (mkL b xs h) Q) : xs.length ≤ big := by
  obtain ⟨w', h', e, k⟩ := k
  unfold mkL at e
  split at e
  · assumption
  · cases e
theorem mkT_big {xs : List W} (k : Okp T L H (mkT xs h) Q) : xs.length ≤ big ∧ Okp T L H (.ok (.tup xs) h) Q := by
  obtain ⟨w', h', e, k⟩ := k
  unfold mkT at e
  split at e
  · exact ⟨by assumption, w', h', e, k⟩
  · cases e
theorem mkX_big {x : Tx} (k : Okp T L H (mkX x h) Q) : x.length ≤ big ∧ Okp T L H (.ok (.str x) h) Q := by
  obtain ⟨w', h', e, k⟩ := k
  unfold mkX at e
  split at e
  · exact ⟨by assumption, w', h', e, k⟩
  · cases e
theorem Okp.notBad (k : Okp T L H .bad Q) : False := by
  obtain ⟨_, _, e, _⟩ := k
  cases e
end

section
variable {X : Cx} {T : Tb}
theorem op_addW (hK : T.K = X.K) (r : Bool) : OpR X (binaryOp .Add) (rdO T fun a b h => addO r h a b) := by
  intro pins s σ H x y v u Q I rx ry ⟨L, h, a, b, R, ra, rb, k⟩
  replace k : Okp T L H (addO r h a b) Q := k
  unfold addO at k
  split at k
  · obtain rfl := ra
    obtain rfl := rb
    exact op_add pins s σ H _ _ v u Q I rx ry ⟨_, _, rfl, rfl, k.same R rfl⟩
  · obtain ⟨rfl, oa⟩ := ra
    obtain ⟨rfl, ob⟩ := rb
    obtain ⟨hb, k⟩ := mkX_big k
    refine op_add_str pins s σ H _ _ v u Q I rx ry ⟨_, _, rfl, rfl, ?_, ?_⟩
    · rw [mkS_len, mkS_len, line_eq]
      have hb' := hb
      simp only [List.length_append, big] at hb'
      omega
    · rw [mkS_app]
      exact k.same R ⟨rfl, okT_app oa ob hb⟩
  · rename_i xs ys
    obtain ⟨p, vs, rfl, t1, r1⟩ := ra
    obtain ⟨q, us, rfl, t2, r2⟩ := rb
    obtain ⟨hb, k⟩ := mkT_big k
    have e1 := r1.length
    have e2 := r2.length
    refine op_catA pins s σ H _ _ v u Q I rx ry ⟨p, q, vs, us, rfl, rfl, hK ▸ t1.sq, hK ▸ t2.sq, ?_, fun z => ?_, fun z z' => ?_, fun _ _ w hw => ?_⟩
    · rw [line_eq]
      simp only [List.length_append, big] at hb
      omega
    · subst z
      have : xs = [] := List.length_eq_zero_iff.mp (by simpa using e1.symm)
      subst this
      exact k.same R ⟨q, us, rfl, t2, r2⟩
    · subst z'
      have : ys = [] := List.length_eq_zero_iff.mp (by simpa using e2.symm)
      subst this
      exact k.same R (by rw [List.append_nil]; exact ⟨p, vs, rfl, t1, r1⟩)
    · exact k.newT R (r1.append r2) hw
  · split at k
    · rename_i xs ys e1 e2
      obtain ⟨p, vs, rfl, t1, r1⟩ := asL_ok R e1 ra
      obtain ⟨q, us, rfl, t2, r2⟩ := asL_ok R e2 rb
      have hb := mkL_big k
      refine op_cat pins s σ H _ _ v u Q I rx ry ⟨p, q, vs, us, rfl, rfl, t1, t2, ?_, fun w hw => k.newL R (r1.append r2) hw⟩
      have e1 := r1.length
      have e2 := r2.length
      rw [line_eq]
      simp only [List.length_append, big] at hb
      omega
    · exact k.notBad.elim
theorem op_subW : OpR X (binaryOp .Sub) (rdO T fun a b h => binO false .sub a b h) := by
  intro pins s σ H x y v u Q I rx ry ⟨L, h, a, b, R, ra, rb, k⟩
  dsimp only [binO] at k
  split at k
  · obtain rfl := ra
    obtain rfl := rb
    exact op_sub pins s σ H _ _ v u Q I rx ry ⟨_, _, rfl, rfl, k.same R rfl⟩
  · exact k.notBad.elim
theorem op_modW : OpR X (binaryOp .Mod) (rdO T fun a b h => binO false .mod a b h) := by
  intro pins s σ H x y v u Q I rx ry ⟨L, h, a, b, R, ra, rb, k⟩
  dsimp only [binO] at k
  split at k
  · obtain rfl := ra
    obtain rfl := rb
    split at k
    · rename_i c
      exact op_mod pins s σ H _ _ v u Q I rx ry ⟨_, _, rfl, rfl, c, k.same R rfl⟩
    · exact k.notBad.elim
  · exact k.notBad.elim
theorem op_fdvW : OpR X (binaryOp .FloorDiv) (rdO T fun a b h => binO false .fdv a b h) := by
  intro pins s σ H x y v u Q I rx ry ⟨L, h, a, b, R, ra, rb, k⟩
  dsimp only [binO] at k
  split at k
  · obtain rfl := ra
    obtain rfl := rb
    split at k
    · rename_i c
      exact op_fdiv pins s σ H _ _ v u Q I rx ry ⟨_, _, rfl, rfl, c, k.same R rfl⟩
    · exact k.notBad.elim
  · exact k.notBad.elim
theorem small_ok {i : Int} (h : small i = true) : -(2 ^ 64) < i ∧ i < 2 ^ 64 := by
  unfold small at h
  rw [Bool.and_eq_true] at h
  have h1 := of_decide_eq_true h.1
  have h2 := of_decide_eq_true h.2
  have e : (2 : Int) ^ 64 = 18446744073709551616 := by decide
  rw [e]
  exact ⟨by omega, h2⟩
theorem small_nat {i : Int} (h : small i = true) : i.natAbs < 2 ^ 64 := by
  have := small_ok h
  have e : (2 : Int) ^ 64 = 18446744073709551616 := by decide
  have e' : (2 : Nat) ^ 64 = 18446744073709551616 := by decide
  rw [e] at this
  rw [e']
  omega
theorem op_powW : OpR X (binaryOp .Pow) (rdO T fun a b h => binO false .pow a b h) := by
  intro pins s σ H x y v u Q I rx ry ⟨L, h, a, b, R, ra, rb, k⟩
  dsimp only [binO] at k
  split at k
  · obtain rfl := ra
    obtain rfl := rb
    split at k
    · rename_i c
      exact op_pow pins s σ H _ _ v u Q I rx ry ⟨_, _, rfl, rfl, ⟨c.1, by omega, small_nat c.2.2⟩, k.same R rfl⟩
    · exact k.notBad.elim
  · exact k.notBad.elim
end
/-- a tuple once: itself -/
theorem tup_once (l : Addr) (items : Array Value) (n : Nat) (dd : Option Addr) (sl : Array (Option Value)) (u : Tok) :
    Meets (Builtin.«tuple.__mul__» ⟨[.ref l, .int 1 u], []⟩) (fun _ R s => s.heap.get? l = some { cls := .type "tuple", dict := dd, data := .seq items n, slots := sl } ∧ R (.ok (.ret (.ref l))) s) :=
  .of_wp fun prog w A R s h => by
    obtain ⟨hp, g, d, tk, os⟩ := s
    obtain ⟨hl, h⟩ := h
    have f1 := AutoSeq1.idx_int
    have c0 : (decide ((1 : Int) < -(2 ^ 63)) || decide ((1 : Int) ≥ 2 ^ 63)) = false := by decide
    have c1 : (items.isEmpty || (1 : Int) == 1) = true := by simp
    wp_walk using AutoSeq1.wpAny_loadPart' hl
    repeat (first
      | (refine wpAny_ite_false (decide_eq_false (by rw [c0]; exact Bool.false_ne_true)) ?_; wp_walk using AutoSeq1.wpAny_loadPart' hl)
      | (refine wpAny_ite_true (decide_eq_true c1) ?_; wp_walk using AutoSeq1.wpAny_loadPart' hl))
    exact ⟨_, rfl, h⟩
end LP
/-! LP, part 3: more operators, by plain values. -/
namespace LP
open L2 PySem PySem.Spec PyProof.Rows
section
variable {X : Cx} {T : Tb}
/-- a tuple once -/
theorem op_rep1 : OpR X (binaryOp .Mult) (fun x y H Q => ∃ l xs, x = .ref l ∧ y = .int 1 ∧ SqT X.K H l xs ∧ Q (.ref l) H) := by
  intro pins s σ H x y v u Q I rx ry h
  obtain ⟨l, xs, rfl, rfl, hT, q⟩ := h
  cases rx
  obtain ⟨t, rfl⟩ := ry
  obtain ⟨its, r, ⟨⟨cls, dd, data, sl⟩, ho, hc, n, hd⟩, hs⟩ := I.tuple hT
  simp only at hc hd
  subst hc hd
  exact wpAny_binaryOp_repeat_ref (T := "tuple") (U := "int") (by decide) ⟨_, ho, rfl⟩ (fun s' => typeIs_int s' 1 t) noFill_tuple_mul F.fills_int_mul F.slot_int_rmul repeat_tuple F.slot_int_index.lookup
    (call_meets F.slot_int_rmul (typeIs_int s 1 t) F.entry_int_rmul (F.args_int_rmul_2 _ _) (int_rmul_tuple 1 t l its.toArray n dd sl)
      ⟨ho, rfl, ⟨_, ho, rfl⟩, call_meets F.slot_tuple_mul ⟨_, ho, rfl⟩ F.entry_tuple_mul (F.args_tuple_mul_2 _ _) (tup_once l its.toArray n dd sl t) ⟨ho, .ref l, H, I, rfl, q⟩⟩)
theorem RVs.rep {L : LL} {H : Hp} {xs : List W} {vs : List V} (r : RVs T L H xs vs) : ∀ n : Nat, RVs T L H (List.replicate n xs).flatten (List.replicate n vs).flatten
  | 0 => rfl
  | n + 1 => by
    rw [List.replicate_succ, List.replicate_succ, List.flatten_cons, List.flatten_cons]
    exact r.append (RVs.rep r n)
theorem op_mulW (hK : T.K = X.K) (r : Bool) : OpR X (binaryOp .Mult) (rdO T fun a b h => mulO r h a b) := by
  intro pins s σ H x y v u Q I rx ry ⟨L, h, a, b, R, ra, rb, k⟩
  replace k : Okp T L H (mulO r h a b) Q := k
  unfold mulO at k
  split at k
  · obtain rfl := ra
    obtain rfl := rb
    split at k
    · rename_i c
      refine op_mul pins s σ H _ _ v u Q I rx ry ⟨_, _, rfl, rfl, ?_, k.same R rfl⟩
      rw [Bool.or_eq_true] at c
      rcases c with c | c
      · exact .inl (small_ok c)
      · exact .inr (small_ok c)
    · exact k.notBad.elim
  · rename_i xs i
    obtain ⟨p, vs, rfl, t1, r1⟩ := ra
    obtain rfl := rb
    split at k
    · rename_i c
      obtain ⟨c1, c2, c3, c4⟩ := c
      have el := r1.length
      have ne : vs ≠ [] := fun z => by
        subst z
        cases xs with
        | nil => cases c4
        | cons _ _ => cases el
      by_cases h1 : i = 1
      · subst h1
        refine op_rep1 pins s σ H _ _ v u Q I rx ry ⟨p, vs, rfl, rfl, hK ▸ t1.sq, ?_⟩
        refine k.same R ?_
        have e : (List.replicate (Int.toNat 1) xs).flatten = xs := by
          show (List.replicate 1 xs).flatten = xs
          simp
        rw [e]
        exact ⟨p, vs, rfl, t1, r1⟩
      · exact op_repT pins s σ H _ _ v u Q I rx ry ⟨p, i, vs, rfl, rfl, hK ▸ t1.sq, ne, by omega, c2, by rw [el]; exact c3, fun w hw => k.newT R (r1.rep _) hw⟩
    · exact k.notBad.elim
  · rename_i a' i _ _
    split at k
    · rename_i xs e1
      split at k
      · rename_i c
        obtain ⟨p, vs, rfl, t1, r1⟩ := asL_ok R e1 ra
        obtain rfl := rb
        obtain ⟨c1, c2, c3⟩ := c
        have el := r1.length
        refine op_rep pins s σ H _ _ v u Q I rx ry ⟨p, i, vs, rfl, rfl, t1, by omega, by omega, ?_, fun w hw => k.newL R (r1.rep _) hw⟩
        rw [el, line_eq]
        exact Nat.le_trans c3 (by decide)
      · exact k.notBad.elim
    · exact k.notBad.elim
  · exact k.notBad.elim

/-! ### data -/
mutual
def toD : W → PyData
  | .non => .none
  | .bl b => .bool b
  | .int i => .int i
  | .str x => .str (mkS x)
  | .lst xs => .list (toDs xs)
  | .tup xs => .tuple (toDs xs)
  | _ => .none
def toDs : List W → List PyData
  | [] => []
  | x :: xs => toD x :: toDs xs
end
mutual
theorem toD_eqv : ∀ a b : W, dat a = true → dat b = true → PyData.eqv (toD a) (toD b) = eqB a b
  | .non, b, _, hb => by cases b <;> first | rfl | cases hb
  | .bl _, b, _, hb => by cases b <;> first | rfl | cases hb
  | .int _, b, _, hb => by cases b <;> first | rfl | cases hb
  | .str x, b, _, hb => by
    cases b with
    | str y =>
      have e0 : PyData.eqv (toD (.str x)) (toD (.str y)) = (mkS x == mkS y) := by
        show PyData.eqv (.str (mkS x)) (.str (mkS y)) = _
        rw [PyData.eqv]
      have e1 : eqB (.str x) (.str y) = (x == y) := by rw [eqB]
      rw [e0, e1]
      by_cases e : x = y
      · subst e; simp
      · rw [beq_eq_false_iff_ne.mpr e, beq_eq_false_iff_ne.mpr fun z => e (mkS_inj z)]
    | non => rfl
    | bl _ => rfl
    | int _ => rfl
    | lst _ => rfl
    | tup _ => rfl
    | _ => cases hb
  | .lst xs, b, ha, hb => by
    cases b <;> first
      | rfl
      | cases hb
      | exact toDs_eqv _ _ ha hb
  | .tup xs, b, ha, hb => by
    cases b <;> first
      | rfl
      | cases hb
      | exact toDs_eqv _ _ ha hb
  | .frz _, _, ha, _ => nomatch ha
  | .ref _, _, ha, _ => nomatch ha
  | .ins _ _, _, ha, _ => nomatch ha
  | .cls _, _, ha, _ => nomatch ha
  | .exn _ _, _, ha, _ => nomatch ha
theorem toDs_eqv : ∀ a b : List W, dats a = true → dats b = true → PyData.eqvAll (toDs a) (toDs b) = eqBs a b
  | [], [], _, _ => by simp [toDs, PyData.eqvAll, eqBs]
  | [], _ :: _, _, _ => by simp [toDs, PyData.eqvAll, eqBs]
  | _ :: _, [], _, _ => by simp [toDs, PyData.eqvAll, eqBs]
  | x :: xs, y :: ys, ha, hb => by
    have ha' : (dat x && dats xs) = true := ha
    have hb' : (dat y && dats ys) = true := hb
    rw [Bool.and_eq_true] at ha' hb'
    show PyData.eqvAll (toD x :: toDs xs) (toD y :: toDs ys) = (eqB x y && eqBs xs ys)
    rw [PyData.eqvAll, toD_eqv x y ha'.1 hb'.1, toDs_eqv xs ys ha'.2 hb'.2]
end
mutual
theorem toD_dep : ∀ a : W, dat a = true → (toD a).depth = dep a
  | .non, _ => by simp [toD, PyData.depth, dep]
  | .bl _, _ => by simp [toD, PyData.depth, dep]
  | .int _, _ => by simp [toD, PyData.depth, dep]
  | .str x, _ => by simp [toD, PyData.depth, dep]
  | .lst xs, ha => by
    show PyData.depth (.list (toDs xs)) = deps xs + 1
    rw [PyData.depth, toDs_dep xs ha]
  | .tup xs, ha => by
    show PyData.depth (.tuple (toDs xs)) = deps xs + 1
    rw [PyData.depth, toDs_dep xs ha]
  | .frz _, ha => nomatch ha
  | .ref _, ha => nomatch ha
  | .ins _ _, ha => nomatch ha
  | .cls _, ha => nomatch ha
  | .exn _ _, ha => nomatch ha
theorem toDs_dep : ∀ a : List W, dats a = true → PyData.depthAll (toDs a) = deps a
  | [], _ => by simp [toDs, PyData.depthAll, deps]
  | x :: xs, ha => by
    have ha' : (dat x && dats xs) = true := ha
    rw [Bool.and_eq_true] at ha'
    show PyData.depthAll (toD x :: toDs xs) = max (dep x) (deps xs)
    rw [PyData.depthAll, toD_dep x ha'.1, toDs_dep xs ha'.2]
end
mutual
theorem toD_of {L : LL} {H : Hp} : ∀ (a : W) (v : V), dat a = true → RV T L H a v → Dp T.K H v (toD a) ∧ (toD a).canLay0 = true
  | .non, v, _, h => by
    obtain rfl := h
    exact ⟨.non, by simp [toD, PyData.canLay0]⟩
  | .bl b, v, _, h => by
    obtain rfl := h
    exact ⟨.bl b, by simp [toD, PyData.canLay0]⟩
  | .int i, v, _, h => by
    obtain rfl := h
    exact ⟨.int i, by simp [toD, PyData.canLay0]⟩
  | .str x, v, _, h => by
    obtain ⟨rfl, o⟩ := h
    refine ⟨.str _, ?_⟩
    show PyData.canLay0 (.str (mkS x)) = true
    rw [PyData.canLay0]
    unfold PyData.strOk
    rw [Array.all_eq_true_iff_forall_mem]
    intro c hc
    have : c ∈ x := by simpa [mkS] using hc
    exact decide_eq_true (o.1 c this)
  | .lst xs, v, ha, h => by
    obtain ⟨a, vs, rfl, t, r⟩ := h
    obtain ⟨q1, q2⟩ := toDs_of xs vs ha r
    exact ⟨.lst (.of t.1) q1, by show PyData.canLay0 (.list (toDs xs)) = true; rw [PyData.canLay0]; exact q2⟩
  | .tup xs, v, ha, h => by
    obtain ⟨a, vs, rfl, t, r⟩ := h
    obtain ⟨q1, q2⟩ := toDs_of xs vs ha r
    exact ⟨.tup t.sq q1, by show PyData.canLay0 (.tuple (toDs xs)) = true; rw [PyData.canLay0]; exact q2⟩
  | .frz _, _, ha, _ => nomatch ha
  | .ref _, _, ha, _ => nomatch ha
  | .ins _ _, _, ha, _ => nomatch ha
  | .cls _, _, ha, _ => nomatch ha
  | .exn _ _, _, ha, _ => nomatch ha
theorem toDs_of {L : LL} {H : Hp} : ∀ (a : List W) (v : List V), dats a = true → RVs T L H a v → DpAll T.K H v (toDs a) ∧ PyData.canLayAll0 (toDs a) = true
  | [], v, _, h => by
    have e : v = [] := h
    subst e
    exact ⟨.nil, by simp [toDs, PyData.canLayAll0]⟩
  | x :: xs, v, ha, h => by
    obtain ⟨y, r, rfl, q, k⟩ := h
    have ha' : (dat x && dats xs) = true := ha
    rw [Bool.and_eq_true] at ha'
    obtain ⟨a1, a2⟩ := toD_of x y ha'.1 q
    obtain ⟨b1, b2⟩ := toDs_of xs r ha'.2 k
    refine ⟨.cons a1 b1, ?_⟩
    show PyData.canLayAll0 (toD x :: toDs xs) = true
    rw [PyData.canLayAll0, a2, b2]
    rfl
end
theorem plain_of {L : LL} {H : Hp} {h : Hh} (R : Rel T L h H) {a : W} {v : V} (ha : dat (plainly h a) = true) (r : RV T L H a v) : Dp T.K H v (toD (plainly h a)) ∧ (toD (plainly h a)).canLay0 = true := by
  cases a with
  | ref n =>
    rcases r with ⟨p, rfl, la⟩ | la
    · obtain ⟨o, ho, e1, e2, e3⟩ := R.cell n p la
      cases o with
      | lst ys =>
        obtain ⟨vs, rfl, k⟩ := e3
        have e : plainly h (.ref n) = .lst ys := by simp [plainly, e1]
        rw [e] at ha ⊢
        obtain ⟨q1, q2⟩ := toDs_of ys vs ha k
        exact ⟨.lst (.of e2) q1, by show PyData.canLay0 (.list (toDs ys)) = true; rw [PyData.canLay0]; exact q2⟩
      | dct _ =>
        have e : plainly h (.ref n) = .ref n := by simp [plainly, e1]
        rw [e] at ha; cases ha
      | ins _ _ =>
        have e : plainly h (.ref n) = .ref n := by simp [plainly, e1]
        rw [e] at ha; cases ha
      | dead =>
        have e : plainly h (.ref n) = .ref n := by simp [plainly, e1]
        rw [e] at ha; cases ha
    · have e1 := R.gone n la
      have e : plainly h (.ref n) = .ref n := by simp [plainly, e1]
      rw [e] at ha; cases ha
  | _ => exact toD_of _ v ha r
theorem eqO_some {h : Hh} {a b : W} {c : Bool} (e : eqO h a b = some c) : dat (plainly h a) = true ∧ dat (plainly h b) = true ∧ min (dep (plainly h a)) (dep (plainly h b)) ≤ 60 ∧ c = eqB (plainly h a) (plainly h b) := by
  unfold eqO at e
  split at e
  · rename_i q
    rw [Bool.and_eq_true, Bool.and_eq_true, decide_eq_true_eq] at q
    exact ⟨q.1.1, q.1.2, q.2, by simpa using e.symm⟩
  · cases e
theorem outB_ok {L : LL} {H : Hp} {h : Hh} {Q : VK} {o : Option Bool} (k : Okp T L H (outB o h) Q) : ∃ b, o = some b ∧ Okp T L H (.ok (.bl b) h) Q := by
  cases o with
  | none => exact k.notBad.elim
  | some b => exact ⟨b, rfl, k⟩
theorem op_eqW (hK : T.K = X.K) (hu : X.A.units + 64 < cLine) : OpR X (compareOp .Eq) (rdO T fun a b h => outB (cmpO .eq a b h) h) := by
  intro pins s σ H x y v u Q I rx ry ⟨L, h, a, b, R, ra, rb, k⟩
  obtain ⟨c, e, k⟩ := outB_ok k
  obtain ⟨d1, d2, d3, rfl⟩ := eqO_some e
  obtain ⟨p1, l1⟩ := plain_of R d1 ra
  obtain ⟨p2, l2⟩ := plain_of R d2 rb
  obtain ⟨as, r1⟩ := Dp.reads I _ x v (hK ▸ p1) rx
  obtain ⟨bs, r2⟩ := Dp.reads I _ y u (hK ▸ p2) ry
  refine SeqAt.compareEq_reads r1 r2 l1 l2 (by rw [toD_dep _ d1, toD_dep _ d2]; omega) ⟨.bl _, H, I, rfl, ?_⟩
  rw [toD_eqv _ _ d1 d2]
  exact k.same R rfl
theorem op_neW (hK : T.K = X.K) (hu : X.A.units + 64 < cLine) : OpR X (compareOp .NotEq) (rdO T fun a b h => outB (cmpO .ne a b h) h) := by
  intro pins s σ H x y v u Q I rx ry ⟨L, h, a, b, R, ra, rb, k⟩
  obtain ⟨c, e, k⟩ := outB_ok k
  obtain ⟨c', e', e''⟩ := Option.map_eq_some_iff.mp (show (eqO h a b).map (!·) = some c from e)
  subst e''
  obtain ⟨d1, d2, d3, rfl⟩ := eqO_some e'
  obtain ⟨p1, l1⟩ := plain_of R d1 ra
  obtain ⟨p2, l2⟩ := plain_of R d2 rb
  obtain ⟨as, r1⟩ := Dp.reads I _ x v (hK ▸ p1) rx
  obtain ⟨bs, r2⟩ := Dp.reads I _ y u (hK ▸ p2) ry
  refine SeqAt.compareNe_reads r1 r2 l1 l2 (by rw [toD_dep _ d1, toD_dep _ d2]; omega) ⟨.bl _, H, I, rfl, ?_⟩
  rw [toD_eqv _ _ d1 d2]
  exact k.same R rfl
/-- ints -/
theorem op_ordW {op : CmpOp} {f : Int → Int → Bool} (ho : OpR X (compareOp op) (rI0 fun i j => .bl (f i j))) : OpR X (compareOp op) (rdO T fun a b h => outB (ordO f a b) h) := by
  intro pins s σ H x y v u Q I rx ry ⟨L, h, a, b, R, ra, rb, k⟩
  obtain ⟨c, e, k⟩ := outB_ok k
  unfold ordO at e
  split at e
  · obtain rfl := ra
    obtain rfl := rb
    cases e
    exact ho pins s σ H _ _ v u Q I rx ry ⟨_, _, rfl, rfl, k.same R rfl⟩
  · cases e
theorem isO_non {L : LL} {H : Hp} {h : Hh} (R : Rel T L h H) {a : W} {v : V} {c : Bool} (r : RV T L H a v) (e : isO h a .non = some c) : c = decide (v = .non) := by
  cases a with
  | non =>
    obtain rfl := r
    cases e
    rfl
  | bl _ =>
    obtain rfl := r
    cases e
    rfl
  | int _ =>
    obtain rfl := r
    cases e
    rfl
  | str _ =>
    obtain ⟨rfl, _⟩ := r
    cases e
    rfl
  | tup _ =>
    obtain ⟨_, _, rfl, _⟩ := r
    cases e
    rfl
  | lst _ =>
    obtain ⟨_, _, rfl, _⟩ := r
    cases e
    rfl
  | frz _ =>
    obtain ⟨_, _, rfl, _⟩ := r
    cases e
    rfl
  | ins _ _ =>
    obtain ⟨_, _, _, rfl, _⟩ := r
    cases e
    rfl
  | cls _ =>
    obtain rfl := r
    cases e
    rfl
  | exn _ _ =>
    obtain ⟨_, _, _, _, rfl, _⟩ := r
  | ref n =>
    rcases r with ⟨p, rfl, la⟩ | la
    · have e' : (match h[n]? with
        | some .dead => none
        | some _ => some false
        | none => none) = some c := e
      split at e'
      · cases e'
      · cases e'
        rfl
      · cases e'
    · have e1 := R.gone n la
      have e' : (match h[n]? with
        | some .dead => none
        | some _ => some false
        | none => none) = some c := e
      rw [e1] at e'
      cases e'
theorem op_isW : OpR X (compareOp .Is) (rdO T fun a b h => outB (cmpO .is a b h) h) := by
  intro pins s σ H x y v u Q I rx ry ⟨L, h, a, b, R, ra, rb, k⟩
  obtain ⟨c, e, k⟩ := outB_ok k
  replace e : isO h a b = some c := e
  cases b with
  | non =>
    obtain rfl := rb
    have := isO_non R ra e
    subst this
    exact op_isN pins s σ H _ _ v u Q I rx ry ⟨rfl, k.same R rfl⟩
  | bl b =>
    obtain rfl := rb
    cases a with
    | bl d =>
      obtain rfl := ra
      cases e
      refine op_isBl pins s σ H _ _ v u Q I rx ry ⟨d, b, rfl, rfl, ?_⟩
      rw [← Bool.beq_eq_decide_eq]
      exact k.same R rfl
    | _ => cases e
  | _ => cases e
theorem op_isnW : OpR X (compareOp .IsNot) (rdO T fun a b h => outB (cmpO .isn a b h) h) := by
  intro pins s σ H x y v u Q I rx ry ⟨L, h, a, b, R, ra, rb, k⟩
  obtain ⟨c, e, k⟩ := outB_ok k
  obtain ⟨c', e', e''⟩ := Option.map_eq_some_iff.mp (show (isO h a b).map (!·) = some c from e)
  subst e''
  cases b with
  | non =>
    obtain rfl := rb
    have := isO_non R ra e'
    subst this
    exact op_notN pins s σ H _ _ v u Q I rx ry ⟨rfl, k.same R rfl⟩
  | bl b =>
    obtain rfl := rb
    cases a with
    | bl d =>
      obtain rfl := ra
      cases e'
      refine op_notBl pins s σ H _ _ v u Q I rx ry ⟨d, b, rfl, rfl, ?_⟩
      rw [← Bool.beq_eq_decide_eq]
      exact k.same R rfl
    | _ => cases e'
  | _ => cases e'
theorem flat_of {L : LL} {H : Hp} {a : W} {v : V} (r : RV T L H a v) (f : flat a = true) : flatV v = true := by
  cases a with
  | non => obtain rfl := r; rfl
  | bl _ => obtain rfl := r; rfl
  | int _ => obtain rfl := r; rfl
  | str _ => obtain ⟨rfl, _⟩ := r; rfl
  | _ => cases f
theorem eqV_of {L : LL} {H : Hp} {a b : W} {v u : V} (ra : RV T L H a v) (rb : RV T L H b u) (fa : flat a = true) (fb : flat b = true) : eqV v u = eqB a b := by
  cases a with
  | non =>
    obtain rfl := ra
    cases b with
    | non => obtain rfl := rb; rfl
    | bl _ => obtain rfl := rb; rfl
    | int _ => obtain rfl := rb; rfl
    | str _ => obtain ⟨rfl, _⟩ := rb; rfl
    | _ => cases fb
  | bl _ =>
    obtain rfl := ra
    cases b with
    | non => obtain rfl := rb; rfl
    | bl _ => obtain rfl := rb; rfl
    | int _ => obtain rfl := rb; rfl
    | str _ => obtain ⟨rfl, _⟩ := rb; rfl
    | _ => cases fb
  | int _ =>
    obtain rfl := ra
    cases b with
    | non => obtain rfl := rb; rfl
    | bl _ => obtain rfl := rb; rfl
    | int _ => obtain rfl := rb; rfl
    | str _ => obtain ⟨rfl, _⟩ := rb; rfl
    | _ => cases fb
  | str x =>
    obtain ⟨rfl, _⟩ := ra
    cases b with
    | non => obtain rfl := rb; rfl
    | bl _ => obtain rfl := rb; rfl
    | int _ => obtain rfl := rb; rfl
    | str y =>
      obtain ⟨rfl, _⟩ := rb
      show (mkS x == mkS y) = (x == y)
      by_cases e : x = y
      · subst e; simp
      · rw [beq_eq_false_iff_ne.mpr e, beq_eq_false_iff_ne.mpr fun z => e (mkS_inj z)]
    | _ => cases fb
  | _ => cases fa
theorem flats_of {L : LL} {H : Hp} : ∀ {xs : List W} {vs : List V}, RVs T L H xs vs → xs.all flat = true → vs.all flatV = true
  | [], v, h, _ => by
    have e : v = [] := h
    subst e; rfl
  | x :: xs, v, h, f => by
    obtain ⟨y, r, rfl, a, b⟩ := h
    rw [List.all_cons, Bool.and_eq_true] at f
    rw [List.all_cons, flat_of a f.1, flats_of b f.2]
    rfl
theorem inV_of {L : LL} {H : Hp} {a : W} {v : V} (ra : RV T L H a v) (fa : flat a = true) : ∀ {xs : List W} {vs : List V}, RVs T L H xs vs → xs.all flat = true → inV v vs = xs.any fun y => eqB y a
  | [], v, h, _ => by
    have e : v = [] := h
    subst e; rfl
  | x :: xs, v, h, f => by
    obtain ⟨y, r, rfl, q, b⟩ := h
    rw [List.all_cons, Bool.and_eq_true] at f
    have ih := inV_of ra fa b f.2
    unfold inV at ih ⊢
    rw [List.any_cons, List.any_cons, eqV_of q ra f.1 fa, ih]
theorem op_inW (hK : T.K = X.K) (neg : Bool) {op : CmpOp} (h1 : OpR X (compareOp op) (rIn X.K neg))
    (h2 : OpR X (compareOp op) (fun x y H Q => ∃ i j, x = .str i ∧ y = .str j ∧ Q (.bl (if neg then !(!(Builtin.Str.occurrences j i 0 j.length 1).isEmpty) else !(Builtin.Str.occurrences j i 0 j.length 1).isEmpty)) H)) :
    OpR X (compareOp op) (rdO T fun a b h => outB (if neg then (inO h a b).map (!·) else inO h a b) h) := by
  intro pins s σ H x y v u Q I rx ry ⟨L, h, a, b, R, ra, rb, k⟩
  obtain ⟨c, e, k⟩ := outB_ok k
  obtain ⟨d, e', ec⟩ : ∃ d, inO h a b = some d ∧ c = if neg then !d else d := by
    cases neg with
    | false => exact ⟨c, by simpa using e, by simp⟩
    | true =>
      obtain ⟨d, q1, q2⟩ := Option.map_eq_some_iff.mp (show (inO h a b).map (!·) = some c from by simpa using e)
      exact ⟨d, q1, by simp [← q2]⟩
  subst ec
  unfold inO at e'
  split at e'
  · split at e'
    · rename_i z _ cc
      obtain ⟨rfl, _⟩ := ra
      obtain ⟨rfl, _⟩ := rb
      refine h2 pins s σ H _ _ v u Q I rx ry ⟨_, _, rfl, rfl, ?_⟩
      have q := SX.in_one z cc
      have q' : (!(Builtin.Str.occurrences (mkS z) (mkS [cc]) 0 (mkS z).length 1).isEmpty) = decide (cc ∈ z) := q
      rw [q']
      cases e'
      exact k.same R rfl
    · cases e'
  · split at e'
    · rename_i xs e1
      split at e'
      · rename_i f
        rw [Bool.and_eq_true] at f
        cases e'
        obtain ⟨p, vs, rfl, t, r, _⟩ := asQ_ok R e1 rb
        refine h1 pins s σ H _ _ v u Q I rx ry ⟨p, vs, rfl, hK ▸ t, flat_of ra f.1, flats_of r f.2, ?_⟩
        rw [inV_of ra f.1 r f.2]
        exact k.same R rfl
      · cases e'
    · cases e'
end
end LP
/-! LP, part 4: places, slices, stores, built-in calls, by plain values. -/
namespace LP
open L2 PySem PySem.Spec PyProof.Rows
theorem kS_inj {a b : DK} (h : kS a = kS b) : a = b := by
  cases a with
  | inl i =>
    cases b with
    | inl j => cases h; rfl
    | inr y => cases h
  | inr x =>
    cases b with
    | inl j => cases h
    | inr y =>
      have e : mkS x = mkS y := Sum.inr.inj h
      rw [mkS_inj e]
theorem kS_dec (a b : DK) : decide (kS a = kS b) = decide (a = b) := by
  by_cases e : a = b
  · subst e; simp
  · rw [decide_eq_false e, decide_eq_false fun z => e (kS_inj z)]
section
variable {T : Tb} {L : LL} {h : Hh} {H : Hp}
theorem RKs.get : ∀ {kvs : List (DK × W)} {kvv : List (Key × V)} {k : DK} {w : W}, RKs T L H kvs kvv → getDK k kvs = some w → ∃ v, valV kvv (kS k) = some v ∧ RV T L H w v
  | [], _, k, w, _, e => by simp [getDK] at e
  | (k', x) :: xs, v, k, w, r, e => by
    obtain ⟨y, r', rfl, a, b⟩ := r
    by_cases c : k' = k
    · subst c
      have e' : x = w := by simpa [getDK] using e
      subst e'
      exact ⟨y, valV_pos rfl, a⟩
    · have e' : getDK k xs = some w := by simpa [getDK, List.find?_cons, c] using e
      obtain ⟨u, q1, q2⟩ := RKs.get b e'
      exact ⟨u, by rw [valV_neg fun z => c (kS_inj z)]; exact q1, q2⟩
theorem RKs.none : ∀ {kvs : List (DK × W)} {kvv : List (Key × V)} {k : DK}, RKs T L H kvs kvv → getDK k kvs = none → valV kvv (kS k) = none
  | [], v, k, r, e => by
    have e' : v = [] := r
    subst e'
    exact valV_nil
  | (k', x) :: xs, v, k, r, e => by
    obtain ⟨y, r', rfl, a, b⟩ := r
    by_cases c : k' = k
    · subst c
      simp [getDK] at e
    · rw [valV_neg fun z => c (kS_inj z)]
      exact RKs.none b (by simpa [getDK, List.find?_cons, c] using e)
theorem RKs.len : ∀ {kvs : List (DK × W)} {kvv : List (Key × V)}, RKs T L H kvs kvv → kvv.length = kvs.length
  | [], v, r => by
    have e' : v = [] := r
    subst e'
    rfl
  | (k', x) :: xs, v, r => by
    obtain ⟨y, r', rfl, a, b⟩ := r
    simp [RKs.len b]
theorem RKs.has : ∀ {kvs : List (DK × W)} {kvv : List (Key × V)} (k : DK), RKs T L H kvs kvv → (kvv.any fun p => decide (p.1 = kS k)) = hasDK k kvs
  | [], v, k, r => by
    have e' : v = [] := r
    subst e'
    rfl
  | (k', x) :: xs, v, k, r => by
    obtain ⟨y, r', rfl, a, b⟩ := r
    have ih := RKs.has k b
    unfold hasDK at ih ⊢
    rw [List.any_cons, List.any_cons, ih, kS_dec]
theorem RKs.repl : ∀ {kvs : List (DK × W)} {kvv : List (Key × V)} (k : DK) {w : W} {v : V}, RKs T L H kvs kvv → RV T L H w v →
    RKs T L H (kvs.map fun p => if p.1 = k then (p.1, w) else p) (kvv.map fun p => if p.1 = kS k then (p.1, v) else p)
  | [], v, k, _, _, r, _ => by
    have e' : v = [] := r
    subst e'
    rfl
  | (k', x) :: xs, v, k, w, u, r, q => by
    obtain ⟨y, r', rfl, a, b⟩ := r
    have ih := RKs.repl k b q
    rw [List.map_cons, List.map_cons]
    by_cases c : k' = k
    · subst c
      rw [if_pos rfl, if_pos rfl]
      exact ⟨u, _, rfl, q, ih⟩
    · rw [if_neg c, if_neg fun z => c (kS_inj z)]
      exact ⟨y, _, rfl, a, ih⟩
theorem RKs.snoc : ∀ {kvs : List (DK × W)} {kvv : List (Key × V)} (k : DK) {w : W} {v : V}, RKs T L H kvs kvv → RV T L H w v → RKs T L H (kvs ++ [(k, w)]) (kvv ++ [(kS k, v)])
  | [], v, k, w, u, r, q => by
    have e' : v = [] := r
    subst e'
    exact ⟨u, [], rfl, q, rfl⟩
  | (k', x) :: xs, v, k, w, u, r, q => by
    obtain ⟨y, r', rfl, a, b⟩ := r
    exact ⟨y, _, rfl, a, RKs.snoc k b q⟩
theorem RKs.put {kvs : List (DK × W)} {kvv : List (Key × V)} (k : DK) {w : W} {v : V} (r : RKs T L H kvs kvv) (q : RV T L H w v) : RKs T L H (putDK k w kvs) (putK kvv (kS k) v) := by
  unfold putDK putK
  rw [RKs.has k r]
  split
  · exact RKs.repl k r q
  · exact RKs.snoc k r q
theorem keyOf_ok {w : W} {v : V} {k : DK} (r : RV T L H w v) (e : keyOf w = some k) : v = kV (kS k) := by
  unfold keyOf at e
  split at e
  · obtain rfl := r
    cases e
    rfl
  · obtain ⟨rfl, _⟩ := r
    cases e
    rfl
  · cases e
theorem nthI_eq {α : Type} (xs : List α) (i : Int) : nthI xs i = ixN xs.length i := rfl
theorem atW_ok {xs : List W} {vs : List V} {i : Int} {w : W} (r : RVs T L H xs vs) (e : atW xs i = some w) : ∃ v, atI vs i = some v ∧ RV T L H w v := by
  unfold atW at e
  unfold atI
  rw [nthI_eq] at e
  rw [r.length]
  cases q : ixN xs.length i with
  | none => rw [q] at e; cases e
  | some j =>
    rw [q] at e
    exact r.get (by simpa using e)
theorem bound1_eq (n d : Nat) (o : Option Int) : bound1 n d o = HT.sIx n d o := by cases o <;> rfl
theorem cutW_eq {xs : List W} {vs : List V} (r : RVs T L H xs vs) (lo hi : Option Int) : RVs T L H (cutW xs lo hi) (cutV vs lo hi) := by
  unfold cutW cutV
  rw [r.length, bound1_eq, bound1_eq]
  exact RVs.take _ (RVs.drop _ r)
end

section
variable {X : Cx} {T : Tb}
theorem Okp.outW {L : LL} {H : Hp} {h : Hh} {Q : VK} {o : Option W} (k : Okp T L H (outW o h) Q) : ∃ w, o = some w ∧ Okp T L H (.ok w h) Q := by
  cases o with
  | none => exact k.notBad.elim
  | some b => exact ⟨b, rfl, k⟩
theorem ix_dictW (hu : X.A.units + 1 < cLine) : IxR X (fun x y H Q => ∃ a v, x = .ref a ∧ DGet H a y (some v) ∧ Q v H) := by
  intro value slice pins s σ H x y v u Q I rx ry ⟨a, z, e, g, q⟩ hs
  subst e
  obtain rfl : v = Value.ref a := rx
  exact tail_any (dict_typeIs I g) PySem.F.slot_dict_getitem.lookup (d_getItem hu I g ry fun w' s3 I3 rw' => ⟨z, H, I3, rw', q⟩) hs
theorem ix_W (hK : T.K = X.K) (hu : X.A.units + 1 < cLine) : IxR X (rdO T fun a b h => outW (ixO h a b) h) := by
  intro value slice pins s σ H x y v u Q I rx ry ⟨L, h, a, b, R, ra, rb, k⟩ hs
  obtain ⟨w, e, k2⟩ := k.outW
  clear k
  unfold ixO at e
  split at e
  · rename_i x1
    split at e
    · rename_i i
      split at e
      · rename_i c q1
        cases e
        obtain ⟨rfl, o⟩ := ra
        obtain rfl := rb
        refine ix_str value slice pins s σ H _ _ v u Q I rx ry ⟨mkS x1, i, c, rfl, rfl, ?_, ?_, ?_⟩ hs
        · rw [mkS_len, line_eq]
          have := o.2
          unfold big at this
          omega
        · have q2 : atI x1 i = some c := q1
          simpa [mkS] using q2
        · refine k2.same R ⟨rfl, okT_sub o ?_⟩
          rw [List.singleton_sublist]
          unfold atW at q1
          cases q3 : nthI x1 i with
          | none => rw [q3] at q1; cases q1
          | some j =>
            rw [q3] at q1
            exact List.mem_of_getElem? (by simpa using q1)
      · cases e
    · cases e
  · split at e
    · rename_i xs e1
      split at e
      · rename_i i
        obtain rfl := rb
        obtain ⟨p, vs, rfl, t, r, _⟩ := asQ_ok R e1 ra
        obtain ⟨z, q1, q2⟩ := atW_ok r e
        rcases t with t | t
        · exact ix_list value slice pins s σ H _ _ v u Q I rx ry ⟨p, vs, i, z, rfl, rfl, hK ▸ t, q1, k2.same R q2⟩ hs
        · exact ix_tup value slice pins s σ H _ _ v u Q I rx ry ⟨p, vs, i, z, rfl, rfl, hK ▸ t, q1, k2.same R q2⟩ hs
      · cases e
    · split at e
      · rename_i n _ _
        split at e
        · rename_i kvs e2
          split at e
          · rename_i kk e3
            rcases ra with ⟨p, rfl, la⟩ | la
            · obtain ⟨o, ho, c1, c2, c3⟩ := R.cell n p la
              rw [e2] at c1
              cases c1
              obtain ⟨kvv, rfl, rk⟩ := c3
              obtain ⟨z, q1, q2⟩ := RKs.get rk e
              have ey := keyOf_ok rb e3
              exact ix_dictW hu value slice pins s σ H _ _ v u Q I rx ry ⟨p, z, rfl, by rw [ey, ← q1]; exact DGet.k c2, k2.same R q2⟩ hs
            · have := R.gone n la
              rw [e2] at this
              cases this
          · cases e
        · cases e
      · cases e
/-- slices -/
def rdS (T : Tb) (g : W → Option Int → Option Int → Hh → Rs W) : V → Option Int → Option Int → Hp → VK → Prop := fun x lo hi H Q => ∃ L h a, Rel T L h H ∧ RV T L H a x ∧ Okp T L H (g a lo hi h) Q
theorem cutS_mk (x : Tx) (lo hi : Option Int) : cutS (mkS x) lo hi = mkS (cutW x lo hi) := by
  unfold cutS cutW mkS
  rw [bound1_eq, bound1_eq]
  simp [Str.length]
theorem cutW_sub {α : Type} (x : List α) (lo hi : Option Int) : (cutW x lo hi).Sublist x := (List.take_sublist _ _).trans (List.drop_sublist _ _)
theorem sl_W (hK : T.K = X.K) (r : Bool) : SlR X (rdS T fun a lo hi h => slO r h a lo hi) := by
  intro pins s σ H x v vl vu lo hi sl Q I rx hs pl pu ⟨L, h, a, R, ra, k⟩
  replace k : Okp T L H (slO r h a lo hi) Q := k
  unfold slO at k
  split at k
  · rename_i x1
    obtain ⟨rfl, o⟩ := ra
    refine sl_str pins s σ H _ v vl vu lo hi sl Q I rx hs pl pu ⟨mkS x1, rfl, ?_, ?_⟩
    · rw [mkS_len, line_eq]
      have := o.2
      unfold big at this
      omega
    · rw [cutS_mk]
      exact k.same R ⟨rfl, okT_sub o (cutW_sub x1 lo hi)⟩
  · rename_i xs
    obtain ⟨p, vs, rfl, t, r1⟩ := ra
    refine sl_tupA pins s σ H _ v vl vu lo hi sl Q I rx hs pl pu ⟨p, vs, rfl, hK ▸ t.sq, fun w => ?_, fun _ q hq => k.newT R (cutW_eq r1 lo hi) hq⟩
    refine k.same R ⟨p, vs, rfl, t, ?_⟩
    have e : cutV vs lo hi = vs := by
      unfold cutV
      rw [w.1, w.2]
      simp
    have := cutW_eq r1 lo hi
    rw [e] at this
    exact this
  · split at k
    · rename_i xs e1
      obtain ⟨p, vs, rfl, t, r1⟩ := asF_ok R e1 ra
      exact sl_list pins s σ H _ v vl vu lo hi sl Q I rx hs pl pu ⟨p, vs, rfl, hK ▸ t, fun q hq => k.newL R (cutW_eq r1 lo hi) hq⟩
    · exact k.notBad.elim
/-- o[i] = w -/
def rdP (T : Tb) (g : W → W → W → Hh → Option Hh) : TSet := fun o i v H Q => ∃ L h a b c, Rel T L h H ∧ RV T L H a o ∧ RV T L H b i ∧ RV T L H c v ∧
  ∃ h', g a b c h = some h' ∧ ∀ L' H', Rel T L' h' H' → Evo L H L' H' → Q H'
theorem set_W (hu : X.A.units + 1 < cLine) : PSet X (rdP T fun a b c h => setO h a b c) := by
  intro pins s σ H o i v ov iv u Q I ro ri rv ⟨L, h, a, b, c, R, ra, rb, rc, h', e, k⟩
  replace e : setO h a b c = some h' := e
  unfold setO at e
  split at e
  · rename_i n
    split at e
    · rename_i xs e1
      split at e
      · rename_i z
        split at e
        · rename_i j e2
          cases e
          obtain rfl := rb
          rcases ra with ⟨p, rfl, la⟩ | la
          · obtain ⟨oo, ho, c1, c2, c3⟩ := R.cell n p la
            rw [e1] at c1
            cases c1
            obtain ⟨vs, rfl, rk⟩ := c3
            refine set_list pins s σ H _ _ v ov iv u Q I ro ri rv ⟨p, vs, z, j, rfl, rfl, c2, by rw [rk.length]; exact e2, ?_⟩
            exact k L _ (R.putR la ⟨_, rfl, RVs.set j (RVs.evo (R.put la _).toEvo0 _ _ rk) (RV.evo (R.put la _).toEvo0 _ _ rc)⟩) (R.put la _)
          · have := R.gone n la
            rw [e1] at this
            cases this
        · cases e
      · cases e
    · rename_i kvs e1
      split at e
      · rename_i kk e2
        split at e
        · rename_i hl
          cases e
          have ey := keyOf_ok rb e2
          rcases ra with ⟨p, rfl, la⟩ | la
          · obtain ⟨oo, ho, c1, c2, c3⟩ := R.cell n p la
            rw [e1] at c1
            cases c1
            obtain ⟨kvv, rfl, rk⟩ := c3
            obtain rfl : ov = Value.ref p := ro
            refine d_setItem hu I (H' := upd H p (.dK (putK kvv (kS kk) v))) ?_ ri rv fun s' I' => ⟨_, I', ?_⟩
            · rw [ey]
              exact DPut.k c2 (by rw [RKs.len rk, line_eq]; omega)
            · exact k L _ (R.putR la ⟨_, rfl, RKs.put kk (RKs.evo (R.put la _).toEvo0 _ _ rk) (RV.evo (R.put la _).toEvo0 _ _ rc)⟩) (R.put la _)
          · have := R.gone n la
            rw [e1] at this
            cases this
        · cases e
      · cases e
    · cases e
  · cases e
end
end LP
/-! LP, part 5: built-in calls and methods, by plain values. -/
namespace LP
open L2 PySem PySem.Spec PyProof.Rows
theorem digits_eq (n : Nat) : digits n = TL.numL n := rfl
theorem num_mk (i : Int) : (toString i : Str) = mkS (numTx i) := by
  apply TL.ext_tl
  rw [mkS_tl]
  cases i with
  | ofNat n =>
    have e : ¬ (Int.ofNat n < 0) := by simp
    unfold numTx
    rw [if_neg e]
    exact TL.tl_num n
  | negSucc n =>
    have e : Int.negSucc n < 0 := Int.negSucc_lt_zero n
    unfold numTx
    rw [if_pos e]
    show TL.tl (Str.ofString (toString (Int.negSucc n))) = 45 :: TL.numL (n + 1)
    have e2 : (toString (Int.negSucc n) : String) = "-" ++ toString (n + 1) := rfl
    rw [e2, TL.tl_ofString, String.toList_append, List.map_append]
    have e3 := TL.tl_num (n + 1)
    rw [TL.tl_ofString] at e3
    have e4 : (toString ((n + 1 : Nat) : Int) : String) = toString (n + 1) := rfl
    rw [e4] at e3
    rw [e3]
    rfl
theorem digits_okT {n : Nat} (h : n < 10 ^ 30) : okT (digits n) ∧ (digits n).length ≤ 30 := by
  have hl : (digits n).length ≤ 30 := TL.numL_len (by decide) h
  refine ⟨⟨fun c hc => ?_, Nat.le_trans hl (by decide)⟩, hl⟩
  have := TL.numL_digits n c hc
  omega
theorem num_okT {i : Int} (h : small i = true) : okT (numTx i) := by
  have h1 := small_nat h
  have e : (2 : Nat) ^ 64 < 10 ^ 30 := by decide
  obtain ⟨⟨a, b⟩, c⟩ := digits_okT (n := i.natAbs) (Nat.lt_trans h1 e)
  unfold numTx
  split
  · refine ⟨fun c hc => ?_, ?_⟩
    · rcases List.mem_cons.mp hc with rfl | hc
      · decide
      · exact a c hc
    · rw [List.length_cons]
      have : (big : Nat) = 4000000 := rfl
      omega
  · exact ⟨a, b⟩
section
variable {T : Tb} {L : LL} {h : Hh} {H : Hp}
theorem ints_of : ∀ {xs : List W} {vs : List V} {l : List Int}, RVs T L H xs vs → intsOf xs = some l → vs = l.map V.int
  | [], v, l, r, e => by
    have e' : v = [] := r
    subst e'
    cases e
    rfl
  | .int i :: xs, v, l, r, e => by
    obtain ⟨y, r', rfl, q, k⟩ := r
    obtain rfl := q
    unfold intsOf at e
    split at e
    · rename_i l' e'
      cases e
      rw [ints_of k e']
      rfl
    · cases e
  | .non :: _, _, _, _, e => nomatch e
  | .bl _ :: _, _, _, _, e => nomatch e
  | .str _ :: _, _, _, _, e => nomatch e
  | .tup _ :: _, _, _, _, e => nomatch e
  | .lst _ :: _, _, _, _, e => nomatch e
  | .frz _ :: _, _, _, _, e => nomatch e
  | .ref _ :: _, _, _, _, e => nomatch e
  | .ins _ _ :: _, _, _, _, e => nomatch e
  | .cls _ :: _, _, _, _, e => nomatch e
  | .exn _ _ :: _, _, _, _, e => nomatch e
theorem bls_of : ∀ {xs : List W} {vs : List V} {l : List Bool}, RVs T L H xs vs → blsOf xs = some l → vs = l.map V.bl
  | [], v, l, r, e => by
    have e' : v = [] := r
    subst e'
    cases e
    rfl
  | .bl i :: xs, v, l, r, e => by
    obtain ⟨y, r', rfl, q, k⟩ := r
    obtain rfl := q
    unfold blsOf at e
    split at e
    · rename_i l' e'
      cases e
      rw [bls_of k e']
      rfl
    · cases e
  | .non :: _, _, _, _, e => nomatch e
  | .int _ :: _, _, _, _, e => nomatch e
  | .str _ :: _, _, _, _, e => nomatch e
  | .tup _ :: _, _, _, _, e => nomatch e
  | .lst _ :: _, _, _, _, e => nomatch e
  | .frz _ :: _, _, _, _, e => nomatch e
  | .ref _ :: _, _, _, _, e => nomatch e
  | .ins _ _ :: _, _, _, _, e => nomatch e
  | .cls _ :: _, _, _, _, e => nomatch e
  | .exn _ _ :: _, _, _, _, e => nomatch e
theorem strs_of : ∀ {xs : List W} {vs : List V} {l : List Tx}, RVs T L H xs vs → strsOf xs = some l → vs = (l.map mkS).map V.str ∧ ∀ x ∈ l, okT x
  | [], v, l, r, e => by
    have e' : v = [] := r
    subst e'
    cases e
    exact ⟨rfl, fun _ z => nomatch z⟩
  | .str i :: xs, v, l, r, e => by
    obtain ⟨y, r', rfl, q, k⟩ := r
    obtain ⟨rfl, o⟩ := q
    unfold strsOf at e
    split at e
    · rename_i l' e'
      cases e
      obtain ⟨q1, q2⟩ := strs_of k e'
      rw [q1]
      refine ⟨rfl, fun x hx => ?_⟩
      rcases List.mem_cons.mp hx with rfl | hx
      · exact o
      · exact q2 x hx
    · cases e
  | .non :: _, _, _, _, e => nomatch e
  | .bl _ :: _, _, _, _, e => nomatch e
  | .int _ :: _, _, _, _, e => nomatch e
  | .tup _ :: _, _, _, _, e => nomatch e
  | .lst _ :: _, _, _, _, e => nomatch e
  | .frz _ :: _, _, _, _, e => nomatch e
  | .ref _ :: _, _, _, _, e => nomatch e
  | .ins _ _ :: _, _, _, _, e => nomatch e
  | .cls _ :: _, _, _, _, e => nomatch e
  | .exn _ _ :: _, _, _, _, e => nomatch e
end
theorem maxI_spec : ∀ (r : List Int) (m : Int), maxI m r ∈ m :: r ∧ ∀ y ∈ m :: r, y ≤ maxI m r
  | [], m => by simp [maxI]
  | a :: r, m => by
    obtain ⟨h1, h2⟩ := maxI_spec r (if m < a then a else m)
    have h3 := h2 _ List.mem_cons_self
    refine ⟨?_, fun y hy => ?_⟩
    · show maxI (if m < a then a else m) r ∈ m :: a :: r
      rcases List.mem_cons.mp h1 with z | z
      · rw [z]
        split <;> simp
      · simp [z]
    · show y ≤ maxI (if m < a then a else m) r
      generalize maxI (if m < a then a else m) r = M at h1 h2 h3 ⊢
      simp only [List.mem_cons] at hy
      rcases hy with rfl | rfl | hy
      · split at h3 <;> omega
      · split at h3 <;> omega
      · exact h2 y (by simp [hy])
theorem minI_spec : ∀ (r : List Int) (m : Int), minI m r ∈ m :: r ∧ ∀ y ∈ m :: r, minI m r ≤ y
  | [], m => by simp [minI]
  | a :: r, m => by
    obtain ⟨h1, h2⟩ := minI_spec r (if a < m then a else m)
    have h3 := h2 _ List.mem_cons_self
    refine ⟨?_, fun y hy => ?_⟩
    · show minI (if a < m then a else m) r ∈ m :: a :: r
      rcases List.mem_cons.mp h1 with z | z
      · rw [z]
        split <;> simp
      · simp [z]
    · show minI (if a < m then a else m) r ≤ y
      generalize minI (if a < m then a else m) r = M at h1 h2 h3 ⊢
      simp only [List.mem_cons] at hy
      rcases hy with rfl | rfl | hy
      · split at h3 <;> omega
      · split at h3 <;> omega
      · exact h2 y (by simp [hy])
/-- the object that a built-in's name stands for, in the layer -/
def biV : Bi → Value
  | .len => .builtin "len"
  | .abs => .builtin "abs"
  | .max2 => .builtin "max"
  | .min2 => .builtin "min"
  | .maxl => .builtin "max"
  | .minl => .builtin "min"
  | .suml => .builtin "sum"
  | .all => .builtin "all"
  | .any => .builtin "any"
  | .int => .type "int"
  | .str => .type "str"
  | .tup => .type "tuple"
  | .lst _ => .type "list"
  | .dmod => .builtin "divmod"
section
variable {X : Cx} {T : Tb}
theorem RVs.one_of {L : LL} {H : Hp} {a : W} {xs : List V} (r : RVs T L H [a] xs) : ∃ x, xs = [x] ∧ RV T L H a x := by
  obtain ⟨y, r', rfl, q, k⟩ := r
  have e : r' = [] := k
  subst e
  exact ⟨y, rfl, q⟩
theorem RVs.two_of {L : LL} {H : Hp} {a b : W} {xs : List V} (r : RVs T L H [a, b] xs) : ∃ x y, xs = [x, y] ∧ RV T L H a x ∧ RV T L H b y := by
  obtain ⟨y, r', rfl, q, k⟩ := r
  obtain ⟨z, rfl, k2⟩ := k.one_of
  exact ⟨y, z, rfl, q, k2⟩
theorem bi_W (hK : T.K = X.K) {hot : Bool} (hc : hot = false → X.calm = true) (b : Bi) : CallR X (biV b) (rdB T fun as h => if hot && coldB b then .bad else biO b as h) := by
  intro pins s σ H xs us Q I rx ⟨L, h, as, R, ra, k⟩
  replace k : Okp T L H (if (hot && coldB b) = true then .bad else biO b as h) Q := k
  split at k
  · exact k.notBad.elim
  rename_i nh
  have cold : coldB b = true → X.calm = true := fun z => hc (by
    cases hot with
    | false => rfl
    | true => exact absurd (by rw [z]; rfl) nh)
  unfold biO at k
  split at k
  · -- len of a text
    obtain ⟨x, rfl, q⟩ := ra.one_of
    obtain ⟨rfl, o⟩ := q
    refine call_len_str pins s σ H _ us Q I rx ⟨_, rfl, ?_, ?_⟩
    · rw [mkS_len, line_eq]
      have := o.2
      unfold big at this
      omega
    · rw [mkS_len]
      exact k.same R rfl
  · rename_i a _
    split at k
    · rename_i ys e1
      obtain ⟨x, rfl, q⟩ := ra.one_of
      obtain ⟨p, vs, rfl, t, r, _⟩ := asQ_ok R e1 q
      exact call_len_seq pins s σ H _ us Q I rx ⟨p, vs, rfl, hK ▸ t, by rw [r.length]; exact k.same R rfl⟩
    · exact k.notBad.elim
  · obtain ⟨x, rfl, q⟩ := ra.one_of
    obtain rfl := q
    exact call_abs pins s σ H _ us Q I rx ⟨_, rfl, k.same R rfl⟩
  · obtain ⟨x, y, rfl, q1, q2⟩ := ra.two_of
    obtain rfl := q1
    obtain rfl := q2
    exact call_max2 (cold rfl) pins s σ H _ us Q I rx ⟨_, _, rfl, k.same R rfl⟩
  · obtain ⟨x, y, rfl, q1, q2⟩ := ra.two_of
    obtain rfl := q1
    obtain rfl := q2
    exact call_min2 (cold rfl) pins s σ H _ us Q I rx ⟨_, _, rfl, k.same R rfl⟩
  · split at k
    · rename_i ys e1
      split at k
      · rename_i i r e2
        obtain ⟨x, rfl, q⟩ := ra.one_of
        obtain ⟨p, vs, rfl, t, rr⟩ := asF_ok R e1 q
        have ev := ints_of rr e2
        subst ev
        refine cr_max (cold rfl) pins s σ H _ us Q I rx ⟨p, i :: r, rfl, hK ▸ t, by simp, fun m hm hle => ?_⟩
        obtain ⟨h1, h2⟩ := maxI_spec r i
        have e : m = maxI i r := Int.le_antisymm (h2 m hm) (hle _ h1)
        subst e
        exact k.same R rfl
      · exact k.notBad.elim
    · exact k.notBad.elim
  · split at k
    · rename_i ys e1
      split at k
      · rename_i i r e2
        obtain ⟨x, rfl, q⟩ := ra.one_of
        obtain ⟨p, vs, rfl, t, rr⟩ := asF_ok R e1 q
        have ev := ints_of rr e2
        subst ev
        refine cr_min (cold rfl) pins s σ H _ us Q I rx ⟨p, i :: r, rfl, hK ▸ t, by simp, fun m hm hle => ?_⟩
        obtain ⟨h1, h2⟩ := minI_spec r i
        have e : m = minI i r := Int.le_antisymm (hle _ h1) (h2 m hm)
        subst e
        exact k.same R rfl
      · exact k.notBad.elim
    · exact k.notBad.elim
  · split at k
    · rename_i ys e1
      split at k
      · rename_i l e2
        obtain ⟨x, rfl, q⟩ := ra.one_of
        obtain ⟨p, vs, rfl, t, rr⟩ := asF_ok R e1 q
        have ev := ints_of rr e2
        subst ev
        exact cr_sum (cold rfl) pins s σ H _ us Q I rx ⟨p, l, rfl, hK ▸ t, k.same R rfl⟩
      · exact k.notBad.elim
    · exact k.notBad.elim
  · split at k
    · rename_i ys e1
      split at k
      · rename_i l e2
        obtain ⟨x, rfl, q⟩ := ra.one_of
        obtain ⟨p, vs, rfl, t, rr⟩ := asF_ok R e1 q
        have ev := bls_of rr e2
        subst ev
        exact cr_all (cold rfl) pins s σ H _ us Q I rx ⟨p, l, rfl, hK ▸ t, k.same R rfl⟩
      · exact k.notBad.elim
    · exact k.notBad.elim
  · split at k
    · rename_i ys e1
      split at k
      · rename_i l e2
        obtain ⟨x, rfl, q⟩ := ra.one_of
        obtain ⟨p, vs, rfl, t, rr⟩ := asF_ok R e1 q
        have ev := bls_of rr e2
        subst ev
        exact cr_any (cold rfl) pins s σ H _ us Q I rx ⟨p, l, rfl, hK ▸ t, k.same R rfl⟩
      · exact k.notBad.elim
    · exact k.notBad.elim
  · obtain ⟨x, rfl, q⟩ := ra.one_of
    obtain rfl := q
    exact call_int1 pins s σ H _ us Q I rx (.inl ⟨_, rfl, k.same R rfl⟩)
  · split at k
    · rename_i x1 c
      obtain ⟨c1, c2, c3⟩ := c
      obtain ⟨x, rfl, q⟩ := ra.one_of
      obtain ⟨rfl, o⟩ := q
      refine call_int_str pins s σ H _ us Q I rx ⟨mkS x1, (digVal x1 : Nat), rfl, ?_, ?_, k.same R rfl⟩
      · exact SX.int_S c2 c1 (by omega)
      · rw [mkS_len]
        exact c3
    · exact k.notBad.elim
  · split at k
    · rename_i i c
      obtain ⟨x, rfl, q⟩ := ra.one_of
      obtain rfl := q
      refine call_str_int pins s σ H _ us Q I rx ⟨_, rfl, ?_, ?_⟩
      · have h1 := small_nat c
        by_cases z : i.natAbs = 0
        · rw [z]; decide
        · have := (Nat.log2_lt z).mpr h1
          omega
      · rw [num_mk]
        exact k.same R ⟨rfl, num_okT c⟩
    · exact k.notBad.elim
  · obtain ⟨x, rfl, q⟩ := ra.one_of
    obtain ⟨rfl, o⟩ := q
    exact SkE.call_str_str pins s σ H _ us Q I rx ⟨_, rfl, k.same R ⟨rfl, o⟩⟩
  · rename_i a
    split at k
    · rename_i ys e1
      obtain ⟨x, rfl, q⟩ := ra.one_of
      obtain ⟨p, vs, rfl, t, r, t1, t2⟩ := asQ_ok R e1 q
      by_cases z : ∃ zs, a = .tup zs
      · refine call_tuple_of pins s σ H _ us Q I rx ⟨p, vs, rfl, .inr ⟨hK ▸ (t1 z).sq, k.same R ⟨p, vs, rfl, t1 z, r⟩⟩⟩
      · exact call_tuple_of pins s σ H _ us Q I rx ⟨p, vs, rfl, .inl ⟨hK ▸ t2 z, fun l hl => k.newT R r hl⟩⟩
    · exact k.notBad.elim
  · split at k
    · rename_i a ys e1
      obtain ⟨x, rfl, q⟩ := ra.one_of
      obtain ⟨p, vs, rfl, t, r, t1, t2⟩ := asQ_ok R e1 q
      exact call_list_of pins s σ H _ us Q I rx ⟨p, vs, rfl, hK ▸ t, fun l hl => k.newL R r hl⟩
    · exact k.notBad.elim
  · split at k
    · rename_i i j c
      obtain ⟨x, y, rfl, q1, q2⟩ := ra.two_of
      obtain rfl := q1
      obtain rfl := q2
      exact call_divmod pins s σ H _ us Q I rx ⟨i, j, rfl, c, fun p hp => k.newT R ⟨_, _, rfl, rfl, _, _, rfl, rfl, rfl⟩ hp⟩
    · exact k.notBad.elim
  · exact k.notBad.elim
end
end LP
/-! LP, part 6: what an expression is to do, by plain values. -/
namespace LP
open L2 PySem PySem.Spec PyProof.Rows

/-- the exceptions that slots may hold -/
def px (X : Cx) : List (Addr × Obj) := if X.calm = true then [] else X.pn
theorem px_calm {X : Cx} (h : X.calm = true) : px X = [] := if_pos h
theorem px_sub {X : Cx} : ∀ p ∈ px X, p ∈ X.pn := fun p hp => by
  unfold px at hp
  split at hp
  · cases hp
  · exact hp
/-- what is wanted of an exception -/
abbrev WX' := Value → Option Addr → L2.St → Hp → Prop
/-- r ends well -/
def PoG {α β : Type} (T : Tb) (Rl : LL → Hp → α → β → Prop) (EX : XK) (L : LL) (H : Hp) (r : Rs α) (Q : β → Hp → Prop) : Prop := match r with
  | .ok a h' => ∀ b L' H', Rel T L' h' H' → Evo L H L' H' → Rl L' H' a b → Q b H'
  | .exc c p h' => ∀ L' H' cls d, Rel T L' h' H' → Evo L H L' H' → RX T L' H' c p cls d → EX cls d H'
  | .bad => False
section
variable {α β γ δ : Type} {T : Tb} {Rl : LL → Hp → α → β → Prop} {Rl' : LL → Hp → γ → δ → Prop} {EX : XK} {L L' : LL} {H H' : Hp} {h : Hh} {Q Q' : β → Hp → Prop}
theorem PoG.later {r : Rs α} (E : Evo L H L' H') (k : PoG T Rl EX L H r Q) : PoG T Rl EX L' H' r Q := by
  cases r with
  | ok a h1 => exact fun b L1 H1 R1 E1 => k b L1 H1 R1 (E.trans E1)
  | exc c p h1 => exact fun L1 H1 cls d R1 E1 => k L1 H1 cls d R1 (E.trans E1)
  | bad => exact k
theorem PoG.imp {r : Rs α} (k : PoG T Rl EX L H r Q) (hq : ∀ b H', Q b H' → Q' b H') : PoG T Rl EX L H r Q' := by
  cases r with
  | ok a h1 => exact fun b L1 H1 R1 E1 rl => hq _ _ (k b L1 H1 R1 E1 rl)
  | exc c p h1 => exact k
  | bad => exact k
theorem PoG.impX {r : Rs α} {EX' : XK} (k : PoG T Rl EX L H r Q) (hq : ∀ c d H', EX c d H' → EX' c d H') : PoG T Rl EX' L H r Q := by
  cases r with
  | ok a h1 => exact k
  | exc c p h1 => exact fun L1 H1 cls d R1 E1 x => hq _ _ _ (k L1 H1 cls d R1 E1 x)
  | bad => exact k
theorem PoG.bnd {r : Rs γ} {f : γ → Hh → Rs α} (k : PoG T Rl EX L H (r.bnd f) Q) :
    PoG T Rl' EX L H r (fun b H1 => ∃ L1 h1 a, Rel T L1 h1 H1 ∧ Evo L H L1 H1 ∧ Rl' L1 H1 a b ∧ PoG T Rl EX L1 H1 (f a h1) Q) := by
  cases r with
  | ok a h1 => exact fun b L1 H1 R1 E1 rl => ⟨L1, h1, a, R1, E1, rl, PoG.later E1 k⟩
  | exc c p h1 => exact k
  | bad => exact k
theorem PoG.bnd' {r : Rs γ} {f : γ → Hh → Rs α} {Q1 : δ → Hp → Prop} (k : PoG T Rl EX L H (r.bnd f) Q)
    (hq : ∀ b L1 h1 a H1, Rel T L1 h1 H1 → Evo L H L1 H1 → Rl' L1 H1 a b → PoG T Rl EX L1 H1 (f a h1) Q → Q1 b H1) : PoG T Rl' EX L H r Q1 :=
  PoG.imp (PoG.bnd (Rl' := Rl') k) fun b H1 ⟨L1, h1, a, R1, E1, rl, k1⟩ => hq b L1 h1 a H1 R1 E1 rl k1
theorem PoG.now {a : α} {b : β} (k : PoG T Rl EX L H (.ok a h) Q) (R : Rel T L h H) (rl : Rl L H a b) : Q b H := k b L H R Evo.rfl' rl
theorem PoG.notBad (k : PoG T Rl EX L H .bad Q) : False := k
def NoEx (r : Rs α) : Prop := match r with
  | .exc _ _ _ => False
  | _ => True
theorem PoG.okp {r : Rs W} {Q : VK} (k : PoG T (RV T) EX L H r Q) (n : NoEx r) : Okp T L H r Q := by
  cases r with
  | ok a h1 => exact ⟨a, h1, rfl, k⟩
  | exc c p h1 => exact n.elim
  | bad => exact k.elim
end
/-- a test's word -/
def toB : W → Hh → Rs Bool
  | .bl b, h => .ok b h
  | _, _ => .bad
def RB (_ : LL) (_ : Hp) (w : Bool) (b : Bool) : Prop := w = b
section
variable (T : Tb) (pn : List (Addr × Obj)) (WO : WX')
def rE (g : Env → Hh → Rs W) : TE := fun σ H Q => ∃ L h ρ, Rel T L h H ∧ REnv T pn L H ρ σ ∧ PoG T (RV T) (WE WO σ) L H (g ρ h) Q
def rT (g : Env → Hh → Rs W) : TT := fun σ H Q => ∃ L h ρ, Rel T L h H ∧ REnv T pn L H ρ σ ∧ PoG T RB (WE WO σ) L H ((g ρ h).bnd toB) Q
def rA (g : Env → Hh → Rs (List W)) : TA := fun σ H Q => ∃ L h ρ, Rel T L h H ∧ REnv T pn L H ρ σ ∧ PoG T (RVs T) (WE WO σ) L H (g ρ h) Q
end
section
variable (X : Cx) (T : Tb) (WO : WX')
abbrev EJ (e : Expr) (g : Env → Hh → Rs W) : Prop := PE X e (rE T (px X) WO g)
abbrev TJ (e : Expr) (g : Env → Hh → Rs W) : Prop := PT X e (rT T (px X) WO g)
abbrev WJ (e : Expr) (g : Env → Hh → Rs W) : Prop := PW X e (rT T (px X) WO g)
abbrev AJ (es : List Expr) (g : Env → Hh → Rs (List W)) : Prop := PA X es (rA T (px X) WO g)
end
section
variable {X : Cx} {T : Tb} {WO : WX'}
theorem PE.imp {e : Expr} {t t' : TE} (h : PE X e t) (i : ∀ σ H Q, t' σ H Q → t σ H Q) : PE X e t' := ⟨fun pins s σ H Q I hw => h.run pins s σ H Q I (i σ H Q hw)⟩
theorem PT.imp {e : Expr} {t t' : TT} (h : PT X e t) (i : ∀ σ H Q, t' σ H Q → t σ H Q) : PT X e t' := ⟨fun pins s σ H Q I hw => h.run pins s σ H Q I (i σ H Q hw)⟩
theorem PW.imp {e : Expr} {t t' : TT} (h : PW X e t) (i : ∀ σ H Q, t' σ H Q → t σ H Q) : PW X e t' := ⟨fun wh pins s σ H Q I hw => h.run wh pins s σ H Q I (i σ H Q hw)⟩
theorem PA.imp {e : List Expr} {t t' : TA} (h : PA X e t) (i : ∀ σ H Q, t' σ H Q → t σ H Q) : PA X e t' := ⟨fun pos pins s σ H Q I hw => h.run pos pins s σ H Q I (i σ H Q hw)⟩

/-! ### no exception from the operators -/
theorem nx_mkL {r : Bool} {xs : List W} {h : Hh} : NoEx (mkL r xs h) := by
  unfold mkL; repeat' split
  all_goals exact trivial
theorem nx_mkT {xs : List W} {h : Hh} : NoEx (mkT xs h) := by
  unfold mkT; repeat' split
  all_goals exact trivial
theorem nx_mkX {x : Tx} {h : Hh} : NoEx (mkX x h) := by
  unfold mkX; repeat' split
  all_goals exact trivial
theorem nx_outB {o : Option Bool} {h : Hh} : NoEx (outB o h) := by
  cases o <;> exact trivial
theorem nx_outW {o : Option W} {h : Hh} : NoEx (outW o h) := by
  cases o <;> exact trivial
theorem nx_bin {r : Bool} {o : Bo} {a b : W} {h : Hh} : NoEx (binO r o a b h) := by
  cases o <;> simp only [binO, addO, mulO] <;> repeat' split
  all_goals first
    | exact trivial
    | exact nx_mkL
    | exact nx_mkT
    | exact nx_mkX
theorem nx_bi {b : Bi} {as : List W} {h : Hh} : NoEx (biO b as h) := by
  unfold biO; repeat' split
  all_goals first
    | exact trivial
    | exact nx_mkL
theorem nx_me {m : Me} {o : W} {as : List W} {h : Hh} : NoEx (meO m o as h) := by
  unfold meO; repeat' split
  all_goals first
    | exact trivial
    | exact nx_mkL
theorem nx_sl {r : Bool} {a : W} {lo hi : Option Int} {h : Hh} : NoEx (slO r h a lo hi) := by
  unfold slO; repeat' split
  all_goals first
    | exact trivial
    | exact nx_mkL

/-! ### leaves -/
theorem ej_of_tC {e : Expr} {v : V} {w : W} (h : PE X e (tC v)) (r : ∀ L H, RV T L H w v) : EJ X T WO e fun _ h => .ok w h :=
  PE.imp h fun σ H Q ⟨L, h, ρ, R, E, k⟩ => k.now R (r L H)
theorem ej_non {j pos} : EJ X T WO (.Constant .none j pos) fun _ h => .ok .non h := ej_of_tC pe_non fun _ _ => rfl
theorem ej_bl {b j pos} : EJ X T WO (.Constant (.bool b) j pos) fun _ h => .ok (.bl b) h := ej_of_tC pe_bl fun _ _ => rfl
theorem ej_int {i j pos} : EJ X T WO (.Constant (.int i) j pos) fun _ h => .ok (.int i) h := ej_of_tC pe_int fun _ _ => rfl
theorem ej_str {x : Tx} {j pos} (o : okT x) : EJ X T WO (.Constant (.str (mkS x)) j pos) fun _ h => .ok (.str x) h := ej_of_tC pe_str fun _ _ => ⟨rfl, o⟩
theorem ej_var {i : Nat} {x : Str} {pos : Pos} (hN : X.N[i]? = some x) (hv : Vis X.env.scope x) (hd : (x == ("__debug__" : Str)) = false) (hcd : (x == ("__classdict__" : Str)) = false) :
    EJ X T WO (.Name x pos) fun ρ h => outV (ρ[i]?).join h := by
  refine PE.imp (pe_var hN hv hd hcd) fun σ H Q ⟨L, h, ρ, R, E, k⟩ => ?_
  have k : PoG T (RV T) (WE WO σ) L H (outV (ρ[i]?).join h) Q := k
  unfold outV at k
  split at k
  · rename_i w e
    split at k
    · exact k.elim
    · rename_i ne
      have e' : ρ[i]? = some (some w) := by
        cases q : ρ[i]? with
        | none => rw [q] at e; cases e
        | some o => rw [q] at e; exact congrArg some e
      obtain ⟨v, e1, r⟩ := E.at_ i w e'
      exact ⟨v, e1, k.now R (r.rv (by simpa using ne))⟩
  · exact k.elim
/-! ### operators -/
variable {a b c : Expr} {ga gb gc : Env → Hh → Rs W} {pos : Pos}
theorem ej_op {op : Operator} {g : W → W → Hh → Rs W} (ho : OpR X (binaryOp op) (rdO T g)) (n : ∀ a b h, NoEx (g a b h)) (ha : EJ X T WO a ga) (hb : EJ X T WO b gb) :
    EJ X T WO (.BinOp a op b pos) fun ρ h => (ga ρ h).bnd fun x h => (gb ρ h).bnd fun y h => g x y h :=
  PE.imp (pe_op ho ha hb) fun σ H Q ⟨L, h, ρ, R, E, k⟩ => ⟨L, h, ρ, R, E, k.bnd' fun x L1 h1 a1 H1 R1 E1 r1 k1 => ⟨L1, h1, ρ, R1, E.evo E1.toEvo0, k1.bnd' fun y L2 h2 a2 H2 R2 E2 r2 k2 =>
    ⟨L2, h2, a1, a2, R2, RV.evo E2.toEvo0 _ _ r1, r2, k2.okp (n _ _ _)⟩⟩⟩
theorem cmp_imp {g : W → W → Hh → Rs W} (n : ∀ a b h, NoEx (g a b h)) (σ : L2.St) (H : Hp) (Q : VK) (h : rE T (px X) WO (fun ρ h => (ga ρ h).bnd fun x h => (gb ρ h).bnd fun y h => g x y h) σ H Q) : tOp (rdO T g) (rE T (px X) WO ga) (rE T (px X) WO gb) σ H Q := by
  obtain ⟨L, h, ρ, R, E, k⟩ := h
  exact ⟨L, h, ρ, R, E, k.bnd' fun x L1 h1 a1 H1 R1 E1 r1 k1 => ⟨L1, h1, ρ, R1, E.evo E1.toEvo0, k1.bnd' fun y L2 h2 a2 H2 R2 E2 r2 k2 =>
    ⟨L2, h2, a1, a2, R2, RV.evo E2.toEvo0 _ _ r1, r2, k2.okp (n _ _ _)⟩⟩⟩
theorem ej_cmp {op : CmpOp} {g : W → W → Hh → Rs W} (ho : OpR X (compareOp op) (rdO T g)) (n : ∀ a b h, NoEx (g a b h)) (ha : EJ X T WO a ga) (hb : EJ X T WO b gb) (hm : behindInMarks op b = false) :
    EJ X T WO (.Compare a [op] [b] pos) fun ρ h => (ga ρ h).bnd fun x h => (gb ρ h).bnd fun y h => g x y h := PE.imp (pe_cmpR ho ha hb hm) (cmp_imp n)
/-- a truth -/
theorem bnd_bl {r : Rs W} {L : LL} {H : Hp} {EX : XK} {Q : Bool → Hp → Prop} (k : PoG T RB EX L H (r.bnd toB) Q) : PoG T (RV T) EX L H r (fun x H' => ∃ k, x = .bl k ∧ Q k H') := by
  refine k.bnd' fun x L1 h1 a1 H1 R1 E1 r1 k1 => ?_
  cases a1 with
  | bl c =>
    obtain rfl := r1
    exact ⟨c, rfl, k1.now R1 rfl⟩
  | _ => exact k1.elim
theorem tj_cmp {op : CmpOp} {g : W → W → Hh → Rs W} (ho : OpR X (compareOp op) (rdO T g)) (n : ∀ a b h, NoEx (g a b h)) (ha : EJ X T WO a ga) (hb : EJ X T WO b gb) (hm : behindInMarks op b = false) :
    TJ X T WO (.Compare a [op] [b] pos) fun ρ h => (ga ρ h).bnd fun x h => (gb ρ h).bnd fun y h => g x y h :=
  PT.imp (pt_cmpR ho ha hb hm) fun σ H Q ⟨L, h, ρ, R, E, k⟩ => cmp_imp n σ H _ ⟨L, h, ρ, R, E, bnd_bl k⟩
/-- by its value's truth -/
theorem tru_V (hK : T.K = X.K) {L : LL} {H : Hp} {h : Hh} (R : Rel T L h H) {w : W} {v : V} {b : Bool} (r : RV T L H w v) (e : tru h w = some b) : TruV X.K v H b := by
  have seq : ∀ xs, asQ h w = some xs → b = !xs.isEmpty → TruV X.K v H b := by
    intro xs e1 e2
    obtain ⟨p, vs, rfl, t, r2, _⟩ := asQ_ok R e1 r
    have e3 : vs.isEmpty = xs.isEmpty := by
      have := r2.length
      cases vs <;> cases xs <;> simp_all
    rcases t with t | t
    · exact .inl ⟨vs, hK ▸ t, by rw [e3]; exact e2⟩
    · exact .inr (.inl ⟨vs, hK ▸ t, by rw [e3]; exact e2⟩)
  cases w with
  | non =>
    obtain rfl := r
    cases e
    rfl
  | bl c =>
    obtain rfl := r
    cases e
    rfl
  | int i =>
    obtain rfl := r
    cases e
    rfl
  | str x =>
    obtain ⟨rfl, o⟩ := r
    cases e
    refine ⟨?_, ?_⟩
    · rw [mkS_len, line_eq]
      have := o.2
      unfold big at this
      omega
    · rw [mkS_len]
      cases x <;> simp
      omega
  | tup xs =>
    refine seq xs rfl ?_
    have e' : some (!xs.isEmpty) = some b := e
    cases e'
    rfl
  | lst xs =>
    refine seq xs rfl ?_
    have e' : some (!xs.isEmpty) = some b := e
    cases e'
    rfl
  | frz xs =>
    refine seq xs rfl ?_
    have e' : some (!xs.isEmpty) = some b := e
    cases e'
    rfl
  | ref n =>
    cases q : asQ h (.ref n) with
    | none =>
      have e' : (match asQ h (.ref n) with
        | some xs => some (!xs.isEmpty)
        | none => none) = some b := e
      rw [q] at e'
      cases e'
    | some xs =>
      refine seq xs q ?_
      have e' : (match asQ h (.ref n) with
        | some xs => some (!xs.isEmpty)
        | none => none) = some b := e
      rw [q] at e'
      cases e'
      rfl
  | ins _ _ => cases e
  | cls _ => cases e
  | exn _ _ => cases e
theorem tj_of (hK : T.K = X.K) (ha : EJ X T WO a ga) (he : ∀ whole, isTrue a X.env whole = (do let v ← whole; standAt a.pos; holding [v] (truthy v))) : TJ X T WO a fun ρ h => fin true (ga ρ h) := by
  refine PT.imp (pt_truth ha he) fun σ H Q ⟨L, h, ρ, R, E, k⟩ => ⟨L, h, ρ, R, E, ?_⟩
  have k2 : PoG T RB (WE WO σ) L H ((ga ρ h).bnd fun w h => (outB (tru h w) h).bnd toB) Q := by
    have e : (((ga ρ h).bnd fun w h => outB (tru h w) h).bnd toB) = ((ga ρ h).bnd fun w h => (outB (tru h w) h).bnd toB) := by
      cases ga ρ h <;> rfl
    rw [← e]
    exact k
  refine k2.bnd' fun x L1 h1 a1 H1 R1 E1 r1 k1 => ?_
  cases q : tru h1 a1 with
  | none =>
    rw [q] at k1
    exact k1.elim
  | some c =>
    rw [q] at k1
    exact ⟨c, tru_V hK R1 r1 q, k1.now R1 rfl⟩
/-- where the value is a bool -/
theorem fin_bl {r : Rs W} {L : LL} {H : Hp} {EX : XK} {Q : Bool → Hp → Prop} (k : PoG T RB EX L H ((fin true r).bnd toB) Q) (hb : ∀ w h, r = .ok w h → ∃ c, w = .bl c) : PoG T RB EX L H (r.bnd toB) Q := by
  cases r with
  | ok a h1 =>
    obtain ⟨c, rfl⟩ := hb a h1 rfl
    exact k
  | exc c p h1 => exact k
  | bad => exact k
/-! ### and, or, not, if -/
def andR (r : Rs W) (f : Hh → Rs W) : Rs W := r.bnd fun x h => match x with
  | .bl true => f h
  | .bl false => .ok (.bl false) h
  | _ => .bad
def orR (r : Rs W) (f : Hh → Rs W) : Rs W := r.bnd fun x h => match x with
  | .bl true => .ok (.bl true) h
  | .bl false => f h
  | _ => .bad
def notR (r : Rs W) : Rs W := r.bnd fun x h => match x with
  | .bl b => .ok (.bl (!b)) h
  | _ => .bad
def iteR (r : Rs W) (f g : Hh → Rs W) : Rs W := r.bnd fun x h => match x with
  | .bl true => f h
  | .bl false => g h
  | _ => .bad
variable {rest : List Expr}
theorem bnd_bnd {α β γ : Type} (r : Rs α) (f : α → Hh → Rs β) (g : β → Hh → Rs γ) : (r.bnd f).bnd g = r.bnd fun x h => (f x h).bnd g := by cases r <;> rfl
/-- two ways by a test's word -/
theorem bnd_B {α β : Type} {Rl : LL → Hp → α → β → Prop} {r : Rs W} {f : W → Hh → Rs α} {L : LL} {H : Hp} {EX : XK} {Q : β → Hp → Prop} (k : PoG T Rl EX L H (r.bnd f) Q) (hf : ∀ w h, (∀ b, w ≠ .bl b) → f w h = .bad) :
    PoG T RB EX L H (r.bnd toB) (fun c H1 => ∃ L1 h1, Rel T L1 h1 H1 ∧ Evo L H L1 H1 ∧ PoG T Rl EX L1 H1 (f (.bl c) h1) Q) := by
  cases r with
  | ok a h1 =>
    cases a with
    | bl c =>
      refine fun b L1 H1 R1 E1 rl => ?_
      obtain rfl := rl
      exact ⟨L1, h1, R1, E1, PoG.later E1 k⟩
    | _ =>
      have k : PoG T Rl EX L H (f _ h1) Q := k
      rw [hf _ _ (by intro b z; cases z)] at k
      exact k.elim
  | exc c p h1 => exact k
  | bad => exact k
/-- .. of a value -/
theorem bnd_BV {α β : Type} {Rl : LL → Hp → α → β → Prop} {r : Rs W} {f : W → Hh → Rs α} {L : LL} {H : Hp} {EX : XK} {Q : β → Hp → Prop} (k : PoG T Rl EX L H (r.bnd f) Q) (hf : ∀ w h, (∀ b, w ≠ .bl b) → f w h = .bad) :
    PoG T (RV T) EX L H r (fun x H1 => ∃ c, x = .bl c ∧ ∃ L1 h1, Rel T L1 h1 H1 ∧ Evo L H L1 H1 ∧ PoG T Rl EX L1 H1 (f (.bl c) h1) Q) := bnd_bl (bnd_B k hf)
theorem wj_and1 (ha : TJ X T WO a ga) : WJ X T WO (.BoolOp .And [a] pos) ga := pw_and1 ha
theorem wj_or1 (ha : TJ X T WO a ga) : WJ X T WO (.BoolOp .Or [a] pos) ga := pw_or1 ha
theorem wj_and (ha : TJ X T WO a ga) (hb : WJ X T WO (.BoolOp .And (b :: rest) pos) gb) : WJ X T WO (.BoolOp .And (a :: b :: rest) pos) fun ρ h => andR (ga ρ h) (gb ρ) := by
  refine PW.imp (pw_and ha hb) fun σ H Q ⟨L, h, ρ, R, E, k⟩ => ⟨L, h, ρ, R, E, ?_⟩
  unfold andR at k
  rw [bnd_bnd] at k
  refine (bnd_B k (fun w h n => by cases w <;> first | rfl | exact absurd rfl (n _))).imp fun c H1 ⟨L1, h1, R1, E1, k1⟩ => ?_
  cases c with
  | true => exact ⟨L1, h1, ρ, R1, E.evo E1.toEvo0, k1⟩
  | false => exact k1.now R1 rfl
theorem wj_or (ha : TJ X T WO a ga) (hb : WJ X T WO (.BoolOp .Or (b :: rest) pos) gb) : WJ X T WO (.BoolOp .Or (a :: b :: rest) pos) fun ρ h => orR (ga ρ h) (gb ρ) := by
  refine PW.imp (pw_or ha hb) fun σ H Q ⟨L, h, ρ, R, E, k⟩ => ⟨L, h, ρ, R, E, ?_⟩
  unfold orR at k
  rw [bnd_bnd] at k
  refine (bnd_B k (fun w h n => by cases w <;> first | rfl | exact absurd rfl (n _))).imp fun c H1 ⟨L1, h1, R1, E1, k1⟩ => ?_
  cases c with
  | false => exact ⟨L1, h1, ρ, R1, E.evo E1.toEvo0, k1⟩
  | true => exact k1.now R1 rfl
theorem ej_one {op} (ha : EJ X T WO a ga) : EJ X T WO (.BoolOp op [a] pos) ga := pe_one ha
theorem ej_and (ha : EJ X T WO a ga) (hb : EJ X T WO (.BoolOp .And (b :: rest) pos) gb) : EJ X T WO (.BoolOp .And (a :: b :: rest) pos) fun ρ h => andR (ga ρ h) (gb ρ) := by
  refine PE.imp (pe_and ha hb) fun σ H Q ⟨L, h, ρ, R, E, k⟩ => ⟨L, h, ρ, R, E, ?_⟩
  refine (bnd_BV k (fun w h n => by cases w <;> first | rfl | exact absurd rfl (n _))).imp fun x H1 ⟨c, e, L1, h1, R1, E1, k1⟩ => ⟨c, e, ?_⟩
  cases c with
  | true => exact ⟨L1, h1, ρ, R1, E.evo E1.toEvo0, k1⟩
  | false => exact k1.now R1 rfl
theorem ej_or (ha : EJ X T WO a ga) (hb : EJ X T WO (.BoolOp .Or (b :: rest) pos) gb) : EJ X T WO (.BoolOp .Or (a :: b :: rest) pos) fun ρ h => orR (ga ρ h) (gb ρ) := by
  refine PE.imp (pe_or ha hb) fun σ H Q ⟨L, h, ρ, R, E, k⟩ => ⟨L, h, ρ, R, E, ?_⟩
  refine (bnd_BV k (fun w h n => by cases w <;> first | rfl | exact absurd rfl (n _))).imp fun x H1 ⟨c, e, L1, h1, R1, E1, k1⟩ => ⟨c, e, ?_⟩
  cases c with
  | false => exact ⟨L1, h1, ρ, R1, E.evo E1.toEvo0, k1⟩
  | true => exact k1.now R1 rfl
theorem tj_not (ha : TJ X T WO a ga) : TJ X T WO (.UnaryOp .Not a pos) fun ρ h => notR (ga ρ h) := by
  refine PT.imp (pt_not ha) fun σ H Q ⟨L, h, ρ, R, E, k⟩ => ⟨L, h, ρ, R, E, ?_⟩
  unfold notR at k
  rw [bnd_bnd] at k
  refine (bnd_B k (fun w h n => by cases w <;> first | rfl | exact absurd rfl (n _))).imp fun c H1 ⟨L1, h1, R1, E1, k1⟩ => k1.now R1 rfl
/-- not a, whose value is a bool by its truth -/
theorem not_by {A : Around} {prog : Program} {w : World} {EX : Value → Shared → Prop} {s : Shared} {v : Value} {Q : Value → Shared → Prop} (h : wpAny (model prog w) A (truthy v) (fun b s' => Q (.bool (!b)) s') EX s) : wpAny (model prog w) A (unaryOp .Not v) Q EX s := not_of h
theorem ej_not (hK : T.K = X.K) (ha : EJ X T WO a ga) : EJ X T WO (.UnaryOp .Not a pos) fun ρ h => notR (fin true (ga ρ h)) := by
  refine ⟨fun pins s σ H Q I hw => ?_⟩
  obtain ⟨L, h, ρ, R, E, k⟩ := hw
  have k2 : PoG T (RV T) (WE WO σ) L H ((ga ρ h).bnd fun w h => notR (outB (tru h w) h)) Q := by
    have e : notR (fin true (ga ρ h)) = ((ga ρ h).bnd fun w h => notR (outB (tru h w) h)) := by
      unfold notR fin
      rw [if_pos rfl, bnd_bnd]
    rw [← e]
    exact k
  have hw2 : rE T (px X) WO ga σ H (fun x H1 => ∃ c, TruV X.K x H1 c ∧ Q (.bl (!c)) H1) := ⟨L, h, ρ, R, E, k2.bnd' fun x L1 h1 a1 H1 R1 E1 r1 k1 => by
    cases q : tru h1 a1 with
    | none =>
      rw [q] at k1
      exact k1.elim
    | some c =>
      rw [q] at k1
      exact ⟨c, tru_V hK R1 r1 q, k1.now R1 rfl⟩⟩
  refine UnaryOp_ (thn (ha.run pins s σ H _ I hw2) fun v s1 ⟨x, H1, I1, r1, q1⟩ => ?_)
  refine not_of (thn (tru_ok pins s1 σ H1 x v (fun c H' => Q (.bl (!c)) H') I1 r1 q1) fun c s2 ⟨H2, I2, q2⟩ => ?_)
  exact ⟨.bl (!c), H2, I2, rfl, q2⟩
theorem ej_ite {gt : Env → Hh → Rs W} (hc : TJ X T WO c gt) (ha : EJ X T WO a ga) (hb : EJ X T WO b gb) : EJ X T WO (.IfExp c a b pos) fun ρ h => iteR (gt ρ h) (ga ρ) (gb ρ) := by
  refine PE.imp (pe_ifExp hc ha hb) fun σ H Q ⟨L, h, ρ, R, E, k⟩ => ⟨L, h, ρ, R, E, ?_⟩
  refine (bnd_B k (fun w h n => by cases w <;> first | rfl | exact absurd rfl (n _))).imp fun c H1 ⟨L1, h1, R1, E1, k1⟩ => ?_
  cases c with
  | true => exact ⟨L1, h1, ρ, R1, E.evo E1.toEvo0, k1⟩
  | false => exact ⟨L1, h1, ρ, R1, E.evo E1.toEvo0, k1⟩
end
end LP
/-! LP, part 7: methods, argument lists, displays, calls. -/
namespace LP
open L2 PySem PySem.Spec PyProof.Rows

/-! ### texts cut and joined -/
theorem splT_cons (c d : Nat) (r : Tx) : splT c (d :: r) = if d = c then [] :: splT c r else (match splT c r with
    | p :: ps => (d :: p) :: ps
    | [] => [[d]]) := rfl
theorem splT_ne (c : Nat) : ∀ x : Tx, splT c x ≠ []
  | [] => by simp [splT]
  | d :: r => by
    unfold splT
    split
    · simp
    · split <;> simp
theorem spl_one (c : Nat) : ∀ (x acc : Tx), TL.spl [c] 0 acc x = (match splT c x with
    | p :: ps => (acc ++ p) :: ps
    | [] => [acc])
  | [], acc => by simp [TL.spl, splT]
  | d :: r, acc => by
    have e1 : TL.pre [c] (d :: r) = decide (d = c) := by
      show ([d] == [c]) = _
      by_cases z : d = c
      · subst z; simp
      · simp [z]
    by_cases z : d = c
    · rw [TL.spl_hit (by rw [e1]; exact decide_eq_true z)]
      show acc :: TL.spl [c] 0 [] r = _
      rw [spl_one c r [], splT_cons, if_pos z]
      cases q : splT c r with
      | nil => exact absurd q (splT_ne c r)
      | cons p ps => simp
    · rw [TL.spl_miss (by rw [e1]; exact decide_eq_false z), spl_one c r (acc ++ [d]), splT_cons, if_neg z]
      cases q : splT c r with
      | nil => simp
      | cons p ps => simp
theorem split_eq (x : Tx) (c : Nat) (hc : c < 256) : Txt.split (mkS x) (mkS [c]) = (splT c x).map mkS := by
  refine TL.map_tl_inj ?_
  rw [TL.split_spl (mkS x) (mkS [c]) (by rw [mkS_tl]; simp) (TL.kind_ok (by simp [mkS, hc])), mkS_tl, mkS_tl, spl_one c x []]
  have e : (((splT c x).map mkS).map TL.tl) = splT c x := by
    rw [List.map_map]
    have : TL.tl ∘ mkS = id := funext fun y => mkS_tl y
    rw [this, List.map_id]
  rw [e]
  cases q : splT c x with
  | nil => exact absurd q (splT_ne c x)
  | cons p ps => simp
theorem splT_sub (c : Nat) : ∀ (x : Tx), ∀ p ∈ splT c x, p.Sublist x
  | [], p, h => by
    have : p = [] := by simpa [splT] using h
    subst this
    exact List.Sublist.refl _
  | d :: r, p, h => by
    have ih := splT_sub c r
    unfold splT at h
    split at h
    · rcases List.mem_cons.mp h with rfl | h
      · exact List.nil_sublist _
      · exact (ih p h).trans (List.sublist_cons_self _ _)
    · split at h
      · rename_i q qs e
        rcases List.mem_cons.mp h with rfl | h
        · exact (ih q (by rw [e]; exact List.mem_cons_self)).cons₂ d
        · exact (ih p (by rw [e]; exact List.mem_cons_of_mem _ h)).trans (List.sublist_cons_self _ _)
      · have : p = [d] := by simpa using h
        subst this
        exact List.Sublist.cons₂ d (List.nil_sublist _)
theorem splT_len (c : Nat) : ∀ x : Tx, (splT c x).length ≤ x.length + 1
  | [] => by simp [splT]
  | d :: r => by
    have ih := splT_len c r
    unfold splT
    split
    · simp only [List.length_cons]; omega
    · split
      · rename_i q qs e
        rw [e] at ih
        simp only [List.length_cons] at ih ⊢
        omega
      · simp
theorem joinT_eq (s : Tx) : ∀ l : List Tx, joinT s l = TL.joinL s l
  | [] => rfl
  | [_] => rfl
  | p :: q :: r => by
    show p ++ (s ++ joinT s (q :: r)) = p ++ (s ++ TL.joinL s (q :: r))
    rw [joinT_eq s (q :: r)]
theorem joinT_len (s : Tx) : ∀ l : List Tx, (joinT s l).length ≤ (l.map List.length).sum + l.length * s.length
  | [] => by simp [joinT]
  | [p] => by simp [joinT]
  | p :: q :: r => by
    have ih := joinT_len s (q :: r)
    show (p ++ (s ++ joinT s (q :: r))).length ≤ _
    simp only [List.length_append, List.map_cons, List.sum_cons, List.length_cons] at ih ⊢
    have e : (r.length + 1 + 1) * s.length = (r.length + 1) * s.length + s.length := by rw [Nat.succ_mul]
    rw [e]
    omega
theorem joinT_mem (s : Tx) : ∀ (l : List Tx) (c : Nat), c ∈ joinT s l → c ∈ s ∨ ∃ p ∈ l, c ∈ p
  | [], c, h => by simp [joinT] at h
  | [p], c, h => .inr ⟨p, List.mem_cons_self, h⟩
  | p :: q :: r, c, h => by
    have h : c ∈ p ++ (s ++ joinT s (q :: r)) := h
    rcases List.mem_append.mp h with h | h
    · exact .inr ⟨p, List.mem_cons_self, h⟩
    · rcases List.mem_append.mp h with h | h
      · exact .inl h
      · rcases joinT_mem s (q :: r) c h with h | ⟨z, hz, h⟩
        · exact .inl h
        · exact .inr ⟨z, List.mem_cons_of_mem _ hz, h⟩
theorem join_mk (s : Tx) (l : List Tx) : Txt.join (mkS s) (l.map mkS) = mkS (joinT s l) := by
  apply TL.ext_tl
  rw [TL.join_eq, TL.tl_join, mkS_tl, mkS_tl, joinT_eq, List.map_map]
  have : TL.tl ∘ mkS = id := funext fun y => mkS_tl y
  rw [this, List.map_id]
section
variable {X : Cx} {T : Tb} {L : LL} {H : Hp} {h : Hh}
theorem RVs.texts : ∀ {l : List Tx}, (∀ x ∈ l, okT x) → RVs T L H (l.map W.str) ((l.map mkS).map V.str)
  | [], _ => rfl
  | x :: r, o => ⟨_, _, rfl, ⟨rfl, o x List.mem_cons_self⟩, RVs.texts fun y hy => o y (List.mem_cons_of_mem _ hy)⟩
theorem me_split (r : Bool) : MtR X "str.split" (rdM T (meO (.split r))) := by
  intro pins s σ H x xs v us Q I rx rs ⟨L, h, o, as, R, ro, ra, k⟩
  unfold meO at k
  split at k
  · rename_i r' c e1
    cases e1
    split at k
    · rename_i x1
      split at k
      · rename_i hc
        obtain ⟨rfl, o1⟩ := ro
        obtain ⟨y, rfl, ry⟩ := ra.one_of
        obtain ⟨rfl, o2⟩ := ry
        refine mt_split pins s σ H _ _ v us Q I rx rs ⟨mkS x1, mkS [c], rfl, rfl, by simp [mkS_len], ?_, ?_⟩
        · rw [mkS_len, line_eq]
          have := hc.2
          unfold big at this
          omega
        · rw [split_eq x1 c hc.1]
          exact fun p hp => k.newL R (RVs.texts fun y hy => okT_sub o1 (splT_sub c x1 y hy)) hp
      · exact k.notBad.elim
    · exact k.notBad.elim
  all_goals first
    | (rename_i e1; cases e1)
    | (rename_i e1 _; cases e1)
    | exact k.notBad.elim
    | skip
theorem me_join (hK : T.K = X.K) : MtR X "str.join" (rdM T (meO .join)) := by
  intro pins s σ H x xs v us Q I rx rs ⟨L, h, o, as, R, ro, ra, k⟩
  unfold meO at k
  split at k
  · rename_i e1; cases e1
  · split at k
    · rename_i a s1
      split at k
      · rename_i ys e2
        split at k
        · rename_i l e3
          split at k
          · rename_i hz
            obtain ⟨rfl, o1⟩ := ro
            obtain ⟨y, rfl, ry⟩ := ra.one_of
            obtain ⟨p, vs, rfl, t, r, _⟩ := asQ_ok R e2 ry
            obtain ⟨e4, o2⟩ := strs_of r e3
            subst e4
            refine mt_join pins s σ H _ _ v us Q I rx rs ⟨mkS s1, p, l.map mkS, rfl, rfl, hK ▸ t, ?_, ?_⟩
            · have e5 : (l.map mkS).map (·.length) = l.map List.length := by
                rw [List.map_map]
                exact List.map_congr_left fun y _ => mkS_len y
              rw [e5, List.length_map, mkS_len]
              unfold big at hz
              omega
            · rw [join_mk]
              refine k.same R ⟨rfl, fun c hc => ?_, Nat.le_trans (joinT_len s1 l) hz⟩
              rcases joinT_mem s1 l c hc with hc | ⟨z, hz, hc⟩
              · exact o1.1 c hc
              · exact (o2 z hz).1 c hc
          · exact k.notBad.elim
        · exact k.notBad.elim
      · exact k.notBad.elim
    · exact k.notBad.elim
  all_goals first
    | (rename_i e1; cases e1)
    | (rename_i e1 _; cases e1)
    | exact k.notBad.elim
    | skip
theorem me_append : MtR X "list.append" (rdM T (meO .append)) := by
  intro pins s σ H x xs v us Q I rx rs ⟨L, h, o, as, R, ro, ra, k⟩
  unfold meO at k
  split at k
  · rename_i e1; cases e1
  · rename_i e1; cases e1
  · split at k
    · rename_i a n
      split at k
      · rename_i ys e2
        split at k
        · rename_i hz
          obtain ⟨y, rfl, ry⟩ := ra.one_of
          rcases ro with ⟨p, rfl, la⟩ | la
          · obtain ⟨c, ho, e3, e4, e5⟩ := R.cell n p la
            rw [e2] at e3
            cases e3
            obtain ⟨vs, rfl, rv⟩ := e5
            refine mt_append pins s σ H _ _ v us Q I rx rs ⟨p, vs, y, rfl, rfl, e4, ?_, ?_⟩
            · rw [rv.length, line_eq]
              unfold big at hz
              omega
            · obtain ⟨w', h', e, k⟩ := k
              cases e
              refine k _ L _ (R.putR la ⟨_, rfl, RVs.evo (R.put la _).toEvo0 _ _ (rv.append (RVs.one ry))⟩) (R.put la _) rfl
          · have := R.gone n la
            rw [e2] at this
            cases this
        · exact k.notBad.elim
      · exact k.notBad.elim
    · exact k.notBad.elim
  all_goals first
    | (rename_i e1; cases e1)
    | (rename_i e1 _; cases e1)
    | exact k.notBad.elim
    | skip
theorem idxO_spec (x : W) : ∀ (xs : List W) (n k : Nat), idxO x xs n = some k → ∃ j y, k = n + j ∧ xs[j]? = some y ∧ eqB y x = true ∧ ∀ (m : Nat) (z : W), m < j → xs[m]? = some z → eqB z x = false
  | [], n, k, h => nomatch h
  | y :: r, n, k, h => by
    unfold idxO at h
    split at h
    · rename_i e
      cases h
      exact ⟨0, y, rfl, rfl, e, fun m z hm => absurd hm (Nat.not_lt_zero _)⟩
    · rename_i e
      obtain ⟨j, z, e1, e2, e3, e4⟩ := idxO_spec x r (n + 1) k h
      refine ⟨j + 1, z, by omega, by simpa using e2, e3, fun m u hm hu => ?_⟩
      cases m with
      | zero =>
        have : y = u := by simpa using hu
        subst this
        simpa using e
      | succ m => exact e4 m u (by omega) (by simpa using hu)
theorem me_index (hK : T.K = X.K) : MtR X "list.index" (rdM T (meO .index)) := by
  intro pins s σ H x xs v us Q I rx rs ⟨L, h, o, as, R, ro, ra, k⟩
  unfold meO at k
  split at k
  · rename_i e1; cases e1
  · rename_i e1; cases e1
  · rename_i e1; cases e1
  · split at k
    · rename_i a _ _ ys e2
      split at k
      · rename_i hf
        rw [Bool.and_eq_true] at hf
        split at k
        · rename_i j e3
          obtain ⟨y, rfl, ry⟩ := ra.one_of
          obtain ⟨p, vs, rfl, t, r⟩ := asF_ok R e2 ro
          obtain ⟨j', z, e4, e5, e6, e7⟩ := idxO_spec a ys 0 j e3
          have e4 : j = j' := by omega
          subst e4
          obtain ⟨zv, q1, q2⟩ := r.get e5
          have fz : ∀ {m : Nat} {u : W}, ys[m]? = some u → flat u = true := fun {m u} hm => List.all_eq_true.mp hf.2 u (List.mem_of_getElem? hm)
          refine mt_index pins s σ H _ _ v us Q I rx rs ⟨p, vs, y, j, zv, rfl, rfl, hK ▸ t, flat_of ry hf.1, flats_of r hf.2, q1, ?_, fun m z' hm hz => ?_, k.same R rfl⟩
          · rw [eqV_of q2 ry (fz e5) hf.1]; exact e6
          · obtain ⟨u, q3, q4⟩ := r.got hz
            rw [eqV_of q4 ry (fz q3) hf.1]
            exact e7 m u hm q3
        · exact k.notBad.elim
      · exact k.notBad.elim
    · exact k.notBad.elim
  all_goals first
    | (rename_i e1; cases e1)
    | (rename_i e1 _; cases e1)
    | exact k.notBad.elim
    | skip
theorem me_get (hu : X.A.units + 1 < cLine) : MtR X "dict.get" (rdM T (meO .get)) := by
  intro pins s σ H x xs v us Q I rx rs ⟨L, h, o, as, R, ro, ra, k⟩
  unfold meO at k
  split at k
  · rename_i e1; cases e1
  · rename_i e1; cases e1
  · rename_i e1; cases e1
  · rename_i e1; cases e1
  · split at k
    · rename_i a d n
      split at k
      · rename_i kvs e2
        split at k
        · rename_i k1 e3
          obtain ⟨y, z, rfl, ry, rz⟩ := ra.two_of
          rcases ro with ⟨p, rfl, la⟩ | la
          · obtain ⟨c, ho, e4, e5, e6⟩ := R.cell n p la
            rw [e2] at e4
            cases e4
            obtain ⟨kvv, rfl, rk⟩ := e6
            obtain ⟨u1, u2, rfl, ru1, ru2⟩ := vals2 rs
            obtain rfl : v = Value.ref p := rx
            have ek := keyOf_ok ry e3
            subst ek
            have g : DGet H p (kV (kS k1)) (valV kvv (kS k1)) := .inl ⟨kvv, kS k1, .inl e5, rfl, rfl⟩
            refine d_get2 hu I g ru1 ru2 fun w' s' I' rw' => ⟨_, H, I', rw', ?_⟩
            cases q : getDK k1 kvs with
            | some w =>
              obtain ⟨u, q1, q2⟩ := RKs.get rk q
              rw [q1]
              rw [q] at k
              exact k.same R q2
            | none =>
              rw [RKs.none rk q]
              rw [q] at k
              exact k.same R rz
          · have := R.gone n la
            rw [e2] at this
            cases this
        · exact k.notBad.elim
      · exact k.notBad.elim
    · exact k.notBad.elim
  · exact k.notBad.elim
end
end LP
/-! LP, part 8: argument lists, displays, calls. -/
namespace LP
open L2 PySem PySem.Spec PyProof.Rows

/-! ### what an expression is not -/
def plE : Expr → Bool
  | .Starred _ _ => false
  | .Set _ _ _ => false
  | .Slice _ _ _ _ => false
  | _ => true
def nsE : Expr → Bool
  | .Call (.Name _ _) [] [] _ => false
  | _ => true
def ncE : Expr → Bool
  | .ListComp _ _ _ _ => false
  | .SetComp _ _ _ _ => false
  | .DictComp _ _ _ _ _ => false
  | _ => true
def itE : Expr → Bool
  | .UnaryOp .Not _ _ => false
  | .BoolOp _ _ _ => false
  | .IfExp _ _ _ _ => false
  | .Compare _ _ _ _ => false
  | _ => true
theorem star_pl {e : Expr} {es : List Expr} {env : PySem.Env} (h : plE e = true) : starEach (e :: es) env = (false, eval e env) :: starEach es env := by
  cases e <;> first | rfl | exact absurd h Bool.false_ne_true
theorem fold_pl {e : Expr} {env : PySem.Env} (h : plE e = true) : ∀ x, foldedSetIterable e env x = pure x := by
  intro x
  cases e <;> first | rfl | exact absurd h Bool.false_ne_true
theorem ix_pl {e : Expr} (h : plE e = true) : PlainIx e := by
  intro o i
  cases e <;> first | rfl | exact absurd h Bool.false_ne_true
theorem mark_pl {e : Expr} {op : CmpOp} (h : plE e = true) : behindInMarks op e = false := by
  cases e <;> first | rfl | exact absurd h Bool.false_ne_true
theorem base_ns {e : Expr} {a : Str} {env : PySem.Env} (h : nsE e = true) : attributeBase e a env (eval e env) = eval e env := by
  cases e with
  | Call f args kws pos =>
    cases f <;> cases args <;> cases kws <;> first | rfl | exact absurd h Bool.false_ne_true
  | _ => rfl
theorem swap_nc {e : Expr} {t : Option Expr} {n : Nat} {env : PySem.Env} (h : ncE e = true) : swapsWith e t n env = pure false := by
  cases e <;> first | rfl | exact absurd h Bool.false_ne_true
theorem true_it {e : Expr} {env : PySem.Env} (h : itE e = true) : ∀ whole, isTrue e env whole = (do let v ← whole; standAt e.pos; holding [v] (truthy v)) := by
  intro w
  cases e with
  | UnaryOp op a p => cases op <;> first | rfl | exact absurd h Bool.false_ne_true
  | _ => first | rfl | exact absurd h Bool.false_ne_true
theorem nostar {env : PySem.Env} : ∀ {es : List Expr}, es.all plE = true → ∀ p : Pos, (backTo p (starEach es env)).any (·.1) = false
  | [], _, _ => rfl
  | e :: es, h, p => by
    have h' : (plE e && es.all plE) = true := h
    rw [Bool.and_eq_true] at h'
    rw [star_pl h'.1]
    show (false || (backTo p (starEach es env)).any (·.1)) = false
    rw [nostar h'.2 p]
    rfl

section
variable {X : Cx} {T : Tb} {WO : WX'}
/-! ### lists of expressions -/
def nilR (h : Hh) : Rs (List W) := .ok [] h
def consR (r : Rs W) (f : Hh → Rs (List W)) : Rs (List W) := r.bnd fun w h => (f h).bnd fun ws h => .ok (w :: ws) h
variable {e : Expr} {es : List Expr} {g ga gb gc : Env → Hh → Rs W} {gs : Env → Hh → Rs (List W)} {pos : Pos}
theorem aj_nil : AJ X T WO [] fun _ h => .ok [] h := PA.imp pa_nil fun σ H Q ⟨L, h, ρ, R, E, k⟩ => k.now R rfl
theorem aj_cons (ha : EJ X T WO e g) (hr : AJ X T WO es gs) (hp : plE e = true) : AJ X T WO (e :: es) fun ρ h => (g ρ h).bnd fun w h => (gs ρ h).bnd fun ws h => .ok (w :: ws) h :=
  PA.imp (pa_cons ha hr (star_pl hp)) fun σ H Q ⟨L, h, ρ, R, E, k⟩ => ⟨L, h, ρ, R, E, k.bnd' fun x L1 h1 a1 H1 R1 E1 r1 k1 => ⟨L1, h1, ρ, R1, E.evo E1.toEvo0, k1.bnd' fun y L2 h2 a2 H2 R2 E2 r2 k2 =>
    k2.now R2 ⟨x, y, rfl, RV.evo E2.toEvo0 _ _ r1, r2⟩⟩⟩
theorem big_line {n : Nat} (h : n ≤ big) : n ≤ sizeLine := by
  rw [line_eq]
  unfold big at h
  omega
theorem ej_tup {x1} (h : AJ X T WO es gs) : EJ X T WO (.Tuple es x1 pos) fun ρ h => (gs ρ h).bnd fun ws h => mkT ws h :=
  PE.imp (pe_tup h) fun σ H Q ⟨L, h, ρ, R, E, k⟩ => ⟨L, h, ρ, R, E, k.bnd' fun xs L1 h1 ws H1 R1 E1 r1 k1 => by
    obtain ⟨hb, k2⟩ := mkT_big (k1.okp nx_mkT)
    exact ⟨by rw [r1.length]; exact big_line hb, fun p hp => k2.newT R1 r1 hp⟩⟩
theorem ej_lst {r : Bool} (h : AJ X T WO es gs) : EJ X T WO (.List es pos) fun ρ h => (gs ρ h).bnd fun ws h => mkL r ws h :=
  PE.imp (pe_lst h) fun σ H Q ⟨L, h, ρ, R, E, k⟩ => ⟨L, h, ρ, R, E, k.bnd' fun xs L1 h1 ws H1 R1 E1 r1 k1 => by
    have k2 := k1.okp nx_mkL
    exact ⟨by rw [r1.length]; exact big_line (mkL_big k2), fun p hp => k2.newL R1 r1 hp⟩⟩
/-! ### built-in calls -/
def dbgB (x : Str) : Bool := x == ("__debug__" : Str)
def biR (hot : Bool) (b : Bi) (ws : List W) (h : Hh) : Rs W := if hot && coldB b then .bad else biO b ws h
theorem nx_biR {hot : Bool} {b : Bi} {as : List W} {h : Hh} : NoEx (biR hot b as h) := by
  unfold biR
  split
  · exact trivial
  · exact nx_bi
theorem ej_blt (hK : T.K = X.K) {hot : Bool} (hc : hot = false → X.calm = true) (b : Bi) {x : Str} {p : Pos} (hg : Gl X x) (hm : X.mg x = none) (hv : bootBuiltins x = some (biV b)) (ha : AJ X T WO (e :: es) gs)
    (hn : x ≠ "__name__") (hdb : dbgB x = false) (hp : plE e = true) (hps : es.all plE = true) :
    EJ X T WO (.Call (.Name x p) (e :: es) [] pos) fun ρ h => (gs ρ h).bnd fun ws h => if hot && coldB b then .bad else biO b ws h := by
  have hr := bi_W (X := X) (T := T) hK hc b
  have go : ∀ {t : TE}, PE X (.Call (.Name x p) (e :: es) [] pos) t → t = tCB (rdB T fun as h => if hot && coldB b then .bad else biO b as h) (rA T (px X) WO gs) →
      EJ X T WO (.Call (.Name x p) (e :: es) [] pos) fun ρ h => (gs ρ h).bnd fun ws h => if hot && coldB b then .bad else biO b ws h := by
    intro t ht et
    subst et
    exact PE.imp ht fun σ H Q ⟨L, h, ρ, R, E, k⟩ => ⟨L, h, ρ, R, E, k.bnd' fun xs L1 h1 ws H1 R1 E1 r1 k1 => ⟨L1, h1, ws, R1, r1, PoG.okp k1 (nx_biR (hot := hot))⟩⟩
  cases b with
  | len => exact go (pe_callB hr hg hm hv ha hn hdb (star_pl hp) (nostar hps _)) rfl
  | abs => exact go (pe_callB hr hg hm hv ha hn hdb (star_pl hp) (nostar hps _)) rfl
  | max2 => exact go (pe_callB hr hg hm hv ha hn hdb (star_pl hp) (nostar hps _)) rfl
  | min2 => exact go (pe_callB hr hg hm hv ha hn hdb (star_pl hp) (nostar hps _)) rfl
  | maxl => exact go (pe_callB hr hg hm hv ha hn hdb (star_pl hp) (nostar hps _)) rfl
  | minl => exact go (pe_callB hr hg hm hv ha hn hdb (star_pl hp) (nostar hps _)) rfl
  | suml => exact go (pe_callB hr hg hm hv ha hn hdb (star_pl hp) (nostar hps _)) rfl
  | all => exact go (pe_callB hr hg hm hv ha hn hdb (star_pl hp) (nostar hps _)) rfl
  | any => exact go (pe_callB hr hg hm hv ha hn hdb (star_pl hp) (nostar hps _)) rfl
  | dmod => exact go (pe_callB hr hg hm hv ha hn hdb (star_pl hp) (nostar hps _)) rfl
  | int => exact go (pe_callTy hr hg hm hv ha hn hdb (star_pl hp) (nostar hps _)) rfl
  | str => exact go (pe_callTy hr hg hm hv ha hn hdb (star_pl hp) (nostar hps _)) rfl
  | tup => exact go (pe_callTy hr hg hm hv ha hn hdb (star_pl hp) (nostar hps _)) rfl
  | lst r => exact go (pe_callTy hr hg hm hv ha hn hdb (star_pl hp) (nostar hps _)) rfl
/-! ### places, slices -/
variable {a b : Expr}
theorem ej_ix (hK : T.K = X.K) (hu : X.A.units + 1 < cLine) (ha : EJ X T WO a ga) (hb : EJ X T WO b gb) (hp : plE b = true) :
    EJ X T WO (.Subscript a b pos) fun ρ h => (ga ρ h).bnd fun x h => (gb ρ h).bnd fun y h => outW (ixO h x y) h :=
  PE.imp (pe_ix (ix_W hK hu) ha hb (ix_pl hp)) (cmp_imp (g := fun a b h => outW (ixO h a b) h) fun _ _ _ => nx_outW)
theorem ej_sln (hK : T.K = X.K) (r : Bool) {p2 : Pos} (ha : EJ X T WO a ga) : EJ X T WO (.Subscript a (.Slice none none none p2) pos) fun ρ h => (ga ρ h).bnd fun x h => slO r h x none none :=
  PE.imp (pe_slice (sl_W (T := T) hK r) ha po_none po_none) fun σ H Q ⟨L, h, ρ, R, E, k⟩ => ⟨L, h, ρ, R, E, k.bnd' fun x L1 h1 a1 H1 R1 E1 r1 k1 => ⟨L1, h1, a1, R1, r1, PoG.okp k1 nx_sl⟩⟩
/-- an int's part -/
theorem bnd_I {α β : Type} {Rl : LL → Hp → α → β → Prop} {r : Rs W} {f : W → Hh → Rs α} {L : LL} {H : Hp} {EX : XK} {Q : β → Hp → Prop} (k : PoG T Rl EX L H (r.bnd f) Q) (hf : ∀ w h, (∀ b, w ≠ .int b) → f w h = .bad) :
    PoG T (RV T) EX L H r (fun x H1 => ∃ c, x = .int c ∧ ∃ L1 h1, Rel T L1 h1 H1 ∧ Evo L H L1 H1 ∧ PoG T Rl EX L1 H1 (f (.int c) h1) Q) := by
  refine k.bnd' fun x L1 h1 a1 H1 R1 E1 r1 k1 => ?_
  cases a1 with
  | int c =>
    obtain rfl := r1
    exact ⟨c, rfl, L1, h1, R1, E1, k1⟩
  | _ =>
    rw [hf _ _ (by intro b z; cases z)] at k1
    exact k1.elim
theorem ej_slf (hK : T.K = X.K) (r : Bool) {p2 : Pos} (ha : EJ X T WO a ga) (hb : EJ X T WO b gb) : EJ X T WO (.Subscript a (.Slice (some b) none none p2) pos) fun ρ h => (ga ρ h).bnd fun x h => (gb ρ h).bnd fun y h => match y with
    | .int i => slO r h x (some i) none
    | _ => .bad :=
  PE.imp (pe_slice (sl_W (T := T) hK r) ha (po_some hb) po_none) fun σ H Q ⟨L, h, ρ, R, E, k⟩ => ⟨L, h, ρ, R, E, k.bnd' fun x L1 h1 a1 H1 R1 E1 r1 k1 => ⟨L1, h1, ρ, R1, E.evo E1.toEvo0,
    (bnd_I k1 (by intro w h n; cases w <;> first | rfl | exact absurd rfl (n _))).imp fun y H2 ⟨c, e, L2, h2, R2, E2, k2⟩ => ⟨c, e, L2, h2, a1, R2, RV.evo E2.toEvo0 _ _ r1, PoG.okp k2 nx_sl⟩⟩⟩
theorem ej_slt (hK : T.K = X.K) (r : Bool) {p2 : Pos} (ha : EJ X T WO a ga) (hb : EJ X T WO b gb) : EJ X T WO (.Subscript a (.Slice none (some b) none p2) pos) fun ρ h => (ga ρ h).bnd fun x h => (gb ρ h).bnd fun y h => match y with
    | .int i => slO r h x none (some i)
    | _ => .bad :=
  PE.imp (pe_slice (sl_W (T := T) hK r) ha po_none (po_some hb)) fun σ H Q ⟨L, h, ρ, R, E, k⟩ => ⟨L, h, ρ, R, E, k.bnd' fun x L1 h1 a1 H1 R1 E1 r1 k1 => ⟨L1, h1, ρ, R1, E.evo E1.toEvo0,
    (bnd_I k1 (by intro w h n; cases w <;> first | rfl | exact absurd rfl (n _))).imp fun y H2 ⟨c, e, L2, h2, R2, E2, k2⟩ => ⟨c, e, L2, h2, a1, R2, RV.evo E2.toEvo0 _ _ r1, PoG.okp k2 nx_sl⟩⟩⟩
end
end LP
/-! LP, part 9: methods, calls, isinstance. -/
namespace LP
open L2 PySem PySem.Spec PyProof.Rows
section
variable {X : Cx} {T : Tb} {WO : WX'} {e a b c o : Expr} {es : List Expr} {g ga gb gc go : Env → Hh → Rs W} {gs : Env → Hh → Rs (List W)} {pos : Pos}
theorem ej_slb (hK : T.K = X.K) (r : Bool) {p2 : Pos} (ha : EJ X T WO a ga) (hb : EJ X T WO b gb) (hc : EJ X T WO c gc) : EJ X T WO (.Subscript a (.Slice (some b) (some c) none p2) pos) fun ρ h => (ga ρ h).bnd fun x h => (gb ρ h).bnd fun y h => match y with
    | .int i => (gc ρ h).bnd fun z h => (match z with
      | .int j => slO r h x (some i) (some j)
      | _ => .bad)
    | _ => .bad :=
  PE.imp (pe_slice (sl_W (T := T) hK r) ha (po_some hb) (po_some hc)) fun σ H Q ⟨L, h, ρ, R, E, k⟩ => ⟨L, h, ρ, R, E, k.bnd' fun x L1 h1 a1 H1 R1 E1 r1 k1 => ⟨L1, h1, ρ, R1, E.evo E1.toEvo0,
    (bnd_I k1 (by intro w h n; cases w <;> first | rfl | exact absurd rfl (n _))).imp fun y H2 ⟨i, e, L2, h2, R2, E2, k2⟩ => ⟨i, e, L2, h2, ρ, R2, (E.evo E1.toEvo0).evo E2.toEvo0,
      (bnd_I k2 (by intro w h n; cases w <;> first | rfl | exact absurd rfl (n _))).imp fun z H3 ⟨j, e, L3, h3, R3, E3, k3⟩ => ⟨j, e, L3, h3, a1, R3, RV.evo E3.toEvo0 _ _ (RV.evo E2.toEvo0 _ _ r1), PoG.okp k3 nx_sl⟩⟩⟩⟩
theorem ej_neg (ha : EJ X T WO a ga) : EJ X T WO (.UnaryOp .USub a pos) fun ρ h => (ga ρ h).bnd fun x h => match x with
    | .int i => .ok (.int (-i)) h
    | _ => .bad :=
  PE.imp (pe_un un_neg ha) fun σ H Q ⟨L, h, ρ, R, E, k⟩ => ⟨L, h, ρ, R, E, (bnd_I k (by intro w h n; cases w <;> first | rfl | exact absurd rfl (n _))).imp fun y H2 ⟨i, e, L2, h2, R2, E2, k2⟩ => ⟨i, e, k2.now R2 rfl⟩⟩
/-- a < b < c -/
def chR (o p : Co) (gc : Env → Hh → Rs W) (ρ : Env) (x y : W) (h : Hh) : Rs W := match cmpO o x y h with
    | some true => (gc ρ h).bnd fun z h => outB (cmpO p y z h) h
    | some false => .ok (.bl false) h
    | none => .bad
theorem ch_imp (o p : Co) (σ : L2.St) (H : Hp) (Q : VK) (h : rE T (px X) WO (fun ρ h => (ga ρ h).bnd fun x h => (gb ρ h).bnd fun y h => chR o p gc ρ x y h) σ H Q) :
    tChain (rdO T fun a b h => outB (cmpO o a b h) h) (rdO T fun a b h => outB (cmpO p a b h) h) (rE T (px X) WO ga) (rE T (px X) WO gb) (rE T (px X) WO gc) σ H Q := by
  obtain ⟨L, h, ρ, R, E, k⟩ := h
  refine ⟨L, h, ρ, R, E, k.bnd' fun x L1 h1 a1 H1 R1 E1 r1 k1 => ⟨L1, h1, ρ, R1, E.evo E1.toEvo0, k1.bnd' fun y L2 h2 a2 H2 R2 E2 r2 k2 => ?_⟩⟩
  refine ⟨L2, h2, a1, a2, R2, RV.evo E2.toEvo0 _ _ r1, r2, ?_⟩
  unfold chR at k2
  cases q : cmpO o a1 a2 h2 with
  | none => rw [q] at k2; exact k2.elim
  | some c =>
    rw [q] at k2
    refine ⟨.bl c, h2, (by show outB (cmpO o a1 a2 h2) h2 = _; rw [q]; rfl), fun v L3 H3 R3 E3 rv => ?_⟩
    obtain rfl := rv
    refine ⟨c, rfl, ?_⟩
    cases c with
    | true => exact ⟨L3, h2, ρ, R3, ((E.evo E1.toEvo0).evo E2.toEvo0).evo E3.toEvo0, (PoG.later E3 k2).bnd' fun z L4 h4 a4 H4 R4 E4 r4 k4 => ⟨L4, h4, a2, a4, R4, RV.evo E4.toEvo0 _ _ (RV.evo E3.toEvo0 _ _ r2), r4, k4.okp nx_outB⟩⟩
    | false => exact (PoG.later E3 k2).now R3 rfl
/-! ### methods of built-in types -/
def meN : Me → String × Str × String
  | .split _ => ("str", "split", "str.split")
  | .join => ("str", "join", "str.join")
  | .append => ("list", "append", "list.append")
  | .index => ("list", "index", "list.index")
  | .get => ("dict", "get", "dict.get")
theorem me_W (hK : T.K = X.K) (hu : X.A.units + 1 < cLine) (m : Me) : MtR X (meN m).2.2 (rdM T (meO m)) := by
  cases m with
  | split r => exact me_split r
  | join => exact me_join hK
  | append => exact me_append
  | index => exact me_index hK
  | get => exact me_get hu
theorem me_slot (m : Me) : Slot (meN m).1 (meN m).2.1 (meN m).2.2 := by
  cases m with
  | split r => exact F.slot_str_split
  | join => exact F.slot_str_join
  | append => exact F.slot_list_append
  | index => exact F.slot_list_index
  | get => exact F.slot_dict_get
theorem me_type (m : Me) : typeOf (.builtin (meN m).2.2) = pure (.type "method_descriptor") := by
  cases m with
  | split r => exact F.type_str_split
  | join => exact F.type_str_join
  | append => exact F.type_list_append
  | index => exact F.type_list_index
  | get => exact F.type_dict_get
theorem me_pa (m : Me) : PlainAttrs (meN m).1 := by
  cases m with
  | split r => exact F.plainAttrs_str
  | join => exact F.plainAttrs_str
  | append => exact F.plainAttrs_list
  | index => exact F.plainAttrs_list
  | get => exact F.plainAttrs_dict
theorem me_ty (hK : T.K = X.K) {m : Me} {L : LL} {H : Hp} {h : Hh} {w : W} {v : V} (R : Rel T L h H) (r : RV T L H w v) (e : meT m h w = true) : tyV X.K (meN m).1 v H := by
  cases m with
  | split _ =>
    cases w with
    | str x => obtain ⟨rfl, _⟩ := r; exact rfl
    | _ => cases e
  | join =>
    cases w with
    | str x => obtain ⟨rfl, _⟩ := r; exact rfl
    | _ => cases e
  | append =>
    obtain ⟨xs, e⟩ := Option.isSome_iff_exists.mp e
    obtain ⟨a, vs, rfl, t, k⟩ := asL_ok R e r
    exact .inl ⟨rfl, vs, .of t⟩
  | index =>
    obtain ⟨xs, e⟩ := Option.isSome_iff_exists.mp e
    obtain ⟨a, vs, rfl, t, k⟩ := asF_ok R e r
    exact .inl ⟨rfl, vs, hK ▸ t⟩
  | get =>
    cases w with
    | ref n =>
      have e' : (match h[n]? with
        | some (.dct _) => true
        | _ => false) = true := e
      rcases r with ⟨a, rfl, la⟩ | la
      · obtain ⟨c, ho, e1, e2, e3⟩ := R.cell n a la
        rw [e1] at e'
        cases c with
        | dct kvs =>
          obtain ⟨kvv, rfl, rk⟩ := e3
          exact .inr (.inr (.inl ⟨rfl, .inl ⟨kvv, e2⟩⟩))
        | _ => cases e'
      · rw [R.gone n la] at e'
        cases e'
    | _ => cases e
theorem few_pl {env : PySem.Env} : ∀ {es : List Expr}, es.all plE = true → ∀ p : Pos, (backTo p (starEach es env)).all (fun x => !x.1) = true
  | [], _, _ => rfl
  | e :: es, h, p => by
    have h' : (plE e && es.all plE) = true := h
    rw [Bool.and_eq_true] at h'
    rw [star_pl h'.1]
    show (true && (backTo p (starEach es env)).all (fun x => !x.1)) = true
    rw [few_pl h'.2 p]
    rfl
theorem ej_mth (hK : T.K = X.K) (hu : X.A.units + 1 < cLine) (m : Me) {nm : Str} {apos : Pos} (hn : nm = (meN m).2.1) (ho : EJ X T WO o go) (ha : AJ X T WO (e :: es) gs) (hns : nsE o = true) (hp : plE e = true) (hps : es.all plE = true)
    (hl : es.length < 5) (hline : (apos.endLine == pos.line) = true) :
    EJ X T WO (.Call (.Attribute o nm apos) (e :: es) [] pos) fun ρ h => (go ρ h).bnd fun x h => if meT m h x then (gs ρ h).bnd fun ws h => meO m x ws h else .bad := by
  subst hn
  refine PE.imp (pe_bm (me_pa m) (me_slot m) (me_type m) (me_W (T := T) hK hu m) ho ha (base_ns hns) ?_ hline (star_pl hp) (nostar hps _)) fun σ H Q ⟨L, h, ρ, R, E, k⟩ => ⟨L, h, ρ, R, E, k.bnd' fun x L1 h1 a1 H1 R1 E1 r1 k1 => ?_⟩
  · rw [few_pl (show (e :: es).all plE = true by rw [List.all_cons, hp, hps]; rfl)]
    have e2 : decide ((e :: es).length + ([] : List Keyword).length + (if ([] : List Keyword).isEmpty then 0 else 1) < 30) = true := by
      refine decide_eq_true ?_
      simp only [List.length_cons, List.length_nil]
      have : (if ([] : List Keyword).isEmpty then 0 else 1) = 0 := rfl
      rw [this]
      omega
    rw [e2]
    rfl
  · cases q : meT m h1 a1 with
    | false =>
      rw [q] at k1
      exact k1.elim
    | true =>
      rw [q] at k1
      exact ⟨me_ty hK R1 r1 q, L1, h1, ρ, R1, E.evo E1.toEvo0, PoG.bnd' (by exact k1) fun xs L2 h2 ws H2 R2 E2 r2 k2 => ⟨L2, h2, a1, ws, R2, RV.evo E2.toEvo0 _ _ r1, r2, PoG.okp k2 nx_me⟩⟩
/-! ### defs -/
/-- what a def is to do, by plain values -/
def spF (T : Tb) (g : List W → Hh → Rs W) : Sp := fun vs H Q E => ∃ L h ws, Rel T L h H ∧ RVs T L H ws vs ∧ PoG T (RV T) E L H (g ws h) Q
/-- the def at fa, with parameters ps, may be called: some values by place, the rest by name in the parameters' order -/
def CalOk (X : Cx) (T : Tb) (WO : WX') (g : List W → Hh → Rs W) (fa : Addr) (ps : List Str) : Prop :=
  ∀ (pins : List (Addr × Obj)) (s : Shared) (σ : L2.St) (H : Hp) (vs zs : List V) (us ws : List Value) (Q : VK), Inv X pins σ H s → Vals vs us → Vals zs ws → us.length + ws.length = ps.length → spF T g (vs ++ zs) H Q (WE WO σ) →
    wpAny (model X.prog X.w) X.A (call (.ref fa) us ((ps.drop us.length).zip ws)) (EP X pins σ Q) X.xe s
theorem ej_call {cf : List W → Hh → Rs W} {fa : Addr} {ps : List Str} (hc : CalOk X T WO cf fa ps) {x : Str} {p : Pos} (hg : Gl X x) (hm : X.mg x = some (.ref fa)) (hk : PySem.W.keepIn X.K (.ref fa) = true) (hdb : dbgB x = false)
    (ha : AJ X T WO (e :: es) gs) (hp : plE e = true) (hps : es.all plE = true) (hn : (e :: es).length = ps.length) (hlen : ∀ ρ h ws h', gs ρ h = .ok ws h' → ws.length = (e :: es).length) :
    EJ X T WO (.Call (.Name x p) (e :: es) [] pos) fun ρ h => (gs ρ h).bnd fun ws h => cf ws h := by
  refine ⟨fun pins s σ H Q I ⟨L, h, ρ, R, E, k⟩ => ?_⟩
  refine wpAny_Call_Name_kw (ld_glob I hg hm ?_ hdb)
  have hw : rA T (px X) WO gs σ H (fun vs H1 => vs.length = ps.length ∧ spF T cf vs H1 Q (WE WO σ)) := by
    refine ⟨L, h, ρ, R, E, ?_⟩
    have k' : PoG T (RV T) (WE WO σ) L H ((gs ρ h).bnd fun ws h => cf ws h) Q := k
    cases q : gs ρ h with
    | ok a h1 =>
      rw [q] at k'
      intro b L1 H1 R1 E1 rl
      have hl := hlen ρ h a h1 q
      exact ⟨by rw [RVs.length rl, hl, hn], L1, h1, a, R1, rl, PoG.later E1 k'⟩
    | exc c p h1 =>
      rw [q] at k'
      exact k'
    | bad =>
      rw [q] at k'
      exact k'.elim
  refine PySem.W.callWith_K (h₀ := X.base) I.ok.mod.kin hk (thn (ha.run pos pins s σ H _ I hw) fun us s1 ⟨vs, H1, I1, r, hl, q⟩ => ⟨I1.kIn, ?_⟩) (star_pl hp) (nostar hps _)
  have hul : us.length = ps.length := by rw [← r.length]; exact hl
  have z := hc pins s1 σ H1 vs [] us [] Q I1 r .nil (by simpa using hul) (by rw [List.append_nil]; exact q)
  rw [List.zip_nil_right] at z
  exact z
end
end LP
/-! LP, part 10: isinstance, what an exception keeps, keywords. -/
namespace LP
open L2 PySem PySem.Spec PyProof.Rows
section
variable {X : Cx} {T : Tb} {WO : WX'} {e a b c o : Expr} {es : List Expr} {g ga gb gc go : Env → Hh → Rs W} {gs : Env → Hh → Rs (List W)} {pos : Pos}
def tyN : Ty → String
  | .int => "int"
  | .bool => "bool"
  | .str => "str"
  | .tup => "tuple"
  | .lst => "list"
  | .dict => "dict"
  | .own _ => "object"
def tyBi : Ty → Bool
  | .own _ => false
  | .dict => false
  | _ => true
/-- the type of what stands for w -/
def kindW (h : Hh) : W → Option String
  | .int _ => some "int"
  | .bl _ => some "bool"
  | .non => some "NoneType"
  | .str _ => some "str"
  | .tup _ => some "tuple"
  | w => if (asF h w).isSome then some "list" else none
theorem kind_list (hK : T.K = X.K) {L : LL} {H : Hp} {a : Addr} {vs : List V} (t : SqL T.K H a vs) : TyX X.K H (.ref a) (.type "list") := by
  rw [hK] at t
  rcases t with (t | ⟨o, t⟩) | ⟨o, its, n, hk, hc, _⟩
  · exact .base (.lst t)
  · exact .base (.frz t)
  · exact .kList hk hc
theorem kind_ok (hK : T.K = X.K) {L : LL} {H : Hp} {h : Hh} {w : W} {v : V} {n : String} (R : Rel T L h H) (r : RV T L H w v) (e : kindW h w = some n) : TyX X.K H v (.type n) := by
  have lst : (if (asF h w).isSome then some "list" else none) = some n → TyX X.K H v (.type n) := by
    intro e
    split at e
    · rename_i z
      cases e
      obtain ⟨xs, q⟩ := Option.isSome_iff_exists.mp z
      obtain ⟨a, vs, rfl, t, k⟩ := asF_ok R q r
      exact kind_list hK (L := L) t
    · cases e
  cases w with
  | non => obtain rfl := r; cases e; exact .base .non
  | bl c => obtain rfl := r; cases e; exact .base (.bl c)
  | int i => obtain rfl := r; cases e; exact .base (.int i)
  | str x => obtain ⟨rfl, _⟩ := r; cases e; exact .base (.str _)
  | tup xs =>
    cases e
    obtain ⟨a, vs, rfl, t, k⟩ := r
    have t := t.sq
    rw [hK] at t
    rcases t with (t | ⟨o, t⟩) | ⟨o, its, n, hk, hc, _⟩
    · exact .base (.tup t)
    · exact .fTuple t
    · exact .kTuple hk hc
  | lst xs => exact lst e
  | frz xs => exact lst e
  | ref n => exact lst e
  | ins _ _ => exact lst e
  | cls _ => exact lst e
  | exn _ _ => exact lst e
theorem kit_tab : ∀ n ∈ ["int", "bool", "NoneType", "str", "tuple", "list"], ∀ t ∈ [Ty.int, Ty.bool, Ty.str, Ty.tup, Ty.lst],
    kitB n (tyN t) = some (decide (n = tyN t) || (decide (n = "bool") && decide (tyN t = "int"))) := by decide +kernel
theorem tyO_kind {h : Hh} {sub : Nat → Nat → Bool} {w : W} {t : Ty} {c : Bool} (hb : tyBi t = true) (e : tyO h sub w t = some c) : ∃ n, kindW h w = some n ∧ kitB n (tyN t) = some c := by
  have tab : ∀ n ∈ ["int", "bool", "NoneType", "str", "tuple", "list"], kitB n (tyN t) = some (decide (n = tyN t) || (decide (n = "bool") && decide (tyN t = "int"))) := fun n hn => kit_tab n hn t (by cases t <;> first | (simp; done) | cases hb)
  have go : ∀ n, kindW h w = some n → n ∈ ["int", "bool", "NoneType", "str", "tuple", "list"] → (decide (n = tyN t) || (decide (n = "bool") && decide (tyN t = "int"))) = c → ∃ n, kindW h w = some n ∧ kitB n (tyN t) = some c := by
    intro n h1 h2 h3
    exact ⟨n, h1, by rw [tab n h2, h3]⟩
  have lst : ∀ d, (if (asF h w).isSome then some d else none) = some c → kindW h w = (if (asF h w).isSome then some "list" else none) → d = (decide ("list" = tyN t) || (decide ("list" = "bool") && decide (tyN t = "int"))) → ∃ n, kindW h w = some n ∧ kitB n (tyN t) = some c := by
    intro d h1 h2 h3
    by_cases z : (asF h w).isSome = true
    · rw [if_pos z] at h1 h2
      cases h1
      exact go "list" h2 (by decide) h3.symm
    · rw [if_neg z] at h1
      cases h1
  cases w with
  | non => cases t <;> first | (cases hb; done) | (cases e; exact go _ rfl (by decide) (by decide +kernel))
  | bl _ => cases t <;> first | (cases hb; done) | (cases e; exact go _ rfl (by decide) (by decide +kernel))
  | int _ => cases t <;> first | (cases hb; done) | (cases e; exact go _ rfl (by decide) (by decide +kernel))
  | str _ => cases t <;> first | (cases hb; done) | (cases e; exact go _ rfl (by decide) (by decide +kernel))
  | tup _ => cases t <;> first | (cases hb; done) | (cases e; exact go _ rfl (by decide) (by decide +kernel))
  | _ => cases t <;> first | (cases hb; done) | exact lst false e rfl (by decide +kernel) | exact lst true e rfl (by decide +kernel)
theorem tysO_kind {h : Hh} {sub : Nat → Nat → Bool} {w : W} {K : PySem.W.Frag} : ∀ {ts : List Ty} {c : Bool} {n : String}, ts.all tyBi = true → tysO h sub w ts = some c → kindW h w = some n → PySem.W.kitAny K (.type n) (ts.map fun t => Value.type (tyN t)) = some c
  | [], c, n, _, e, _ => by cases e; rfl
  | t :: ts, c, n, hb, e, hn => by
    have hb' : (tyBi t && ts.all tyBi) = true := hb
    rw [Bool.and_eq_true] at hb'
    unfold tysO at e
    split at e
    · rename_i q
      cases e
      obtain ⟨m, q1, q2⟩ := tyO_kind hb'.1 q
      rw [hn] at q1
      cases q1
      exact kitAny_cons (kit_ty q2) (fun z => nomatch z) fun _ => rfl
    · rename_i q
      obtain ⟨m, q1, q2⟩ := tyO_kind hb'.1 q
      rw [hn] at q1
      cases q1
      exact kitAny_cons (kit_ty q2) (fun _ => tysO_kind hb'.2 e hn) fun z => nomatch z
    · cases e
/-- names of built-in types -/
def tyE (X : Cx) (t : Ty) (e : Expr) : Prop := ∃ x p, e = .Name x p ∧ Gl X x ∧ X.mg x = none ∧ bootBuiltins x = some (.type (tyN t)) ∧ x ≠ "__name__" ∧ dbgB x = false
theorem pe_ty {t : Ty} {e : Expr} (h : tyE X t e) : PE X e (tC (.ty (tyN t))) := by
  obtain ⟨x, p, rfl, hg, hm, hv, hn, hd⟩ := h
  exact pe_bltn hg hm hv rfl hn hd
theorem tyE_pl {t : Ty} {e : Expr} (h : tyE X t e) : plE e = true := by
  obtain ⟨x, p, rfl, _⟩ := h
  rfl
theorem isi_core (hK : T.K = X.K) {ts : List Ty} {L : LL} {h : Hh} {H : Hp} {w : W} {v : V} {EX : XK} {Q : VK} (hb : ts.all tyBi = true) (hne : ts ≠ []) (R : Rel T L h H) (r : RV T L H w v) (k : PoG T (RV T) EX L H (outB (tysO h (fun _ _ => false) w ts) h) Q) :
    ∃ n c, TyX X.K H v (.type n) ∧ PySem.W.kitAny X.K (.type n) (ts.map fun t => Value.type (tyN t)) = some c ∧ Q (.bl c) H := by
  cases q : tysO h (fun _ _ => false) w ts with
  | none => rw [q] at k; exact k.elim
  | some c =>
    rw [q] at k
    cases ts with
    | nil => exact absurd rfl hne
    | cons t ts =>
      have hb' : (tyBi t && ts.all tyBi) = true := hb
      rw [Bool.and_eq_true] at hb'
      have hn : ∃ n, kindW h w = some n := by
        unfold tysO at q
        split at q
        · rename_i z
          obtain ⟨n, q1, _⟩ := tyO_kind hb'.1 z
          exact ⟨n, q1⟩
        · rename_i z
          obtain ⟨n, q1, _⟩ := tyO_kind hb'.1 z
          exact ⟨n, q1⟩
        · cases q
      obtain ⟨n, hn⟩ := hn
      exact ⟨n, c, kind_ok hK R r hn, tysO_kind hb q hn, k.now R rfl⟩
theorem tysO_sub {h : Hh} {s1 s2 : Nat → Nat → Bool} {w : W} : ∀ ts : List Ty, tysO h s1 w ts = tysO h s2 w ts
  | [] => rfl
  | t :: ts => by
    unfold tysO
    have e : tyO h s1 w t = tyO h s2 w t := by cases t <;> rfl
    rw [e, tysO_sub ts]
theorem ej_isi1 (hK : T.K = X.K) {sub : Nat → Nat → Bool} {x : Str} {p : Pos} {t : Ty} (hbi : tyBi t = true) (hg : Gl X x) (hm : X.mg x = none) (hv : bootBuiltins x = some (.builtin "isinstance")) (hn : x ≠ "__name__") (hd : dbgB x = false)
    (ha : EJ X T WO a ga) (hp : plE a = true) (ht : tyE X t b) : EJ X T WO (.Call (.Name x p) [a, b] [] pos) fun ρ h => (ga ρ h).bnd fun x h => outB (tysO h sub x [t]) h := by
  refine PE.imp (pe_callB call_isi hg hm hv (pa_cons ha (pa_cons (pe_ty ht) pa_nil (star_pl (tyE_pl ht))) (star_pl hp)) hn hd (star_pl hp) (nostar (by rw [List.all_cons, tyE_pl ht]; rfl) _)) fun σ H Q ⟨L, h, ρ, R, E, k⟩ => ⟨L, h, ρ, R, E, k.bnd' fun v L1 h1 w H1 R1 E1 r1 k1 => ?_⟩
  rw [tysO_sub (s2 := fun _ _ => false)] at k1
  obtain ⟨n, c, q1, q2, q3⟩ := isi_core hK (ts := [t]) (by rw [List.all_cons, hbi]; rfl) (by simp) R1 r1 k1
  refine ⟨v, .ty (tyN t), .type n, .type (tyN t), c, rfl, .ty _, q1, ?_, q3⟩
  unfold PySem.W.kitAny at q2
  rw [List.map_cons] at q2
  dsimp only at q2
  split at q2
  · rename_i z; cases q2; exact z
  · rename_i z; cases q2; exact z
  · cases q2
inductive TyEs (X : Cx) : List Ty → List Expr → Prop
  | nil : TyEs X [] []
  | cons {t : Ty} {e : Expr} {ts : List Ty} {es : List Expr} (h : tyE X t e) (r : TyEs X ts es) : TyEs X (t :: ts) (e :: es)
theorem pa_tys {ts : List Ty} {es : List Expr} (h : TyEs X ts es) : PA X es (fun _ H Q => Q (ts.map fun t => V.ty (tyN t)) H) := by
  induction h with
  | nil => exact pa_nil
  | cons h r ih => exact pa_cons (pe_ty h) ih (star_pl (tyE_pl h))
theorem cls_tys : ∀ ts : List Ty, Paired ClsV (ts.map fun t => V.ty (tyN t)) (ts.map fun t => Value.type (tyN t))
  | [] => .nil
  | t :: ts => .cons (.ty _) (cls_tys ts)
theorem ej_isiT (hK : T.K = X.K) {sub : Nat → Nat → Bool} {x : Str} {p p2 : Pos} {k2 : Nat} {ts : List Ty} (hbi : ts.all tyBi = true) (hne : ts ≠ []) (hl : ts.length ≤ 100) (hg : Gl X x) (hm : X.mg x = none) (hv : bootBuiltins x = some (.builtin "isinstance")) (hn : x ≠ "__name__") (hd : dbgB x = false)
    (ha : EJ X T WO a ga) (hp : plE a = true) (ht : TyEs X ts es) : EJ X T WO (.Call (.Name x p) [a, .Tuple es k2 p2] [] pos) fun ρ h => (ga ρ h).bnd fun x h => outB (tysO h sub x ts) h := by
  refine PE.imp (pe_callB call_isiT hg hm hv (pa_cons ha (pa_cons (pe_tup (pa_tys ht)) pa_nil) (star_pl hp)) hn hd (star_pl hp) rfl) fun σ H Q ⟨L, h, ρ, R, E, k⟩ => ⟨L, h, ρ, R, E, k.bnd' fun v L1 h1 w H1 R1 E1 r1 k1 => ?_⟩
  rw [tysO_sub (s2 := fun _ _ => false)] at k1
  refine ⟨?_, fun q hq => ?_⟩
  · rw [List.length_map, line_eq]
    omega
  · have R2 := R1.newR hq (.tup (ts.map fun t => V.ty (tyN t)))
    have E2 := R1.new hq (.tup (ts.map fun t => V.ty (tyN t)))
    obtain ⟨n, c, q1, q2, q3⟩ := isi_core hK hbi hne R2 (RV.evo E2.toEvo0 _ _ r1) (PoG.later E2 k1)
    exact ⟨v, q, _, .type n, _, c, rfl, upd_same, cls_tys ts, q1, q2, q3⟩
/-! ### of an exception that is held -/
/-- what the classes of exceptions have -/
structure ExCl (K : PySem.W.Frag) (C : Addr) : Prop extends XfC K C where
  ha : PySem.W.findIn K (.ref C) "__class__" = some (some (.builtin "object.__class__"))
  hn : PySem.W.specialIn K (.builtin "object.__class__") "__get__" = some (some (.builtin "getset_descriptor.__get__"))
  ht : PySem.W.takesIn K (.builtin "object.__class__") = some true
  hm : PySem.W.mroIn K C (.type "object") = some true
theorem exn_at {L : LL} {h : Hh} {H : Hp} {ρ : Env} {σ : L2.St} {i c : Nat} {p : W} (E : REnv T (px X) L H ρ σ) (q : (ρ[i]?).join = some (.exn c p)) :
    ∃ a oe d, σ[i]? = some (some (.ref a)) ∧ (a, oe) ∈ (px X) ∧ oe.cls = .ref (T.cA c) ∧ oe.dict = d ∧ (∃ vs, oe.data = .fields vs) ∧ RX T L H c p (.ref (T.cA c)) d := by
  have e' : ρ[i]? = some (some (.exn c p)) := by
    cases z : ρ[i]? with
    | none => rw [z] at q; cases q
    | some o => rw [z] at q; exact congrArg some q
  obtain ⟨v, e1, r⟩ := E.at_ i _ e'
  obtain ⟨a, oe, d, rfl, e2, e3, e4, e5, e6⟩ := r
  exact ⟨a, oe, d, e1, e2, e3, e4, e5, e6⟩
theorem xinst {L : LL} {H : Hp} {pins : List (Addr × Obj)} {σ : L2.St} {s : Shared} {a : Addr} {oe : Obj} {d : Option Addr} {c : Nat} {p : W} (I : Inv X pins σ H s) (e2 : (a, oe) ∈ (px X)) (e3 : oe.cls = .ref (T.cA c)) (e4 : oe.dict = d) (e5 : ∃ vs, oe.data = .fields vs) (e6 : RX T L H c p (.ref (T.cA c)) d) :
    ∃ od, PySem.W.InstAt s.heap a oe (T.cA c) od := by
  obtain ⟨ha, _⟩ := I.pin (a, oe) (List.mem_append_left _ (px_sub _ e2))
  obtain ⟨vs, hd⟩ := e5
  have no : PySem.W.notCls oe = true := by unfold PySem.W.notCls; rw [hd]
  obtain ⟨_, e6⟩ := e6
  split at e6
  · obtain ⟨_, q⟩ := e6
    exact ⟨none, ha, e3, no, by rw [e4, q]; exact True.intro⟩
  · rename_i f _
    obtain ⟨dx, u, q, e8, _⟩ := e6
    have hx : ObjOk X.prog X.w H s.heap dx (.xd [(T.fN f, u)]) := I.hok dx _ e8
    obtain ⟨mA, hns, hr⟩ := hx
    obtain ⟨od, ho, hl⟩ := lookIn_ns hns
    exact ⟨some od, ha, e3, no, by rw [e4, q]; exact ho⟩
theorem ej_xfl {i f : Nat} {x n : Str} {p : Pos} (hK : T.K = X.K) (hN : X.N[i]? = some x) (hv : Vis X.env.scope x) (hd : dbgB x = false) (hcd : (x == ("__classdict__" : Str)) = false) (hf : T.fN f = n)
    (hc : ∀ c, T.pay c = some f → XfC X.K (T.cA c) ∧ PySem.W.findIn X.K (.ref (T.cA c)) n = some none) :
    EJ X T WO (.Attribute (.Name x p) n pos) fun ρ h => match (ρ[i]?).join with
      | some (.exn c p) => if T.pay c = some f then .ok p h else .bad
      | _ => .bad := by
  refine ⟨fun pins s σ H Q I ⟨L, h, ρ, R, E, k⟩ => ?_⟩
  cases q : (ρ[i]?).join with
  | none =>
    have k' : PoG T (RV T) (WE WO σ) L H (match (ρ[i]?).join with
      | some (.exn c p) => if T.pay c = some f then .ok p h else .bad
      | _ => .bad) Q := k
    rw [q] at k'
    exact k'.elim
  | some w =>
    have k' : PoG T (RV T) (WE WO σ) L H (match (ρ[i]?).join with
      | some (.exn c p) => if T.pay c = some f then .ok p h else .bad
      | _ => .bad) Q := k
    rw [q] at k'
    cases w with
    | exn c w =>
      obtain ⟨a, oe, d, e1, e2, e3, e4, e5, e6⟩ := exn_at (h := h) E q
      have k' : PoG T (RV T) (WE WO σ) L H (if T.pay c = some f then .ok w h else .bad) Q := k'
      split at k'
      · rename_i hpay
        obtain ⟨c1, c2⟩ := hc c hpay
        have hw : tVar i σ H (fun v H1 => v = .ref a ∧ H1 = H) := ⟨_, e1, rfl, rfl⟩
        refine attr_of rfl (thn ((pe_var hN hv hd hcd).run pins s σ H _ I hw) fun u s1 ⟨v, H1, I1, rv, ev, eH⟩ => ?_)
        subst ev eH
        obtain rfl : u = Value.ref a := rv
        obtain ⟨_, e6⟩ := e6
        rw [hpay] at e6
        obtain ⟨dx, u', q1, e8, nl, ru⟩ := e6
        obtain ⟨ha, _⟩ := I1.pin (a, oe) (List.mem_append_left _ (px_sub _ e2))
        obtain ⟨vs, hd⟩ := e5
        have hx : ObjOk X.prog X.w _ s1.heap dx (.xd [(T.fN f, u')]) := I1.hok dx _ e8
        obtain ⟨mA, hns, hr⟩ := hx
        obtain ⟨od, ho, hl⟩ := lookIn_ns hns
        have el : ([(T.fN f, u')] : List (Str × V)).lookup n = some u' := by rw [← hf]; simp
        obtain ⟨uu, hu, ruu⟩ := RelO.some_of (v := u') (o := mA n) (by rw [← el]; exact hr n)
        have J : PySem.W.InstAt s1.heap a oe (T.cA c) (some od) := ⟨ha, e3, by unfold PySem.W.notCls; rw [hd], by rw [e4, q1]; exact ho⟩
        exact HandSPX.exc_get I1.kIn J c1.ga c1.gg c1.exC (PySem.W.findObj_own c1.hdC c2 rfl (by rw [hl, hu])) (handed_of ruu) ⟨u', _, I1.tok _, ruu, k'.now R ru⟩
      · exact k'.elim
    | _ => exact k'.elim
/-- isinstance(e, C), isinstance(e, (C, ..)) -/
inductive ClEs (X : Cx) (T : Tb) : List Nat → List Expr → Prop
  | nil : ClEs X T [] []
  | cons {c : Nat} {x : Str} {p : Pos} {cs : List Nat} {es : List Expr} (hg : Gl X x) (hm : X.mg x = some (.ref (T.cA c))) (hd : dbgB x = false) (r : ClEs X T cs es) : ClEs X T (c :: cs) (.Name x p :: es)
theorem pa_cls {cs : List Nat} {es : List Expr} (h : ClEs X T cs es) : PA X es (fun _ H Q => Q (cs.map fun c => V.ref (T.cA c)) H) := by
  induction h with
  | nil => exact pa_nil
  | cons hg hm hd r ih => exact pa_cons (pe_glob (v := V.ref _) hg hm rfl hd) ih rfl
theorem cls_cls (T : Tb) : ∀ cs : List Nat, Paired ClsV (cs.map fun c => V.ref (T.cA c)) (cs.map fun c => Value.ref (T.cA c))
  | [] => .nil
  | c :: cs => .cons (.own _) (cls_cls T cs)
theorem kit_cls' {sub : Nat → Nat → Bool} {c : Nat} : ∀ {cs : List Nat}, (∀ d ∈ cs, PySem.W.kitOne X.K (.ref (T.cA c)) (.ref (T.cA d)) = some (sub c d)) → PySem.W.kitAny X.K (.ref (T.cA c)) (cs.map fun c => Value.ref (T.cA c)) = some (cs.any (sub c))
  | [], _ => rfl
  | d :: ds, h => by
    have ih := kit_cls' (cs := ds) fun e he => h e (List.mem_cons_of_mem _ he)
    refine kitAny_cons (h d List.mem_cons_self) (fun z => ?_) fun z => ?_
    · rw [ih, List.any_cons, z, Bool.false_or]
    · rw [List.any_cons, z, Bool.true_or]
/-- the exception at a, held, is of the class c -/
def HeldX (X : Cx) (T : Tb) (L : LL) (a : Addr) (c : Nat) (H : Hp) : Prop := ExCl X.K (T.cA c) ∧ ∃ p oe d, (a, oe) ∈ (px X) ∧ oe.cls = .ref (T.cA c) ∧ oe.dict = d ∧ (∃ vs, oe.data = .fields vs) ∧ RX T L H c p (.ref (T.cA c)) d
theorem HeldX.kit {pins : List (Addr × Obj)} {σ : L2.St} {H : Hp} {s : Shared} {a : Addr} {c : Nat} (I : Inv X pins σ H s) {L : LL} (x : HeldX X T L a c H) : ∃ P : Heap → Prop, PySem.W.KitX X.K (.ref a) (.ref (T.cA c)) P ∧ P s.heap := by
  obtain ⟨C, p, oe, d, e2, e3, e4, e5, e6⟩ := x
  obtain ⟨od, J⟩ := xinst I e2 e3 e4 e5 e6
  have hcl : (PySem.W.clsIn X.K (T.cA c)).isSome = true := by
    obtain ⟨cd, hc, _⟩ := PySem.W.any_some C.hdC
    rw [hc]
    rfl
  exact ⟨_, PySem.W.kitx_exc hcl C.ga C.gg C.exC C.ha C.hn C.ht C.hm, J⟩
theorem call_isX : CallR X (.builtin "isinstance") (fun xs H Q => ∃ L a c d b, HeldX X T L a c H ∧ xs = [.ref a, .ref (T.cA d)] ∧ PySem.W.kitOne X.K (.ref (T.cA c)) (.ref (T.cA d)) = some b ∧ Q (.bl b) H) := by
  intro pins s σ H xs us Q I r ⟨L, a, c, d, b, hx, e, hk, q⟩
  subst e
  obtain ⟨u1, u2, rfl, r1, r2⟩ := vals2 r
  obtain rfl : u1 = Value.ref a := r1
  obtain rfl : u2 = Value.ref (T.cA d) := r2
  obtain ⟨P, Z, p⟩ := hx.kit I
  exact PySem.W.kia_one Z I.kIn p hk (fun z => nomatch z) fun tk => ⟨.bl b, H, I.tok tk, rfl, q⟩
theorem call_isXT : CallR X (.builtin "isinstance") (fun xs H Q => ∃ (L : LL) (a : Addr) (c : Nat) (cs : List Nat) (tp : Addr) (b : Bool), HeldX X T L a c H ∧ xs = [.ref a, .ref tp] ∧ H tp = some (.tup (cs.map fun d => V.ref (T.cA d))) ∧ PySem.W.kitAny X.K (.ref (T.cA c)) (cs.map fun d => Value.ref (T.cA d)) = some b ∧ Q (.bl b) H) := by
  intro pins s σ H xs us Q I r ⟨L, a, c, cs, tp, b, hx, e, hT, hk, q⟩
  subst e
  obtain ⟨u1, u2, rfl, r1, r2⟩ := vals2 r
  obtain rfl : u1 = Value.ref a := r1
  obtain rfl : u2 = Value.ref tp := r2
  obtain ⟨P, Z, p⟩ := hx.kit I
  obtain ⟨_, its, rv, o, h1, h2, n, h3⟩ := (show ObjOk X.prog X.w H s.heap tp (.tup _) from I.hok tp _ hT)
  have e3 := ClsV.all (cls_cls T cs) rv
  subst e3
  obtain ⟨oc, od, dt, sl⟩ := o
  simp only at h2 h3
  subst h2 h3
  exact PySem.W.kia_tup Z I.kIn p h1 hk (fun z => nomatch z) fun tk => ⟨.bl b, H, I.tok tk, rfl, q⟩
/-- what the table of exception classes has -/
def XTab (X : Cx) (T : Tb) (sub : Nat → Nat → Bool) (n : Nat) : Prop := ∀ c, c < n → ExCl X.K (T.cA c) ∧ ∀ d, d < n → PySem.W.kitOne X.K (.ref (T.cA c)) (.ref (T.cA d)) = some (sub c d)
def xisR (sub : Nat → Nat → Bool) (n i : Nat) (cs : List Nat) (ρ : Env) (h : Hh) : Rs W := match (ρ[i]?).join with
  | some (.exn c _) => if c < n then .ok (.bl (cs.any (sub c))) h else .bad
  | _ => .bad
theorem isx_core {sub : Nat → Nat → Bool} {i n : Nat} {cs : List Nat} {L : LL} {h : Hh} {H : Hp} {ρ : Env} {σ : L2.St} {EX : XK} {Q : VK} (hX : XTab X T sub n) (E : REnv T (px X) L H ρ σ) (R : Rel T L h H)
    (k : PoG T (RV T) EX L H (xisR sub n i cs ρ h) Q) : ∃ a c, σ[i]? = some (some (.ref a)) ∧ c < n ∧ HeldX X T L a c H ∧ Q (.bl (cs.any (sub c))) H := by
  unfold xisR at k
  cases q : (ρ[i]?).join with
  | none => rw [q] at k; exact k.elim
  | some w =>
    rw [q] at k
    cases w with
    | exn c w =>
      obtain ⟨a, oe, d, e1, e2, e3, e4, e5, e6⟩ := exn_at (h := h) E q
      have k : PoG T (RV T) EX L H (if c < n then .ok (.bl (cs.any (sub c))) h else .bad) Q := k
      split at k
      · rename_i hc
        exact ⟨a, c, e1, hc, ⟨(hX c hc).1, w, oe, d, e2, e3, e4, e5, e6⟩, k.now R rfl⟩
      · exact k.elim
    | _ => exact k.elim
theorem ej_xis1 {sub : Nat → Nat → Bool} {i d n : Nat} {x y : Str} {p p2 : Pos} (hg : Gl X x) (hm : X.mg x = none) (hv : bootBuiltins x = some (.builtin "isinstance")) (hn : x ≠ "__name__") (hd : dbgB x = false)
    (hN : X.N[i]? = some y) (hvy : Vis X.env.scope y) (hdy : dbgB y = false) (hcd : (y == ("__classdict__" : Str)) = false) (hX : XTab X T sub n) (hdn : d < n) {z : Str} {pz : Pos} (hgz : Gl X z) (hmz : X.mg z = some (.ref (T.cA d))) (hdz : dbgB z = false) :
    EJ X T WO (.Call (.Name x p) [.Name y p2, .Name z pz] [] pos) (xisR sub n i [d]) := by
  refine PE.imp (pe_callB (call_isX (T := T)) hg hm hv (pa_cons (pe_var hN hvy hdy hcd) (pa_cons (pe_glob (v := V.ref (T.cA d)) hgz hmz rfl hdz) pa_nil)) hn hd) fun σ H Q ⟨L, h, ρ, R, E, k⟩ => ?_
  obtain ⟨a, c, e1, hc, hx, q⟩ := isx_core hX E R k
  refine ⟨_, e1, L, a, c, d, sub c d, hx, rfl, (hX c hc).2 d hdn, ?_⟩
  have e : ([d].any (sub c)) = sub c d := by simp
  rw [e] at q
  exact q
theorem HeldX.evo {L L' : LL} {H H' : Hp} {a : Addr} {c : Nat} (E : Evo0 L H L' H') (x : HeldX X T L a c H) : HeldX X T L' a c H' := by
  obtain ⟨C, p, oe, d, e2, e3, e4, e5, e6⟩ := x
  exact ⟨C, p, oe, d, e2, e3, e4, e5, e6.evo E⟩
theorem ej_xisT {sub : Nat → Nat → Bool} {i n k2 : Nat} {cs : List Nat} {x y : Str} {p p2 p3 : Pos} (hg : Gl X x) (hm : X.mg x = none) (hv : bootBuiltins x = some (.builtin "isinstance")) (hn : x ≠ "__name__") (hd : dbgB x = false)
    (hN : X.N[i]? = some y) (hvy : Vis X.env.scope y) (hdy : dbgB y = false) (hcd : (y == ("__classdict__" : Str)) = false) (hX : XTab X T sub n) (hdn : ∀ d ∈ cs, d < n) (hl : cs.length ≤ 100) (hes : ClEs X T cs es) :
    EJ X T WO (.Call (.Name x p) [.Name y p2, .Tuple es k2 p3] [] pos) (xisR sub n i cs) := by
  refine PE.imp (pe_callB (call_isXT (T := T)) hg hm hv (pa_cons (pe_var hN hvy hdy hcd) (pa_cons (pe_tup (pa_cls hes)) pa_nil)) hn hd) fun σ H Q ⟨L, h, ρ, R, E, k⟩ => ?_
  obtain ⟨a, c, e1, hc, hx, q⟩ := isx_core hX E R k
  refine ⟨_, e1, by rw [List.length_map, line_eq]; omega, fun tp htp => ?_⟩
  have E2 := R.new htp (.tup (cs.map fun d => V.ref (T.cA d)))
  have R2 := R.newR htp (.tup (cs.map fun d => V.ref (T.cA d)))
  obtain ⟨a', c', e1', hc', hx', q'⟩ := isx_core hX (E.evo E2.toEvo0) R2 (PoG.later E2 k)
  have ea : a' = a := by rw [e1] at e1'; cases e1'; rfl
  refine ⟨L, a', c', cs, tp, cs.any (sub c'), hx', by rw [ea], upd_same, kit_cls' fun d hd => (hX c' hc').2 d (hdn d hd), q'⟩
end
end LP
/-! LP, part 11: statements. -/
namespace LP
open L2 PySem PySem.Spec PyProof.Rows
/-- a statement's end is as wanted -/
def PoS (T : Tb) (pn : List (Addr × Obj)) (WO : WX') (L : LL) (H : Hp) (r : Rf) (D : Ends) : Prop := match r with
  | .nx ρ h' => ∀ σ' L' H', Rel T L' h' H' → Evo L H L' H' → REnv T pn L' H' ρ σ' → D.nx σ' H'
  | .bk ρ h' => ∀ σ' L' H', Rel T L' h' H' → Evo L H L' H' → REnv T pn L' H' ρ σ' → D.bk σ' H'
  | .ct ρ h' => ∀ σ' L' H', Rel T L' h' H' → Evo L H L' H' → REnv T pn L' H' ρ σ' → D.ct σ' H'
  | .rt w h' => ∀ v L' H', Rel T L' h' H' → Evo L H L' H' → RV T L' H' w v → D.rt v H'
  | .exc c p ρ h' => ∀ σ' L' H' cls d, Rel T L' h' H' → Evo L H L' H' → REnv T pn L' H' ρ σ' → RX T L' H' c p cls d → WO cls d σ' H'
  | .bad => False
def rS (T : Tb) (pn : List (Addr × Obj)) (WO : WX') (g : Env → Hh → Rf) : TS := fun D σ H => ∃ L h ρ, Rel T L h H ∧ REnv T pn L H ρ σ ∧ PoS T pn WO L H (g ρ h) D
abbrev SJ (X : Cx) (T : Tb) (WO : WX') (st : Stmt) (g : Env → Hh → Rf) : Prop := PS X st (rS T (px X) WO g)
abbrev SsJ (X : Cx) (T : Tb) (WO : WX') (st : List Stmt) (g : Env → Hh → Rf) : Prop := PSs X st (rS T (px X) WO g)
theorem PS.imp {X : Cx} {st : Stmt} {t t' : TS} (h : PS X st t) (i : ∀ D σ H, t' D σ H → t D σ H) : PS X st t' := ⟨fun pins s σ H D I hw => h.run pins s σ H D I (i D σ H hw)⟩
theorem PSs.imp {X : Cx} {st : List Stmt} {t t' : TS} (h : PSs X st t) (i : ∀ D σ H, t' D σ H → t D σ H) : PSs X st t' := ⟨fun pins s σ H D I hw => h.run pins s σ H D I (i D σ H hw)⟩
section
variable {T : Tb} {pn : List (Addr × Obj)} {WO : WX'} {L L' : LL} {H H' : Hp} {h : Hh} {ρ : Env} {σ : L2.St} {D D' : Ends}
theorem PoS.later {r : Rf} (E : Evo L H L' H') (k : PoS T pn WO L H r D) : PoS T pn WO L' H' r D := by
  cases r with
  | nx ρ h1 => exact fun σ1 L1 H1 R1 E1 => k σ1 L1 H1 R1 (E.trans E1)
  | bk ρ h1 => exact fun σ1 L1 H1 R1 E1 => k σ1 L1 H1 R1 (E.trans E1)
  | ct ρ h1 => exact fun σ1 L1 H1 R1 E1 => k σ1 L1 H1 R1 (E.trans E1)
  | rt w h1 => exact fun v L1 H1 R1 E1 => k v L1 H1 R1 (E.trans E1)
  | exc c p ρ h1 => exact fun σ1 L1 H1 cls d R1 E1 => k σ1 L1 H1 cls d R1 (E.trans E1)
  | bad => exact k
/-- an expression first -/
theorem PoS.rf {r : Rs W} {f : W → Hh → Rf} (R : Rel T L h H) (E : REnv T pn L H ρ σ) (k : PoS T pn WO L H (r.rf ρ f) D) {Q : VK}
    (hq : ∀ v L1 h1 w H1, Rel T L1 h1 H1 → Evo L H L1 H1 → RV T L1 H1 w v → PoS T pn WO L1 H1 (f w h1) D → Q v H1) : PoG T (RV T) (WE WO σ) L H r Q := by
  cases r with
  | ok w h1 => exact fun v L1 H1 R1 E1 rl => hq v L1 h1 w H1 R1 E1 rl (PoS.later E1 k)
  | exc c p h1 => exact fun L1 H1 cls d R1 E1 x => k σ L1 H1 cls d R1 E1 (E.evo E1.toEvo0) x
  | bad => exact k.elim
theorem PoS.rfs {r : Rs (List W)} {f : List W → Hh → Rf} (R : Rel T L h H) (E : REnv T pn L H ρ σ) (k : PoS T pn WO L H (r.rfs ρ f) D) {Q : List V → Hp → Prop}
    (hq : ∀ v L1 h1 w H1, Rel T L1 h1 H1 → Evo L H L1 H1 → RVs T L1 H1 w v → PoS T pn WO L1 H1 (f w h1) D → Q v H1) : PoG T (RVs T) (WE WO σ) L H r Q := by
  cases r with
  | ok w h1 => exact fun v L1 H1 R1 E1 rl => hq v L1 h1 w H1 R1 E1 rl (PoS.later E1 k)
  | exc c p h1 => exact fun L1 H1 cls d R1 E1 x => k σ L1 H1 cls d R1 E1 (E.evo E1.toEvo0) x
  | bad => exact k.elim
/-- a test first -/
theorem PoS.rfb {r : Rs W} {f : W → Hh → Rf} (hf : ∀ w h, (∀ b, w ≠ .bl b) → f w h = .bad) (R : Rel T L h H) (E : REnv T pn L H ρ σ) (k : PoS T pn WO L H (r.rf ρ f) D) {Q : Bool → Hp → Prop}
    (hq : ∀ c L1 h1 H1, Rel T L1 h1 H1 → Evo L H L1 H1 → PoS T pn WO L1 H1 (f (.bl c) h1) D → Q c H1) : PoG T RB (WE WO σ) L H (r.bnd toB) Q := by
  cases r with
  | ok w h1 =>
    cases w with
    | bl c =>
      refine fun v L1 H1 R1 E1 rl => ?_
      obtain rfl := rl
      exact hq c L1 h1 H1 R1 E1 (PoS.later E1 k)
    | _ =>
      have k : PoS T pn WO L H (f _ h1) D := k
      rw [hf _ _ (by intro b z; cases z)] at k
      exact k.elim
  | exc c p h1 => exact fun L1 H1 cls d R1 E1 x => k σ L1 H1 cls d R1 E1 (E.evo E1.toEvo0) x
  | bad => exact k.elim
theorem PoS.now {ρ' : Env} {σ' : L2.St} (R : Rel T L h H) (E : REnv T pn L H ρ' σ') (k : PoS T pn WO L H (.nx ρ' h) D) : D.nx σ' H := k σ' L H R Evo.rfl' E
end
section
variable {X : Cx} {T : Tb} {WO : WX'} {e a b c o : Expr} {es : List Expr} {g ga gb gc go : Env → Hh → Rs W} {gs : Env → Hh → Rs (List W)} {pos : Pos} {st : Stmt} {rest : List Stmt} {f f1 f2 : Env → Hh → Rf}
theorem ssj_nil : SsJ X T WO [] fun ρ h => .nx ρ h := PSs.imp pss_nil fun D σ H ⟨L, h, ρ, R, E, k⟩ => k.now R E
theorem ssj_cons (h1 : SJ X T WO st f1) (h2 : SsJ X T WO rest f2) : SsJ X T WO (st :: rest) fun ρ h => (f1 ρ h).nxt f2 := by
  refine PSs.imp (pss_cons h1 h2) fun D σ H ⟨L, h, ρ, R, E, k⟩ => ⟨L, h, ρ, R, E, ?_⟩
  have k : PoS T (px X) WO L H ((f1 ρ h).nxt f2) D := k
  cases q : f1 ρ h with
  | nx ρ1 h1 =>
    rw [q] at k
    exact fun σ1 L1 H1 R1 E1 r => ⟨L1, h1, ρ1, R1, r, PoS.later E1 k⟩
  | bk _ _ => rw [q] at k; exact k
  | ct _ _ => rw [q] at k; exact k
  | rt _ _ => rw [q] at k; exact k
  | exc _ _ _ _ => rw [q] at k; exact k
  | bad => rw [q] at k; exact k.elim
theorem sj_pass : SJ X T WO (.Pass pos) fun ρ h => .nx ρ h := PS.imp ps_pass fun D σ H ⟨L, h, ρ, R, E, k⟩ => k.now R E
theorem sj_brk : SJ X T WO (.Break pos) fun ρ h => .bk ρ h := PS.imp ps_break fun D σ H ⟨L, h, ρ, R, E, k⟩ => k σ L H R Evo.rfl' E
theorem sj_cnt : SJ X T WO (.Continue pos) fun ρ h => .ct ρ h := PS.imp ps_continue fun D σ H ⟨L, h, ρ, R, E, k⟩ => k σ L H R Evo.rfl' E
theorem sj_exp (he : EJ X T WO e g) (hn : ncE e = true) : SJ X T WO (.Expr e pos) fun ρ h => (g ρ h).rf ρ fun _ h => .nx ρ h :=
  PS.imp (ps_expr he (swap_nc hn)) fun D σ H ⟨L, h, ρ, R, E, k⟩ => ⟨L, h, ρ, R, E, PoS.rf R E k fun v L1 h1 w H1 R1 E1 r1 k1 => k1.now R1 (E.evo E1.toEvo0)⟩
theorem sj_ret (he : EJ X T WO e g) : SJ X T WO (.Return (some e) pos) fun ρ h => (g ρ h).rf ρ fun w h => .rt w h :=
  PS.imp (ps_ret he) fun D σ H ⟨L, h, ρ, R, E, k⟩ => ⟨L, h, ρ, R, E, PoS.rf R E k fun v L1 h1 w H1 R1 E1 r1 k1 => k1 v L1 H1 R1 Evo.rfl' r1⟩
theorem sj_rtn : SJ X T WO (.Return none pos) fun _ h => .rt .non h := PS.imp ps_retN fun D σ H ⟨L, h, ρ, R, E, k⟩ => k .non L H R Evo.rfl' rfl
theorem sj_if {ss ts : List Stmt} (hc : TJ X T WO c gc) (h1 : SsJ X T WO ss f1) (h2 : SsJ X T WO ts f2) : SJ X T WO (.If c ss ts pos) fun ρ h => (gc ρ h).rf ρ fun x h => match x with
    | .bl true => f1 ρ h
    | .bl false => f2 ρ h
    | _ => .bad := by
  refine PS.imp (ps_if hc h1 h2) fun D σ H ⟨L, h, ρ, R, E, k⟩ => ⟨L, h, ρ, R, E, PoS.rfb (by intro w h n; cases w <;> first | rfl | exact absurd rfl (n _)) R E k fun c L1 h1 H1 R1 E1 k1 => ?_⟩
  cases c with
  | true => exact ⟨L1, h1, ρ, R1, E.evo E1.toEvo0, k1⟩
  | false => exact ⟨L1, h1, ρ, R1, E.evo E1.toEvo0, k1⟩
theorem sj_set {i : Nat} {x : Str} {p : Pos} (hN : X.N.Nodup) (hi : X.N[i]? = some x) (hx : X.env.scope.names.lookup x = some .local) (he : EJ X T WO e g) (hn : ncE e = true) :
    SJ X T WO (.Assign [.Name x p] e pos) fun ρ h => (g ρ h).rf ρ fun w h => .nx (ρ.set i (some w)) h :=
  PS.imp (ps_set hN hi (.inl hx) he (swap_nc hn) (.inr hx)) fun D σ H ⟨L, h, ρ, R, E, k⟩ => ⟨L, h, ρ, R, E, PoS.rf R E k fun v L1 h1 w H1 R1 E1 r1 k1 => k1.now R1 ((E.evo E1.toEvo0).set i r1)⟩
/-- .. a captured name's cell -/
theorem sj_setC {i : Nat} {x : Str} {p : Pos} (hN : X.N.Nodup) (hi : X.N[i]? = some x) (hx : Loc X.env.scope x) (hfn : X.fn x = true) (he : EJ X T WO e g) (hn : ncE e = true) :
    SJ X T WO (.Assign [.Name x p] e pos) fun ρ h => (g ρ h).rf ρ fun w h => .nx (ρ.set i (some w)) h :=
  PS.imp (ps_set hN hi hx he (swap_nc hn) (.inl hfn)) fun D σ H ⟨L, h, ρ, R, E, k⟩ => ⟨L, h, ρ, R, E, PoS.rf R E k fun v L1 h1 w H1 R1 E1 r1 k1 => k1.now R1 ((E.evo E1.toEvo0).set i r1)⟩
/-! ### targets -/
abbrev GJ (X : Cx) (T : Tb) (WO : WX') (t : Expr) (g : W → Env → Hh → Rf) : Prop := PG X t (fun v σ H Q => ∃ L h ρ w, Rel T L h H ∧ REnv T (px X) L H ρ σ ∧ RV T L H w v ∧ PoS T (px X) WO L H (g w ρ h) { nx := Q, rt := fun _ _ => False })
abbrev GsJ (X : Cx) (T : Tb) (WO : WX') (ts : List Expr) (g : List W → Env → Hh → Rf) : Prop := PGs X ts (fun vs σ H Q => ∃ L h ρ ws, Rel T L h H ∧ REnv T (px X) L H ρ σ ∧ RVs T L H ws vs ∧ PoS T (px X) WO L H (g ws ρ h) { nx := Q, rt := fun _ _ => False })
theorem PG.imp {X : Cx} {e : Expr} {t t' : TG} (h : PG X e t) (i : ∀ v σ H Q, t' v σ H Q → t v σ H Q) : PG X e t' := ⟨fun pins s σ H v u Q I r hw => h.run pins s σ H v u Q I r (i v σ H Q hw)⟩
theorem PGs.imp {X : Cx} {e : List Expr} {t t' : TGs} (h : PGs X e t) (i : ∀ v σ H Q, t' v σ H Q → t v σ H Q) : PGs X e t' := ⟨fun pins s σ H v u Q I r hw => h.run pins s σ H v u Q I r (i v σ H Q hw)⟩
theorem gj_nm {i : Nat} {x : Str} {p : Pos} (hN : X.N.Nodup) (hi : X.N[i]? = some x) (hx : Loc X.env.scope x) (hf : X.fn x = true ∨ X.env.scope.names.lookup x = some .local) :
    GJ X T WO (.Name x p) fun w ρ h => .nx (ρ.set i (some w)) h :=
  PG.imp (pg_name hN hi hx hf) fun v σ H Q ⟨L, h, ρ, w, R, E, r, k⟩ => k.now R (E.set i r)
theorem gj_ix (hu : X.A.units + 1 < cLine) (ha : EJ X T WO a ga) (hb : EJ X T WO b gb) (hs : ∀ v, assign (.Subscript a b pos) X.env v = (do
      let ov ← holding [v] (eval a X.env)
      let iv ← holding [v, ov] (eval b X.env)
      standAt pos
      holding [v, ov, iv] (setItem ov iv v)
      release [v, ov, iv] [])) :
    GJ X T WO (.Subscript a b pos) fun w ρ h => (ga ρ h).rf ρ fun x h => (gb ρ h).rf ρ fun y h => match setO h x y w with
      | some h' => .nx ρ h'
      | none => .bad := by
  refine PG.imp (pg_sub ha hb (set_W (T := T) hu) hs) fun v σ H Q ⟨L, h, ρ, w, R, E, r, k⟩ => ⟨L, h, ρ, R, E, PoS.rf R E k fun x L1 h1 a1 H1 R1 E1 r1 k1 =>
    ⟨L1, h1, ρ, R1, E.evo E1.toEvo0, PoS.rf R1 (E.evo E1.toEvo0) k1 fun y L2 h2 a2 H2 R2 E2 r2 k2 => ?_⟩⟩
  cases q : setO h2 a1 a2 w with
  | none => rw [q] at k2; exact k2.elim
  | some h' =>
    rw [q] at k2
    exact ⟨L2, h2, a1, a2, w, R2, RV.evo E2.toEvo0 _ _ r1, r2, RV.evo E2.toEvo0 _ _ (RV.evo E1.toEvo0 _ _ r), h', q, fun L3 H3 R3 E3 => k2 σ L3 H3 R3 E3 (((E.evo E1.toEvo0).evo E2.toEvo0).evo E3.toEvo0)⟩
theorem gsj_nil : GsJ X T WO [] fun ws ρ h => match ws with
    | [] => .nx ρ h
    | _ => .bad := PGs.imp pgs_nil fun vs σ H Q ⟨L, h, ρ, ws, R, E, r, k⟩ => by
  cases ws with
  | nil =>
    have e : vs = [] := r
    exact ⟨e, k.now R E⟩
  | cons _ _ => exact k.elim
theorem gsj_cons {t : Expr} {ts : List Expr} {g : W → Env → Hh → Rf} {gr : List W → Env → Hh → Rf} (h1 : GJ X T WO t g) (h2 : GsJ X T WO ts gr) (hs : (assignEach (t :: ts) X.env).map (·.2) = assign t X.env :: (assignEach ts X.env).map (·.2)) :
    GsJ X T WO (t :: ts) fun ws ρ h => match ws with
      | w :: ws => (g w ρ h).nxt fun ρ h => gr ws ρ h
      | _ => .bad := PGs.imp (pgs_cons h1 h2 hs) fun vs σ H Q ⟨L, h, ρ, ws, R, E, r, k⟩ => by
  cases ws with
  | nil => exact k.elim
  | cons w ws =>
    obtain ⟨v, vr, rfl, rv, rr⟩ := r
    refine ⟨v, vr, rfl, L, h, ρ, w, R, E, rv, ?_⟩
    have k : PoS T (px X) WO L H ((g w ρ h).nxt fun ρ h => gr ws ρ h) { nx := Q, rt := fun _ _ => False } := k
    cases q : g w ρ h with
    | nx ρ1 h1 =>
      rw [q] at k
      exact fun σ1 L1 H1 R1 E1 r1 => ⟨L1, h1, ρ1, ws, R1, r1, RVs.evo E1.toEvo0 _ _ rr, PoS.later E1 k⟩
    | bk _ _ => rw [q] at k; exact k
    | ct _ _ => rw [q] at k; exact k
    | rt _ _ => rw [q] at k; exact k
    | exc _ _ _ _ => rw [q] at k; exact k
    | bad => rw [q] at k; exact k.elim
theorem gj_tp {ts : List Expr} {k2 n : Nat} {gr : List W → Env → Hh → Rf} (hK : T.K = X.K) (hc : X.calm = true) (hr : GsJ X T WO ts gr) (hn : (assignEach ts X.env).length = n) (hst : (assignEach ts X.env).findIdx? (·.1) = none) (hl : ∀ ws ρ h, ws.length ≠ n → gr ws ρ h = .bad) :
    GJ X T WO (.Tuple ts k2 pos) fun w ρ h => match w with
      | .tup xs => gr xs ρ h
      | _ => .bad := PG.imp (pg_tup hc hr hn hst) fun v σ H Q ⟨L, h, ρ, w, R, E, r, k⟩ => by
  cases w with
  | tup xs =>
    have k : PoS T (px X) WO L H (gr xs ρ h) { nx := Q, rt := fun _ _ => False } := k
    obtain ⟨p, vs, rfl, t, rr⟩ := r
    have hlen : xs.length = n := by
      by_cases z : xs.length = n
      · exact z
      · rw [hl xs ρ h z] at k
        exact k.elim
    exact ⟨p, vs, rfl, hK ▸ t.sq, by rw [rr.length]; exact hlen, L, h, ρ, xs, R, E, rr, k⟩
  | _ => exact k.elim
theorem sj_asg {t : Expr} {gt : W → Env → Hh → Rf} (he : EJ X T WO e g) (hg : GJ X T WO t gt) (hn : ncE e = true) (hw : swappedStores [t] e X.env = pure none) (h1 : (assignEach [t] X.env).map (·.2) = [assign t X.env])
    (hnx : ∀ w ρ h, match gt w ρ h with
      | .rt _ _ => False
      | .bk _ _ => False
      | .ct _ _ => False
      | _ => True) :
    SJ X T WO (.Assign [t] e pos) fun ρ h => (g ρ h).rf ρ fun w h => gt w ρ h := by
  refine PS.imp (ps_asg he hg (swap_nc hn) hw h1) fun D σ H ⟨L, h, ρ, R, E, k⟩ => ⟨L, h, ρ, R, E, PoS.rf R E k fun v L1 h1 w H1 R1 E1 r1 k1 => ⟨L1, h1, ρ, w, R1, E.evo E1.toEvo0, r1, ?_⟩⟩
  have z := hnx w ρ h1
  cases q : gt w ρ h1 with
  | nx _ _ => rw [q] at k1; exact k1
  | exc _ _ _ _ => rw [q] at k1; exact k1
  | bad => rw [q] at k1; exact k1.elim
  | rt _ _ => rw [q] at z; exact z.elim
  | bk _ _ => rw [q] at z; exact z.elim
  | ct _ _ => rw [q] at z; exact z.elim
end
end LP
/-! LP, part 12: what is walked. -/
namespace LP
open L2 PySem PySem.Spec PyProof.Rows
/-- J walks what iv is -/
def ItOk (T : Tb) (L : LL) (H : Hp) (iv : Iv) (J : It) : Prop := ∀ (L' : LL) (h' : Hh) (H' : Hp), Rel T L' h' H' → Evo0 L H L' H' → ∀ i : Nat, (nthV h' i iv = some none → J.stop i H') ∧
  ∀ x, nthV h' i iv = some (some x) → J.go i H' ∧ ∀ v H'', J.yld i H' v H'' → ∃ L'', Rel T L'' h' H'' ∧ Evo L' H' L'' H'' ∧ RV T L'' H'' x v
def rI' (T : Tb) (pn : List (Addr × Obj)) (WO : WX') (g : Env → Hh → Rs Iv) : TI := fun σ H R => ∃ L h ρ, Rel T L h H ∧ REnv T pn L H ρ σ ∧ PoG T (ItOk T) (WE WO σ) L H (g ρ h) R
abbrev IJ (X : Cx) (T : Tb) (WO : WX') (tg iter : Expr) (g : Env → Hh → Rs Iv) : Prop := PI X tg iter (rI' T (px X) WO g)
abbrev IJH (X : Cx) (T : Tb) (WO : WX') (tg iter : Expr) (g : Env → Hh → Rs Iv) : Prop := L2H.PIH X tg iter (rI' T (px X) WO g)
theorem pih_imp {X : Cx} {tg e : Expr} {t t' : TI} (p : L2H.PIH X tg e t) (i : ∀ σ H Q, t' σ H Q → t σ H Q) : L2H.PIH X tg e t' := ⟨fun pins s σ H R I hw => p.run pins s σ H R I (i σ H R hw)⟩
/-- what is walked, from the values -/
def ivR (o : Option Iv) (h : Hh) : Rs Iv := match o with
  | some iv => .ok iv h
  | none => .bad
theorem PI.imp {X : Cx} {tg e : Expr} {t t' : TI} (p : PI X tg e t) (i : ∀ σ H Q, t' σ H Q → t σ H Q) : PI X tg e t' := ⟨fun pins s σ H R I hw => p.run pins s σ H R I (i σ H R hw)⟩
section
variable {T : Tb} {L : LL} {h : Hh} {H : Hp}
theorem itl_ok {K : PySem.W.Frag} (hK : T.K = K) {w : W} {a : Addr} (r : RV T L H w (.ref a)) (e : ∀ h, asQ h w = asF h w) (e2 : ∀ h i, nthV h i (.q w) = (asQ h w).map fun xs => xs[i]?) : ItOk T L H (.q w) (Itl K a) := by
  intro L1 h1 H1 R1 E1 i
  have r1 := RV.evo E1 _ _ r
  rw [e2, e]
  cases q : asF h1 w with
  | none => exact ⟨(fun z => by cases z), (fun x z => by cases z)⟩
  | some xs =>
    obtain ⟨a', vs, ea, t, rr⟩ := asF_ok R1 q r1
    cases ea
    rw [hK] at t
    refine ⟨fun z => ⟨vs, t, ?_⟩, fun x z => ?_⟩
    · have z : xs[i]? = none := by simpa using z
      rw [rr.length]
      exact List.getElem?_eq_none_iff.mp z
    · have z : xs[i]? = some x := by simpa using z
      obtain ⟨y, q1, q2⟩ := rr.get z
      refine ⟨⟨vs, y, t, q1⟩, fun v H2 ⟨eH, hv⟩ => ?_⟩
      subst eH
      have := hv vs t
      rw [q1] at this
      cases this
      exact ⟨L1, R1, Evo.rfl', q2⟩
theorem itt_ok {K : PySem.W.Frag} (hK : T.K = K) {xs : List W} {a : Addr} (r : RV T L H (.tup xs) (.ref a)) : ItOk T L H (.q (.tup xs)) (Itt K a) := by
  intro L1 h1 H1 R1 E1 i
  obtain ⟨a', vs, ea, t, rr⟩ := RV.evo E1 _ _ r
  cases ea
  have t := t.sq
  rw [hK] at t
  have e : nthV h1 i (.q (.tup xs)) = some (xs[i]?) := rfl
  rw [e]
  refine ⟨fun z => ⟨vs, t, ?_⟩, fun x z => ?_⟩
  · have z : xs[i]? = none := by simpa using z
    rw [rr.length]
    exact List.getElem?_eq_none_iff.mp z
  · have z : xs[i]? = some x := by simpa using z
    obtain ⟨y, q1, q2⟩ := rr.get z
    refine ⟨⟨vs, y, t, q1⟩, fun v H2 ⟨eH, hv⟩ => ?_⟩
    subst eH
    have := hv vs t
    rw [q1] at this
    cases this
    exact ⟨L1, R1, Evo.rfl', q2⟩
theorem its_ok {x : Tx} (o : okT x) : ItOk T L H (.q (.str x)) (Its (mkS x)) := by
  intro L1 h1 H1 R1 E1 i
  have e : nthV h1 i (.q (.str x)) = some ((x[i]?).map fun c => .str [c]) := rfl
  have es : (mkS x).cps.size = x.length := by simp [mkS]
  rw [e]
  refine ⟨fun z => ?_, fun w z => ?_⟩
  · show (mkS x).cps.size ≤ i
    rw [es]
    have z : x[i]? = none := by simpa using z
    exact List.getElem?_eq_none_iff.mp z
  · cases q : x[i]? with
    | none => rw [q] at z; cases z
    | some c =>
      rw [q] at z
      cases z
      refine ⟨?_, fun v H2 ⟨eH, c', hc, ev⟩ => ?_⟩
      · show i < (mkS x).cps.size
        rw [es]
        exact (List.getElem?_eq_some_iff.mp q).1
      · subst eH ev
        have : (mkS x).cps[i]? = x[i]? := by simp [mkS]
        rw [this, q] at hc
        cases hc
        refine ⟨L1, R1, Evo.rfl', rfl, fun d hd => ?_, by simp [big]⟩
        have : d = c := by simpa using hd
        subst this
        exact o.1 d (List.mem_of_getElem? q)
theorem itr_ok {lo : Int} {n : Nat} : ItOk T L H (.rg lo 1 n) (Itr lo n) := by
  intro L1 h1 H1 R1 E1 i
  have e : nthV h1 i (.rg lo 1 n) = some (if i < n then some (.int (lo + (i : Int) * 1)) else none) := rfl
  rw [e]
  refine ⟨fun z => ?_, fun w z => ?_⟩
  · show n ≤ i
    by_cases q : i < n
    · rw [if_pos q] at z; cases z
    · omega
  · by_cases q : i < n
    · rw [if_pos q] at z
      cases z
      refine ⟨q, fun v H2 ⟨eH, ev⟩ => ?_⟩
      subst eH ev
      exact ⟨L1, R1, Evo.rfl', by show V.int _ = V.int _; rw [Int.mul_one]⟩
    · rw [if_neg q] at z; cases z
theorem itc_ok {lo c : Int} {n : Nat} : ItOk T L H (.rg lo c n) (Itc lo c n) := by
  intro L1 h1 H1 R1 E1 i
  have e : nthV h1 i (.rg lo c n) = some (if i < n then some (.int (lo + (i : Int) * c)) else none) := rfl
  rw [e]
  refine ⟨fun z => ?_, fun w z => ?_⟩
  · show n ≤ i
    by_cases q : i < n
    · rw [if_pos q] at z; cases z
    · omega
  · by_cases q : i < n
    · rw [if_pos q] at z
      cases z
      refine ⟨q, fun v H2 ⟨eH, ev⟩ => ?_⟩
      subst eH ev
      exact ⟨L1, R1, Evo.rfl', rfl⟩
    · rw [if_neg q] at z; cases z
theorem ite_ok {K : PySem.W.Frag} (hK : T.K = K) {w : W} {a : Addr} (r : RV T L H w (.ref a)) (e : ∀ h, asQ h w = asF h w) : ItOk T L H (.en w) (Ite K a) := by
  intro L1 h1 H1 R1 E1 i
  have r1 := RV.evo E1 _ _ r
  have e2 : nthV h1 i (.en w) = (asQ h1 w).map fun xs => (xs[i]?).map fun x => .tup [.int i, x] := rfl
  rw [e2, e]
  cases q : asF h1 w with
  | none => exact ⟨(fun z => by cases z), (fun x z => by cases z)⟩
  | some xs =>
    obtain ⟨a', vs, ea, t, rr⟩ := asF_ok R1 q r1
    cases ea
    rw [hK] at t
    refine ⟨fun z => ⟨vs, t, ?_⟩, fun x z => ?_⟩
    · have z : xs[i]? = none := by simpa using z
      rw [rr.length]
      exact List.getElem?_eq_none_iff.mp z
    · cases qx : xs[i]? with
      | none =>
        have z : (xs[i]?).map (fun x => W.tup [.int i, x]) = some x := by simpa using z
        rw [qx] at z
        cases z
      | some x1 =>
        have z : (xs[i]?).map (fun x => W.tup [.int i, x]) = some x := by simpa using z
        rw [qx] at z
        cases z
        obtain ⟨y, q1, q2⟩ := rr.get qx
        refine ⟨⟨vs, y, t, q1⟩, fun v H2 ⟨p, y', ev, hp, eH, hv⟩ => ?_⟩
        subst ev eH
        have := hv vs t
        rw [q1] at this
        cases this
        exact ⟨L1, R1.newR hp _, R1.new hp _, p, _, rfl, .inl ⟨.inl upd_same, R1.fresh hp⟩, _, _, rfl, rfl, _, _, rfl, RV.evo (R1.new hp _).toEvo0 _ _ q2, rfl⟩
theorem zip_yld {L1 : LL} {h1 : Hh} {H1 : Hp} (R1 : Rel T L1 h1 H1) {xs ys : List W} {vs us : List V} (rx : RVs T L1 H1 xs vs) (ry : RVs T L1 H1 ys us) {i : Nat} {w : W} (z : (match xs[i]?, ys[i]? with
      | some x, some y => some (W.tup [x, y])
      | _, _ => none) = some w) :
    ∃ x y v u, xs[i]? = some x ∧ ys[i]? = some y ∧ vs[i]? = some v ∧ us[i]? = some u ∧ ∀ p, H1 p = none → ∃ L'', Rel T L'' h1 (upd H1 p (.tup [v, u])) ∧ Evo L1 H1 L'' (upd H1 p (.tup [v, u])) ∧ RV T L'' (upd H1 p (.tup [v, u])) w (.ref p) := by
  cases qx : xs[i]? with
  | none => rw [qx] at z; cases z
  | some x =>
    cases qy : ys[i]? with
    | none => rw [qx, qy] at z; cases z
    | some y =>
      rw [qx, qy] at z
      cases z
      obtain ⟨v, q1, q2⟩ := rx.get qx
      obtain ⟨u, q3, q4⟩ := ry.get qy
      refine ⟨x, y, v, u, rfl, rfl, q1, q3, fun p hp => ?_⟩
      exact ⟨L1, R1.newR hp _, R1.new hp _, p, _, rfl, .inl ⟨.inl upd_same, R1.fresh hp⟩, _, _, rfl, RV.evo (R1.new hp _).toEvo0 _ _ q2, _, _, rfl, RV.evo (R1.new hp _).toEvo0 _ _ q4, rfl⟩
theorem zip_end {xs ys : List W} {i : Nat} (z : (match xs[i]?, ys[i]? with
      | some x, some y => some (W.tup [x, y])
      | _, _ => none) = none) : xs.length ≤ i ∨ ys.length ≤ i := by
  cases qx : xs[i]? with
  | none => exact .inl (List.getElem?_eq_none_iff.mp qx)
  | some x =>
    cases qy : ys[i]? with
    | none => exact .inr (List.getElem?_eq_none_iff.mp qy)
    | some y => rw [qx, qy] at z; cases z
theorem itzT_ok {K : PySem.W.Frag} (hK : T.K = K) {xs ys : List W} {a b : Addr} (r : RV T L H (.tup xs) (.ref a)) (r' : RV T L H (.tup ys) (.ref b)) : ItOk T L H (.z2 (.tup xs) (.tup ys)) (RZ.ItzT K a b) := by
  intro L1 h1 H1 R1 E1 i
  obtain ⟨a', vs, ea, t, rr⟩ := RV.evo E1 _ _ r
  cases ea
  obtain ⟨b', us, eb, t', rr'⟩ := RV.evo E1 _ _ r'
  cases eb
  have t := t.sq
  have t' := t'.sq
  rw [hK] at t t'
  have e : nthV h1 i (.z2 (.tup xs) (.tup ys)) = some (match xs[i]?, ys[i]? with
      | some x, some y => some (W.tup [x, y])
      | _, _ => none) := rfl
  rw [e]
  refine ⟨fun z => ⟨vs, us, t, t', ?_⟩, fun w z => ?_⟩
  · rw [rr.length, rr'.length]
    exact zip_end (Option.some.inj z)
  · obtain ⟨x, y, v, u, q1, q2, q3, q4, q5⟩ := zip_yld R1 rr rr' (Option.some.inj z)
    refine ⟨⟨vs, us, v, u, t, t', q3, q4⟩, fun v' H2 ⟨p, v1, u1, ev, hp, eH, f1, f2⟩ => ?_⟩
    subst ev eH
    have g1 := f1 vs t
    have g2 := f2 us t'
    rw [q3] at g1
    rw [q4] at g2
    cases g1
    cases g2
    exact q5 p hp
theorem itz_ok {K : PySem.W.Frag} (hK : T.K = K) {w w' : W} {a b : Addr} (r : RV T L H w (.ref a)) (r' : RV T L H w' (.ref b)) (e1 : ∀ h, asQ h w = asF h w) (e2 : ∀ h, asQ h w' = asF h w') : ItOk T L H (.z2 w w') (Itz K a b) := by
  intro L1 h1 H1 R1 E1 i
  have s1 := RV.evo E1 _ _ r
  have s2 := RV.evo E1 _ _ r'
  have e : nthV h1 i (.z2 w w') = (match asQ h1 w, asQ h1 w' with
    | some xs, some ys => some (match xs[i]?, ys[i]? with
      | some x, some y => some (.tup [x, y])
      | _, _ => none)
    | _, _ => none) := rfl
  rw [e, e1, e2]
  cases qx : asF h1 w with
  | none => exact ⟨(fun z => by cases z), (fun x z => by cases z)⟩
  | some xs =>
    cases qy : asF h1 w' with
    | none => exact ⟨(fun z => by cases z), (fun x z => by cases z)⟩
    | some ys =>
      obtain ⟨a', vs, ea, t, rr⟩ := asF_ok R1 qx s1
      cases ea
      obtain ⟨b', us, eb, t', rr'⟩ := asF_ok R1 qy s2
      cases eb
      rw [hK] at t t'
      refine ⟨fun z => ⟨vs, us, t, t', ?_⟩, fun w z => ?_⟩
      · rw [rr.length, rr'.length]
        exact zip_end (Option.some.inj z)
      · obtain ⟨x, y, v, u, q1, q2, q3, q4, q5⟩ := zip_yld R1 rr rr' (Option.some.inj z)
        refine ⟨⟨vs, us, v, u, t, t', q3, q4⟩, fun v' H2 ⟨p, v1, u1, ev, hp, eH, f1, f2⟩ => ?_⟩
        subst ev eH
        have g1 := f1 vs t
        have g2 := f2 us t'
        rw [q3] at g1
        rw [q4] at g2
        cases g1
        cases g2
        exact q5 p hp
end
section
variable {X : Cx} {T : Tb} {WO : WX'} {e a b c o tg : Expr} {es elts : List Expr} {g ga gb gc go : Env → Hh → Rs W} {gs : Env → Hh → Rs (List W)} {pos p tpos : Pos} {kk : Nat}
theorem rgOk_of {i : Int} (h : rgOk i = true) : -(2 ^ 62) ≤ i ∧ i < 2 ^ 62 := by
  unfold rgOk at h
  rw [Bool.and_eq_true] at h
  have h1 := of_decide_eq_true h.1
  have h2 := of_decide_eq_true h.2
  have e : (2 : Int) ^ 62 = 4611686018427387904 := by decide
  rw [e]
  exact ⟨h1, h2⟩
theorem asQ_F {w : W} (h : ∀ xs, w ≠ .tup xs) : ∀ hh, asQ hh w = asF hh w := by
  intro hh
  cases w <;> first | rfl | exact absurd rfl (h _)
/-- an expression's items -/
theorem ij_seq (hK : T.K = X.K) (he : EJ X T WO e g) : IJ X T WO tg e fun ρ h => (g ρ h).bnd fun w h => ivR (ivC h .seq [w]) h := by
  refine ⟨fun pins s σ H R I ⟨L, h, ρ, R0, E, k⟩ => ?_⟩
  have k : PoG T (ItOk T) (WE WO σ) L H ((g ρ h).bnd fun w h => ivR (ivC h .seq [w]) h) R := k
  cases q : g ρ h with
  | bad => rw [q] at k; exact k.elim
  | exc c p h1 =>
    rw [q] at k
    exact (pi_list he).run pins s σ H R I ⟨L, h, ρ, R0, E, by rw [q]; exact k⟩
  | ok w h1 =>
    rw [q] at k
    have k : PoG T (ItOk T) (WE WO σ) L H (ivR (ivC h1 .seq [w]) h1) R := k
    have e0 : ivC h1 .seq [w] = if isSeq h1 w then some (.q w) else none := rfl
    rw [e0] at k
    split at k
    · rename_i hs
      have lst : (∀ xs, w ≠ .tup xs) → (∀ h i, nthV h i (.q w) = (asQ h w).map fun xs => xs[i]?) → (asF h1 w).isSome = true → wpAny (model X.prog X.w) X.A (eval e X.env) (fun v s1 => wpAny (model X.prog X.w) X.A (pyIter v) (PIE X pins σ tg R) X.xe s1) X.xe s := by
        intro nt hn z
        obtain ⟨xs, z⟩ := Option.isSome_iff_exists.mp z
        have kk : PoG T (RV T) (WE WO σ) L H (.ok w h1) (fun x H1 => ∃ a, x = .ref a ∧ (∃ xs, SqL X.K H1 a xs) ∧ R (Itl X.K a) H1) := fun v L1 H1 R1 E1 rl => by
          obtain ⟨p, vs, ev, t, rr⟩ := asF_ok R1 z rl
          subst ev
          exact ⟨p, rfl, ⟨vs, hK ▸ t⟩, k (Itl X.K p) L1 H1 R1 E1 (itl_ok hK rl (asQ_F nt) hn)⟩
        exact (pi_list he).run pins s σ H R I ⟨L, h, ρ, R0, E, by rw [q]; exact kk⟩
      cases w with
      | str x =>
        have kk : PoG T (RV T) (WE WO σ) L H (.ok (.str x) h1) (fun v H1 => ∃ x, v = .str x ∧ R (Its x) H1) := fun v L1 H1 R1 E1 rl => by
          obtain ⟨ev, o⟩ := rl
          exact ⟨_, ev, k (Its (mkS x)) L1 H1 R1 E1 (its_ok o)⟩
        exact (pi_str he).run pins s σ H R I ⟨L, h, ρ, R0, E, by rw [q]; exact kk⟩
      | tup xs =>
        have kk : PoG T (RV T) (WE WO σ) L H (.ok (.tup xs) h1) (fun x H1 => ∃ a, x = .ref a ∧ (∃ xs, SqT X.K H1 a xs) ∧ R (Itt X.K a) H1) := fun v L1 H1 R1 E1 rl => by
          obtain ⟨p, vs, ev, t, rr⟩ := id rl
          subst ev
          exact ⟨p, rfl, ⟨vs, hK ▸ t.sq⟩, k (Itt X.K p) L1 H1 R1 E1 (itt_ok hK rl)⟩
        exact (pi_tup he).run pins s σ H R I ⟨L, h, ρ, R0, E, by rw [q]; exact kk⟩
      | lst xs => exact lst (by intro _ z; cases z) (fun _ _ => rfl) rfl
      | frz xs => exact lst (by intro _ z; cases z) (fun _ _ => rfl) rfl
      | ref n => exact lst (by intro _ z; cases z) (fun _ _ => rfl) hs
      | _ => cases hs
    · exact k.elim
/-- the kinds, one by one -/
theorem iv_r1 {ws : List W} {h : Hh} {iv : Iv} (e : ivC h .r1 ws = some iv) : ∃ j, ws = [.int j] ∧ rgOk j = true ∧ iv = .rg 0 1 j.toNat := by
  cases ws with
  | nil => cases e
  | cons w ws =>
    cases ws with
    | cons _ _ => cases w <;> cases e
    | nil =>
      cases w with
      | int j =>
        have e : (if rgOk j then some (Iv.rg 0 1 j.toNat) else none) = some iv := e
        split at e
        · rename_i q
          cases e
          exact ⟨j, rfl, q, rfl⟩
        · cases e
      | _ => cases e
theorem iv_r2 {ws : List W} {h : Hh} {iv : Iv} (e : ivC h .r2 ws = some iv) : ∃ i j, ws = [.int i, .int j] ∧ rgOk i = true ∧ rgOk j = true ∧ iv = .rg i 1 (j - i).toNat := by
  unfold ivC at e
  split at e
  all_goals first
    | (rename_i q _; cases q; done)
    | (rename_i q _ _; cases q; done)
    | (rename_i q; cases q; done)
    | (cases e; done)
    | skip
  rename_i i j _
  split at e
  · rename_i q
    rw [Bool.and_eq_true] at q
    cases e
    exact ⟨i, j, rfl, q.1, q.2, rfl⟩
  · cases e
theorem iv_r3 {ws : List W} {h : Hh} {iv : Iv} (e : ivC h .r3 ws = some iv) : ∃ i j, ws = [.int i, .int j, .int (-1)] ∧ rgOk i = true ∧ rgOk j = true ∧ iv = .rg i (-1) (i - j).toNat := by
  unfold ivC at e
  split at e
  all_goals first
    | (rename_i q _; cases q; done)
    | (rename_i q _ _; cases q; done)
    | (rename_i q; cases q; done)
    | (cases e; done)
    | skip
  rename_i i j c _
  split at e
  · rename_i q
    rw [Bool.and_eq_true, Bool.and_eq_true] at q
    cases e
    have : c = -1 := by simpa using q.2
    subst this
    exact ⟨i, j, rfl, q.1.1, q.1.2, rfl⟩
  · cases e
end
end LP
/-! LP, part 13: loops. -/
namespace LP
open L2 PySem PySem.Spec PyProof.Rows
section
variable {X : Cx} {T : Tb} {WO : WX'} {e a b c o tg : Expr} {es elts : List Expr} {g ga gb gc go : Env → Hh → Rs W} {gs : Env → Hh → Rs (List W)} {pos p tpos : Pos} {kk : Nat}
theorem iv_en {ws : List W} {h : Hh} {iv : Iv} (e : ivC h .en ws = some iv) : ∃ w, ws = [w] ∧ (asF h w).isSome = true ∧ iv = .en w := by
  unfold ivC at e
  split at e
  all_goals first
    | (rename_i q _; cases q; done)
    | (rename_i q _ _; cases q; done)
    | (rename_i q; cases q; done)
    | (cases e; done)
    | skip
  rename_i w _
  split at e
  · rename_i q
    cases e
    exact ⟨w, rfl, q, rfl⟩
  · cases e
theorem iv_z2 {ws : List W} {h : Hh} {iv : Iv} (e : ivC h .z2 ws = some iv) : (∃ xs ys, ws = [.tup xs, .tup ys] ∧ iv = .z2 (.tup xs) (.tup ys)) ∨ ∃ w w', ws = [w, w'] ∧ (asF h w).isSome = true ∧ (asF h w').isSome = true ∧ iv = .z2 w w' := by
  unfold ivC at e
  split at e
  all_goals first
    | (rename_i q _; cases q; done)
    | (rename_i q _ _; cases q; done)
    | (rename_i q; cases q; done)
    | (cases e; done)
    | skip
  · rename_i xs ys _
    cases e
    exact .inl ⟨xs, ys, rfl, rfl⟩
  · rename_i w w' _ _
    split at e
    · rename_i q
      rw [Bool.and_eq_true] at q
      cases e
      exact .inr ⟨w, w', rfl, q.1, q.2, rfl⟩
    · cases e
theorem ivR_some {L : LL} {H : Hp} {EX : XK} {R : It → Hp → Prop} {o : Option Iv} {h : Hh} (k : PoG T (ItOk T) EX L H (ivR o h) R) : ∃ iv, o = some iv ∧ PoG T (ItOk T) EX L H (.ok iv h) R := by
  cases o with
  | none => exact k.elim
  | some iv => exact ⟨iv, rfl, k⟩
theorem not_tup {h : Hh} {w : W} (q : (asF h w).isSome = true) : ∀ xs, w ≠ .tup xs := fun xs e => by
  subst e
  cases q
theorem ij_r1 (hg : Gl X "range") (hm : X.mg "range" = none) (ha : AJ X T WO [a] gs) (hp : plE a = true) : IJ X T WO tg (.Call (.Name "range" p) [a] [] pos) fun ρ h => (gs ρ h).bnd fun ws h => ivR (ivC h .r1 ws) h :=
  PI.imp (pi_range1 hg hm ha (star_pl hp)) fun σ H R ⟨L, h, ρ, R0, E, k⟩ => ⟨L, h, ρ, R0, E, k.bnd' fun vs L1 h1 ws H1 R1 E1 r1 k1 => by
    obtain ⟨iv, q, k2⟩ := ivR_some k1
    obtain ⟨j, rfl, hj, rfl⟩ := iv_r1 q
    obtain ⟨v, rfl, rv⟩ := r1.one_of
    obtain rfl := rv
    obtain ⟨h1, h2⟩ := rgOk_of hj
    exact ⟨j, rfl, h1, h2, k2 _ L1 H1 R1 Evo.rfl' itr_ok⟩⟩
theorem ij_r2 (hg : Gl X "range") (hm : X.mg "range" = none) (ha : AJ X T WO [a, b] gs) (hp : plE a = true) (hp2 : plE b = true) : IJ X T WO tg (.Call (.Name "range" p) [a, b] [] pos) fun ρ h => (gs ρ h).bnd fun ws h => ivR (ivC h .r2 ws) h :=
  PI.imp (pi_range2 hg hm ha (by rw [star_pl hp, star_pl hp2]; rfl) (by rw [star_pl hp2]; rfl)) fun σ H R ⟨L, h, ρ, R0, E, k⟩ => ⟨L, h, ρ, R0, E, k.bnd' fun vs L1 h1 ws H1 R1 E1 r1 k1 => by
    obtain ⟨iv, q, k2⟩ := ivR_some k1
    obtain ⟨i, j, rfl, hi, hj, rfl⟩ := iv_r2 q
    obtain ⟨v, u, rfl, rv, ru⟩ := r1.two_of
    obtain rfl := rv
    obtain rfl := ru
    obtain ⟨h1, h2⟩ := rgOk_of hi
    obtain ⟨h3, h4⟩ := rgOk_of hj
    exact ⟨i, j, rfl, ⟨h1, h2, h3, h4⟩, k2 _ L1 H1 R1 Evo.rfl' itr_ok⟩⟩
theorem ij_r3 (hg : Gl X "range") (hm : X.mg "range" = none) (ha : AJ X T WO [a, b, c] gs) (hp : plE a = true) (hp2 : plE b = true) (hp3 : plE c = true) : IJ X T WO tg (.Call (.Name "range" p) [a, b, c] [] pos) fun ρ h => (gs ρ h).bnd fun ws h => ivR (ivC h .r3 ws) h :=
  PI.imp (pi_range3 hg hm ha (star_pl hp) (nostar (by rw [List.all_cons, hp2, List.all_cons, hp3]; rfl) _)) fun σ H R ⟨L, h, ρ, R0, E, k⟩ => ⟨L, h, ρ, R0, E, k.bnd' fun vs L1 h1 ws H1 R1 E1 r1 k1 => by
    obtain ⟨iv, q, k2⟩ := ivR_some k1
    obtain ⟨i, j, rfl, hi, hj, rfl⟩ := iv_r3 q
    obtain ⟨v, r', rfl, rv, r2⟩ := r1
    obtain ⟨u, z, rfl, ru, rz⟩ := r2.two_of
    obtain rfl := rv
    obtain rfl := ru
    obtain rfl := rz
    obtain ⟨h1, h2⟩ := rgOk_of hi
    obtain ⟨h3, h4⟩ := rgOk_of hj
    exact ⟨i, j, -1, (i - j).toNat, rfl, .neg h1 h2 h3 h4, k2 _ L1 H1 R1 Evo.rfl' itc_ok⟩⟩
theorem ij_en (hK : T.K = X.K) (hg : Gl X "enumerate") (hm : X.mg "enumerate" = none) (ha : AJ X T WO [a] gs) (hp : plE a = true) : IJ X T WO (.Tuple elts kk tpos) (.Call (.Name "enumerate" p) [a] [] pos) fun ρ h => (gs ρ h).bnd fun ws h => ivR (ivC h .en ws) h :=
  PI.imp (pi_enum hg hm ha (star_pl hp)) fun σ H R ⟨L, h, ρ, R0, E, k⟩ => ⟨L, h, ρ, R0, E, k.bnd' fun vs L1 h1 ws H1 R1 E1 r1 k1 => by
    obtain ⟨iv, q, k2⟩ := ivR_some k1
    obtain ⟨w, rfl, hw, rfl⟩ := iv_en q
    obtain ⟨v, rfl, rv⟩ := r1.one_of
    obtain ⟨xs, q2⟩ := Option.isSome_iff_exists.mp hw
    obtain ⟨p, vs, rfl, t, rr⟩ := asF_ok R1 q2 rv
    exact ⟨p, vs, rfl, hK ▸ t, k2 _ L1 H1 R1 Evo.rfl' (ite_ok hK rv (asQ_F (not_tup hw)))⟩⟩
theorem ij_z2 (hK : T.K = X.K) (hg : Gl X "zip") (hm : X.mg "zip" = none) (ha : AJ X T WO [a, b] gs) (hp : plE a = true) (hp2 : plE b = true) : IJ X T WO (.Tuple elts kk tpos) (.Call (.Name "zip" p) [a, b] [] pos) fun ρ h => (gs ρ h).bnd fun ws h => ivR (ivC h .z2 ws) h :=
  PI.imp (RZ.pi_zipA hg hm ha (star_pl hp) (nostar (by rw [List.all_cons, hp2]; rfl) _)) fun σ H R ⟨L, h, ρ, R0, E, k⟩ => ⟨L, h, ρ, R0, E, k.bnd' fun vs L1 h1 ws H1 R1 E1 r1 k1 => by
    obtain ⟨iv, q, k2⟩ := ivR_some k1
    rcases iv_z2 q with ⟨xs, ys, rfl, rfl⟩ | ⟨w, w', rfl, hw, hw', rfl⟩
    · obtain ⟨v, u, rfl, rv, ru⟩ := r1.two_of
      obtain ⟨p, vs, rfl, t, rr⟩ := id rv
      obtain ⟨p', us, rfl, t', rr'⟩ := id ru
      exact ⟨p, p', vs, us, rfl, .inr ⟨hK ▸ t.sq, hK ▸ t'.sq, k2 _ L1 H1 R1 Evo.rfl' (itzT_ok hK rv ru)⟩⟩
    · obtain ⟨v, u, rfl, rv, ru⟩ := r1.two_of
      obtain ⟨xs, q2⟩ := Option.isSome_iff_exists.mp hw
      obtain ⟨ys, q3⟩ := Option.isSome_iff_exists.mp hw'
      obtain ⟨p, vs, rfl, t, rr⟩ := asF_ok R1 q2 rv
      obtain ⟨p', us, rfl, t', rr'⟩ := asF_ok R1 q3 ru
      exact ⟨p, p', vs, us, rfl, .inl ⟨hK ▸ t, hK ▸ t', k2 _ L1 H1 R1 Evo.rfl' (itz_ok hK rv ru (asQ_F (not_tup hw)) (asQ_F (not_tup hw')))⟩⟩⟩

theorem ij_z2H (hK : T.K = X.K) (hg : Gl X "zip") (hm : X.mg "zip" = none) (ha : AJ X T WO [a, b] gs) (hp : plE a = true) (hp2 : plE b = true) : IJH X T WO (.Tuple elts kk tpos) (.Call (.Name "zip" p) [a, b] [] pos) fun ρ h => (gs ρ h).bnd fun ws h => ivR (ivC h .z2 ws) h :=
  pih_imp (HW.pi_zH hg hm ha (star_pl hp) (nostar (by rw [List.all_cons, hp2]; rfl) _)) fun σ H R ⟨L, h, ρ, R0, E, k⟩ => ⟨L, h, ρ, R0, E, k.bnd' fun vs L1 h1 ws H1 R1 E1 r1 k1 => by
    obtain ⟨iv, q, k2⟩ := ivR_some k1
    rcases iv_z2 q with ⟨xs, ys, rfl, rfl⟩ | ⟨w, w', rfl, hw, hw', rfl⟩
    · obtain ⟨v, u, rfl, rv, ru⟩ := r1.two_of
      obtain ⟨p, vs, rfl, t, rr⟩ := id rv
      obtain ⟨p', us, rfl, t', rr'⟩ := id ru
      exact ⟨p, p', vs, us, rfl, .inr ⟨hK ▸ t.sq, hK ▸ t'.sq, k2 _ L1 H1 R1 Evo.rfl' (itzT_ok hK rv ru)⟩⟩
    · obtain ⟨v, u, rfl, rv, ru⟩ := r1.two_of
      obtain ⟨xs, q2⟩ := Option.isSome_iff_exists.mp hw
      obtain ⟨ys, q3⟩ := Option.isSome_iff_exists.mp hw'
      obtain ⟨p, vs, rfl, t, rr⟩ := asF_ok R1 q2 rv
      obtain ⟨p', us, rfl, t', rr'⟩ := asF_ok R1 q3 ru
      exact ⟨p, p', vs, us, rfl, .inl ⟨hK ▸ t, hK ▸ t', k2 _ L1 H1 R1 Evo.rfl' (itz_ok hK rv ru (asQ_F (not_tup hw)) (asQ_F (not_tup hw')))⟩⟩⟩

/-! ### targets of loops -/
/-- but for the slots ts -/
def Off (ts : List Nat) (σ σ' : L2.St) : Prop := σ'.length = σ.length ∧ ∀ j, j ∉ ts → σ'[j]? = σ[j]?
/-- a target that takes a value, in the slots ts alone -/
abbrev LJ (X : Cx) (T : Tb) (tg : Expr) (ts : List Nat) (g : W → Env → Option Env) : Prop := PG X tg (fun v σ H Q => ∃ L h ρ w ρ', Rel T L h H ∧ REnv T (px X) L H ρ σ ∧ RV T L H w v ∧ g w ρ = some ρ' ∧ ∀ σ', REnv T (px X) L H ρ' σ' → Off ts σ σ' → Q σ' H)

theorem lj_nm {i : Nat} {x : Str} {p : Pos} (hN : X.N.Nodup) (hi : X.N[i]? = some x) (hx : Loc X.env.scope x) (hf : X.fn x = true ∨ X.env.scope.names.lookup x = some .local) : LJ X T (.Name x p) [i] fun w ρ => some (ρ.set i (some w)) :=
  PG.imp (pg_name hN hi hx hf) fun v σ H Q ⟨L, h, ρ, w, ρ', R, E, r, e, k⟩ => by
    cases e
    exact k _ (E.set i r) ⟨by simp, fun j hj => by rw [List.getElem?_set_ne (fun z => hj (by simp [z]))]⟩
abbrev LsJ (X : Cx) (T : Tb) (tg : List Expr) (ts : List Nat) (g : List W → Env → Option Env) : Prop := PGs X tg (fun vs σ H Q => ∃ L h ρ ws ρ', Rel T L h H ∧ REnv T (px X) L H ρ σ ∧ RVs T L H ws vs ∧ g ws ρ = some ρ' ∧ ∀ σ', REnv T (px X) L H ρ' σ' → Off ts σ σ' → Q σ' H)
theorem lsj_nil : LsJ X T [] [] fun ws ρ => match ws with
    | [] => some ρ
    | _ => none := PGs.imp pgs_nil fun vs σ H Q ⟨L, h, ρ, ws, ρ', R, E, r, e, k⟩ => by
  cases ws with
  | nil =>
    have e1 : vs = [] := r
    cases e
    exact ⟨e1, k _ E ⟨rfl, fun _ _ => rfl⟩⟩
  | cons _ _ => cases e
theorem lsj_cons {t : Expr} {ts : List Expr} {is js : List Nat} {g : W → Env → Option Env} {gr : List W → Env → Option Env} (h1 : LJ X T t is g) (h2 : LsJ X T ts js gr) (hs : (assignEach (t :: ts) X.env).map (·.2) = assign t X.env :: (assignEach ts X.env).map (·.2)) :
    LsJ X T (t :: ts) (is ++ js) fun ws ρ => match ws with
      | w :: ws => (match g w ρ with
        | some ρ' => gr ws ρ'
        | none => none)
      | _ => none := PGs.imp (pgs_cons h1 h2 hs) fun vs σ H Q ⟨L, h, ρ, ws, ρ', R, E, r, e, k⟩ => by
  cases ws with
  | nil => cases e
  | cons w ws =>
    obtain ⟨v, vr, rfl, rv, rr⟩ := r
    dsimp only at e
    cases q : g w ρ with
    | none => rw [q] at e; cases e
    | some ρ1 =>
      rw [q] at e
      refine ⟨v, vr, rfl, L, h, ρ, w, ρ1, R, E, rv, q, fun σ1 E1 o1 => ⟨L, h, ρ1, ws, ρ', R, E1, rr, e, fun σ2 E2 o2 => k σ2 E2 ⟨o2.1.trans o1.1, fun j hj => ?_⟩⟩⟩
      rw [List.mem_append, not_or] at hj
      exact (o2.2 j hj.2).trans (o1.2 j hj.1)
theorem lj_tp {ts : List Expr} {is : List Nat} {k2 n : Nat} {gr : List W → Env → Option Env} (hK : T.K = X.K) (hc : X.calm = true) (hr : LsJ X T ts is gr) (hn : (assignEach ts X.env).length = n) (hst : (assignEach ts X.env).findIdx? (·.1) = none) (hl : ∀ ws ρ ρ', gr ws ρ = some ρ' → ws.length = n) :
    LJ X T (.Tuple ts k2 pos) is fun w ρ => match w with
      | .tup xs => gr xs ρ
      | _ => none := PG.imp (pg_tup hc hr hn hst) fun v σ H Q ⟨L, h, ρ, w, ρ', R, E, r, e, k⟩ => by
  cases w with
  | tup xs =>
    obtain ⟨p, vs, rfl, t, rr⟩ := r
    exact ⟨p, vs, rfl, hK ▸ t.sq, by rw [rr.length]; exact hl xs ρ ρ' e, L, h, ρ, xs, ρ', R, E, rr, e, k⟩
  | _ => cases e

theorem lj_tpH {ts : List Expr} {is : List Nat} {k2 n : Nat} {gr : List W → Env → Option Env} (hK : T.K = X.K) (hc : L2H.HotC X) (hr : LsJ X T ts is gr) (hn : (assignEach ts X.env).length = n) (hst : (assignEach ts X.env).findIdx? (·.1) = none) (hl : ∀ ws ρ ρ', gr ws ρ = some ρ' → ws.length = n) :
    LJ X T (.Tuple ts k2 pos) is fun w ρ => match w with
      | .tup xs => gr xs ρ
      | _ => none := PG.imp (HW.pg_tH hc hr hn hst) fun v σ H Q ⟨L, h, ρ, w, ρ', R, E, r, e, k⟩ => by
  cases w with
  | tup xs =>
    obtain ⟨p, vs, rfl, t, rr⟩ := r
    exact ⟨p, vs, rfl, hK ▸ t.sq, by rw [rr.length]; exact hl xs ρ ρ' e, L, h, ρ, xs, ρ', R, E, rr, e, k⟩
  | _ => cases e

/-! ### for -/
theorem ivR_bnd {α : Type} {o : Option Iv} {h : Hh} (f : Iv → Hh → α) : True := trivial
/-- the turns' ends -/
def foT (iv : Iv) (turn : W → Env → Hh → Rf) (n i : Nat) (ρ : Env) (h : Hh) : Rf := foL iv turn n i ρ h
theorem sj_for {iter : Expr} {body : List Stmt} {gi : Env → Hh → Rs (List W)} {fi : List W → Hh → Option Iv} {gt : W → Env → Option Env} {ts : List Nat} {f : Env → Hh → Rf} (hp : PassesOwn (model X.prog X.w) X.A X.env X.xe) (hc : X.calm = true)
    (hi : IJ X T WO tg iter fun ρ h => (gi ρ h).bnd fun ws h => ivR (fi ws h) h) (hg : LJ X T tg ts gt) (hb : SsJ X T WO body f) (hf : plE iter = true) :
    SJ X T WO (.For tg iter body [] pos) fun ρ h => (gi ρ h).rfs ρ fun ws h => match fi ws h with
      | some iv => foL iv (fun x ρ h => match gt x ρ with
        | some ρ' => f ρ' h
        | none => .bad) (lenV h iv) 0 ρ h
      | none => .bad := by
  refine PS.imp (ps_for hp hc hi hg hb (fold_pl hf)) fun D σ H ⟨L, h, ρ, R, E, k⟩ => ⟨L, h, ρ, R, E, ?_⟩
  have k : PoS T (px X) WO L H ((gi ρ h).rfs ρ fun ws h => match fi ws h with
      | some iv => foL iv (fun x ρ h => match gt x ρ with
        | some ρ' => f ρ' h
        | none => .bad) (lenV h iv) 0 ρ h
      | none => .bad) D := k
  show PoG T (ItOk T) (WE WO σ) L H ((gi ρ h).bnd fun ws h => ivR (fi ws h) h) _
  cases q : gi ρ h with
  | bad => rw [q] at k; exact k.elim
  | exc c p h1 =>
    rw [q] at k
    exact fun L1 H1 cls d R1 E1 x => k σ L1 H1 cls d R1 E1 (E.evo E1.toEvo0) x
  | ok ws h1 =>
    rw [q] at k
    have k : PoS T (px X) WO L H (match fi ws h1 with
      | some iv => foL iv (fun x ρ h => match gt x ρ with
        | some ρ' => f ρ' h
        | none => .bad) (lenV h1 iv) 0 ρ h1
      | none => .bad) D := k
    show PoG T (ItOk T) (WE WO σ) L H (ivR (fi ws h1) h1) _
    cases q2 : fi ws h1 with
    | none => rw [q2] at k; exact k.elim
    | some iv =>
      rw [q2] at k
      intro J L1 H1 R1 E1 hJ
      refine ⟨fun i m σ2 H2 => ∃ L2 h2 ρ2, Rel T L2 h2 H2 ∧ Evo L1 H1 L2 H2 ∧ REnv T (px X) L2 H2 ρ2 σ2 ∧ PoS T (px X) WO L2 H2 (foL iv (fun x ρ h => match gt x ρ with
        | some ρ' => f ρ' h
        | none => .bad) m i ρ2 h2) D, ⟨lenV h1 iv, L1, h1, ρ, R1, Evo.rfl', E.evo E1.toEvo0, PoS.later E1 k⟩, ?_⟩
      rintro i m σ2 H2 ⟨L2, h2, ρ2, R2, E2, r2, k2⟩
      obtain ⟨hs, hy⟩ := hJ L2 h2 H2 R2 E2.toEvo0 i
      cases m with
      | zero =>
        have k2 : PoS T (px X) WO L2 H2 (match nthV h2 i iv with
          | some none => .nx ρ2 h2
          | _ => .bad) D := k2
        cases qn : nthV h2 i iv with
        | none => rw [qn] at k2; exact k2.elim
        | some o =>
          rw [qn] at k2
          cases o with
          | none => exact .inl ⟨hs qn, k2.now R2 r2⟩
          | some x => exact k2.elim
      | succ m =>
        have k2 : PoS T (px X) WO L2 H2 (match nthV h2 i iv with
          | some none => .nx ρ2 h2
          | some (some x) => (match (match gt x ρ2 with
            | some ρ' => f ρ' h2
            | none => .bad) with
            | .nx ρ h => foL iv (fun x ρ h => match gt x ρ with
              | some ρ' => f ρ' h
              | none => .bad) m (i + 1) ρ h
            | .ct ρ h => foL iv (fun x ρ h => match gt x ρ with
              | some ρ' => f ρ' h
              | none => .bad) m (i + 1) ρ h
            | .bk ρ h => .nx ρ h
            | r => r)
          | none => .bad) D := k2
        cases qn : nthV h2 i iv with
        | none => rw [qn] at k2; exact k2.elim
        | some o =>
          rw [qn] at k2
          cases o with
          | none => exact .inl ⟨hs qn, k2.now R2 r2⟩
          | some x =>
            obtain ⟨hgo, hyl⟩ := hy x qn
            refine .inr ⟨hgo, fun σ' H' => ∃ L2 h2 ρ2, Rel T L2 h2 H' ∧ Evo L1 H1 L2 H' ∧ REnv T (px X) L2 H' ρ2 σ' ∧ PoS T (px X) WO L2 H' (foL iv (fun x ρ h => match gt x ρ with
              | some ρ' => f ρ' h
              | none => .bad) m (i + 1) ρ2 h2) D, fun σ' H' hN => ⟨m, Nat.lt_succ_self m, hN⟩, fun v H3 y3 => ?_⟩
            obtain ⟨L3, R3, E3, rv⟩ := hyl v H3 y3
            cases qg : gt x ρ2 with
            | none =>
              dsimp only at k2
              rw [qg] at k2
              exact k2.elim
            | some ρ' =>
              dsimp only at k2
              rw [qg] at k2
              refine ⟨L3, h2, ρ2, x, ρ', R3, r2.evo E3.toEvo0, rv, qg, fun σ' r' _ => ⟨L3, h2, ρ', R3, r', ?_⟩⟩
              have k3 := PoS.later E3 k2
              dsimp only at k3
              cases qf : f ρ' h2 with
              | nx ρ4 h4 =>
                rw [qf] at k3
                exact fun σ4 L4 H4 R4 E4 r4 => ⟨L4, h4, ρ4, R4, (E2.trans E3).trans E4, r4, PoS.later E4 k3⟩
              | ct ρ4 h4 =>
                rw [qf] at k3
                exact fun σ4 L4 H4 R4 E4 r4 => ⟨L4, h4, ρ4, R4, (E2.trans E3).trans E4, r4, PoS.later E4 k3⟩
              | bk ρ4 h4 => rw [qf] at k3; exact k3
              | rt _ _ => rw [qf] at k3; exact k3
              | exc _ _ _ _ => rw [qf] at k3; exact k3
              | bad => rw [qf] at k3; exact k3.elim
/-! ### while -/
theorem sj_whl {body : List Stmt} {f : Env → Hh → Rf} (hp : PassesOwn (model X.prog X.w) X.A X.env X.xe) (hc : TJ X T WO c gc) (hb : SsJ X T WO body f) : SJ X T WO (.While c body [] pos) fun ρ h => whL gc f big ρ h := by
  refine PS.imp (ps_while hp hc hb) fun D σ H ⟨L, h, ρ, R, E, k⟩ => ?_
  refine ⟨fun m σ2 H2 => ∃ L2 h2 ρ2, Rel T L2 h2 H2 ∧ REnv T (px X) L2 H2 ρ2 σ2 ∧ PoS T (px X) WO L2 H2 (whL gc f m ρ2 h2) D, ⟨big, L, h, ρ, R, E, k⟩, ?_⟩
  rintro m σ2 H2 ⟨L2, h2, ρ2, R2, r2, k2⟩
  cases m with
  | zero => exact k2.elim
  | succ m =>
    refine ⟨L2, h2, ρ2, R2, r2, PoS.rfb (f := fun c h => match c with
      | .bl true => (match f ρ2 h with
        | .nx ρ h => whL gc f m ρ h
        | .ct ρ h => whL gc f m ρ h
        | .bk ρ h => .nx ρ h
        | r => r)
      | .bl false => .nx ρ2 h
      | _ => .bad) (by intro w h n; cases w <;> first | rfl | exact absurd rfl (n _)) R2 r2 k2 fun c L3 h3 H3 R3 E3 k3 => ?_⟩
    cases c with
    | false => exact k3.now R3 (r2.evo E3.toEvo0)
    | true =>
      rw [if_pos rfl]
      refine ⟨fun σ' H' => ∃ L2 h2 ρ2, Rel T L2 h2 H' ∧ REnv T (px X) L2 H' ρ2 σ' ∧ PoS T (px X) WO L2 H' (whL gc f m ρ2 h2) D, fun σ' H' hN => ⟨m, Nat.lt_succ_self m, hN⟩, L3, h3, ρ2, R3, r2.evo E3.toEvo0, ?_⟩
      dsimp only at k3
      cases qf : f ρ2 h3 with
      | nx ρ4 h4 => rw [qf] at k3; exact fun σ4 L4 H4 R4 E4 r4 => ⟨L4, h4, ρ4, R4, r4, PoS.later E4 k3⟩
      | ct ρ4 h4 => rw [qf] at k3; exact fun σ4 L4 H4 R4 E4 r4 => ⟨L4, h4, ρ4, R4, r4, PoS.later E4 k3⟩
      | bk ρ4 h4 => rw [qf] at k3; exact k3
      | rt _ _ => rw [qf] at k3; exact k3
      | exc _ _ _ _ => rw [qf] at k3; exact k3
      | bad => rw [qf] at k3; exact k3.elim
end
end LP
/-! LP, part 14: lists made item by item. -/
namespace LP
open L2 PySem PySem.Spec PyProof.Rows
theorem wipeE_wipe {T : Tb} {pn : List (Addr × Obj)} {L : LL} {H : Hp} {ρ : Env} {σ : L2.St} (E : REnv T pn L H ρ σ) : ∀ vs : List Nat, REnv T pn L H (wipeE ρ vs) (wipe σ vs)
  | [] => E
  | v :: vs => (wipeE_wipe E vs).unset v none
theorem wipe_get {σ : L2.St} : ∀ (vs : List Nat) (j : Nat), (wipe σ vs)[j]? = if j ∈ vs then (if j < σ.length then some none else none) else σ[j]?
  | [], j => by simp [wipe]
  | v :: vs, j => by
    unfold wipe
    by_cases hv : v = j
    · subst hv
      rw [if_pos (by simp)]
      by_cases hl : v < σ.length
      · rw [if_pos hl, List.getElem?_set_self (by rw [wipe_length]; exact hl)]
      · rw [if_neg hl, List.getElem?_eq_none (by rw [List.length_set, wipe_length]; omega)]
    · rw [List.getElem?_set_ne hv, wipe_get vs j]
      have e : (j ∈ v :: vs) ↔ j ∈ vs := by
        rw [List.mem_cons]
        exact ⟨fun z => z.resolve_left fun q => hv q.symm, .inr⟩
      by_cases hj : j ∈ vs
      · rw [if_pos hj, if_pos (e.mpr hj)]
      · rw [if_neg hj, if_neg fun z => hj (e.mp z)]
theorem wipe_off {σ σ' : L2.St} {ts vs : List Nat} (o : Off ts σ σ') (hs : ∀ t ∈ ts, t ∈ vs) : wipe σ' vs = wipe σ vs := by
  refine List.ext_getElem? fun j => ?_
  rw [wipe_get, wipe_get, o.1]
  by_cases hj : j ∈ vs
  · rw [if_pos hj, if_pos hj]
  · rw [if_neg hj, if_neg hj]
    exact o.2 j fun z => hj (hs j z)
theorem wipe_wipe {σ : L2.St} {vs : List Nat} : wipe (wipe σ vs) vs = wipe σ vs := by
  refine List.ext_getElem? fun j => ?_
  rw [wipe_get, wipe_length]
  by_cases hj : j ∈ vs
  · rw [if_pos hj, wipe_get, if_pos hj]
  · rw [if_neg hj]
/-- one turn -/
def lcT (ge gf : Env → Hh → Rs W) (gt : W → Env → Option Env) (ρ : Env) (x : W) (acc : List W) (h : Hh) : Rs (List W) := match gt x ρ with
  | some ρ' => (gf ρ' h).bnd fun c h => match c with
    | .bl true => (ge ρ' h).bnd fun y h => if acc.length < big then .ok (acc ++ [y]) h else .bad
    | .bl false => .ok acc h
    | _ => .bad
  | none => .bad
def lcR (r : Bool) (gi : Env → Hh → Rs (List W)) (fi : List W → Hh → Option Iv) (gt : W → Env → Option Env) (gf ge : Env → Hh → Rs W) (vs : List Nat) (ρ : Env) (h : Hh) : Rs W := (gi ρ h).bnd fun ws h => match fi ws h with
  | some iv => ((lcL iv (lcT ge gf gt (wipeE ρ vs)) (lenV h iv) 0 [] h).cl).bnd fun xs h => lcEnd r xs h
  | none => .bad
theorem bnd_ok {α β : Type} {r : Rs α} {f : α → Hh → Rs β} {b : β} {h' : Hh} (e : r.bnd f = .ok b h') : ∃ a h1, r = .ok a h1 ∧ f a h1 = .ok b h' := by
  cases r with
  | ok a h1 => exact ⟨a, h1, rfl, e⟩
  | exc _ _ _ => cases e
  | bad => cases e
section
variable {X : Cx} {T : Tb} {WO : WX'} {elt tg iter : Expr} {ifs : List Expr} {scope : Scope} {own : List (Str × Nat)} {pos : Pos} {gi : Env → Hh → Rs (List W)} {fi : List W → Hh → Option Iv} {gt : W → Env → Option Env} {gf ge : Env → Hh → Rs W} {ts : List Nat}
abbrev WF : WX' := fun _ _ _ _ => False
/-- the state between two turns -/
def LcI (T : Tb) (iv : Iv) (turn : W → List W → Hh → Rs (List W)) (J : It) (L1 : LL) (H1 : Hp) (D : Addr) (ws : List W) (hF : Hh) (i m : Nat) (H : Hp) : Prop :=
  ∃ L2 h2 acc vs, Rel T L2 h2 H ∧ L2.bz = D :: L1.bz ∧ Evo L1 H1 ⟨L2.cs, L1.bz⟩ H ∧ H D = some (.lst vs) ∧ RVs T L2 H acc vs ∧ acc.length ≤ big ∧ lcL iv turn m i acc h2 = .ok ws hF
theorem lc_end {L1 : LL} {H1 H : Hp} {D : Addr} {ws : List W} {hF : Hh} {L2 : LL} {vs : List V} {Q : VK} {EX : XK} {r : Bool} {h1 : Hh} (R1 : Rel T L1 h1 H1) (hD : H1 D = none)
    (R2 : Rel T L2 hF H) (e : L2.bz = D :: L1.bz) (E : Evo L1 H1 ⟨L2.cs, L1.bz⟩ H) (q : H D = some (.lst vs)) (rv : RVs T L2 H ws vs) (k : PoG T (RV T) EX L1 H1 (lcEnd r ws hF) Q) : Q (.ref D) H := by
  have nd : D ∉ L1.bz := fun z => by
    obtain ⟨_, o, e2⟩ := R1.busy D z
    rw [hD] at e2
    cases e2
  have nc : some D ∉ L2.cs := (R2.busy D (by rw [e]; exact List.mem_cons_self)).1
  cases r with
  | false =>
    refine k (.ref D) ⟨L2.cs, L1.bz⟩ H (R2.shutR e) E ⟨D, vs, rfl, ⟨q, ?_⟩, RVs.evo (Evo0.shut e) _ _ rv⟩
    intro z
    rcases z with z | z
    · exact nc z
    · exact nd z
  | true =>
    have R3 : Rel T (L2.mv D L1.bz) (hF ++ [.lst ws]) H := R2.mvR nd e q ⟨vs, rfl, rv⟩
    have E3 : Evo L1 H1 (L2.mv D L1.bz) H := by
      refine ⟨⟨E.keep, fun a o q n z => ?_, fun n a q => ?_, fun n q => ?_⟩, rfl, E.bk⟩
      · rcases z with z | z
        · rcases List.mem_append.mp z with z | z
          · exact E.nl a o q n (.inl z)
          · have e' : a = D := by simpa using z
            rw [e', hD] at q
            cases q
        · exact E.nl a o q n (.inr z)
      · rcases E.ref n a q with z | z
        · exact .inl (by show (L2.cs ++ [some D])[n]? = _; rw [List.getElem?_append_left (List.getElem?_eq_some_iff.mp z).1]; exact z)
        · exact .inr (by show (L2.cs ++ [some D])[n]? = _; rw [List.getElem?_append_left (List.getElem?_eq_some_iff.mp z).1]; exact z)
      · have z := E.dead n q
        show (L2.cs ++ [some D])[n]? = _
        rw [List.getElem?_append_left (List.getElem?_eq_some_iff.mp z).1]
        exact z
    refine k (.ref D) _ H R3 E3 (.inl ⟨D, rfl, ?_⟩)
    rw [← R2.len]
    exact List.getElem?_concat_length
theorem lc_evo {L1 L2 : LL} {H1 H : Hp} {D : Addr} (hD : H1 D = none) (e : L2.bz = D :: L1.bz) (E : Evo L1 H1 ⟨L2.cs, L1.bz⟩ H) : Evo0 L1 H1 L2 H where
  keep := E.keep
  nl := fun a o q n z => by
    rcases z with z | z
    · exact E.nl a o q n (.inl z)
    · rw [e] at z
      rcases List.mem_cons.mp z with z | z
      · rw [z, hD] at q
        cases q
      · exact n (.inr z)
  ref := E.ref
  dead := E.dead
theorem lc_impP (r : Bool) {vs0 : List Nat} (hts : ∀ t ∈ ts, t ∈ vs0) (σ : L2.St) (H : Hp) (Q : VK) (h : rE T (px X) WO (lcR r gi fi gt gf ge vs0) σ H Q) :
    tLc (rI' T (px X) WO fun ρ h => (gi ρ h).bnd fun ws h => ivR (fi ws h) h) (fun v σ H Q => ∃ L h ρ w ρ', Rel T L h H ∧ REnv T (px X) L H ρ σ ∧ RV T L H w v ∧ gt w ρ = some ρ' ∧ ∀ σ', REnv T (px X) L H ρ' σ' → Off ts σ σ' → Q σ' H) (rT T (px X) WF gf) (rE T (px X) WF ge) vs0 σ H Q := by
  obtain ⟨L, h, ρ, R, E, k⟩ := h
  have k : PoG T (RV T) (WE WO σ) L H ((gi ρ h).bnd fun ws h => match fi ws h with
    | some iv => ((lcL iv (lcT ge gf gt (wipeE ρ vs0)) (lenV h iv) 0 [] h).cl).bnd fun xs h => lcEnd r xs h
    | none => .bad) Q := k
  refine ⟨L, h, ρ, R, E, ?_⟩
  show PoG T (ItOk T) (WE WO σ) L H ((gi ρ h).bnd fun ws h => ivR (fi ws h) h) _
  cases q : gi ρ h with
  | bad => rw [q] at k; exact k.elim
  | exc c p h1 => rw [q] at k; exact k
  | ok ws0 h1 =>
    rw [q] at k
    have k : PoG T (RV T) (WE WO σ) L H (match fi ws0 h1 with
      | some iv => ((lcL iv (lcT ge gf gt (wipeE ρ vs0)) (lenV h1 iv) 0 [] h1).cl).bnd fun xs h => lcEnd r xs h
      | none => .bad) Q := k
    show PoG T (ItOk T) (WE WO σ) L H (ivR (fi ws0 h1) h1) _
    cases q2 : fi ws0 h1 with
    | none => rw [q2] at k; exact k.elim
    | some iv =>
      rw [q2] at k
      have k : PoG T (RV T) (WE WO σ) L H (((lcL iv (lcT ge gf gt (wipeE ρ vs0)) (lenV h1 iv) 0 [] h1).cl).bnd fun xs h => lcEnd r xs h) Q := k
      cases q3 : lcL iv (lcT ge gf gt (wipeE ρ vs0)) (lenV h1 iv) 0 [] h1 with
      | exc c p h2 => rw [q3] at k; exact k.elim
      | bad => rw [q3] at k; exact k.elim
      | ok ws hF =>
        rw [q3] at k
        have k : PoG T (RV T) (WE WO σ) L H (lcEnd r ws hF) Q := k
        intro J L1 H1 R1 E1 hJ D hD
        have k1 := PoG.later E1 k
        have Eρ := E.evo E1.toEvo0
        refine ⟨LcI T iv (lcT ge gf gt (wipeE ρ vs0)) J L1 H1 D ws hF, ⟨lenV h1 iv, L1.open D, h1, [], [], R1.opnR hD _, rfl, R1.opn' hD _, upd_same, rfl, Nat.zero_le _, q3⟩, ?_⟩
        rintro i m H2 ⟨L2, h2, acc, vs, R2, e2, E2, qD, rv, hb, hl⟩
        have E2' : Evo0 L1 H1 L2 H2 := lc_evo hD e2 E2
        obtain ⟨hs, hy⟩ := hJ L2 h2 H2 R2 E2' i
        cases m with
        | zero =>
          have hl : (match nthV h2 i iv with
            | some none => Rs.ok acc h2
            | _ => .bad) = .ok ws hF := hl
          cases qn : nthV h2 i iv with
          | none => rw [qn] at hl; cases hl
          | some o =>
            rw [qn] at hl
            cases o with
            | none =>
              cases hl
              exact .inl ⟨hs qn, lc_end (h1 := h1) R1 hD R2 e2 E2 qD rv k1⟩
            | some x => cases hl
        | succ m =>
          have hl : (match nthV h2 i iv with
            | some none => Rs.ok acc h2
            | some (some x) => (lcT ge gf gt (wipeE ρ vs0) x acc h2).bnd fun acc' h' => lcL iv (lcT ge gf gt (wipeE ρ vs0)) m (i + 1) acc' h'
            | none => .bad) = .ok ws hF := hl
          cases qn : nthV h2 i iv with
          | none => rw [qn] at hl; cases hl
          | some o =>
            rw [qn] at hl
            cases o with
            | none =>
              cases hl
              exact .inl ⟨hs qn, lc_end (h1 := h1) R1 hD R2 e2 E2 qD rv k1⟩
            | some x =>
              obtain ⟨hgo, hyl⟩ := hy x qn
              refine .inr ⟨hgo, LcI T iv (lcT ge gf gt (wipeE ρ vs0)) J L1 H1 D ws hF (i + 1) m, fun H' hN => ⟨m, Nat.lt_succ_self m, hN⟩, fun v H3 y3 => ?_⟩
              obtain ⟨L3, R3, E3, rx⟩ := hyl v H3 y3
              have hl : (lcT ge gf gt (wipeE ρ vs0) x acc h2).bnd (fun acc' h' => lcL iv (lcT ge gf gt (wipeE ρ vs0)) m (i + 1) acc' h') = .ok ws hF := hl
              obtain ⟨acc', h4, ht, hl⟩ := bnd_ok hl
              unfold lcT at ht
              cases qg : gt x (wipeE ρ vs0) with
              | none => rw [qg] at ht; cases ht
              | some ρ' =>
                rw [qg] at ht
                have ht : (gf ρ' h2).bnd (fun c h => match c with
                  | .bl true => (ge ρ' h).bnd fun y h => if acc.length < big then .ok (acc ++ [y]) h else .bad
                  | .bl false => .ok acc h
                  | _ => .bad) = .ok acc' h4 := ht
                obtain ⟨c, h5, hc5, ht⟩ := bnd_ok ht
                have e3 : L3.bz = D :: L1.bz := by rw [E3.bz, e2]
                have qD3 : H3 D = some (.lst vs) := by rw [E3.bk D (by rw [e2]; exact List.mem_cons_self)]; exact qD
                have E13 : Evo L1 H1 ⟨L3.cs, L1.bz⟩ H3 := Evo.onto hD E2 e2 E3
                have Eρ3 : REnv T (px X) L3 H3 (wipeE ρ vs0) (wipe σ vs0) := wipeE_wipe (Eρ.evo (E2'.trans E3.toEvo0)) vs0
                refine ⟨L3, h2, _, x, ρ', R3, Eρ3, rx, qg, fun σ2 r2 o2 => ⟨(wipe_off o2 hts).trans wipe_wipe, L3, h2, ρ', R3, r2, ?_⟩⟩
                rw [hc5]
                cases c with
                | bl cb =>
                  show PoG T RB _ L3 H3 (.ok cb h5) _
                  intro cb' L5 H5 R5 E5 ecb
                  obtain rfl : cb = cb' := ecb
                  have e5 : L5.bz = D :: L1.bz := by rw [E5.bz, e3]
                  have qD5 : H5 D = some (.lst vs) := by rw [E5.bk D (by rw [e3]; exact List.mem_cons_self)]; exact qD3
                  have E15 : Evo L1 H1 ⟨L5.cs, L1.bz⟩ H5 := Evo.onto hD E13 e3 E5
                  have rv5 : RVs T L5 H5 acc vs := RVs.evo E5.toEvo0 _ _ (RVs.evo E3.toEvo0 _ _ rv)
                  cases cb with
                  | false =>
                    have ht : Rs.ok acc h5 = .ok acc' h4 := ht
                    cases ht
                    rw [if_neg Bool.false_ne_true]
                    exact ⟨L5, _, acc, vs, R5, e5, E15, qD5, rv5, hb, hl⟩
                  | true =>
                    rw [if_pos rfl]
                    obtain ⟨y, h6, hy6, ht⟩ := bnd_ok (show (ge ρ' h5).bnd (fun y h => if acc.length < big then .ok (acc ++ [y]) h else .bad) = .ok acc' h4 from ht)
                    refine ⟨L5, h5, ρ', R5, r2.evo E5.toEvo0, ?_⟩
                    rw [hy6]
                    intro yv L6 H6 R6 E6 ry
                    have e6 : L6.bz = D :: L1.bz := by rw [E6.bz, e5]
                    have qD6 : H6 D = some (.lst vs) := by rw [E6.bk D (by rw [e5]; exact List.mem_cons_self)]; exact qD5
                    have E16 : Evo L1 H1 ⟨L6.cs, L1.bz⟩ H6 := Evo.onto hD E15 e5 E6
                    have rv6 := RVs.evo E6.toEvo0 _ _ rv5
                    split at ht
                    · rename_i hlt
                      cases ht
                      have hm : D ∈ L6.bz := by rw [e6]; exact List.mem_cons_self
                      refine ⟨vs, qD6, by rw [rv6.length, line_eq]; unfold big at hlt; omega, ?_⟩
                      refine ⟨L6, _, acc ++ [y], vs ++ [yv], R6.putB hm, e6, ?_, upd_same, RVs.evo (put0 (.inr hm) _) _ _ (rv6.append (RVs.one ry)), by rw [List.length_append]; exact hlt, hl⟩
                      refine ⟨⟨fun a o q n => ?_, E16.nl, E16.ref, E16.dead⟩, rfl, fun b hb => ?_⟩
                      · rw [upd_ne (fun z => by rw [z, hD] at q; cases q)]
                        exact E16.keep a o q n
                      · rw [upd_ne (fun z => by
                          obtain ⟨_, o, q⟩ := R1.busy b hb
                          rw [z, hD] at q
                          cases q)]
                        exact E16.bk b hb
                    · cases ht
                | _ => cases ht
theorem lc_imp (hc : X.calm = true) (r : Bool) {vs0 : List Nat} (hts : ∀ t ∈ ts, t ∈ vs0) (σ : L2.St) (H : Hp) (Q : VK) (h : rE T (px X) WO (lcR r gi fi gt gf ge vs0) σ H Q) :
    tLc (rI' T (px X) WO fun ρ h => (gi ρ h).bnd fun ws h => ivR (fi ws h) h) (fun v σ H Q => ∃ L h ρ w ρ', Rel T L h H ∧ REnv T [] L H ρ σ ∧ RV T L H w v ∧ gt w ρ = some ρ' ∧ ∀ σ', REnv T [] L H ρ' σ' → Off ts σ σ' → Q σ' H) (rT T [] WF gf) (rE T [] WF ge) vs0 σ H Q := by
  have := lc_impP (X := X) (WO := WO) (gf := gf) (ge := ge) (gt := gt) (fi := fi) (gi := gi) r hts σ H Q h
  rw [px_calm hc] at this ⊢
  exact this
/-- .. while an exception is handled -/
theorem ej_lcH (hc : L2H.HotC X) (r : Bool) (hN : X.N.Nodup) (ok : BlkOk X.N X.env.scope scope own) (hi : IJH X T WO tg iter fun ρ h => (gi ρ h).bnd fun ws h => ivR (fi ws h) h) (hts : ∀ t ∈ ts, t ∈ own.map (·.2))
    (hg : ∀ (s : Shared) (H : Hp) (C : Addr) (cl : List (Str × Addr)) (fp : List Addr), LJ (HW.blkH X s H scope (compEnvC scope cl C X.env) fp) T tg ts gt)
    (ht : ∀ (s : Shared) (H : Hp) (C : Addr) (cl : List (Str × Addr)) (fp : List Addr), PTs (HW.blkH X s H scope (compEnvC scope cl C X.env) fp) ifs (rT T (px X) WF gf))
    (he : ∀ (s : Shared) (H : Hp) (C : Addr) (cl : List (Str × Addr)) (fp : List Addr), EJ (HW.blkH X s H scope (compEnvC scope cl C X.env) fp) T WF elt ge) (hf : plE iter = true) :
    EJ X T WO (.ListComp elt [⟨tg, iter, ifs, 0⟩] scope pos) (lcR r gi fi gt gf ge (own.map (·.2))) :=
  PE.imp (HW.pe_lcH hc hN hi ok (fun s H C cl fp => hg s H C cl fp) ht (fun s H C cl fp => he s H C cl fp) (fold_pl hf)) (lc_impP r hts)
/-- .. as a value -/
theorem ej_lc (hc : X.calm = true) (r : Bool) (hN : X.N.Nodup) (ok : BlkOk X.N X.env.scope scope own) (hi : IJ X T WO tg iter fun ρ h => (gi ρ h).bnd fun ws h => ivR (fi ws h) h) (hts : ∀ t ∈ ts, t ∈ own.map (·.2))
    (hg : ∀ (s : Shared) (H : Hp) (C : Addr) (cl : List (Str × Addr)) (fp : List Addr), LJ (X.blk s H scope (compEnvC scope cl C X.env) fp) T tg ts gt)
    (ht : ∀ (s : Shared) (H : Hp) (C : Addr) (cl : List (Str × Addr)) (fp : List Addr), PTs (X.blk s H scope (compEnvC scope cl C X.env) fp) ifs (rT T [] WF gf))
    (he : ∀ (s : Shared) (H : Hp) (C : Addr) (cl : List (Str × Addr)) (fp : List Addr), EJ (X.blk s H scope (compEnvC scope cl C X.env) fp) T WF elt ge) (hf : plE iter = true) :
    EJ X T WO (.ListComp elt [⟨tg, iter, ifs, 0⟩] scope pos) (lcR r gi fi gt gf ge (own.map (·.2))) := by
  have e : ∀ (s : Shared) (H : Hp) (C : Addr) (cl : List (Str × Addr)) (fp : List Addr), px (X.blk s H scope (compEnvC scope cl C X.env) fp) = [] := fun _ _ _ _ _ => px_calm hc
  refine PE.imp (pe_lc hc hN hi ok (fun s H C cl fp => ?_) ht (fun s H C cl fp => ?_) (fold_pl hf)) (lc_imp hc r hts)
  · have := hg s H C cl fp
    unfold LJ at this
    rw [e] at this
    exact this
  · have := he s H C cl fp
    unfold EJ at this
    rw [e] at this
    exact this
/-- .. as a name's new value, on one line -/
theorem sj_setLc {i : Nat} {y : Str} {py spos : Pos} (hc : X.calm = true) (r : Bool) (hN : X.N.Nodup) (hy : X.N[i]? = some y) (hyl : X.env.scope.names.lookup y = some .local) (hsw : swapsWith (.ListComp elt [⟨tg, iter, ifs, 0⟩] scope pos) (some (.Name y py)) spos.line X.env = pure true)
    (ok : BlkOk X.N X.env.scope scope own) (hi : IJ X T WO tg iter fun ρ h => (gi ρ h).bnd fun ws h => ivR (fi ws h) h) (hts : ∀ t ∈ ts, t ∈ own.map (·.2))
    (hg : ∀ (s : Shared) (H : Hp) (C : Addr) (cl : List (Str × Addr)) (fp : List Addr), LJ (X.blk s H scope (compEnvC scope cl C X.env) fp) T tg ts gt)
    (ht : ∀ (s : Shared) (H : Hp) (C : Addr) (cl : List (Str × Addr)) (fp : List Addr), PTs (X.blk s H scope (compEnvC scope cl C X.env) fp) ifs (rT T [] WF gf))
    (he : ∀ (s : Shared) (H : Hp) (C : Addr) (cl : List (Str × Addr)) (fp : List Addr), EJ (X.blk s H scope (compEnvC scope cl C X.env) fp) T WF elt ge) (hf : plE iter = true) :
    SJ X T WO (.Assign [.Name y py] (.ListComp elt [⟨tg, iter, ifs, 0⟩] scope pos) spos) fun ρ h => (lcR r gi fi gt gf ge (own.map (·.2)) ρ h).rf ρ fun w h => .nx (ρ.set i (some w)) h := by
  have e : ∀ (s : Shared) (H : Hp) (C : Addr) (cl : List (Str × Addr)) (fp : List Addr), px (X.blk s H scope (compEnvC scope cl C X.env) fp) = [] := fun _ _ _ _ _ => px_calm hc
  refine PS.imp (ps_setLc hc hN hy hyl hsw hi ok (fun s H C cl fp => ?_) ht (fun s H C cl fp => ?_) (fold_pl hf)) fun D σ H ⟨L, h, ρ, R, E, k⟩ =>
    lc_imp hc r hts σ H _ ⟨L, h, ρ, R, E, PoS.rf R E k fun v L1 h1 w H1 R1 E1 r1 k1 => k1.now R1 ((E.evo E1.toEvo0).set i r1)⟩
  · have := hg s H C cl fp
    unfold LJ at this
    rw [e] at this
    exact this
  · have := he s H C cl fp
    unfold EJ at this
    rw [e] at this
    exact this
end
end LP
/-! LP, part 15: raise, try. -/
namespace LP
open L2 PySem PySem.Spec PyProof.Rows
section
variable {X : Cx} {T : Tb} {WO : WX'} {e a : Expr} {g : Env → Hh → Rs W} {pos : Pos}
/-- C(e), C an own class of errors with one attribute f -/
def tMkI (C : Addr) (f : Str) (te : TE) : L2.St → Hp → XK → Prop := fun σ H Q => te σ H fun v H1 => ∀ d, H1 d = none → Q (.ref C) (some d) (upd H1 d (.xd [(f, v)]))
theorem sj_rai {c f : Nat} (hc : X.calm = true) (tk : L2N.Takes X WO) (hm : ∀ te : TE, PE X a te → L2N.PMk X e (tMkI (T.cA c) (T.fN f) te)) (ha : EJ X T WO a g) (hf : T.pay c = some f) :
    SJ X T WO (.Raise (some e) none pos) fun ρ h => (g ρ h).rf ρ fun w h => .exc c w ρ h := by
  refine PS.imp (L2N.ps_raise hc tk (hm _ ha)) fun D σ H ⟨L, h, ρ, R, E, k⟩ => ⟨L, h, ρ, R, E, PoS.rf R E k fun v L1 h1 w H1 R1 E1 r1 k1 d hd => ?_⟩
  refine k1 σ L1 _ _ _ (R1.newR hd _) (R1.new hd _) ((E.evo E1.toEvo0).evo (R1.new hd _).toEvo0) ⟨rfl, ?_⟩
  rw [hf]
  exact ⟨d, v, rfl, upd_same, R1.fresh hd, RV.evo (R1.new hd _).toEvo0 _ _ r1⟩
/-- an own class of errors that keeps nothing -/
theorem sj_rai0 {c : Nat} (hc : X.calm = true) (tk : L2N.Takes X WO) (hm : L2N.PMk X e (fun _ H Q => Q (.ref (T.cA c)) none H)) (hf : T.pay c = none) :
    SJ X T WO (.Raise (some e) none pos) fun ρ h => .exc c .non ρ h := by
  refine PS.imp (L2N.ps_raise hc tk hm) fun D σ H ⟨L, h, ρ, R, E, k⟩ => k σ L H _ _ R Evo.rfl' E ⟨rfl, ?_⟩
  rw [hf]
  exact ⟨rfl, rfl⟩
theorem px_tr {pn : List (Addr × Obj)} {xe : Value → Shared → Prop} (hc : X.calm = true) : px (X.tr pn xe) = [] := px_calm (X := X.tr pn xe) hc
theorem px_suite {a : Addr} {pn : List (Addr × Obj)} : px (X.suite a pn) = pn := if_neg (by intro z; exact Bool.false_ne_true z)
theorem sj_tra {x n : Str} {c i nx : Nat} {sub : Nat → Nat → Bool} {body suite : List Stmt} {b₀ : Stmt} {np pos' : Pos} {fb fs : Env → Hh → Rf} (hc : X.calm = true) (hs : X.stack = X.env :: X.outer) (hf : X.env.frame = some X.env.locals) (hN : X.N.Nodup) (hi : X.N[i]? = some n) (hln : X.env.kindOf n = some .local)
    (hx : Names X x (.ref (T.cA c))) (tk : L2N.Takes X WO) (he : ∀ d, d < nx → PySem.W.exmOne X.K (.ref (T.cA d)) (.ref (T.cA c)) = some (sub d c))
    (hb : ∀ (W : WX') (pn : List (Addr × Obj)) (xe : Value → Shared → Prop), L2N.Takes (X.tr pn xe) W → PassesOwn (model X.prog X.w) X.A X.env xe → SsJ (X.tr pn xe) T W body fb)
    (hsu : ∀ (a : Addr) (oe : Obj) (cls : Value) (d : Option Addr) (pn : List (Addr × Obj)), L2N.Zn cls d oe → (∃ vs, oe.data = .fields vs) → SsJ (X.suite a ((a, oe) :: pn)) T WF (b₀ :: suite) fs) :
    SJ X T WO (.Try body [.ExceptHandler (some (.Name x np)) (some n) (b₀ :: suite) pos'] [] [] pos) fun ρ h => match fb ρ h with
      | .exc d p ρ h => if d < nx then (if sub d c then (match fs (ρ.set i (some (.exn d p))) h with
          | .nx ρ h => if noX (ρ.set i none) then .nx (ρ.set i none) h else .bad
          | .rt w h => .rt w h
          | .bk ρ h => if noX (ρ.set i none) then .bk (ρ.set i none) h else .bad
          | .ct ρ h => if noX (ρ.set i none) then .ct (ρ.set i none) h else .bad
          | _ => .bad) else .exc d p ρ h) else .bad
      | r => r := by
  refine PS.imp (L2N.ps_try_as (tb := fun W => rS T [] W fb) (ts := fun a cls d D σ H => ∀ oe pn, L2N.Zn cls d oe → (∃ vs, oe.data = .fields vs) → rS T ((a, oe) :: pn) WF fs D σ H) hs hf hN hi hln hx tk (fun W pn xe tk' po => ?_) (fun a oe cls d pn hz hd => ?_)) fun D σ H ⟨L, h, ρ, R, E, k⟩ => ?_
  · have := hb W pn xe tk' po
    unfold SsJ at this
    rw [px_tr hc] at this
    exact this
  · have := hsu a oe cls d pn hz hd
    unfold SsJ at this
    rw [px_suite] at this
    exact PSs.imp this fun D σ H q => q oe pn hz hd
  · rw [px_calm hc] at E k
    refine ⟨L, h, ρ, R, E, ?_⟩
    dsimp only at k
    cases q : fb ρ h with
    | nx _ _ => rw [q] at k; exact k
    | bk _ _ => rw [q] at k; exact k
    | ct _ _ => rw [q] at k; exact k
    | rt _ _ => rw [q] at k; exact k
    | bad => rw [q] at k; exact k
    | exc d p ρ1 h1 =>
      rw [q] at k
      intro σ1 L1 H1 cls dd R1 E1 r1 x1
      dsimp only at k
      split at k
      · rename_i hd
        have ecls : cls = .ref (T.cA d) := x1.1
        refine ⟨sub d c, by rw [ecls]; exact he d hd, fun hsub a ha oe pn hz hfd => ?_, fun hsub => ?_⟩
        · rw [if_pos hsub] at k
          have hz1 : oe.cls = .ref (T.cA d) := by rw [hz.1, ecls]
          refine ⟨L1, h1, ρ1.set i (some (.exn d p)), R1, (r1.pins fun p hp => absurd hp (by simp)).setS i ⟨a, oe, dd, rfl, List.mem_cons_self, hz1, hz.2.1, hfd, ?_⟩, ?_⟩
          · rw [← ecls]; exact x1
          · have k2 := PoS.later E1 k
            cases q2 : fs (ρ1.set i (some (.exn d p))) h1 with
            | nx ρ2 h2 =>
              rw [q2] at k2
              dsimp only at k2
              split at k2
              · rename_i hx
                exact fun σ2 L2 H2 R2 E2 r2 => k2 (σ2.set i none) L2 H2 R2 E2 ((r2.unset i none).nopins hx)
              · exact k2.elim
            | bk ρ2 h2 =>
              rw [q2] at k2
              dsimp only at k2
              split at k2
              · rename_i hx
                exact fun σ2 L2 H2 R2 E2 r2 => k2 (σ2.set i none) L2 H2 R2 E2 ((r2.unset i none).nopins hx)
              · exact k2.elim
            | ct ρ2 h2 =>
              rw [q2] at k2
              dsimp only at k2
              split at k2
              · rename_i hx
                exact fun σ2 L2 H2 R2 E2 r2 => k2 (σ2.set i none) L2 H2 R2 E2 ((r2.unset i none).nopins hx)
              · exact k2.elim
            | rt w2 h2 => rw [q2] at k2; exact k2
            | exc _ _ _ _ => rw [q2] at k2; exact k2.elim
            | bad => rw [q2] at k2; exact k2.elim
        · rw [hsub] at k
          rw [if_neg Bool.false_ne_true] at k
          exact k σ1 L1 H1 cls dd R1 E1 r1 x1
      · exact k.elim
end
end LP
/-! LP, part 16: an own class of errors whose __init__ says super().__init__() and keeps its argument. -/
namespace LP
open PySem.W PySem.Calls PySem.HandSPX
open L2 PySem PySem.Spec PyProof.Rows
/-! ### the text of __init__ -/
def eA (p : Str) (p1 p2 : Pos) : Arguments := { posonlyargs := [], args := [{ arg := "self", annotation := none, pos := p1 }, { arg := p, annotation := none, pos := p2 }], vararg := none, kwonlyargs := [], kw_defaults := [], kwarg := none, defaults := [] }
def eB (p f : Str) (q1 q2 q3 q4 q5 r1 r2 r3 r4 : Pos) : List Stmt := [.Expr (.Call (.Attribute (.Call (.Name "super" q1) [] [] q2) "__init__" q3) [] [] q4) q5, .Assign [.Attribute (.Name "self" r1) f r2] (.Name p r3) r4]
/-- what the written part says of the class at C and of its __init__ at fI: the cell of __class__ at cc, the code at cda -/
structure ErrTxt (K : Frag) (file : Str) (C fI cc cda : Addr) (p f qual : Str) : Prop where
  exi : excInitIn K C He.veBase "ValueError.__new__" = true
  cd : ∃ cd, clsIn K C = some cd ∧ refsVE cd.mro = true ∧ cd.hasDict = true
  sa : findIn K (.ref C) "__setattr__" = some (some (.builtin "object.__setattr__"))
  no : findIn K (.ref C) f = some none
  iC : findIn K (.ref C) "__init__" = some (some (.ref fI))
  tC : typeIn K (.ref fI) = some (.type "function")
  kC : keepIn K (.ref C) = true
  exC : subIn K (.ref C) (.type "BaseException") = some true
  tyC : typeIn K (.ref C) = some (.type "type")
  hm : ks_superIn K C C "__init__" = some (some (.builtin "ValueError.__init__"))
  hB : subIn K (.ref C) (.type "ValueError") = some true
  st : nsIn K cStatics "thirdparty.any" = some none
  cell : ∃ cl cld csl, K.lookup cc = some ⟨cl, cld, .cell (some (.ref C)), csl⟩
  sub : mroIn K C (.ref C) = some true
  sup : nsIn K mainGlobals "super" = some none
  code : ∃ ccl cdd vs ccs fl tf, K.lookup cda = some ⟨ccl, cdd, .fields vs, ccs⟩ ∧ vs[2]? = some (.str fl tf) ∧ (file == fl) = true
  fn : ∃ (oc : Value) (od : Option Addr) (doc pm : Value) (an : Option Addr) (ct : Value) (osl : Array (Option Value)) (p1 p2 q1 q2 q3 q4 q5 r1 r2 r3 r4 : Pos) (sc : Scope),
    K.lookup fI = some ⟨oc, od, .func (ksFn "__init__" qual (eA p p1 p2) (eB p f q1 q2 q3 q4 q5 r1 r2 r3 r4) sc .none .none doc pm an (.ref cda) ct cc), osl⟩ ∧ codeIn K (.ref cda) qual = true ∧
      (∀ x ∈ sc.names, x.2 ≠ .cell) ∧ sc.names.lookup ("self" : Str) = some .local ∧ sc.names.lookup p = some .local ∧ sc.names.lookup ("super" : Str) = some .globalImplicit ∧ sc.names.lookup ("__class__" : Str) = some .free ∧
      sc.kind = .function ∧ sc.isCoroutine = false ∧ sc.isGenerator = false ∧ (q3.endLine == q4.line) = true
  bd : ∀ (p1 p2 : Pos) (body : List Stmt) (sc : Scope) (doc pm : Value) (an : Option Addr) (cdv ct : Value) (cc : Addr) (u v : Value), bindArgs (ksFn "__init__" qual (eA p p1 p2) body sc .none .none doc pm an cdv ct cc) ⟨[u, v], []⟩ = pure [(("self" : Str), u), (p, v)]
  ps : (p == ("self" : Str)) = false
  pd : (p == ("__debug__" : Str)) = false
section
variable {prog : Program} {w : World} {A : Around} {R : Result → Shared → Prop} {s : Shared} {K : Frag} {C fI cc cda : Addr} {p f qual : Str} {h₀ : Heap} {mg mb : Str → Option Value}
theorem err_init (T : ErrTxt K prog.main.file C fI cc cda p f qual) (htop : (prog.main.scope.names.lookup ("super" : Str)).isSome = false) (X₀ : K.In h₀) (hlim : h₀.NoLimit) (hg : h₀.Ns mainGlobals mg) (hb : h₀.Ns builtinsNs mb) (hmb : mb "super" = some (.type "super"))
    (k0 : ∀ b o, h₀.get? b = some o → s.heap.get? b = some o) (hsz : h₀.objs.size ≤ s.heap.objs.size) {x t0 : Addr} {v : Value} (hx : s.heap.get? x = some (excObj C t0 none .none)) (hx0 : h₀.get? x = none) (hroom : A.depth < recursionLimit)
    (hq : ∀ h' tk dx t1, (∀ b o, h₀.get? b = some o → h'.get? b = some o) → h'.get? x = some (excObj C t1 (some dx) .none) → h₀.objs.size ≤ dx → dx ≠ x → h'.Ns1 dx (fun y => if y = f then some v else none) → R (.ok (.ret .none)) { s with heap := h', toks := tk }) :
    codeAny (model prog w) A (.call (.ref fI) ⟨[.ref x, v], []⟩) R s := by
  obtain ⟨oc, od, doc, pm, an, ct, osl, p1, p2, q1, q2, q3, q4, q5, r1, r2, r3, r4, sc, ho, hcd, hcell, hl1, hl2, hks, hkc, hk, hco, hgen, hline⟩ := T.fn
  obtain ⟨cl, cld, csl, hcc⟩ := T.cell
  obtain ⟨ccl, cdd, vs, ccs, fl, tf, hcode, hvs, hfile⟩ := T.code
  have X : K.In s.heap := X₀.keeps k0
  have hpself : (("self" : Str) == p) = false := by
    have := T.ps
    rw [Bool.eq_false_iff] at this ⊢
    exact fun z => this (beq_iff_eq.mpr (beq_iff_eq.mp z).symm)
  refine ks_codeAny_call_defAt (binds := [(("self" : Str), .ref x), (p, v)]) hroom (X _ _ ho) rfl (hlim.keeps k0) (codeRec_of X hcd) rfl (BindsTo.of_eq (T.bd ..)) hcell (fun y hy => ?_) (fun h₁ hns hk₁ => ?_) hco hgen hk
  · rcases List.mem_cons.mp hy with rfl | hy
    · exact hl1
    · have e : y = (p, v) := by simpa using hy
      subst e
      exact hl2
  -- the frame, the exception
  have hL : s.heap.objs.size ≠ x := Nat.ne_of_gt (Heap.lt_size hx)
  have F : Fr h₀ s.heap.objs.size h₁ (fun y => List.lookup y [(p, v), (("self" : Str), Value.ref x)]) := ⟨hns, fun b o e => hk₁ b o (k0 b o e), hsz⟩
  have N : News h₀ s.heap.objs.size h₁ [(x, excObj C t0 none .none)] := fun y hy => by
    have e : y = (x, excObj C t0 none .none) := by simpa using hy
    subst e
    exact ⟨hk₁ _ _ hx, Ne.symm hL, hx0⟩
  have hself : List.lookup ("self" : Str) [(p, v), (("self" : Str), Value.ref x)] = some (Value.ref x) := by simp [List.lookup, hpself]
  have hpv : List.lookup p [(p, v), (("self" : Str), Value.ref x)] = some v := by simp [List.lookup]
  obtain ⟨cdC, hclC, hmro, hdict⟩ := T.cd
  have I1 : PySem.W.InstAt h₁ x (excObj C t0 none .none) C none := ⟨hk₁ _ _ hx, rfl, rfl, trivial⟩
  have X1 : K.In h₁ := X₀.keeps F.keep
  obtain ⟨oD, hD1, hD2⟩ : ∃ oD, h₁.get? C = some oD ∧ oD.data = .cls cdC := by
    have hD := hclC
    unfold clsIn at hD
    split at hD
    · rename_i c d cd' sl hoo
      cases hD
      exact ⟨_, X1 _ _ hoo, rfl⟩
    · cases hD
  refine ks_wpAt_execs_cons (ks_wpAt_Expr_any (ks_wpAt_MethodCall (pl := plainOf (.Call (.Name "super" q1) [] [] q2) (callEnv (ksFn "__init__" qual (eA p p1 p2) (eB p f q1 q2 q3 q4 q5 r1 r2 r3 r4) sc .none .none doc pm an (.ref cda) ct cc) s.heap.objs.size fI)) (ks_wpAt_super_base hks hkc (by decide) rfl (hk₁ _ _ (X _ _ ho)) rfl rfl rfl (X1 _ _ hcode) rfl hvs hfile htop ?_) ?_) ?_ rfl)
  rotate_left
  · rw [arm_eval_Call]
    refine congrArg _ (funext fun ov => congrArg _ (funext fun _ => ?_))
    rw [mcall_line rfl hline]
    rfl
  · show interactive _ = false
    simp [interactive, callEnv, newEnv, hk]
  -- super()
  refine ks_loadName_global hk hks (loadGlobal_builtin (hg.keeps F.keep) (mg_none_of X₀ hg T.sup) (hb.keeps F.keep) hmb ⟨rfl, ?_⟩)
  refine wpAny_loadName_free hk hkc rfl ⟨_, X1 _ _ hcc, rfl⟩ ?_
  refine wpAny_loadName_local hk hl1 F.ns hself ?_
  refine ks_wpAny_isType_cls hD1 hD2 ⟨rfl, ?_⟩
  refine ks_wpAny_call_super hD1 hD2 I1.at_ I1.cls (fun c e => nomatch e) (looks_mroIn X1 T.sub) (fun h2 e2 k2 => ?_)
  obtain ⟨F2, N2, l2⟩ := ks_newsPush (s := ⟨h₁, s.gens, s.drawn, s.toks + 2, s.os⟩) F N rfl e2 k2
  -- .__init__
  refine kxs_method (s := ⟨h2, s.gens, s.drawn, s.toks + 2, s.os⟩) kxs_ValueError F2 X₀ N2 List.mem_cons_self (InstAt.of_exc0 N2 (List.mem_cons_of_mem _ List.mem_cons_self)) T.st T.hm T.hB (by decide) fun q h3 F3 N3 l3 => ?_
  -- its call
  refine kxs_callWith0 (s := ⟨h3, s.gens, s.drawn, s.toks + 2 + 1, s.os⟩) N3 List.mem_cons_self ?_
  have nx : ∀ y ∈ [(x, excObj C t0 none Value.none)], y.1 < h₁.objs.size := fun y hy => by
    have e : y = (x, excObj C t0 none .none) := by simpa using hy
    subst e
    exact Heap.lt_size (hk₁ _ _ hx)
  have ne1 : q ≠ x := fun z => by
    have := l3 _ (List.mem_cons_of_mem _ List.mem_cons_self)
    rw [z] at this
    exact Nat.lt_irrefl _ this
  have ne2 : h₁.objs.size ≠ x := Nat.ne_of_gt (Heap.lt_size (hk₁ _ _ hx))
  refine kxs_call (s := ⟨h3, s.gens, s.drawn, s.toks + 2 + 1, s.os⟩) (rest := []) F3 X₀ N3 PySem.F.excBase_ValueError T.exi List.mem_cons_self (.tail ne1 (.tail ne2 (.head (fun p hp => absurd hp (by simp))))) (Nat.zero_le _) fun t' h4 F4 N4 l4 => ?_
  -- self.f = p
  refine wpAt_of_wpAny ?_
  have X4 : K.In h4 := X₀.keeps F4.keep
  have mx : (x, excObj C t' none Value.none) ∈ (t', excTup []) :: (q, kxs_mw "ValueError.__init__" x) :: (h₁.objs.size, ks_superObj C x C) :: [(x, excObj C t' none Value.none)] := by simp
  have hx4 := (N4 _ mx).1
  refine wpAny_execs_cons (plainObj_wpAny_Assign_Attribute ?_)
  refine ldc (v := v) hk hl2 F4.ns hpv (ldc (v := .ref x) hk hl1 F4.ns hself ?_) T.pd
  refine set_plain X4 (ox := excObj C t' none .none) (od := none) ⟨hx4, rfl, rfl, trivial⟩ T.sa ?_
  refine exc_osa X4 hx4 hclC hmro hdict T.no (fun h5 tk5 dx k5 dn dne hx5 hn5 => ?_)
  refine wpAny_execs_nil (hq h5 tk5 dx t' (fun b o e => k5 b o (fun z => by rw [z, hx0] at e; cases e) (F4.keep b o e)) hx5 (Nat.le_trans ?_ dn) dne hn5)
  exact Nat.le_trans hsz (Nat.le_of_lt F4.ns.lt)
end
end LP
/-! LP, part 17: an own error is made. -/
namespace LP
open PySem.W PySem.Calls PySem.HandSPX
open L2 PySem PySem.Spec PyProof.Rows
/-- a made error -/
structure ErrMade (h h' : Heap) (e C d : Addr) (f : Str) (v : Value) : Prop where
  keep : ∀ b o, h.get? b = some o → h'.get? b = some o
  new : h.objs.size ≤ e
  obj : ∃ t, h'.get? e = some (excObj C t (some d) .none)
  dbig : h.objs.size ≤ d
  dne : d ≠ e
  ns : h'.Ns1 d (fun y => if y = f then some v else none)
section
variable {prog : Program} {w : World} {A : Around} {R : Result → Shared → Prop} {s : Shared} {K : Frag} {C fI cc cda : Addr} {p f qual : Str} {mg mb : Str → Option Value}
theorem err_made (T : ErrTxt K prog.main.file C fI cc cda p f qual) (htop : (prog.main.scope.names.lookup ("super" : Str)).isSome = false) {v : Value} (X : K.In s.heap) (hlim : s.heap.NoLimit) (hg : s.heap.Ns mainGlobals mg) (hb : s.heap.Ns builtinsNs mb) (hmb : mb "super" = some (.type "super")) (hroom : A.depth + 1 < recursionLimit)
    (hq : ∀ h' tk e d, ErrMade s.heap h' e C d f v → R (.ok (.ret (.ref e))) { s with heap := h', toks := tk }) :
    codeAny (model prog w) A (.call (.ref C) ⟨[v], []⟩) R s := by
  obtain ⟨nm, N, qn, bs, bm, hdct, sn, sub, ab, col, dd, k0, k1, k2, k3, k5, hC, hT⟩ := excInit_of X T.exi
  obtain ⟨hp, g, dr, tk, os⟩ := s
  have k : ∀ b o, hp.get? b = some o → ((hp.push (kdv_tup [v])).push (excO C hp.objs.size)).get? b = some o := fun b o e => Heap.get?_push_of_some _ (Heap.get?_push_of_some _ e)
  have hget : ((hp.push (kdv_tup [v])).push (excO C hp.objs.size)).get? (hp.objs.size + 1) = some (excObj C hp.objs.size none .none) := by heap_get
  have hx0 : hp.get? (hp.objs.size + 1) = none := Heap.get?_none_of_le (Nat.le_succ _)
  have one : [v].length ≤ sizeLine := by
    rw [line_eq]
    exact (by decide : 1 ≤ 16777216)
  refine call_own PySem.F.excBase_ValueError hT hC (looks_findIn X T.iC) (fun self => bind_fn X self T.tC) one ?_
  refine err_init (s := ⟨(hp.push (kdv_tup [v])).push (excO C hp.objs.size), g, dr, tk, os⟩) T htop X hlim hg hb hmb k ?_ hget hx0 ?_ fun h' tk' dx t1 k' hx dn dne hns => ?_
  · show hp.objs.size ≤ ((hp.push (kdv_tup [v])).push (excO C hp.objs.size)).objs.size
    rw [Heap.size_push, Heap.size_push]
    omega
  · show A.depth + 1 < recursionLimit
    exact hroom
  · exact ⟨rfl, hq h' tk' (hp.objs.size + 1) dx ⟨k', Nat.le_succ _, ⟨t1, hx⟩, dn, dne, hns⟩⟩
end
theorem relO_one {v : V} {v' : Value} {f : Str} (r : RelV v v') (g : Str) : RelO (List.lookup g [(f, v)]) (if g = f then some v' else none) := by
  by_cases hw : g = f
  · subst hw
    rw [if_pos rfl]
    have q : List.lookup g [(g, v)] = some v := by simp [List.lookup]
    rw [q]
    exact r
  · rw [if_neg hw]
    have qw : (g == f) = false := by simpa using hw
    have q2 : List.lookup g [(f, v)] = none := by simp [List.lookup, qw]
    rw [q2]
    trivial
section
variable {X : Cx} {C fI cc cda : Addr} {p f qual x : Str}
theorem pmk_err {a : Expr} {te : TE} {np pos : Pos} (T : ErrTxt X.K X.prog.main.file C fI cc cda p f qual) (htop : (X.prog.main.scope.names.lookup ("super" : Str)).isSome = false) (hdp : X.A.depth + 1 < recursionLimit) (ha : PE X a te) (hp : plE a = true)
    (hg : Gl X x) (hm : X.mg x = some (.ref C)) (hd : dbgB x = false) :
    L2N.PMk X (.Call (.Name x np) [a] [] pos) (tMkI C f te) := by
  intro pins s σ H Q I h
  refine wpAny_Call_Name_kw (ld_glob I hg hm ?_ hd)
  have hpa : PA X [a] (tCons te tNil) := pa_cons ha pa_nil (star_pl hp)
  have hw : tCons te tNil σ H (fun vs H1 => match vs with
      | [v] => ∀ d, H1 d = none → Q (.ref C) (some d) (upd H1 d (.xd [(f, v)]))
      | _ => False) := h
  refine PySem.W.callWith_K (h₀ := X.base) I.ok.mod.kin T.kC (thn (hpa.run pos pins s σ H _ I hw) fun us s1 hh => ?_) (star_pl hp) rfl
  obtain ⟨vs, H1, I1, r1, q1⟩ := hh
  refine ⟨I1.kIn, ?_⟩
  cases r1 with
  | nil => exact q1.elim
  | cons rv rn =>
    rename_i v v' vs' us'
    cases rn with
    | cons _ _ => exact q1.elim
    | nil =>
      show wpAny _ _ (call (.ref C) [v']) _ _ _
      have hlim := I1.nolimit
      obtain ⟨mb, hmb1, hmb2⟩ := I1.mod.blt
      obtain ⟨hh, g, dr, tk, os⟩ := s1
      refine wpAny_call (err_made (s := ⟨hh, g, dr, tk, os⟩) T htop I1.kIn hlim (I1.mod.glob.keeps I1.bk) (hmb1.keeps I1.bk) ((hmb2 _ (by decide +kernel)).trans (by decide +kernel)) hdp fun h' tk' e d M => ?_)
      show L2N.MkP X pins σ Q (.ref e) ⟨h', g, dr, tk', os⟩
      obtain ⟨t1, hoe⟩ := M.obj
      have hns := M.ns
      obtain ⟨G', g1, g2⟩ := restrict h' fun b => decide (b ≠ e)
      have gk : ∀ b, b ≠ e → G'.get? b = h'.get? b := fun b hb => g1 b (decide_eq_true hb)
      have ge : G'.get? e = none := g2 e (by simp)
      have old : ∀ b o, hh.get? b = some o → G'.get? b = some o := fun b o q => (gk b (Nat.ne_of_lt (Nat.lt_of_lt_of_le (Heap.lt_size q) M.new))).trans (M.keep b o q)
      have ob : ObjOk X.prog X.w (upd H1 d (.xd [(f, v)])) G' d (.xd [(f, v)]) := ⟨_, hns.at (fun o q => (gk d M.dne).trans q), fun y => relO_one rv y⟩
      have J : Inv X pins σ (upd H1 d (.xd [(f, v)])) ⟨G', g, dr, tk', os⟩ := I1.laid (t' := tk') old M.dbig ob
      refine ⟨e, _, _, ⟨G', g, dr, tk', os⟩, _, .ref C, some d, rfl, J, fun b o q => ?_, ge, hoe, ⟨rfl, rfl, fun vs e => by cases e; rfl⟩, rfl, rfl, ?_, rfl, I1.bare, raises_own T.exC T.tyC, q1 d (I1.hok.fresh M.dbig)⟩
      · by_cases hb : b = e
        · have q' : G'.get? b = some o := q
          rw [hb, ge] at q'
          cases q'
        · exact (gk b hb).symm.trans q
      · rw [upd_ne (Ne.symm M.dne)]
        exact I1.hok.fresh M.new
end
end LP
/-! LP, part 18: several names at once; a tuple backwards; keywords. -/
namespace LP
open L2 PySem PySem.Spec PyProof.Rows
def noStarE : Expr → Bool
  | .Starred _ _ => false
  | _ => true
theorem swap2 {env : PySem.Env} {x y : Str} {a b : Expr} {px py pt pt2 : Pos} {kt k2 : Nat} (hk : env.scope.kind = .function) (hx : env.kindOf x = some .local) (hy : env.kindOf y = some .local) (hl : (py.line == px.line) = true) (hne : (x == y) = false)
    (ha : plE a = true) (hb : plE b = true) (hf : [a, b].all (foldedForSure 8) = false) (hc : [a, b].all (constantsAlone 8) = false) :
    swappedStores [.Tuple [.Name x px, .Name y py] kt pt] (.Tuple [a, b] k2 pt2) env = pure (some [x, y]) := by
  have hbk : env.blockKind = .function := by unfold Env.blockKind; rw [hk]; rfl
  have hyx : (y == x) = false := by
    rw [Bool.eq_false_iff] at hne ⊢
    exact fun z => hne (beq_iff_eq.mpr (beq_iff_eq.mp z).symm)
  have her : ([x, y] : List Str).eraseDups.length = 2 := by
    simp [List.eraseDups_cons, hne, hyx, List.filter]
  unfold swappedStores
  dsimp only
  rw [if_neg (by simp [hbk]), if_neg (by
    intro h
    simp only [List.any_cons, List.any_nil, Bool.or_false] at h
    rw [Bool.or_eq_true] at h
    rcases h with h | h
    · cases a <;> first | (cases h; done) | (cases ha; done)
    · cases b <;> first | (cases h; done) | (cases hb; done))]
  simp only [List.filterMap_cons, List.filterMap_nil, List.head?_cons, Option.map_some, Option.getD_some, Expr.pos, hx, hy, hl, beq_self_eq_true, Bool.and_self, if_true]
  rw [if_neg (by
    intro h
    rw [Bool.or_eq_true] at h
    rcases h with h | h
    · exact absurd h (by simp)
    · rw [her] at h
      exact absurd h (by simp))]
  rw [hf, hc]
  rfl
theorem swap3 {env : PySem.Env} {x y z : Str} {a b c : Expr} {px py pz pt pt2 : Pos} {kt k2 : Nat} (hk : env.scope.kind = .function) (hx : env.kindOf x = some .local) (hy : env.kindOf y = some .local) (hz : env.kindOf z = some .local) (hl : (py.line == px.line) = true) (hl2 : (pz.line == px.line) = true)
    (hne : (x == y) = false) (hne2 : (x == z) = false) (hne3 : (y == z) = false)
    (ha : plE a = true) (hb : plE b = true) (hc' : plE c = true) (hf : [a, b, c].all (foldedForSure 8) = false) (hc : [a, b, c].all (constantsAlone 8) = false) :
    swappedStores [.Tuple [.Name x px, .Name y py, .Name z pz] kt pt] (.Tuple [a, b, c] k2 pt2) env = pure (some [x, y, z]) := by
  have hbk : env.blockKind = .function := by unfold Env.blockKind; rw [hk]; rfl
  have sy : ∀ {u v : Str}, (u == v) = false → (v == u) = false := fun {u v} h => by
    rw [Bool.eq_false_iff] at h ⊢
    exact fun z => h (beq_iff_eq.mpr (beq_iff_eq.mp z).symm)
  have her : ([x, y, z] : List Str).eraseDups.length = 3 := by
    simp [List.eraseDups_cons, hne, hne2, hne3, sy hne, sy hne2, sy hne3, List.filter]
  unfold swappedStores
  dsimp only
  rw [if_neg (by simp [hbk]), if_neg (by
    intro h
    simp only [List.any_cons, List.any_nil, Bool.or_false] at h
    rw [Bool.or_eq_true, Bool.or_eq_true] at h
    rcases h with h | h | h
    · cases a <;> first | (cases h; done) | (cases ha; done)
    · cases b <;> first | (cases h; done) | (cases hb; done)
    · cases c <;> first | (cases h; done) | (cases hc'; done))]
  simp only [List.filterMap_cons, List.filterMap_nil, List.head?_cons, Option.map_some, Option.getD_some, Expr.pos, hx, hy, hz, hl, hl2, beq_self_eq_true, Bool.and_self, if_true]
  rw [if_neg (by
    intro h
    rw [Bool.or_eq_true] at h
    rcases h with h | h
    · exact absurd h (by simp)
    · rw [her] at h
      exact absurd h (by simp))]
  rw [hf, hc]
  rfl
section
variable {X : Cx} {T : Tb} {WO : WX'} {a b c : Expr} {gs : Env → Hh → Rs (List W)} {pos : Pos}
theorem sj_par2 {i j : Nat} {x y : Str} {px py pt pt2 : Pos} {kt k2 : Nat} (hc : X.calm = true) (hk : X.env.scope.kind = .function) (hN : X.N.Nodup) (hi : X.N[i]? = some x) (hj : X.N[j]? = some y) (hx : X.env.scope.names.lookup x = some .local) (hy : X.env.scope.names.lookup y = some .local)
    (hl : (py.line == px.line) = true) (hne : (x == y) = false) (hpa : plE a = true) (hpb : plE b = true) (hf : [a, b].all (foldedForSure 8) = false) (hcc : [a, b].all (constantsAlone 8) = false) (ha : AJ X T WO [a, b] gs) :
    SJ X T WO (.Assign [.Tuple [.Name x px, .Name y py] kt pt] (.Tuple [a, b] k2 pt2) pos) fun ρ h => (gs ρ h).rfs ρ fun ws h => match setAll [i, j] ws ρ with
      | some ρ' => .nx ρ' h
      | none => .bad := by
  have hij : i ≠ j := fun e => by
    subst e
    rw [hi] at hj
    cases hj
    simp at hne
  refine PS.imp (ps_par hc hN hi hj hij hx hy ha (swap2 hk hx hy hl hne hpa hpb hf hcc)) fun D σ H ⟨L, h, ρ, R, E, k⟩ => ⟨L, h, ρ, R, E, PoS.rfs R E k fun vs L1 h1 ws H1 R1 E1 r1 k1 => ?_⟩
  cases ws with
  | nil => exact k1.elim
  | cons w ws =>
    cases ws with
    | nil => exact k1.elim
    | cons w2 ws =>
      cases ws with
      | cons _ _ => exact k1.elim
      | nil =>
        obtain ⟨v, u, rfl, rv, ru⟩ := r1.two_of
        exact ⟨v, u, rfl, k1.now R1 (((E.evo E1.toEvo0).set i rv).set j ru)⟩
theorem sj_par3 {i j l : Nat} {x y z : Str} {px py pz pt pt2 : Pos} {kt k2 : Nat} (hc : X.calm = true) (hk : X.env.scope.kind = .function) (hN : X.N.Nodup) (hi : X.N[i]? = some x) (hj : X.N[j]? = some y) (hl3 : X.N[l]? = some z) (hx : X.env.scope.names.lookup x = some .local) (hy : X.env.scope.names.lookup y = some .local) (hz : X.env.scope.names.lookup z = some .local)
    (hl : (py.line == px.line) = true) (hl2 : (pz.line == px.line) = true) (hne : (x == y) = false) (hne2 : (x == z) = false) (hne3 : (y == z) = false) (hpa : plE a = true) (hpb : plE b = true) (hpc : plE c = true) (hf : [a, b, c].all (foldedForSure 8) = false) (hcc : [a, b, c].all (constantsAlone 8) = false) (ha : AJ X T WO [a, b, c] gs) :
    SJ X T WO (.Assign [.Tuple [.Name x px, .Name y py, .Name z pz] kt pt] (.Tuple [a, b, c] k2 pt2) pos) fun ρ h => (gs ρ h).rfs ρ fun ws h => match setAll [i, j, l] ws ρ with
      | some ρ' => .nx ρ' h
      | none => .bad := by
  have nn : ∀ {m n : Nat} {u v : Str}, X.N[m]? = some u → X.N[n]? = some v → (u == v) = false → m ≠ n := fun {m n u v} h1 h2 h3 e => by
    subst e
    rw [h1] at h2
    cases h2
    simp at h3
  refine PS.imp (ps_par3 hc hN hi hj hl3 (nn hi hj hne) (nn hi hl3 hne2) (nn hj hl3 hne3) hx hy hz ha (swap3 hk hx hy hz hl hl2 hne hne2 hne3 hpa hpb hpc hf hcc)) fun D σ H ⟨L, h, ρ, R, E, k⟩ => ⟨L, h, ρ, R, E, PoS.rfs R E k fun vs L1 h1 ws H1 R1 E1 r1 k1 => ?_⟩
  cases ws with
  | nil => exact k1.elim
  | cons w ws =>
    cases ws with
    | nil => exact k1.elim
    | cons w2 ws =>
      cases ws with
      | nil => exact k1.elim
      | cons w3 ws =>
        cases ws with
        | cons _ _ => exact k1.elim
        | nil =>
          obtain ⟨v, r', rfl, rv, r2⟩ := r1
          obtain ⟨u, t, rfl, ru, rt⟩ := r2.two_of
          exact ⟨v, u, t, rfl, k1.now R1 ((((E.evo E1.toEvo0).set i rv).set j ru).set l rt)⟩
end
end LP
/-! LP, part 19: a tuple backwards; keywords. -/
namespace LP
open L2 PySem PySem.Spec PyProof.Rows
theorem places_rev (n : Nat) : Builtin.Slice.slicePlaces ((n : Int) - 1) (-1) (-1) = n := by
  unfold Builtin.Slice.slicePlaces
  have h1 : ¬ ((-1 : Int) > 0) := by omega
  rw [if_neg h1]
  by_cases h : (n : Int) - 1 > -1
  · rw [if_pos h]
    have e : ((n : Int) - 1 - -1 - 1) / (- -1) + 1 = n := by
      have : (- -1 : Int) = 1 := by decide
      rw [this, Int.ediv_one]
      omega
    rw [e]
    rfl
  · rw [if_neg h]
    show (0 : Int).toNat = n
    have : (0 : Int).toNat = 0 := rfl
    rw [this]
    omega
theorem pick_all : ∀ l : List Value, (List.range l.length).filterMap (fun m => l[m]?) = l
  | [] => rfl
  | x :: r => by
    have ih := pick_all r
    rw [List.length_cons, List.range_succ_eq_map, List.filterMap_cons]
    show x :: List.filterMap (fun m => (x :: r)[m]?) (List.map Nat.succ (List.range r.length)) = x :: r
    rw [List.filterMap_map]
    have e : ((fun m => (x :: r)[m]?) ∘ Nat.succ) = fun m => r[m]? := funext fun m => by simp
    rw [e, ih]
theorem fm_congr {α β : Type} {f g : α → Option β} : ∀ {l : List α}, (∀ x ∈ l, f x = g x) → l.filterMap f = l.filterMap g
  | [], _ => rfl
  | x :: r, h => by
    rw [List.filterMap_cons, List.filterMap_cons, h x List.mem_cons_self, fm_congr fun y hy => h y (List.mem_cons_of_mem _ hy)]
theorem pick_rev (xs : Array Value) : ((List.range xs.size).filterMap fun (m : Nat) => xs[(((xs.size : Int) - 1) + (m : Int) * (-1)).toNat]?).toArray = xs.toList.reverse.toArray := by
  congr 1
  have e : (List.range xs.size).filterMap (fun (m : Nat) => xs[(((xs.size : Int) - 1) + (m : Int) * (-1)).toNat]?) = (List.range xs.toList.reverse.length).filterMap (fun m => xs.toList.reverse[m]?) := by
    rw [List.length_reverse, Array.length_toList]
    refine fm_congr fun m hm => ?_
    have hm := List.mem_range.mp hm
    have e1 : (((xs.size : Int) - 1) + (m : Int) * (-1)).toNat = xs.size - 1 - m := by omega
    rw [e1, List.getElem?_reverse (by rw [Array.length_toList]; exact hm), Array.length_toList, Array.getElem?_toList]
  rw [e, pick_all]
section
variable {prog : Program} {w : World} {A : Around} {E : Value → Shared → Prop} {s : Shared}
theorem sliceApplied_rev {sl : Addr} {u : Tok} {n : Nat} {Q : Int × Int × Nat → Shared → Prop} (hs : s.heap.IsSliceOf sl .none .none (.int (-1) u))
    (h : Q ((n : Int) - 1, -1, n) s) : wpAny (model prog w) A (Builtin.Slice.sliceApplied (.ref sl) (pure (n : Int))) Q E s := by
  obtain ⟨o1, ho1, hc1, hd1⟩ := id hs
  unfold Builtin.Slice.sliceApplied Builtin.Slice.sliceFields
  refine wpAny_bind (wpAny_bind (wpAny_field ho1 hd1 (x := .none) rfl (wpAny_bind (wpAny_field ho1 hd1 (x := .none) rfl (wpAny_bind (wpAny_field ho1 hd1 (x := .int (-1) u) rfl (wpAny_pure ?_)))))))
  refine wpAny_bind (slicePart_int ?_)
  show wpAny _ _ (if ((-1 : Int) == 0) = true then _ else _) _ _ s
  rw [if_neg (by decide)]
  refine wpAny_bind (slicePart_none (wpAny_bind (slicePart_none (wpAny_bind (wpAny_pure ?_)))))
  show wpAny _ _ (pure ((n : Int) - 1, (-1 : Int), Builtin.Slice.slicePlaces ((n : Int) - 1) (-1) (-1))) _ _ s
  rw [places_rev]
  exact wpAny_pure h
theorem getItem_tuple_rev {t sl : Addr} {items : Array Value} {u : Tok} {Q : Value → Shared → Prop} (ht : IsTup s.heap t items) (hs : s.heap.IsSliceOf sl .none .none (.int (-1) u))
    (h : Q (.ref s.heap.objs.size) { s with heap := s.heap.push { cls := .type "tuple", data := .seq items.toList.reverse.toArray } }) (hsz : items.size ≤ sizeLine) : wpAny (model prog w) A (getItem (.ref t) (.ref sl)) Q E s := by
  have htake : sizeOk (.seq items.toList.reverse.toArray) := by
    show items.toList.reverse.toArray.size ≤ sizeLine
    rw [List.size_toArray, List.length_reverse, Array.length_toList]
    exact hsz
  obtain ⟨o1, ho1, hc1, hd1⟩ := id hs
  have hT1 : s.TypeIs (.ref sl) "slice" := ⟨o1, ho1, hc1⟩
  unfold getItem
  try (with_reducible refine wpAny_holding ?_)
  first
    | refine wpAny_bind (wpAny_pure ?_)
    | skip
  refine wpAny_bind (wpAny_sequenceKey ht.typeIs (by decide) ?_)
  refine wpAny_bind (wpAny_callSpecial?_slot (name := Str.ofString "__getitem__") ht.typeIs PyProof.Rows.slot_tuple_getitem (wpAny_call_entry PyProof.Rows.slot_tuple_getitem ht.typeIs entry_tuple_getitem ?_ (args_tuple_getitem _ _)))
  show wpAny _ _ (Builtin.Tuple.tupleItemsOf (.ref t) >>= _) _ _ s
  refine wpAny_bind (tupleItemsOf_ ht ?_)
  refine wpAny_bind (wpAny_typeOf hT1 ?_)
  rw [if_pos (by decide)]
  refine wpAny_bind (sliceApplied_rev hs ?_)
  have hno : ¬ ((((items.size : Int) - 1) == 0 && (-1 : Int) == 1 && items.size == items.size) = true) := by
    intro q
    rw [Bool.and_eq_true, Bool.and_eq_true] at q
    exact absurd q.1.2 (by decide)
  show wpAny _ _ (if (((items.size : Int) - 1) == 0 && (-1 : Int) == 1 && items.size == items.size) = true then _ else _) _ _ s
  rw [if_neg hno, pick_rev]
  first
    | exact wpAny_bind (m := Builtin.Tuple.tupleExact _) (wpAny_newObj_type (wpAny_pure ⟨_, rfl, wpAny_pure h⟩) htake)
    | exact wpAny_bind (m := Builtin.Tuple.tupleExact _) (wpAny_newObj_type (wpAny_bind (wpAny_pure (wpAny_pure ⟨_, rfl, wpAny_pure h⟩))) htake)
    | exact wpAny_bind (wpAny_bind (m := Builtin.Tuple.tupleExact _) (wpAny_newObj_type (wpAny_pure (wpAny_pure ⟨_, rfl, wpAny_pure h⟩)) htake))
    | exact wpAny_bind (wpAny_bind (m := Builtin.Tuple.tupleExact _) (wpAny_newObj_type (wpAny_pure ⟨_, rfl, wpAny_pure h⟩) htake))
end
section
variable {X : Cx} {T : Tb} {WO : WX'} {a : Expr} {es : List Expr} {ga : Env → Hh → Rs W} {gs : Env → Hh → Rs (List W)} {pos : Pos}
theorem ej_rev (hK : T.K = X.K) {k : Nat} {p1 p2 p3 : Pos} (he : EJ X T WO a ga) : EJ X T WO (.Subscript a (.Slice none none (some (.UnaryOp .USub (.Constant (.int 1) k p1) p2)) p3) pos) fun ρ h => (ga ρ h).bnd fun x h => match x with
    | .tup xs => .ok (.tup xs.reverse) h
    | _ => .bad := by
  refine ⟨fun pins s σ H Q I ⟨L, h, ρ, R, E, kk⟩ => ?_⟩
  have hw : rE T (px X) WO ga σ H (fun v H1 => ∃ q vs, v = .ref q ∧ SqT X.K H1 q vs ∧ ∀ p, H1 p = none → Q (.ref p) (upd H1 p (.tup vs.reverse))) := ⟨L, h, ρ, R, E, PoG.bnd' kk fun v L1 h1 w H1 R1 E1 r1 k1 => by
    cases w with
    | tup xs =>
      obtain ⟨q, vs, rfl, t, rr⟩ := r1
      have rrev : RVs T L1 H1 xs.reverse vs.reverse := by
        have gen : ∀ (xs : List W) (vs : List V), RVs T L1 H1 xs vs → RVs T L1 H1 xs.reverse vs.reverse := by
          intro xs
          induction xs with
          | nil =>
            intro vs r
            have e : vs = [] := r
            subst e
            rfl
          | cons x xs ih =>
            intro vs r
            obtain ⟨v, r', rfl, rv, rr⟩ := r
            rw [List.reverse_cons, List.reverse_cons]
            exact (ih r' rr).append (RVs.one rv)
        exact gen xs vs rr
      exact ⟨q, vs, rfl, hK ▸ t.sq, fun p hp => (PoG.okp k1 trivial).newT R1 rrev hp⟩
    | _ => exact k1.elim⟩
  refine Subscript_ (thn (he.run pins s σ H _ I hw) fun v s1 ⟨x, H1, I1, r1, q1⟩ => ?_)
  obtain ⟨q, vs, ex, hx, qq⟩ := q1
  subst ex
  obtain rfl : v = Value.ref q := r1
  have hst : PO X (some (.UnaryOp .USub (.Constant (.int 1) k p1) p2)) (tPart (tUn (rU fun i => .int (-i)) (tC (.int 1)))) := po_some (pe_un un_neg pe_int)
  refine wpAny_Slice (thn (po_none.run pins s1 σ H1 (fun o H2 => o = none ∧ H2 = H1) I1 ⟨rfl, rfl⟩) fun vl s2 ⟨l, H2, I2, pl, el, e2⟩ => ?_)
  subst el e2
  cases pl
  refine thn (po_none.run pins s2 σ H2 (fun o H3 => o = none ∧ H3 = H2) I2 ⟨rfl, rfl⟩) fun vu s3 ⟨u, H3, I3, pu, eu, e3⟩ => ?_
  subst eu e3
  cases pu
  refine thn (hst.run pins s3 σ H3 (fun o H4 => o = some (-1) ∧ H4 = H3) I3 ⟨1, rfl, -1, rfl, rfl, rfl⟩) fun v4 s4 ⟨o, H4, I4, ps, eo, e4⟩ => ?_
  subst eo e4
  obtain ⟨tk, rfl⟩ : ∃ tk, v4 = Value.int (-1) tk := by
    cases ps
    exact ⟨_, rfl⟩
  have I5 : Inv X pins σ H4 { s4 with heap := s4.heap.push { cls := .type "slice", data := .fields #[.none, .none, .int (-1) tk] } } := I4.kept (t' := s4.toks) fun b ob q => Heap.get?_push_of_some _ q
  obtain ⟨its, r, ht, hz⟩ := I5.tuple hx
  have hlen := r.length
  refine PyProof.Rows.tail_any (ops := [.ref q, .ref s4.heap.objs.size]) (s := { s4 with heap := s4.heap.push { cls := .type "slice", data := .fields #[.none, .none, .int (-1) tk] } }) ht.typeIs PyProof.Rows.slot_tuple_getitem.lookup ?_ (by with_unfolding_all rfl)
  refine getItem_tuple_rev ht (Heap.IsSliceOf.new _ .none .none (.int (-1) tk)) ?_ (by rw [List.size_toArray]; omega)
  refine ⟨.ref _, _, I5.laid (t' := s4.toks) (o := .tup vs.reverse) (fun b ob q => Heap.get?_push_of_some _ q) (Nat.le_refl _) ?_, rfl, qq _ (I5.hok.fresh (Nat.le_refl _))⟩
  exact ⟨by rw [List.length_reverse]; exact hz, _, r.reverse, ⟨_, Heap.get?_push_size _ rfl, rfl, _, rfl⟩⟩
/-! ### keywords alone -/
def kwE : List Str → List Expr → List Pos → List Keyword
  | k :: ks, e :: es, p :: ps => ⟨some k, e, p⟩ :: kwE ks es ps
  | _, _, _ => []
end
end LP
/-! LP, part 20: keywords. -/
namespace LP
open L2 PySem PySem.Spec PyProof.Rows
section
variable {X : Cx} {T : Tb} {WO : WX'} {e : Expr} {kws : List Keyword} {g : Env → Hh → Rs W} {gs : Env → Hh → Rs (List W)} {pos kpos : Pos}
abbrev KJ (X : Cx) (T : Tb) (WO : WX') (kws : List Keyword) (gs : Env → Hh → Rs (List W)) : Prop := PK X kws (rA T (px X) WO gs)
theorem PK.imp {X : Cx} {kws : List Keyword} {t t' : TA} (h : PK X kws t) (i : ∀ σ H Q, t' σ H Q → t σ H Q) : PK X kws t' := ⟨fun pos pins s σ H Q I hw => h.run pos pins s σ H Q I (i σ H Q hw)⟩
theorem kj_nil : KJ X T WO [] fun _ h => .ok [] h := PK.imp pk_nil fun σ H Q ⟨L, h, ρ, R, E, k⟩ => k.now R rfl
theorem kj_cons {nm : Option Str} (ha : EJ X T WO e g) (hr : KJ X T WO kws gs) : KJ X T WO (⟨nm, e, kpos⟩ :: kws) fun ρ h => (g ρ h).bnd fun w h => (gs ρ h).bnd fun ws h => .ok (w :: ws) h :=
  PK.imp (pk_cons ha hr) fun σ H Q ⟨L, h, ρ, R, E, k⟩ => ⟨L, h, ρ, R, E, k.bnd' fun x L1 h1 a1 H1 R1 E1 r1 k1 => ⟨L1, h1, ρ, R1, E.evo E1.toEvo0, k1.bnd' fun y L2 h2 a2 H2 R2 E2 r2 k2 =>
    k2.now R2 ⟨x, y, rfl, RV.evo E2.toEvo0 _ _ r1, r2⟩⟩⟩
def kwName : Keyword → Option Str
  | ⟨n, _, _⟩ => n
theorem kw_names {env : PySem.Env} {p : Pos} : ∀ kws : List Keyword, (backToKw p (keywordEach kws env)).map (·.1) = kws.map kwName
  | [] => rfl
  | ⟨n, e, q⟩ :: r => by
    have ih := kw_names (env := env) (p := p) r
    show n :: (backToKw p (keywordEach r env)).map (·.1) = n :: r.map kwName
    rw [ih]
theorem kw_all {env : PySem.Env} {p : Pos} {kws : List Keyword} {ks : List Str} (h : kws.map kwName = ks.map some) :
    (backToKw p (keywordEach kws env)).all (·.1.isSome) = true ∧ (backToKw p (keywordEach kws env)).filterMap (·.1) = ks ∧ (backToKw p (keywordEach kws env)).any (·.1.isNone) = false := by
  have e := (kw_names (env := env) (p := p) kws).trans h
  have gen : ∀ (l : List (Option Str × Sem Value)) (ks : List Str), l.map (·.1) = ks.map some → l.all (·.1.isSome) = true ∧ l.filterMap (·.1) = ks ∧ l.any (·.1.isNone) = false := by
    intro l
    induction l with
    | nil =>
      intro ks h
      cases ks with
      | nil => exact ⟨rfl, rfl, rfl⟩
      | cons _ _ => cases h
    | cons x r ih =>
      intro ks h
      cases ks with
      | nil => cases h
      | cons k ks =>
        rw [List.map_cons, List.map_cons, List.cons.injEq] at h
        obtain ⟨h1, h2⟩ := h
        obtain ⟨i1, i2, i3⟩ := ih ks h2
        refine ⟨?_, ?_, ?_⟩
        · rw [List.all_cons, h1, i1]; rfl
        · rw [List.filterMap_cons, h1, i2]
        · rw [List.any_cons, h1, i3]; rfl
  exact gen _ ks e
/-- f(k = e, ..), every parameter named, in its place -/
theorem ej_callK {cf : List W → Hh → Rs W} {fa : Addr} {ps : List Str} (hc : CalOk X T WO cf fa ps) {x : Str} {p : Pos} (hg : Gl X x) (hm : X.mg x = some (.ref fa)) (hk : PySem.W.keepIn X.K (.ref fa) = true) (hdb : dbgB x = false)
    (ha : KJ X T WO kws gs) (hks : kws.map kwName = ps.map some) (hlen : ∀ ρ h ws h', gs ρ h = .ok ws h' → ws.length = ps.length) :
    EJ X T WO (.Call (.Name x p) [] kws pos) fun ρ h => (gs ρ h).bnd fun ws h => cf ws h := by
  refine ⟨fun pins s σ H Q I ⟨L, h, ρ, R, E, k⟩ => ?_⟩
  refine wpAny_Call_Name_kw (ld_glob I hg hm ?_ hdb)
  have hw : rA T (px X) WO gs σ H (fun vs H1 => vs.length = ps.length ∧ spF T cf vs H1 Q (WE WO σ)) := by
    refine ⟨L, h, ρ, R, E, ?_⟩
    have k' : PoG T (RV T) (WE WO σ) L H ((gs ρ h).bnd fun ws h => cf ws h) Q := k
    cases q : gs ρ h with
    | ok a h1 =>
      rw [q] at k'
      intro b L1 H1 R1 E1 rl
      exact ⟨by rw [RVs.length rl, hlen ρ h a h1 q], L1, h1, a, R1, rl, PoG.later E1 k'⟩
    | exc c p h1 =>
      rw [q] at k'
      exact k'
    | bad =>
      rw [q] at k'
      exact k'.elim
  obtain ⟨q1, q2, q3⟩ := kw_all (env := X.env) (p := pos) hks
  refine PySem.W.callWith_KW0 (h₀ := X.base) I.ok.mod.kin hk q1 (thn (ha.run pos pins s σ H _ I hw) fun us s1 ⟨vs, H1, I1, r, hl, q⟩ => ⟨I1.kIn, ?_⟩) (by rw [q3]; rfl)
  rw [q2]
  have hul : us.length = ps.length := by rw [← r.length]; exact hl
  exact hc pins s1 σ H1 [] vs [] us Q I1 .nil r (by simpa using hul) q
end
end LP
/-! LP, part 21: the checker. -/
namespace LP
open L2 PySem PySem.Spec PyProof.Rows
/-! ### the tables -/
structure Gt where
  /-- defs: their names, parameters -/
  fn : List (Str × List Str)
  /-- classes of errors -/
  cl : List Str
  /-- constants -/
  gl : List Str
  /-- attributes -/
  fld : List Str
  /-- names of built-ins that the module leaves alone -/
  free : List Str
structure Gm where
  N : List Str
  sc : Scope
  fnB : Str → Bool
  t : Gt
def eqS (x y : Str) : Bool := decide (x = y)
def okN (x : Str) : Bool := !dbgB x && !(x == ("__classdict__" : Str)) && !(x == ("__name__" : Str))
def Gm.glI (G : Gm) (x : Str) : Bool := okN x && decide (G.sc.names.lookup x = some .globalImplicit)
def Gm.bi (G : Gm) (x : Str) : Bool := G.glI x && decide (x ∈ G.t.free)
def Gm.var (G : Gm) (i : Nat) (x : Str) : Bool := okN x && decide (G.N[i]? = some x) && (match G.sc.names.lookup x with
  | some .local => true
  | some .cell => true
  | some .free => true
  | _ => false)
def Gm.loc (G : Gm) (i : Nat) (x : Str) : Bool := okN x && decide (G.N[i]? = some x) && decide (G.sc.names.lookup x = some .local)
/-- a slot that may be stored to -/
def Gm.st (G : Gm) (i : Nat) (x : Str) : Bool := okN x && decide (G.N[i]? = some x) && (match G.sc.names.lookup x with
  | some .local => true
  | some .cell => G.fnB x
  | _ => false)
/-! ### pieces of the text -/
def asNm : Expr → Option Str
  | .Name x _ => some x
  | _ => none
def asBin : Expr → Option (Expr × Operator × Expr)
  | .BinOp a o b _ => some (a, o, b)
  | _ => none
def asCmp1 : Expr → Option (Expr × CmpOp × Expr)
  | .Compare a [o] [b] _ => some (a, o, b)
  | _ => none
def asCmp2 : Expr → Option (Expr × CmpOp × Expr × CmpOp × Expr)
  | .Compare a [o, p] [b, c] _ => some (a, o, b, p, c)
  | _ => none
def asUn : Expr → Option (UnaryOp × Expr)
  | .UnaryOp o a _ => some (o, a)
  | _ => none
/-- v and the rest -/
def asBool : Expr → Option (BoolOp × Expr × Expr)
  | .BoolOp o [v, w] p => some (o, v, .BoolOp o [w] p)
  | .BoolOp o (v :: w :: u :: ws) p => some (o, v, .BoolOp o (w :: u :: ws) p)
  | _ => none
/-- the only one -/
def asOne : Expr → Expr
  | .BoolOp o [w] p => w
  | e => e
def asIf : Expr → Option (Expr × Expr × Expr)
  | .IfExp c a b _ => some (c, a, b)
  | _ => none
def asTup : Expr → Option (List Expr)
  | .Tuple es _ _ => some es
  | _ => none
def asLst : Expr → Option (List Expr)
  | .List es _ => some es
  | _ => none
/-- x(e, ..) -/
def asCall : Expr → Option (Str × List Expr)
  | .Call (.Name x _) (e :: es) [] _ => some (x, e :: es)
  | _ => none
/-- x(k = e, ..) -/
def asCallK : Expr → Option (Str × List Keyword)
  | .Call (.Name x _) [] (k :: ks) _ => some (x, k :: ks)
  | _ => none
/-- o.m(e, ..) -/
def asMth : Expr → Option (Expr × Str × List Expr)
  | .Call (.Attribute o m ap) (e :: es) [] p => if ap.endLine == p.line then some (o, m, e :: es) else none
  | _ => none
def asAtt : Expr → Option (Expr × Str)
  | .Attribute o m _ => some (o, m)
  | _ => none
def asIx : Expr → Option (Expr × Expr)
  | .Subscript a b _ => some (a, b)
  | _ => none
def asSl : Expr → Option (Expr × Option Expr × Option Expr)
  | .Subscript a (.Slice lo hi none _) _ => some (a, lo, hi)
  | _ => none
def asRev : Expr → Option Expr
  | .Subscript a (.Slice none none (some (.UnaryOp .USub (.Constant (.int 1) _ _) _)) _) _ => some a
  | _ => none
def asLc : Expr → Option (Expr × Expr × Expr × List Expr × Scope)
  | .ListComp elt [⟨tg, iter, ifs, 0⟩] sc _ => some (elt, tg, iter, ifs, sc)
  | _ => none
def isCon : Const → Expr → Bool
  | c, .Constant d _ _ => (match c, d with
    | .none, .none => true
    | .bool a, .bool b => a == b
    | .int a, .int b => a == b
    | .str a, .str b => eqS a b
    | _, _ => false)
  | _, _ => false
def boE : Bo → Operator
  | .add => .Add
  | .sub => .Sub
  | .mul => .Mult
  | .mod => .Mod
  | .fdv => .FloorDiv
  | .pow => .Pow
def coE : Co → CmpOp
  | .eq => .Eq
  | .ne => .NotEq
  | .lt => .Lt
  | .le => .LtE
  | .gt => .Gt
  | .ge => .GtE
  | .is => .Is
  | .isn => .IsNot
  | .inn => .In
  | .nin => .NotIn
def biNm : Bi → Str
  | .len => "len"
  | .abs => "abs"
  | .max2 => "max"
  | .min2 => "min"
  | .maxl => "max"
  | .minl => "min"
  | .suml => "sum"
  | .all => "all"
  | .any => "any"
  | .int => "int"
  | .str => "str"
  | .tup => "tuple"
  | .lst _ => "list"
  | .dmod => "divmod"
def tyNm : Ty → Str
  | .int => "int"
  | .bool => "bool"
  | .str => "str"
  | .tup => "tuple"
  | .lst => "list"
  | .dict => "dict"
  | .own _ => ""
def chkTy (G : Gm) (t : Ty) (e : Expr) : Bool := tyBi t && (match asNm e with
  | some x => eqS x (tyNm t) && G.bi x
  | none => false)
def chkTys (G : Gm) : List Ty → List Expr → Bool
  | [], [] => true
  | t :: ts, e :: es => chkTy G t e && chkTys G ts es
  | _, _ => false
def chkCl (G : Gm) (nx : Nat) (c : Nat) (e : Expr) : Bool := decide (c < nx) && (match asNm e with
  | some x => decide (G.t.cl[c]? = some x) && G.glI x
  | none => false)
def chkCls (G : Gm) (nx : Nat) : List Nat → List Expr → Bool
  | [], [] => true
  | c :: cs, e :: es => chkCl G nx c e && chkCls G nx cs es
  | _, _ => false
mutual
/-- a target in slots -/
def chkTg (G : Gm) : Tg → Expr → Bool
  | .nm i, e => (match asNm e with
    | some x => G.st i x
    | none => false)
  | .tp ts, e => (match asTup e with
    | some es => chkTgs G ts es
    | none => false)
def chkTgs (G : Gm) : List Tg → List Expr → Bool
  | [], [] => true
  | t :: ts, e :: es => chkTg G t e && chkTgs G ts es
  | _, _ => false
end
mutual
def tgS : Tg → List Nat
  | .nm i => [i]
  | .tp ts => tgSs ts
def tgSs : List Tg → List Nat
  | [] => []
  | t :: ts => tgS t ++ tgSs ts
end
/-- the names of slots -/
def ownOf (N : List Str) (vs : List Nat) : List (Str × Nat) := vs.map fun i => (N[i]?.getD "", i)
def Gm.blk (G : Gm) (sc : Scope) : Gm := { G with sc := relS sc G.sc, fnB := fun x => sc.names.lookup x == some .cell }
def ikNm : Ik → Option Str
  | .seq => none
  | .r1 => some "range"
  | .r2 => some "range"
  | .r3 => some "range"
  | .en => some "enumerate"
  | .z2 => some "zip"
  | .z3 => none
def ikN : Ik → Nat
  | .seq => 1
  | .r1 => 1
  | .r2 => 2
  | .r3 => 3
  | .en => 1
  | .z2 => 2
  | .z3 => 3
def ikT : Ik → Bool
  | .en => true
  | .z2 => true
  | _ => false
/-- what is walked: its expressions -/
def chkIt (G : Gm) (k : Ik) (tg iter : Expr) : Option (List Expr) := match k with
  | .seq => if plE iter then some [iter] else none
  | k => (match ikNm k, asCall iter with
    | some n, some (x, es) => if eqS x n && G.bi x && decide (es.length = ikN k) && (!ikT k || (asTup tg).isSome) then some es else none
    | _, _ => none)
/-- may stand as a test -/
def tstOk : E → Bool
  | .ite _ _ _ => false
  | .and a b => tstOk a && tstOk b
  | .or a b => tstOk a && tstOk b
  | .not a => tstOk a
  | _ => true
mutual
def chkE (P : Pg) (G : Gm) : E → Expr → Bool
  | .var i, e => (match asNm e with
    | some x => G.var i x
    | none => false)
  | .non, e => isCon .none e
  | .tt b, e => isCon (.bool b) e
  | .int i, e => isCon (.int i) e
  | .str x, e => isCon (.str (mkS x)) e && x.all (fun c => decide (c < 1114112)) && decide (x.length ≤ big)
  | .gl k, e => (match asNm e with
    | some x => decide (G.t.gl[k]? = some x) && G.glI x
    | none => false)
  | .bin _ o a b, e => (match asBin e with
    | some (x, op, y) => decide (op = boE o) && chkE P G a x && chkE P G b y
    | none => false)
  | .cmp o a b, e => (match asCmp1 e with
    | some (x, op, y) => decide (op = coE o) && plE y && chkE P G a x && chkE P G b y
    | none => false)
  | .chn o p a b c, e => (match asCmp2 e with
    | some (x, op, y, oq, z) => decide (op = coE o) && decide (oq = coE p) && plE y && plE z && chkE P G a x && chkE P G b y && chkE P G c z
    | none => false)
  | .neg a, e => (match asUn e with
    | some (op, x) => decide (op = .USub) && chkE P G a x
    | none => false)
  | .not a, e => (match asUn e with
    | some (op, x) => decide (op = .Not) && chkE P G a x
    | none => false)
  | .and a b, e => (match asBool e with
    | some (op, x, y) => decide (op = .And) && chkE P G a x && chkE P G b (asOne y)
    | none => false)
  | .or a b, e => (match asBool e with
    | some (op, x, y) => decide (op = .Or) && chkE P G a x && chkE P G b (asOne y)
    | none => false)
  | .ite c a b, e => (match asIf e with
    | some (x, y, z) => tstOk c && chkE P G c x && chkE P G a y && chkE P G b z
    | none => false)
  | .tup es, e => (match asTup e with
    | some xs => chkEs P G es xs
    | none => false)
  | .lst _ es, e => (match asLst e with
    | some xs => chkEs P G es xs
    | none => false)
  | .call f es, e => (match G.t.fn[f]? with
    | some (y, ps) => (match asCall e with
      | some (x, xs) => eqS x y && G.glI x && decide (xs.length = ps.length) && chkEs P G es xs
      | none => (match asCallK e with
        | some (x, ks) => eqS x y && G.glI x && decide (ks.map kwName = ps.map some) && chkKs P G es ks
        | none => false))
    | none => false)
  | .blt b es, e => (match asCall e with
    | some (x, xs) => eqS x (biNm b) && G.bi x && chkEs P G es xs
    | none => false)
  | .mth m o es, e => (match asMth e with
    | some (x, nm, xs) => eqS nm (meN m).2.1 && nsE x && decide (xs.length < 5) && chkE P G o x && chkEs P G es xs
    | none => false)
  | .ix a i, e => (match asIx e with
    | some (x, y) => plE y && chkE P G a x && chkE P G i y
    | none => false)
  | .sln _ a, e => (match asSl e with
    | some (x, none, none) => chkE P G a x
    | _ => false)
  | .slf _ a lo, e => (match asSl e with
    | some (x, some y, none) => chkE P G a x && chkE P G lo y
    | _ => false)
  | .slt _ a hi, e => (match asSl e with
    | some (x, none, some y) => chkE P G a x && chkE P G hi y
    | _ => false)
  | .slb _ a lo hi, e => (match asSl e with
    | some (x, some y, some z) => chkE P G a x && chkE P G lo y && chkE P G hi z
    | _ => false)
  | .rev a, e => (match asRev e with
    | some x => chkE P G a x
    | none => false)
  | .isi a ts, e => (match asCall e with
    | some (x, [y, z]) => eqS x "isinstance" && G.bi x && plE y && chkE P G a y && (match ts with
      | [t] => chkTy G t z || (match asTup z with
        | some zs => chkTys G [t] zs
        | none => false)
      | ts => decide (ts ≠ []) && decide (ts.length ≤ 100) && (match asTup z with
        | some zs => chkTys G ts zs
        | none => false))
    | _ => false)
  | .xfl i f, e => (match asAtt e with
    | some (o, n) => (match asNm o with
      | some x => G.var i x && decide (G.t.fld[f]? = some n)
      | none => false)
    | none => false)
  | .xis i cs, e => (match asCall e with
    | some (x, [y, z]) => eqS x "isinstance" && G.bi x && (match asNm y with
      | some v => G.var i v
      | none => false) && (match cs with
      | [c] => chkCl G P.nx c z
      | cs => decide (cs.length ≤ 100) && (match asTup z with
        | some zs => chkCls G P.nx cs zs
        | none => false))
    | _ => false)
  | .lc _ elt tg k its ifs vs, e => (match asLc e with
    | some (ee, tt, it, fs, sc) => (match chkIt G k tt it with
      | some es => blkC G.N G.sc sc (ownOf G.N vs) && plE it && chkEs P G its es && chkTg (G.blk sc) tg tt && decide (∀ t ∈ tgS tg, t ∈ vs) && decide (fs.length ≤ 1) && chkFs P (G.blk sc) ifs fs && chkE P (G.blk sc) elt ee
      | none => false)
    | none => false)
  | _, _ => false
termination_by structural e => e
def chkEs (P : Pg) (G : Gm) : List E → List Expr → Bool
  | [], [] => true
  | d :: ds, e :: es => plE e && chkE P G d e && chkEs P G ds es
  | _, _ => false
termination_by structural e => e
/-- tests -/
def chkFs (P : Pg) (G : Gm) : List E → List Expr → Bool
  | [], [] => true
  | d :: ds, e :: es => tstOk d && chkE P G d e && chkFs P G ds es
  | _, _ => false
termination_by structural e => e
def chkKs (P : Pg) (G : Gm) : List E → List Keyword → Bool
  | [], [] => true
  | d :: ds, ⟨_, e, _⟩ :: es => chkE P G d e && chkKs P G ds es
  | _, _ => false
termination_by structural e => e
end
end LP
/-! LP, part 22: the checker is right: expressions. -/
namespace LP
open L2 PySem PySem.Spec PyProof.Rows
/-- how a def is bound: values by place, or all by name -/
def BindAll (K : PySem.W.Frag) (fd : FuncData) (ps : List Str) : Prop := ∀ (s : Shared) (us ws : List Value), K.In s.heap → us.length + ws.length = ps.length → BindsTo s fd ⟨us, (ps.drop us.length).zip ws⟩ (ps.zip (us ++ ws))
/-- what the def at fa promises -/
structure PrO (X : Cx) (T : Tb) (cf : Bool → List W → Hh → Rs W) (fa : Addr) (ps : List Str) : Prop where
  kp : PySem.W.keepIn X.K (.ref fa) = true
  ex : ∃ k fd, BindAll X.K fd ps ∧ L2H.RoomH k X.A ∧ FnOk X.prog X.w X.K X.mg X.base (L2N.CX X.prog X.w) k fa fd ps (spF T (cf false)) ∧ L2H.FnH X.prog X.w X.K X.mg X.base (L2N.CX X.prog X.w) k fa fd ps (spF T (cf true))
structure Cxt (X : Cx) (T : Tb) (P : Pg) (hot : Bool) (cf : Bool → Nat → List W → Hh → Rs W) (WO : WX') (G : Gm) : Prop where
  hK : T.K = X.K
  N : X.N = G.N
  nd : G.N.Nodup
  sc : X.env.scope = G.sc
  kind : G.sc.kind = .function
  fnB : ∀ x, G.fnB x = true → X.fn x = true
  cold : hot = false → X.calm = true ∧ X.A.handled = none
  warm : hot = true → L2H.HotC X
  un : X.A.units + 64 < cLine
  dp : X.A.depth + 1 < recursionLimit
  free : ∀ x ∈ G.t.free, X.mg x = none
  gl : ∀ (k : Nat) (x : Str), G.t.gl[k]? = some x → ∃ (w : W) (u : Value) (v : V), P.gl[k]? = some w ∧ X.mg x = some u ∧ RelV v u ∧ ∀ L H, RV T L H w v
  fn : ∀ (f : Nat) (x : Str) (ps : List Str), G.t.fn[f]? = some (x, ps) → ∃ fa, X.mg x = some (.ref fa) ∧ PrO X T (fun b => cf b f) fa ps
  cl : ∀ (c : Nat) (x : Str), G.t.cl[c]? = some x → X.mg x = some (.ref (T.cA c))
  fld : ∀ (f : Nat) (n : Str), G.t.fld[f]? = some n → T.fN f = n
  xt : XTab X T P.sub P.nx
  pay : T.pay = P.pay
  xf : ∀ c f, T.pay c = some f → XfC X.K (T.cA c) ∧ PySem.W.findIn X.K (.ref (T.cA c)) (T.fN f) = some none
  tk : L2N.Takes X WO
section
variable {X : Cx} {T : Tb} {P : Pg} {hot : Bool} {cf : Bool → Nat → List W → Hh → Rs W} {WO : WX'} {G : Gm}
theorem zip_dl {ps : List Str} {n : Nat} {us : List Value} {ws : List Value} : (ps.drop us.length).zip ws = (ps.drop us.length).zip ws := rfl
theorem PrO.call (C : Cxt X T P hot cf WO G) {f : Nat} {fa : Addr} {ps : List Str} (p : PrO X T (fun b => cf b f) fa ps) : CalOk X T WO (cf hot f) fa ps := by
  obtain ⟨k, fd, hb, hr, Fc, Fh⟩ := p.ex
  intro pins s σ H vs zs us ws Q I rv rz hl hsp
  have r2 := rv.append rz
  have pass := L2N.passAt C.tk σ
  cases hot with
  | false =>
    have hr' : Room k X.A := ⟨(C.cold rfl).2, hr.dp, hr.un⟩
    refine wpAny_call (codeAny_mono (Fc.run X.A X.stack s H ⟨us, (ps.drop us.length).zip ws⟩ (us ++ ws) (vs ++ zs) Q (WE WO σ) hr' I.env0 (hb s us ws I.kIn hl) r2 hsp) fun r s' hq => ?_)
    cases r with
    | error e => exact pass pins H s e s' I hq
    | ok fl =>
      cases fl with
      | ret u => exact I.after hq
      | next => exact hq.elim
      | brk => exact hq.elim
      | cont => exact hq.elim
  | true =>
    obtain ⟨q, hot1, hq⟩ := C.warm rfl
    have P1 := I.pin q (List.mem_append_left _ hq)
    have hpin : L2H.PinOk X.stack H s q := ⟨P1.1, P1.2.1, fun hm => (List.mem_cons.mp (I.stkSub q.1 hm)).elim P1.2.2.1 P1.2.2.2.1, P1.2.2.2.2⟩
    refine wpAny_call (codeAny_mono (Fh.run X.A X.stack s H ⟨us, (ps.drop us.length).zip ws⟩ (us ++ ws) (vs ++ zs) Q (WE WO σ) q hr hot1 hpin I.env0 (hb s us ws I.kIn hl) r2 hsp) fun r s' hq => ?_)
    cases r with
    | error e => exact pass pins H s e s' I hq
    | ok fl =>
      cases fl with
      | ret u => exact I.after hq
      | next => exact hq.elim
      | brk => exact hq.elim
      | cont => exact hq.elim
/-! ### the text's pieces -/
theorem and2 {a b : Bool} (h : (a && b) = true) : a = true ∧ b = true := Bool.and_eq_true_iff.mp h
theorem okN_ok {x : Str} (h : okN x = true) : dbgB x = false ∧ (x == ("__classdict__" : Str)) = false ∧ x ≠ "__name__" := by
  obtain ⟨h, h3⟩ := and2 h
  obtain ⟨h1, h2⟩ := and2 h
  refine ⟨by simpa using h1, by simpa using h2, fun e => ?_⟩
  subst e
  exact absurd h3 (by decide)
theorem glI_ok (C : Cxt X T P hot cf WO G) {x : Str} (h : G.glI x = true) : Gl X x ∧ dbgB x = false ∧ x ≠ "__name__" := by
  obtain ⟨h1, h2⟩ := and2 h
  obtain ⟨d, _, n⟩ := okN_ok h1
  refine ⟨?_, d, n⟩
  show X.env.scope.names.lookup x = some .globalImplicit
  rw [C.sc]
  exact of_decide_eq_true h2
theorem bi_ok (C : Cxt X T P hot cf WO G) {x : Str} (h : G.bi x = true) : Gl X x ∧ X.mg x = none ∧ dbgB x = false ∧ x ≠ "__name__" := by
  obtain ⟨h1, h2⟩ := and2 h
  obtain ⟨g, d, n⟩ := glI_ok C h1
  exact ⟨g, C.free x (of_decide_eq_true h2), d, n⟩
theorem var_ok (C : Cxt X T P hot cf WO G) {i : Nat} {x : Str} (h : G.var i x = true) : X.N[i]? = some x ∧ Vis X.env.scope x ∧ dbgB x = false ∧ (x == ("__classdict__" : Str)) = false := by
  obtain ⟨h, h3⟩ := and2 h
  obtain ⟨h1, h2⟩ := and2 h
  obtain ⟨d, c, _⟩ := okN_ok h1
  refine ⟨by rw [C.N]; exact of_decide_eq_true h2, ?_, d, c⟩
  unfold Vis
  rw [C.sc]
  split at h3
  · rename_i e; exact .inl e
  · rename_i e; exact .inr (.inl e)
  · rename_i e; exact .inr (.inr e)
  · cases h3
theorem st_ok (C : Cxt X T P hot cf WO G) {i : Nat} {x : Str} (h : G.st i x = true) : X.N[i]? = some x ∧ L2.Loc X.env.scope x ∧ (X.fn x = true ∨ X.env.scope.names.lookup x = some .local) := by
  obtain ⟨h, h3⟩ := and2 h
  obtain ⟨h1, h2⟩ := and2 h
  refine ⟨by rw [C.N]; exact of_decide_eq_true h2, ?_⟩
  unfold L2.Loc
  rw [C.sc]
  split at h3
  · rename_i e; exact ⟨.inl e, .inr e⟩
  · rename_i e; exact ⟨.inr e, .inl (C.fnB x h3)⟩
  · cases h3
theorem asNm_ok {e : Expr} {x : Str} (h : asNm e = some x) : ∃ p, e = .Name x p := by
  cases e <;> first | (cases h; exact ⟨_, rfl⟩) | cases h
theorem asBin_ok {e a b : Expr} {o : Operator} (h : asBin e = some (a, o, b)) : ∃ p, e = .BinOp a o b p := by
  cases e <;> first | (cases h; exact ⟨_, rfl⟩) | cases h
theorem asUn_ok {e a : Expr} {o : UnaryOp} (h : asUn e = some (o, a)) : ∃ p, e = .UnaryOp o a p := by
  cases e <;> first | (cases h; exact ⟨_, rfl⟩) | cases h
theorem asIf_ok {e a b c : Expr} (h : asIf e = some (c, a, b)) : ∃ p, e = .IfExp c a b p := by
  cases e <;> first | (cases h; exact ⟨_, rfl⟩) | cases h
theorem asTup_ok {e : Expr} {es : List Expr} (h : asTup e = some es) : ∃ k p, e = .Tuple es k p := by
  cases e <;> first | (cases h; exact ⟨_, _, rfl⟩) | cases h
theorem asLst_ok {e : Expr} {es : List Expr} (h : asLst e = some es) : ∃ p, e = .List es p := by
  cases e <;> first | (cases h; exact ⟨_, rfl⟩) | cases h
theorem asAtt_ok {e o : Expr} {n : Str} (h : asAtt e = some (o, n)) : ∃ p, e = .Attribute o n p := by
  cases e <;> first | (cases h; exact ⟨_, rfl⟩) | cases h
theorem asIx_ok {e a b : Expr} (h : asIx e = some (a, b)) : ∃ p, e = .Subscript a b p := by
  cases e <;> first | (cases h; exact ⟨_, rfl⟩) | cases h
theorem asCmp1_ok {e a b : Expr} {o : CmpOp} (h : asCmp1 e = some (a, o, b)) : ∃ p, e = .Compare a [o] [b] p := by
  unfold asCmp1 at h
  split at h
  · cases h; exact ⟨_, rfl⟩
  · cases h
theorem asCmp2_ok {e a b c : Expr} {o q : CmpOp} (h : asCmp2 e = some (a, o, b, q, c)) : ∃ p, e = .Compare a [o, q] [b, c] p := by
  unfold asCmp2 at h
  split at h
  · cases h; exact ⟨_, rfl⟩
  · cases h
theorem asBool_ok {e x y : Expr} {o : BoolOp} (h : asBool e = some (o, x, y)) : ∃ w ws p, e = .BoolOp o (x :: w :: ws) p ∧ y = .BoolOp o (w :: ws) p := by
  unfold asBool at h
  split at h
  · cases h; exact ⟨_, _, _, rfl, rfl⟩
  · cases h; exact ⟨_, _, _, rfl, rfl⟩
  · cases h
theorem asCall_ok {e : Expr} {x : Str} {es : List Expr} (h : asCall e = some (x, es)) : ∃ a r p q, es = a :: r ∧ e = .Call (.Name x p) (a :: r) [] q := by
  unfold asCall at h
  split at h
  · cases h; exact ⟨_, _, _, _, rfl, rfl⟩
  · cases h
theorem asCallK_ok {e : Expr} {x : Str} {ks : List Keyword} (h : asCallK e = some (x, ks)) : ∃ p q, e = .Call (.Name x p) [] ks q := by
  unfold asCallK at h
  split at h
  · cases h; exact ⟨_, _, rfl⟩
  · cases h
theorem asMth_ok {e o : Expr} {m : Str} {es : List Expr} (h : asMth e = some (o, m, es)) : ∃ a r p q, es = a :: r ∧ e = .Call (.Attribute o m p) (a :: r) [] q ∧ (p.endLine == q.line) = true := by
  unfold asMth at h
  split at h
  · split at h
    · rename_i hl
      cases h
      exact ⟨_, _, _, _, rfl, rfl, hl⟩
    · cases h
  · cases h
theorem asSl_ok {e a : Expr} {lo hi : Option Expr} (h : asSl e = some (a, lo, hi)) : ∃ p q, e = .Subscript a (.Slice lo hi none p) q := by
  unfold asSl at h
  split at h
  · cases h; exact ⟨_, _, rfl⟩
  · cases h
theorem asRev_ok {e a : Expr} (h : asRev e = some a) : ∃ k p1 p2 p3 q, e = .Subscript a (.Slice none none (some (.UnaryOp .USub (.Constant (.int 1) k p1) p2)) p3) q := by
  unfold asRev at h
  split at h
  · cases h; exact ⟨_, _, _, _, _, rfl⟩
  · cases h
theorem asLc_ok {e a b c : Expr} {fs : List Expr} {sc : Scope} (h : asLc e = some (a, b, c, fs, sc)) : ∃ p, e = .ListComp a [⟨b, c, fs, 0⟩] sc p := by
  unfold asLc at h
  split at h
  · cases h; exact ⟨_, rfl⟩
  · cases h
theorem isCon_ok {c : Const} {e : Expr} (h : isCon c e = true) : (∃ k p, e = .Constant c k p) := by
  cases e <;> first | (cases h; done) | skip
  rename_i d k p
  cases c <;> cases d <;> first | (cases h; done) | exact ⟨_, _, rfl⟩ | skip
  all_goals first
    | (have e := beq_iff_eq.mp (show (_ == _) = true from h); subst e; exact ⟨_, _, rfl⟩)
    | (have e := of_decide_eq_true (show decide (_ = _) = true from h); subst e; exact ⟨_, _, rfl⟩)
/-! ### operators -/
theorem bo_ok (hK : T.K = X.K) (r : Bool) (o : Bo) : OpR X (binaryOp (boE o)) (rdO T fun a b h => binO r o a b h) := by
  cases o with
  | add => exact op_addW hK r
  | sub => exact op_subW
  | mul => exact op_mulW hK r
  | mod => exact op_modW
  | fdv => exact op_fdvW
  | pow => exact op_powW
theorem co_ok (hK : T.K = X.K) (hu : X.A.units + 64 < cLine) (o : Co) : OpR X (compareOp (coE o)) (rdO T fun a b h => outB (cmpO o a b h) h) := by
  cases o with
  | eq => exact op_eqW hK hu
  | ne => exact op_neW hK hu
  | lt => exact op_ordW op_lt
  | le => exact op_ordW op_le
  | gt => exact op_ordW op_gt
  | ge => exact op_ordW op_ge
  | is => exact op_isW
  | isn => exact op_isnW
  | inn => exact op_inW hK false op_in_seq op_in_str
  | nin => exact op_inW hK true op_notIn_seq op_notin_str
end
end LP
/-! LP, part 23: the checker is right: expressions, the induction. -/
namespace LP
open L2 PySem PySem.Spec PyProof.Rows
section
variable {X : Cx} {T : Tb} {P : Pg} {hot : Bool} {cf : Bool → Nat → List W → Hh → Rs W} {WO : WX'} {G : Gm} {a b c e : Expr} {g ga gb gc : Env → Hh → Rs W} {pos : Pos}
/-- a test whose value is a bool -/
theorem tj_fin (h : TJ X T WO e g) (hb : ∀ ρ h w h', g ρ h = .ok w h' → ∃ c, w = .bl c) : TJ X T WO e fun ρ h => fin true (g ρ h) :=
  PT.imp h fun σ H Q ⟨L, h, ρ, R, E, k⟩ => ⟨L, h, ρ, R, E, fin_bl k fun w h' q => hb ρ h w h' q⟩
theorem outB_bl {o : Option Bool} {h h' : Hh} {w : W} (q : outB o h = .ok w h') : ∃ c, w = .bl c := by
  cases o with
  | none => cases q
  | some b => cases q; exact ⟨b, rfl⟩
theorem bnd_last {α : Type} {r : Rs α} {f : α → Hh → Rs W} (hf : ∀ a h w h', f a h = .ok w h' → ∃ c, w = .bl c) {w : W} {h' : Hh} (q : r.bnd f = .ok w h') : ∃ c, w = .bl c := by
  obtain ⟨a, h1, _, q⟩ := bnd_ok q
  exact hf _ _ _ _ q
theorem tj_chn (hK : T.K = X.K) (hu : X.A.units + 64 < cLine) (o p : Co) (ha : EJ X T WO a ga) (hb : EJ X T WO b gb) (hc : EJ X T WO c gc) (hm : plE c = true) :
    TJ X T WO (.Compare a [coE o, coE p] [b, c] pos) fun ρ h => (ga ρ h).bnd fun x h => (gb ρ h).bnd fun y h => chR o p gc ρ x y h :=
  PT.imp (pt_chain (co_ok hK hu o) (co_ok hK hu p) ha hb hc (mark_pl hm)) fun σ H Q ⟨L, h, ρ, R, E, k⟩ => ch_imp o p σ H _ ⟨L, h, ρ, R, E, bnd_bl k⟩
theorem ej_chn (hK : T.K = X.K) (hu : X.A.units + 64 < cLine) (o p : Co) (ha : EJ X T WO a ga) (hb : EJ X T WO b gb) (hc : EJ X T WO c gc) (hm : plE c = true) :
    EJ X T WO (.Compare a [coE o, coE p] [b, c] pos) fun ρ h => (ga ρ h).bnd fun x h => (gb ρ h).bnd fun y h => chR o p gc ρ x y h :=
  PE.imp (pe_chain (co_ok hK hu o) (co_ok hK hu p) ha hb hc (mark_pl hm)) (ch_imp o p)
theorem chR_bl {o p : Co} {gc : Env → Hh → Rs W} {ρ : Env} {x y w : W} {h h' : Hh} (q : chR o p gc ρ x y h = .ok w h') : ∃ c, w = .bl c := by
  unfold chR at q
  split at q
  · exact bnd_last (fun _ _ _ _ => outB_bl) q
  · cases q; exact ⟨_, rfl⟩
  · cases q
theorem takesF {X : Cx} : L2N.Takes X WF := fun _ _ ⟨_, _, _, _, _, _, _, _, _, _, _, _, _, _, _, _, w⟩ => w.elim
theorem Cxt.blk (C : Cxt X T P false cf WO G) {scope : Scope} (hk : scope.kind = .function) (s : Shared) (H : Hp) (C0 : Addr) (cl : List (Str × Addr)) (fp : List Addr) : Cxt (X.blk s H scope (compEnvC scope cl C0 X.env) fp) T P false cf WF (G.blk scope) where
  hK := C.hK
  N := C.N
  nd := C.nd
  sc := by
    show relabel scope X.env = relS scope G.sc
    rw [← C.sc]
    rfl
  kind := hk
  fnB := fun x h => h
  cold := C.cold
  warm := fun z => nomatch z
  un := C.un
  dp := C.dp
  free := C.free
  gl := C.gl
  fn := fun f x ps h => by
    obtain ⟨fa, h1, h2⟩ := C.fn f x ps h
    exact ⟨fa, h1, h2.kp, h2.ex⟩
  cl := C.cl
  fld := C.fld
  xt := C.xt
  pay := C.pay
  xf := C.xf
  tk := takesF
theorem Cxt.blkH (C : Cxt X T P true cf WO G) {scope : Scope} (hk : scope.kind = .function) (s : Shared) (H : Hp) (C0 : Addr) (cl : List (Str × Addr)) (fp : List Addr) : Cxt (HW.blkH X s H scope (compEnvC scope cl C0 X.env) fp) T P true cf WF (G.blk scope) where
  hK := C.hK
  N := C.N
  nd := C.nd
  sc := by
    show relabel scope X.env = relS scope G.sc
    rw [← C.sc]
    rfl
  kind := hk
  fnB := fun x h => h
  cold := fun z => nomatch z
  warm := fun _ => C.warm rfl
  un := C.un
  dp := C.dp
  free := C.free
  gl := C.gl
  fn := fun f x ps h => by
    obtain ⟨fa, h1, h2⟩ := C.fn f x ps h
    exact ⟨fa, h1, h2.kp, h2.ex⟩
  cl := C.cl
  fld := C.fld
  xt := C.xt
  pay := C.pay
  xf := C.xf
  tk := takesF
/-! ### targets -/
mutual
theorem sndTg (C : Cxt X T P hot cf WO G) : ∀ (d : Tg) (e : Expr), chkTg G d e = true → LJ X T e (tgS d) (asgN d)
  | .nm i, e, h => by
    unfold chkTg at h
    split at h
    · rename_i x q
      obtain ⟨p, rfl⟩ := asNm_ok q
      obtain ⟨h1, h2, h3⟩ := st_ok C h
      exact lj_nm (by rw [C.N]; exact C.nd) h1 h2 h3
    · cases h
  | .tp ts, e, h => by
    unfold chkTg at h
    split at h
    · rename_i es q
      obtain ⟨k, p, rfl⟩ := asTup_ok q
      obtain ⟨h1, h2, h3, h4⟩ := sndTgs C ts es h
      cases hot with
      | false =>
        exact PG.imp (lj_tp (n := es.length) C.hK (C.cold rfl).1 h1 h2 h3 h4) fun v σ H Q z => by
          obtain ⟨L, h, ρ, w, ρ', R, E, r, e, k⟩ := z
          refine ⟨L, h, ρ, w, ρ', R, E, r, ?_, k⟩
          cases w <;> first | exact e | cases e
      | true =>
        exact PG.imp (lj_tpH (n := es.length) C.hK (C.warm rfl) h1 h2 h3 h4) fun v σ H Q z => by
          obtain ⟨L, h, ρ, w, ρ', R, E, r, e, k⟩ := z
          refine ⟨L, h, ρ, w, ρ', R, E, r, ?_, k⟩
          cases w <;> first | exact e | cases e
    · cases h
theorem sndTgs (C : Cxt X T P hot cf WO G) : ∀ (ds : List Tg) (es : List Expr), chkTgs G ds es = true → LsJ X T es (tgSs ds) (asgNs ds) ∧ (assignEach es X.env).length = es.length ∧ (assignEach es X.env).findIdx? (·.1) = none ∧ ∀ ws ρ ρ', asgNs ds ws ρ = some ρ' → ws.length = es.length
  | [], [], _ => by
    refine ⟨PGs.imp (lsj_nil (T := T)) fun v σ H Q z => ?_, rfl, rfl, fun ws ρ ρ' h => ?_⟩
    · obtain ⟨L, h, ρ, w, ρ', R, E, r, e, k⟩ := z
      refine ⟨L, h, ρ, w, ρ', R, E, r, ?_, k⟩
      cases w <;> first | exact e | cases e
    · cases ws <;> first | rfl | cases h
  | [], _ :: _, h => by cases h
  | _ :: _, [], h => by cases h
  | d :: ds, e :: es, h => by
    have h : (chkTg G d e && chkTgs G ds es) = true := h
    obtain ⟨ha, hb⟩ := and2 h
    have h1 := sndTg C d e ha
    obtain ⟨h2, h3, h4, h5⟩ := sndTgs C ds es hb
    have hs : assignEach (e :: es) X.env = (false, assign e X.env) :: assignEach es X.env := by
      cases d with
      | nm i =>
        unfold chkTg at ha
        split at ha
        · rename_i x q
          obtain ⟨p, rfl⟩ := asNm_ok q
          rfl
        · cases ha
      | tp ts =>
        unfold chkTg at ha
        split at ha
        · rename_i x q
          obtain ⟨k, p, rfl⟩ := asTup_ok q
          rfl
        · cases ha
    refine ⟨PGs.imp (lsj_cons h1 h2 (by rw [hs]; rfl)) fun v σ H Q z => ?_, ?_, ?_, fun ws ρ ρ' h => ?_⟩
    · obtain ⟨L, h, ρ, w, ρ', R, E, r, e, k⟩ := z
      refine ⟨L, h, ρ, w, ρ', R, E, r, ?_, k⟩
      cases w <;> first | exact e | cases e
    · rw [hs, List.length_cons, List.length_cons, h3]
    · rw [hs, List.findIdx?_cons, h4]
      rfl
    · cases ws with
      | nil => cases h
      | cons w ws =>
        have h : (match asgN d w ρ with
          | some ρ' => asgNs ds ws ρ'
          | none => none) = some ρ' := h
        split at h
        · rw [List.length_cons, List.length_cons, h5 _ _ _ h]
        · cases h
end
theorem chkTys_ok (C : Cxt X T P hot cf WO G) : ∀ (ts : List Ty) (es : List Expr), chkTys G ts es = true → TyEs X ts es ∧ ts.all tyBi = true
  | [], [], _ => ⟨.nil, rfl⟩
  | [], _ :: _, h => by cases h
  | _ :: _, [], h => by cases h
  | t :: ts, e :: es, h => by
    obtain ⟨h1, h2⟩ := and2 (show (chkTy G t e && chkTys G ts es) = true from h)
    obtain ⟨i1, i2⟩ := chkTys_ok C ts es h2
    obtain ⟨hb, h3⟩ := and2 (show (tyBi t && (match asNm e with
      | some x => eqS x (tyNm t) && G.bi x
      | none => false)) = true from h1)
    refine ⟨.cons ?_ i1, by rw [List.all_cons, hb, i2]; rfl⟩
    clear h1 h
    split at h3
    · rename_i x q
      obtain ⟨p, rfl⟩ := asNm_ok q
      obtain ⟨hx, hbi⟩ := and2 h3
      have hx : x = tyNm t := of_decide_eq_true hx
      obtain ⟨g, m, d, n⟩ := bi_ok C hbi
      refine ⟨x, p, rfl, g, m, ?_, n, d⟩
      rw [hx]
      cases t <;> first | (decide +kernel) | cases hb
    · cases h3
theorem chkTy_ok (C : Cxt X T P hot cf WO G) {t : Ty} {e : Expr} (h : chkTy G t e = true) : tyE X t e ∧ tyBi t = true := by
  have h' : chkTys G [t] [e] = true := by
    show (chkTy G t e && true) = true
    rw [h]; rfl
  obtain ⟨h1, h2⟩ := chkTys_ok C [t] [e] h'
  cases h1 with
  | cons q _ =>
    refine ⟨q, ?_⟩
    rw [List.all_cons] at h2
    exact (and2 h2).1
theorem chkCls_ok (C : Cxt X T P hot cf WO G) : ∀ (cs : List Nat) (es : List Expr), chkCls G P.nx cs es = true → ClEs X T cs es ∧ ∀ c ∈ cs, c < P.nx
  | [], [], _ => ⟨.nil, fun _ h => nomatch h⟩
  | [], _ :: _, h => by cases h
  | _ :: _, [], h => by cases h
  | c :: cs, e :: es, h => by
    obtain ⟨h1, h2⟩ := and2 (show (chkCl G P.nx c e && chkCls G P.nx cs es) = true from h)
    obtain ⟨i1, i2⟩ := chkCls_ok C cs es h2
    obtain ⟨hb, h3⟩ := and2 (show (decide (c < P.nx) && (match asNm e with
      | some x => decide (G.t.cl[c]? = some x) && G.glI x
      | none => false)) = true from h1)
    clear h1 h
    split at h3
    · rename_i x q
      obtain ⟨p, rfl⟩ := asNm_ok q
      obtain ⟨hx, hg⟩ := and2 h3
      obtain ⟨g, d, n⟩ := glI_ok C hg
      refine ⟨.cons g (C.cl c x (of_decide_eq_true hx)) d i1, fun y hy => ?_⟩
      rcases List.mem_cons.mp hy with rfl | hy
      · exact of_decide_eq_true hb
      · exact i2 y hy
    · cases h3
theorem bi_boot (b : Bi) : bootBuiltins (biNm b) = some (biV b) := by
  cases b with
  | lst r => exact (by decide +kernel : bootBuiltins "list" = some (.type "list"))
  | _ => decide +kernel
theorem evs_len (P : Pg) (hot : Bool) (cf : Nat → List W → Hh → Rs W) : ∀ (es : List E) (ρ : Env) (h : Hh) (ws : List W) (h' : Hh), evs P hot cf es ρ h = .ok ws h' → ws.length = es.length
  | [], ρ, h, ws, h', q => by
    have q : Rs.ok [] h = .ok ws h' := q
    cases q
    rfl
  | e :: es, ρ, h, ws, h', q => by
    have q : (ev P hot cf false e ρ h).bnd (fun w h => (evs P hot cf es ρ h).bnd fun ws h => .ok (w :: ws) h) = .ok ws h' := q
    obtain ⟨w, h1, _, q⟩ := bnd_ok q
    obtain ⟨ws', h2, q2, q⟩ := bnd_ok q
    cases q
    rw [List.length_cons, List.length_cons, evs_len P hot cf es ρ h1 ws' _ q2]
theorem chkEs_len {P : Pg} {G : Gm} : ∀ {ds : List E} {es : List Expr}, chkEs P G ds es = true → ds.length = es.length ∧ es.all plE = true
  | [], [], _ => ⟨rfl, rfl⟩
  | [], _ :: _, h => by cases h
  | _ :: _, [], h => by cases h
  | d :: ds, e :: es, h => by
    obtain ⟨h1, h2⟩ := and2 (show (plE e && chkE P G d e && chkEs P G ds es) = true from h)
    obtain ⟨i1, i2⟩ := chkEs_len h2
    exact ⟨by rw [List.length_cons, List.length_cons, i1], by rw [List.all_cons, (and2 h1).1, i2]; rfl⟩
end
end LP
/-! LP, part 24: the checker is right: expressions, the induction. -/
namespace LP
open L2 PySem PySem.Spec PyProof.Rows
/-- a value, a test by its truth -/
theorem both {X : Cx} {T : Tb} {P : Pg} {hot : Bool} {cf : Nat → List W → Hh → Rs W} {WO : WX'} {d : E} {e : Expr} (hK : T.K = X.K) (h : EJ X T WO e (ev P hot cf false d)) (hi : itE e = true) (hf : ∀ ρ h, ev P hot cf true d ρ h = fin true (ev P hot cf false d ρ h)) :
    EJ X T WO e (ev P hot cf false d) ∧ (tstOk d = true → TJ X T WO e (ev P hot cf true d)) := by
  refine ⟨h, fun _ => ?_⟩
  have e1 : ev P hot cf true d = fun ρ h => fin true (ev P hot cf false d ρ h) := funext fun ρ => funext fun h => hf ρ h
  rw [e1]
  exact tj_of hK h (true_it hi)
/-- what is walked -/
theorem sndIt {X : Cx} {T : Tb} {P : Pg} {cf : Bool → Nat → List W → Hh → Rs W} {WO : WX'} {G : Gm} (C : Cxt X T P false cf WO G) {k : Ik} {tg iter : Expr} {es : List Expr} {its : List E} (q : chkIt G k tg iter = some es) (he : AJ X T WO es (evs P false (cf false) its))
    (h1 : ∀ d e, its = [d] → es = [e] → EJ X T WO e (ev P false (cf false) false d) ∧ True) (hl : its.length = es.length ∧ es.all plE = true) :
    IJ X T WO tg iter fun ρ h => (evs P false (cf false) its ρ h).bnd fun ws h => ivR (ivC h k ws) h := by
  have call : ∀ (n : Str) (m : Nat), ikNm k = some n → (match ikNm k, asCall iter with
    | some n, some (x, es) => if eqS x n && G.bi x && decide (es.length = ikN k) && (!ikT k || (asTup tg).isSome) then some es else none
    | _, _ => none) = some es → ∃ a r p pp, es = a :: r ∧ iter = .Call (.Name n p) (a :: r) [] pp ∧ Gl X n ∧ X.mg n = none ∧ es.length = ikN k ∧ (ikT k = true → ∃ elts kk tp, tg = .Tuple elts kk tp) := by
    intro n m hn hq
    rw [hn] at hq
    split at hq
    · rename_i n' x es' q1 q2
      cases q1
      split at hq
      · rename_i hc
        cases hq
        obtain ⟨hc, hc4⟩ := and2 hc
        obtain ⟨hc, hc3⟩ := and2 hc
        obtain ⟨hc1, hc2⟩ := and2 hc
        have hc1 : x = n := of_decide_eq_true hc1
        subst hc1
        obtain ⟨g, mm, d, nn⟩ := bi_ok C hc2
        obtain ⟨a, r, p, pp, rfl, rfl⟩ := asCall_ok q2
        refine ⟨a, r, p, pp, rfl, rfl, g, mm, of_decide_eq_true hc3, fun hk => ?_⟩
        rw [hk] at hc4
        have hc4 : (asTup tg).isSome = true := by simpa using hc4
        obtain ⟨elts, q5⟩ := Option.isSome_iff_exists.mp hc4
        obtain ⟨kk, tp, e⟩ := asTup_ok q5
        exact ⟨elts, kk, tp, e⟩
      · cases hq
    · cases hq
  cases k with
  | seq =>
    have q : (if plE iter then some [iter] else none) = some es := q
    split at q
    · cases q
      match its, hl.1 with
      | [d], _ =>
        have hd := (h1 d iter rfl rfl).1
        have := ij_seq (tg := tg) C.hK hd
        have e : (fun (ρ : Env) (h : Hh) => (evs P false (cf false) [d] ρ h).bnd fun ws h => ivR (ivC h .seq ws) h) = fun ρ h => (ev P false (cf false) false d ρ h).bnd fun w h => ivR (ivC h .seq [w]) h := funext fun ρ => funext fun h => by
          show (((ev P false (cf false) false d ρ h).bnd fun w h => Rs.bnd (.ok [] h) fun ws h => .ok (w :: ws) h).bnd fun ws h => ivR (ivC h .seq ws) h) = _
          cases ev P false (cf false) false d ρ h <;> rfl
        rw [e]
        exact this
    · cases q
  | r1 =>
    obtain ⟨a, r, p, pp, rfl, rfl, g, m, hn, _⟩ := call "range" 1 rfl q
    match r, hn with
    | [], _ =>
      have hp := (and2 (show (plE a && true) = true from hl.2)).1
      exact ij_r1 g m he hp
  | r2 =>
    obtain ⟨a, r, p, pp, rfl, rfl, g, m, hn, _⟩ := call "range" 2 rfl q
    match r, hn with
    | [b], _ =>
      have hp := and2 (show (plE a && (plE b && true)) = true from hl.2)
      exact ij_r2 g m he hp.1 (and2 hp.2).1
  | r3 =>
    obtain ⟨a, r, p, pp, rfl, rfl, g, m, hn, _⟩ := call "range" 3 rfl q
    match r, hn with
    | [b, c], _ =>
      have hp := and2 (show (plE a && (plE b && (plE c && true))) = true from hl.2)
      have hp2 := and2 hp.2
      exact ij_r3 g m he hp.1 hp2.1 (and2 hp2.2).1
  | en =>
    obtain ⟨a, r, p, pp, rfl, rfl, g, m, hn, ht⟩ := call "enumerate" 1 rfl q
    obtain ⟨elts, kk, tp, rfl⟩ := ht rfl
    match r, hn with
    | [], _ =>
      have hp := (and2 (show (plE a && true) = true from hl.2)).1
      exact ij_en C.hK g m he hp
  | z2 =>
    obtain ⟨a, r, p, pp, rfl, rfl, g, m, hn, ht⟩ := call "zip" 2 rfl q
    obtain ⟨elts, kk, tp, rfl⟩ := ht rfl
    match r, hn with
    | [b], _ =>
      have hp := and2 (show (plE a && (plE b && true)) = true from hl.2)
      exact ij_z2 C.hK g m he hp.1 (and2 hp.2).1
  | z3 => cases q
/-- what is walked while an exception is handled -/
theorem sndItH {X : Cx} {T : Tb} {P : Pg} {cf : Bool → Nat → List W → Hh → Rs W} {WO : WX'} {G : Gm} (C : Cxt X T P true cf WO G) {k : Ik} {tg iter : Expr} {es : List Expr} {its : List E} (q : chkIt G k tg iter = some es) (he : AJ X T WO es (evs P true (cf true) its))
    (hk : hotK k = true) (hl : its.length = es.length ∧ es.all plE = true) :
    IJH X T WO tg iter fun ρ h => (evs P true (cf true) its ρ h).bnd fun ws h => ivR (ivC h k ws) h := by
  have call : ∀ (n : Str) (m : Nat), ikNm k = some n → (match ikNm k, asCall iter with
    | some n, some (x, es) => if eqS x n && G.bi x && decide (es.length = ikN k) && (!ikT k || (asTup tg).isSome) then some es else none
    | _, _ => none) = some es → ∃ a r p pp, es = a :: r ∧ iter = .Call (.Name n p) (a :: r) [] pp ∧ Gl X n ∧ X.mg n = none ∧ es.length = ikN k ∧ (ikT k = true → ∃ elts kk tp, tg = .Tuple elts kk tp) := by
    intro n m hn hq
    rw [hn] at hq
    split at hq
    · rename_i n' x es' q1 q2
      cases q1
      split at hq
      · rename_i hc
        cases hq
        obtain ⟨hc, hc4⟩ := and2 hc
        obtain ⟨hc, hc3⟩ := and2 hc
        obtain ⟨hc1, hc2⟩ := and2 hc
        have hc1 : x = n := of_decide_eq_true hc1
        subst hc1
        obtain ⟨g, mm, d, nn⟩ := bi_ok C hc2
        obtain ⟨a, r, p, pp, rfl, rfl⟩ := asCall_ok q2
        refine ⟨a, r, p, pp, rfl, rfl, g, mm, of_decide_eq_true hc3, fun hk => ?_⟩
        rw [hk] at hc4
        have hc4 : (asTup tg).isSome = true := by simpa using hc4
        obtain ⟨elts, q5⟩ := Option.isSome_iff_exists.mp hc4
        obtain ⟨kk, tp, e⟩ := asTup_ok q5
        exact ⟨elts, kk, tp, e⟩
      · cases hq
    · cases hq
  cases k with
  | z2 =>
    obtain ⟨a, r, p, pp, rfl, rfl, g, m, hn, ht⟩ := call "zip" 2 rfl q
    obtain ⟨elts, kk, tp, rfl⟩ := ht rfl
    match r, hn with
    | [b], _ =>
      have hp := and2 (show (plE a && (plE b && true)) = true from hl.2)
      exact ij_z2H C.hK g m he hp.1 (and2 hp.2).1
  | _ => cases hk
mutual
theorem sndE (P : Pg) : ∀ (d : E) {X : Cx} {T : Tb} {hot : Bool} {cf : Bool → Nat → List W → Hh → Rs W} {WO : WX'} {G : Gm} (C : Cxt X T P hot cf WO G) (e : Expr), chkE P G d e = true →
    EJ X T WO e (ev P hot (cf hot) false d) ∧ (tstOk d = true → TJ X T WO e (ev P hot (cf hot) true d))
  | .var i, X, T, hot, cf, WO, G, C, e, h => by
    unfold chkE at h
    split at h
    · rename_i x q
      obtain ⟨p, rfl⟩ := asNm_ok q
      obtain ⟨h1, h2, h3, h4⟩ := var_ok C h
      exact both C.hK (ej_var h1 h2 h3 h4) rfl fun _ _ => rfl
    · cases h
  | .non, X, T, hot, cf, WO, G, C, e, h => by
    obtain ⟨k, p, rfl⟩ := isCon_ok (show isCon .none e = true from h)
    exact both C.hK ej_non rfl fun _ _ => rfl
  | .tt b, X, T, hot, cf, WO, G, C, e, h => by
    obtain ⟨k, p, rfl⟩ := isCon_ok (show isCon (.bool b) e = true from h)
    exact both C.hK ej_bl rfl fun _ _ => rfl
  | .int i, X, T, hot, cf, WO, G, C, e, h => by
    obtain ⟨k, p, rfl⟩ := isCon_ok (show isCon (.int i) e = true from h)
    exact both C.hK ej_int rfl fun _ _ => rfl
  | .str x, X, T, hot, cf, WO, G, C, e, h => by
    obtain ⟨h12, h3⟩ := and2 (show (isCon (.str (mkS x)) e && x.all (fun c => decide (c < 1114112)) && decide (x.length ≤ big)) = true from h)
    obtain ⟨h1, h2⟩ := and2 h12
    obtain ⟨k, p, rfl⟩ := isCon_ok h1
    exact both C.hK (ej_str ⟨fun c hc => of_decide_eq_true (List.all_eq_true.mp h2 c hc), of_decide_eq_true h3⟩) rfl fun _ _ => rfl
  | .gl k, X, T, hot, cf, WO, G, C, e, h => by
    unfold chkE at h
    split at h
    · rename_i x q
      obtain ⟨p, rfl⟩ := asNm_ok q
      obtain ⟨h1, h2⟩ := and2 h
      obtain ⟨g, d, n⟩ := glI_ok C h2
      obtain ⟨w, u, v, e1, e2, e3, e4⟩ := C.gl k x (of_decide_eq_true h1)
      refine both C.hK ?_ rfl fun _ _ => rfl
      have e5 : ev P hot (cf hot) false (.gl k) = fun _ h => .ok w h := funext fun ρ => funext fun h => by
        show outW P.gl[k]? h = _
        rw [e1]
        rfl
      rw [e5]
      exact ej_of_tC (pe_glob g e2 e3 d) e4
    · cases h
  | .bin r o a b, X, T, hot, cf, WO, G, C, e, h => by
    unfold chkE at h
    split at h
    · rename_i x op y q
      obtain ⟨p, rfl⟩ := asBin_ok q
      obtain ⟨h12, h3⟩ := and2 h
      obtain ⟨h1, h2⟩ := and2 h12
      have h1 := of_decide_eq_true h1
      subst h1
      exact both C.hK (ej_op (bo_ok C.hK r o) (fun _ _ _ => nx_bin) (sndE P a C x h2).1 (sndE P b C y h3).1) rfl fun _ _ => rfl
    · cases h
  | .cmp o a b, X, T, hot, cf, WO, G, C, e, h => by
    unfold chkE at h
    split at h
    · rename_i x op y q
      obtain ⟨p, rfl⟩ := asCmp1_ok q
      obtain ⟨h12, h3⟩ := and2 h
      obtain ⟨h12, h2⟩ := and2 h12
      obtain ⟨h1, hp⟩ := and2 h12
      have h1 := of_decide_eq_true h1
      subst h1
      have ha := (sndE P a C x h2).1
      have hb := (sndE P b C y h3).1
      refine ⟨ej_cmp (g := fun a b h => outB (cmpO o a b h) h) (co_ok C.hK C.un o) (fun _ _ _ => nx_outB) ha hb (mark_pl hp), fun _ => ?_⟩
      exact tj_fin (tj_cmp (g := fun a b h => outB (cmpO o a b h) h) (co_ok C.hK C.un o) (fun _ _ _ => nx_outB) ha hb (mark_pl hp)) fun ρ h w h' q => bnd_last (fun _ _ _ _ q => bnd_last (fun _ _ _ _ => outB_bl) q) q
    · cases h
  | .chn o p a b c, X, T, hot, cf, WO, G, C, e, h => by
    unfold chkE at h
    split at h
    · rename_i x op y oq z q
      obtain ⟨pp, rfl⟩ := asCmp2_ok q
      obtain ⟨h1, h7⟩ := and2 h
      obtain ⟨h1, h6⟩ := and2 h1
      obtain ⟨h1, h5⟩ := and2 h1
      obtain ⟨h1, h4⟩ := and2 h1
      obtain ⟨h1, h3⟩ := and2 h1
      obtain ⟨h1, h2⟩ := and2 h1
      have h1 := of_decide_eq_true h1
      have h2 := of_decide_eq_true h2
      subst h1 h2
      have ha := (sndE P a C x h5).1
      have hb := (sndE P b C y h6).1
      have hc := (sndE P c C z h7).1
      refine ⟨ej_chn C.hK C.un o p ha hb hc h4, fun _ => ?_⟩
      exact tj_fin (tj_chn C.hK C.un o p ha hb hc h4) fun ρ h w h' q => bnd_last (fun _ _ _ _ q => bnd_last (fun _ _ _ _ => chR_bl) q) q
    · cases h
  | .neg a, X, T, hot, cf, WO, G, C, e, h => by
    unfold chkE at h
    split at h
    · rename_i op x q
      obtain ⟨p, rfl⟩ := asUn_ok q
      obtain ⟨h1, h2⟩ := and2 h
      have h1 := of_decide_eq_true h1
      subst h1
      exact both C.hK (ej_neg (sndE P a C x h2).1) rfl fun _ _ => rfl
    · cases h
  | .not a, X, T, hot, cf, WO, G, C, e, h => by
    unfold chkE at h
    split at h
    · rename_i op x q
      obtain ⟨p, rfl⟩ := asUn_ok q
      obtain ⟨h1, h2⟩ := and2 h
      have h1 := of_decide_eq_true h1
      subst h1
      have ha := sndE P a C x h2
      exact ⟨ej_not C.hK ha.1, fun ht => tj_not (ha.2 ht)⟩
    · cases h
  | .and a b, X, T, hot, cf, WO, G, C, e, h => by
    unfold chkE at h
    split at h
    · rename_i op x y q
      obtain ⟨w, ws, p, rfl, rfl⟩ := asBool_ok q
      obtain ⟨h12, h3⟩ := and2 h
      obtain ⟨h1, h2⟩ := and2 h12
      have h1 := of_decide_eq_true h1
      subst h1
      have ha := sndE P a C x h2
      have hb := sndE P b C _ h3
      cases ws with
      | nil => exact ⟨ej_and ha.1 (ej_one hb.1), fun ht => PW.pt (wj_and (ha.2 (and2 ht).1) (wj_and1 (hb.2 (and2 ht).2)))⟩
      | cons w2 ws =>
        refine ⟨ej_and ha.1 hb.1, fun ht => PW.pt (wj_and (ha.2 (and2 ht).1) ?_)⟩
        have hb2 := hb.2 (and2 ht).2
        refine ⟨fun wh pins s σ H Q I hw => ?_⟩
        exact hb2.run pins s σ H Q I hw
    · cases h
  | .or a b, X, T, hot, cf, WO, G, C, e, h => by
    unfold chkE at h
    split at h
    · rename_i op x y q
      obtain ⟨w, ws, p, rfl, rfl⟩ := asBool_ok q
      obtain ⟨h12, h3⟩ := and2 h
      obtain ⟨h1, h2⟩ := and2 h12
      have h1 := of_decide_eq_true h1
      subst h1
      have ha := sndE P a C x h2
      have hb := sndE P b C _ h3
      cases ws with
      | nil => exact ⟨ej_or ha.1 (ej_one hb.1), fun ht => PW.pt (wj_or (ha.2 (and2 ht).1) (wj_or1 (hb.2 (and2 ht).2)))⟩
      | cons w2 ws =>
        refine ⟨ej_or ha.1 hb.1, fun ht => PW.pt (wj_or (ha.2 (and2 ht).1) ?_)⟩
        have hb2 := hb.2 (and2 ht).2
        refine ⟨fun wh pins s σ H Q I hw => ?_⟩
        exact hb2.run pins s σ H Q I hw
    · cases h
  | .ite c a b, X, T, hot, cf, WO, G, C, e, h => by
    unfold chkE at h
    split at h
    · rename_i x y z q
      obtain ⟨p, rfl⟩ := asIf_ok q
      obtain ⟨h1, h4⟩ := and2 h
      obtain ⟨h1, h3⟩ := and2 h1
      obtain ⟨h1, h2⟩ := and2 h1
      exact ⟨ej_ite ((sndE P c C x h2).2 h1) (sndE P a C y h3).1 (sndE P b C z h4).1, fun ht => by cases ht⟩
    · cases h
  | .tup es, X, T, hot, cf, WO, G, C, e, h => by
    unfold chkE at h
    split at h
    · rename_i xs q
      obtain ⟨k, p, rfl⟩ := asTup_ok q
      exact both C.hK (ej_tup (sndEs P es C xs h)) rfl fun _ _ => rfl
    · cases h
  | .lst r es, X, T, hot, cf, WO, G, C, e, h => by
    unfold chkE at h
    split at h
    · rename_i xs q
      obtain ⟨p, rfl⟩ := asLst_ok q
      exact both C.hK (ej_lst (sndEs P es C xs h)) rfl fun _ _ => rfl
    · cases h
  | .call f es, X, T, hot, cf, WO, G, C, e, h => by
    unfold chkE at h
    split at h
    · rename_i y ps qf
      obtain ⟨fa, hm, pr⟩ := C.fn f y ps qf
      split at h
      · rename_i x xs q
        obtain ⟨a, r, p, pp, rfl, rfl⟩ := asCall_ok q
        obtain ⟨h1, h4⟩ := and2 h
        obtain ⟨h1, h3⟩ := and2 h1
        obtain ⟨h1, h2⟩ := and2 h1
        have h1 : x = y := of_decide_eq_true h1
        subst h1
        obtain ⟨g, d, n⟩ := glI_ok C h2
        obtain ⟨l1, l2⟩ := chkEs_len h4
        obtain ⟨l3, l4⟩ := and2 (show (plE a && r.all plE) = true by rw [← List.all_cons]; exact l2)
        exact both C.hK (ej_call (pr.call C) g hm pr.kp d (sndEs P es C _ h4) l3 l4 (of_decide_eq_true h3) fun ρ h ws h' q => by rw [evs_len P hot (cf hot) es ρ h ws h' q, l1]) rfl fun _ _ => rfl
      · split at h
        · rename_i x ks q
          obtain ⟨p, pp, rfl⟩ := asCallK_ok q
          obtain ⟨h1, h4⟩ := and2 h
          obtain ⟨h1, h3⟩ := and2 h1
          obtain ⟨h1, h2⟩ := and2 h1
          have h1 : x = y := of_decide_eq_true h1
          subst h1
          obtain ⟨g, d, n⟩ := glI_ok C h2
          have h3 := of_decide_eq_true h3
          have lk := sndKs P es C ks h4
          exact both C.hK (ej_callK (pr.call C) g hm pr.kp d lk.1 h3 fun ρ h ws h' q => by
            rw [evs_len P hot (cf hot) es ρ h ws h' q, lk.2]
            have := congrArg List.length h3
            simpa using this) rfl fun _ _ => rfl
        · cases h
    · cases h
  | .blt b es, X, T, hot, cf, WO, G, C, e, h => by
    unfold chkE at h
    split at h
    · rename_i x xs q
      obtain ⟨a, r, p, pp, rfl, rfl⟩ := asCall_ok q
      obtain ⟨h1, h4⟩ := and2 h
      obtain ⟨h1, h2⟩ := and2 h1
      have h1 : x = biNm b := of_decide_eq_true h1
      subst h1
      obtain ⟨g, m, d, n⟩ := bi_ok C h2
      obtain ⟨l1, l2⟩ := chkEs_len h4
      obtain ⟨l3, l4⟩ := and2 (show (plE a && r.all plE) = true by rw [← List.all_cons]; exact l2)
      exact both C.hK (ej_blt C.hK (fun z => (C.cold z).1) b g m (bi_boot b) (sndEs P es C _ h4) n d l3 l4) rfl fun _ _ => rfl
    · cases h
  | .mth m o es, X, T, hot, cf, WO, G, C, e, h => by
    unfold chkE at h
    split at h
    · rename_i x nm xs q
      obtain ⟨a, r, p, pp, rfl, rfl, hl⟩ := asMth_ok q
      obtain ⟨h1, h5⟩ := and2 h
      obtain ⟨h1, h4⟩ := and2 h1
      obtain ⟨h1, h3⟩ := and2 h1
      obtain ⟨h1, h2⟩ := and2 h1
      obtain ⟨l1, l2⟩ := chkEs_len h5
      obtain ⟨l3, l4⟩ := and2 (show (plE a && r.all plE) = true by rw [← List.all_cons]; exact l2)
      have h3 : r.length + 1 < 5 := of_decide_eq_true h3
      have hu : X.A.units + 1 < cLine := by have := C.un; omega
      exact both C.hK (ej_mth C.hK hu m (of_decide_eq_true h1) (sndE P o C x h4).1 (sndEs P es C _ h5) h2 l3 l4 (by omega) hl) rfl fun _ _ => rfl
    · cases h
  | .ix a i, X, T, hot, cf, WO, G, C, e, h => by
    unfold chkE at h
    split at h
    · rename_i x y q
      obtain ⟨p, rfl⟩ := asIx_ok q
      obtain ⟨h12, h3⟩ := and2 h
      obtain ⟨h1, h2⟩ := and2 h12
      have hu : X.A.units + 1 < cLine := by have := C.un; omega
      exact both C.hK (ej_ix C.hK hu (sndE P a C x h2).1 (sndE P i C y h3).1 h1) rfl fun _ _ => rfl
    · cases h
  | .sln r a, X, T, hot, cf, WO, G, C, e, h => by
    unfold chkE at h
    split at h
    · rename_i x q
      obtain ⟨p, pp, rfl⟩ := asSl_ok q
      exact both C.hK (ej_sln C.hK r (sndE P a C x h).1) rfl fun _ _ => rfl
    · cases h
  | .slf r a lo, X, T, hot, cf, WO, G, C, e, h => by
    unfold chkE at h
    split at h
    · rename_i x y q
      obtain ⟨p, pp, rfl⟩ := asSl_ok q
      obtain ⟨h1, h2⟩ := and2 h
      exact both C.hK (ej_slf C.hK r (sndE P a C x h1).1 (sndE P lo C y h2).1) rfl fun _ _ => rfl
    · cases h
  | .slt r a hi, X, T, hot, cf, WO, G, C, e, h => by
    unfold chkE at h
    split at h
    · rename_i x y q
      obtain ⟨p, pp, rfl⟩ := asSl_ok q
      obtain ⟨h1, h2⟩ := and2 h
      exact both C.hK (ej_slt C.hK r (sndE P a C x h1).1 (sndE P hi C y h2).1) rfl fun _ _ => rfl
    · cases h
  | .slb r a lo hi, X, T, hot, cf, WO, G, C, e, h => by
    unfold chkE at h
    split at h
    · rename_i x y z q
      obtain ⟨p, pp, rfl⟩ := asSl_ok q
      obtain ⟨h12, h3⟩ := and2 h
      obtain ⟨h1, h2⟩ := and2 h12
      exact both C.hK (ej_slb C.hK r (sndE P a C x h1).1 (sndE P lo C y h2).1 (sndE P hi C z h3).1) rfl fun _ _ => rfl
    · cases h
  | .rev a, X, T, hot, cf, WO, G, C, e, h => by
    unfold chkE at h
    split at h
    · rename_i x q
      obtain ⟨k, p1, p2, p3, pp, rfl⟩ := asRev_ok q
      exact both C.hK (ej_rev C.hK (sndE P a C x h).1) rfl fun _ _ => rfl
    · cases h
  | .isi a ts, X, T, hot, cf, WO, G, C, e, h => by
    unfold chkE at h
    split at h
    · rename_i x y z q
      obtain ⟨a0, r0, p, pp, el, rfl⟩ := asCall_ok q
      cases el
      obtain ⟨h1, h5⟩ := and2 h
      obtain ⟨h1, h4⟩ := and2 h1
      obtain ⟨h1, h3⟩ := and2 h1
      obtain ⟨h1, h2⟩ := and2 h1
      have h1 : x = "isinstance" := of_decide_eq_true h1
      subst h1
      obtain ⟨g, m, d, n⟩ := bi_ok C h2
      have ha := (sndE P a C y h4).1
      have hv : bootBuiltins "isinstance" = some (.builtin "isinstance") := by decide +kernel
      have tup : ∀ ts : List Ty, ts ≠ [] → ts.length ≤ 100 → (match asTup z with
          | some zs => chkTys G ts zs
          | none => false) = true → EJ X T WO (.Call (.Name "isinstance" p) [y, z] [] pp) fun ρ h => (ev P hot (cf hot) false a ρ h).bnd fun x h => outB (tysO h P.sub x ts) h := by
        intro ts hne hle hz
        split at hz
        · rename_i zs q2
          obtain ⟨k2, p2, rfl⟩ := asTup_ok q2
          obtain ⟨t1, t2⟩ := chkTys_ok C ts zs hz
          exact ej_isiT C.hK t2 hne hle g m hv n d ha h3 t1
        · cases hz
      refine both C.hK ?_ rfl fun _ _ => rfl
      split at h5
      · rename_i t
        rw [Bool.or_eq_true] at h5
        rcases h5 with h5 | h5
        · obtain ⟨t1, t2⟩ := chkTy_ok C h5
          exact ej_isi1 C.hK t2 g m hv n d ha h3 t1
        · exact tup [t] (by simp) (by simp) h5
      · obtain ⟨h5, h6⟩ := and2 h5
        obtain ⟨h5, h7⟩ := and2 h5
        exact tup ts (of_decide_eq_true h5) (of_decide_eq_true h7) h6
    · cases h
  | .xfl i f, X, T, hot, cf, WO, G, C, e, h => by
    unfold chkE at h
    split at h
    · rename_i o n q
      obtain ⟨p, rfl⟩ := asAtt_ok q
      split at h
      · rename_i x q2
        obtain ⟨p2, rfl⟩ := asNm_ok q2
        obtain ⟨h1, h2⟩ := and2 h
        obtain ⟨v1, v2, v3, v4⟩ := var_ok C h1
        have hn := C.fld f n (of_decide_eq_true h2)
        have := ej_xfl (X := X) (T := T) (WO := WO) (i := i) (f := f) (pos := p) (p := p2) C.hK v1 v2 v3 v4 hn fun c hc => by
          obtain ⟨x1, x2⟩ := C.xf c f hc
          rw [hn] at x2
          exact ⟨x1, x2⟩
        rw [C.pay] at this
        exact both C.hK this rfl fun _ _ => rfl
      · cases h
    · cases h
  | .xis i cs, X, T, hot, cf, WO, G, C, e, h => by
    unfold chkE at h
    split at h
    · rename_i x y z q
      obtain ⟨a0, r0, p, pp, el, rfl⟩ := asCall_ok q
      cases el
      obtain ⟨h1, h5⟩ := and2 h
      obtain ⟨h1, h4⟩ := and2 h1
      obtain ⟨h1, h2⟩ := and2 h1
      have h1 : x = "isinstance" := of_decide_eq_true h1
      subst h1
      obtain ⟨g, m, d, n⟩ := bi_ok C h2
      have hv : bootBuiltins "isinstance" = some (.builtin "isinstance") := by decide +kernel
      split at h4
      · rename_i v q2
        obtain ⟨p2, rfl⟩ := asNm_ok q2
        obtain ⟨v1, v2, v3, v4⟩ := var_ok C h4
        refine both C.hK ?_ rfl fun _ _ => rfl
        split at h5
        · rename_i c
          obtain ⟨hb, h6⟩ := and2 (show (decide (c < P.nx) && (match asNm z with
            | some x => decide (G.t.cl[c]? = some x) && G.glI x
            | none => false)) = true from h5)
          split at h6
          · rename_i w q3
            obtain ⟨p3, rfl⟩ := asNm_ok q3
            obtain ⟨hx, hg⟩ := and2 h6
            obtain ⟨g2, d2, n2⟩ := glI_ok C hg
            exact ej_xis1 g m hv n d v1 v2 v3 v4 C.xt (of_decide_eq_true hb) g2 (C.cl c w (of_decide_eq_true hx)) d2
          · cases h6
        · obtain ⟨h9, h6⟩ := and2 h5
          clear h5
          split at h6
          · rename_i zs q3
            obtain ⟨k3, p3, rfl⟩ := asTup_ok q3
            obtain ⟨t1, t2⟩ := chkCls_ok C cs zs h6
            exact ej_xisT g m hv n d v1 v2 v3 v4 C.xt t2 (of_decide_eq_true h9) t1
          · cases h6
      · cases h4
    · cases h
  | .lc r elt tg k its ifs vs, X, T, true, cf, WO, G, C, e, h => by
    by_cases hk0 : hotK k = true
    · unfold chkE at h
      split at h
      · rename_i ee tt it fs sc q
        obtain ⟨p, rfl⟩ := asLc_ok q
        split at h
        · rename_i es qi
          obtain ⟨h1, h8⟩ := and2 h
          obtain ⟨h1, h7⟩ := and2 h1
          obtain ⟨h1, h6⟩ := and2 h1
          obtain ⟨h1, h5⟩ := and2 h1
          obtain ⟨h1, h4⟩ := and2 h1
          obtain ⟨h1, h3⟩ := and2 h1
          obtain ⟨h1, h2⟩ := and2 h1
          have hes := sndEs P its C es h3
          have hl := chkEs_len h3
          have hIt : IJH X T WO tt it fun ρ h => (evs P true (cf true) its ρ h).bnd fun ws h => ivR (ivC h k ws) h := sndItH C qi hes hk0 hl
          have hN : (ownOf G.N vs).map (·.2) = vs := by
            unfold ownOf
            rw [List.map_map]
            exact List.map_id _
          have hblk : BlkOk X.N X.env.scope sc (ownOf G.N vs) := by
            rw [C.N, C.sc]
            exact blkOk_by h1
          have hk : sc.kind = .function := hblk.kind
          have hlc := ej_lcH (pos := p) (WO := WO) (fi := fun ws h => ivC h k ws) (gt := asgN tg) (ts := tgS tg) (gf := evi P true (cf true) ifs) (ge := ev P true (cf true) false elt) (gi := evs P true (cf true) its) (C.warm rfl) r (by rw [C.N]; exact C.nd) hblk hIt (by rw [hN]; exact of_decide_eq_true h5)
            (fun s H C0 cl fp => sndTg (C.blkH hk s H C0 cl fp) tg tt h4)
            (fun s H C0 cl fp => sndFs P ifs (C.blkH hk s H C0 cl fp) fs h7 (of_decide_eq_true h6))
            (fun s H C0 cl fp => (sndE P elt (C.blkH hk s H C0 cl fp) ee h8).1) h2
          rw [hN] at hlc
          have ee1 : (true && !hotK k) = false := by rw [hk0]; rfl
          refine both C.hK (PE.imp hlc fun σ H Q ⟨L, h, ρ, R, E, k1⟩ => ⟨L, h, ρ, R, E, ?_⟩) rfl fun _ _ => rfl
          have k1 : PoG T (RV T) (WE WO σ) L H (if (true && !hotK k) = true then .bad else lcR r (evs P true (cf true) its) (fun ws h => ivC h k ws) (asgN tg) (evi P true (cf true) ifs) (ev P true (cf true) false elt) vs ρ h) Q := k1
          rw [ee1] at k1
          exact k1
        · cases h
      · cases h
    have hbad : ∀ t ρ h, ev P true (cf true) t (.lc r elt tg k its ifs vs) ρ h = fin t .bad := fun t ρ h => by
      show fin t (if true && !hotK k then .bad else _) = _
      have e1 : (true && !hotK k) = true := by rw [Bool.eq_false_iff.mpr hk0]; rfl
      rw [e1]
      rfl
    refine ⟨⟨fun pins s σ H Q I ⟨L, h, ρ, R, E, k⟩ => ?_⟩, fun _ => ⟨fun pins s σ H Q I ⟨L, h, ρ, R, E, k⟩ => ?_⟩⟩
    · rw [hbad] at k
      exact k.elim
    · rw [hbad] at k
      exact k.elim
  | .lc r elt tg k its ifs vs, X, T, false, cf, WO, G, C, e, h => by
    unfold chkE at h
    split at h
    · rename_i ee tt it fs sc q
      obtain ⟨p, rfl⟩ := asLc_ok q
      split at h
      · rename_i es qi
        obtain ⟨h1, h8⟩ := and2 h
        obtain ⟨h1, h7⟩ := and2 h1
        obtain ⟨h1, h6⟩ := and2 h1
        obtain ⟨h1, h5⟩ := and2 h1
        obtain ⟨h1, h4⟩ := and2 h1
        obtain ⟨h1, h3⟩ := and2 h1
        obtain ⟨h1, h2⟩ := and2 h1
        have hes := sndEs P its C es h3
        have hl := chkEs_len h3
        have hIt : IJ X T WO tt it fun ρ h => (evs P false (cf false) its ρ h).bnd fun ws h => ivR (ivC h k ws) h := sndIt C qi hes (fun d e' hd he' => by
          subst hd he'
          exact ⟨(sndE P d C e' (and2 (and2 h3).1).2).1, trivial⟩) hl
        have hN : (ownOf G.N vs).map (·.2) = vs := by
          unfold ownOf
          rw [List.map_map]
          exact List.map_id _
        have hblk : BlkOk X.N X.env.scope sc (ownOf G.N vs) := by
          rw [C.N, C.sc]
          exact blkOk_by h1
        have hk : sc.kind = .function := hblk.kind
        have hfs := fun (s : Shared) (H : Hp) (C0 : Addr) (cl : List (Str × Addr)) (fp : List Addr) => sndFs P ifs (C.blk hk s H C0 cl fp) fs h7 (of_decide_eq_true h6)
        have hlc := ej_lc (pos := p) (WO := WO) (fi := fun ws h => ivC h k ws) (gt := asgN tg) (ts := tgS tg) (gf := evi P false (cf false) ifs) (ge := ev P false (cf false) false elt) (gi := evs P false (cf false) its) (C.cold rfl).1 r (by rw [C.N]; exact C.nd) hblk hIt (by rw [hN]; exact of_decide_eq_true h5)
          (fun s H C0 cl fp => sndTg (C.blk hk s H C0 cl fp) tg tt h4)
          (fun s H C0 cl fp => by
            have := hfs s H C0 cl fp
            rw [show px (X.blk s H sc (compEnvC sc cl C0 X.env) fp) = [] from px_calm (C.cold rfl).1] at this
            exact this)
          (fun s H C0 cl fp => (sndE P elt (C.blk hk s H C0 cl fp) ee h8).1) h2
        rw [hN] at hlc
        exact both C.hK hlc rfl fun _ _ => rfl
      · cases h
    · cases h
  | .dct _ _, _, _, _, _, _, _, _, _, h => by cases h
  | .omt _ _ _ _, _, _, _, _, _, _, _, _, h => by cases h
  | .fld _ _, _, _, _, _, _, _, _, _, h => by cases h
  | .prp _ _ _, _, _, _, _, _, _, _, _, h => by cases h
  | .mk _ _ _, _, _, _, _, _, _, _, _, h => by cases h
  | .frz _, _, _, _, _, _, _, _, _, h => by cases h
  | .lc2 _ _ _ _ _ _ _ _ _ _ _ _, _, _, _, _, _, _, _, _, h => by cases h
theorem sndEs (P : Pg) : ∀ (ds : List E) {X : Cx} {T : Tb} {hot : Bool} {cf : Bool → Nat → List W → Hh → Rs W} {WO : WX'} {G : Gm} (C : Cxt X T P hot cf WO G) (es : List Expr), chkEs P G ds es = true → AJ X T WO es (evs P hot (cf hot) ds)
  | [], X, T, hot, cf, WO, G, C, [], _ => aj_nil
  | [], _, _, _, _, _, _, _, _ :: _, h => by cases h
  | _ :: _, _, _, _, _, _, _, _, [], h => by cases h
  | d :: ds, X, T, hot, cf, WO, G, C, e :: es, h => by
    obtain ⟨h12, h3⟩ := and2 (show (plE e && chkE P G d e && chkEs P G ds es) = true from h)
    obtain ⟨h1, h2⟩ := and2 h12
    exact aj_cons (sndE P d C e h2).1 (sndEs P ds C es h3) h1
theorem sndFs (P : Pg) : ∀ (ds : List E) {X : Cx} {T : Tb} {hot : Bool} {cf : Bool → Nat → List W → Hh → Rs W} {WO : WX'} {G : Gm} (C : Cxt X T P hot cf WO G) (es : List Expr), chkFs P G ds es = true → es.length ≤ 1 → PTs X es (rT T (px X) WO (evi P hot (cf hot) ds))
  | [], X, T, hot, cf, WO, G, C, [], _, _ => ⟨fun pins s σ H Q I ⟨L, h, ρ, R, E, k⟩ => pts_nil.run pins s σ H Q I (by
      have k : PoG T RB (WE WO σ) L H (.ok true h) Q := k
      exact k.now R rfl)⟩
  | [], _, _, _, _, _, _, _, _ :: _, h, _ => by cases h
  | _ :: _, _, _, _, _, _, _, _, [], h, _ => by cases h
  | [d], X, T, hot, cf, WO, G, C, [e], h, _ => by
    obtain ⟨h12, h3⟩ := and2 (show (tstOk d && chkE P G d e && chkFs P G [] []) = true from h)
    obtain ⟨h1, h2⟩ := and2 h12
    have ht := (sndE P d C e h2).2 h1
    refine ⟨fun pins s σ H Q I ⟨L, h, ρ, R, E, k⟩ => (pts_one ht).run pins s σ H Q I ⟨L, h, ρ, R, E, ?_⟩⟩
    have k : PoG T RB (WE WO σ) L H (((ev P hot (cf hot) true d ρ h).bnd fun c h => match c with
      | .bl true => .ok (.bl true) h
      | .bl false => .ok (.bl false) h
      | _ => .bad).bnd toB) Q := k
    cases q : ev P hot (cf hot) true d ρ h with
    | ok w h1 =>
      rw [q] at k
      cases w with
      | bl c => cases c <;> exact k
      | _ => exact k.elim
    | exc c p h1 => rw [q] at k; exact k
    | bad => rw [q] at k; exact k
  | _ :: _ :: _, _, _, _, _, _, _, _, [_], h, _ => by
    obtain ⟨_, h3⟩ := and2 h
    cases h3
  | [_], _, _, _, _, _, _, _, _ :: _ :: _, h, _ => by
    obtain ⟨_, h3⟩ := and2 h
    cases h3
  | _ :: _ :: _, _, _, _, _, _, _, _, _ :: _ :: _, _, hl => absurd hl (by simp)
theorem sndKs (P : Pg) : ∀ (ds : List E) {X : Cx} {T : Tb} {hot : Bool} {cf : Bool → Nat → List W → Hh → Rs W} {WO : WX'} {G : Gm} (C : Cxt X T P hot cf WO G) (es : List Keyword), chkKs P G ds es = true → KJ X T WO es (evs P hot (cf hot) ds) ∧ ds.length = es.length
  | [], X, T, hot, cf, WO, G, C, [], _ => ⟨kj_nil, rfl⟩
  | [], _, _, _, _, _, _, _, _ :: _, h => by cases h
  | _ :: _, _, _, _, _, _, _, _, [], h => by cases h
  | d :: ds, X, T, hot, cf, WO, G, C, ⟨n, e, p⟩ :: es, h => by
    obtain ⟨h1, h2⟩ := and2 (show (chkE P G d e && chkKs P G ds es) = true from h)
    obtain ⟨i1, i2⟩ := sndKs P ds C es h2
    exact ⟨kj_cons (sndE P d C e h1).1 i1, by rw [List.length_cons, List.length_cons, i2]⟩
end
end LP
/-! LP, part 25: statements: the checker, right. -/
namespace LP
open L2 PySem PySem.Spec PyProof.Rows
def asAs : Stmt → Option (Expr × Expr × Nat)
  | .Assign [t] v p => some (t, v, p.line)
  | _ => none
def asNms : List Expr → Option (List (Str × Nat))
  | [] => some []
  | .Name x p :: r => (match asNms r with
    | some l => some ((x, p.line) :: l)
    | none => none)
  | _ :: _ => none
mutual
def chkTt (P : Pg) (G : Gm) : Tt → Expr → Bool
  | .nm i, e => (match asNm e with
    | some x => G.st i x
    | none => false)
  | .ix a i, e => (match asIx e with
    | some (x, y) => plE y && chkE P G a x && chkE P G i y
    | none => false)
  | .fd _ _, _ => false
  | .tp ts, e => (match asTup e with
    | some es => chkTts P G ts es
    | none => false)
def chkTts (P : Pg) (G : Gm) : List Tt → List Expr → Bool
  | [], [] => true
  | t :: ts, e :: es => chkTt P G t e && chkTts P G ts es
  | _, _ => false
end
/-- name = [..] on one line -/
def swB (x : Str) (ln : Nat) : Expr → Bool
  | .ListComp _ _ sc p => (ln == p.line) && !(sc.names.any fun (n, k) => n == x && (k == .local || k == .cell))
  | _ => false
def asRai : Stmt → Option (Str × Expr)
  | .Raise (some (.Call (.Name x _) [a] [] _)) none _ => some (x, a)
  | _ => none
def asTry : Stmt → Option (List Stmt × Str × Str × List Stmt)
  | .Try body [.ExceptHandler (some (.Name x _)) (some n) (b :: s) _] [] [] _ => some (body, x, n, b :: s)
  | _ => none
def asIfS : Stmt → Option (Expr × List Stmt × List Stmt)
  | .If c a b _ => some (c, a, b)
  | _ => none
def asWh : Stmt → Option (Expr × List Stmt)
  | .While c b [] _ => some (c, b)
  | _ => none
def asFo : Stmt → Option (Expr × Expr × List Stmt)
  | .For t i b [] _ => some (t, i, b)
  | _ => none
def asRet : Stmt → Option (Option Expr)
  | .Return o _ => some o
  | _ => none
def asEx : Stmt → Option Expr
  | .Expr e _ => some e
  | _ => none
def isPass : Stmt → Bool
  | .Pass _ => true
  | _ => false
def isBrk : Stmt → Bool
  | .Break _ => true
  | _ => false
def isCnt : Stmt → Bool
  | .Continue _ => true
  | _ => false
def coldL : E → Bool
  | .lc _ _ _ k _ _ _ => !hotK k
  | _ => true
mutual
def chkS (P : Pg) (G : Gm) : S → Stmt → Bool
  | .set i e, st => (match asAs st with
    | some (.Name x p, v, _) => chkE P G e v && ((ncE v && G.st i x) || (swB x p.line v && G.loc i x && coldL e))
    | _ => false)
  | .asg t e, st => (match asAs st with
    | some (u, v, _) => ncE v && (asTup v).isNone && chkTt P G t u && chkE P G e v
    | none => false)
  | .par is es, st => (match asAs st with
    | some (.Tuple us _ _, .Tuple vs _ _, _) => (match is, asNms us, vs with
      | [i, j], some [(x, l1), (y, l2)], [a, b] => G.loc i x && G.loc j y && (l2 == l1) && !(x == y) && !([a, b].all (foldedForSure 8)) && !([a, b].all (constantsAlone 8)) && chkEs P G es [a, b]
      | [i, j, k], some [(x, l1), (y, l2), (z, l3)], [a, b, c] => G.loc i x && G.loc j y && G.loc k z && (l2 == l1) && (l3 == l1) && !(x == y) && !(x == z) && !(y == z) && !([a, b, c].all (foldedForSure 8)) && !([a, b, c].all (constantsAlone 8)) && chkEs P G es [a, b, c]
      | _, _, _ => false)
    | _ => false)
  | .exp e, st => (match asEx st with
    | some v => ncE v && chkE P G e v
    | none => false)
  | .ret e, st => (match asRet st with
    | some (some v) => chkE P G e v
    | _ => false)
  | .rtn, st => (match asRet st with
    | some none => true
    | _ => false)
  | .iff c a b, st => (match asIfS st with
    | some (x, y, z) => tstOk c && chkE P G c x && chkSs P G a y && chkSs P G b z
    | none => false)
  | .whl c b, st => (match asWh st with
    | some (x, y) => tstOk c && chkE P G c x && chkSs P G b y
    | none => false)
  | .fo tg k its b, st => (match asFo st with
    | some (t, i, y) => (match chkIt G k t i with
      | some es => plE i && chkEs P G its es && chkTg G tg t && chkSs P G b y
      | none => false)
    | none => false)
  | .pass, st => isPass st
  | .brk, st => isBrk st
  | .cnt, st => isCnt st
  | .rai c e, st => (match asRai st with
    | some (x, a) => decide (c < P.nx) && decide (G.t.cl[c]? = some x) && G.glI x && plE a && (P.pay c).isSome && chkE P G e a
    | none => false)
  | .rai0 _, _ => false
  | .tra b c i s, st => (match asTry st with
    | some (y, x, n, z) => decide (c < P.nx) && decide (G.t.cl[c]? = some x) && G.glI x && G.loc i n && chkSs P G b y && chkSs P G s z
    | none => false)
termination_by structural s => s
def chkSs (P : Pg) (G : Gm) : List S → List Stmt → Bool
  | [], [] => true
  | d :: ds, s :: ss => chkS P G d s && chkSs P G ds ss
  | _, _ => false
termination_by structural s => s
end
/-- a def's body -/
structure CxtS (X : Cx) (T : Tb) (P : Pg) (hot : Bool) (cf : Bool → Nat → List W → Hh → Rs W) (WO : WX') (G : Gm) : Prop extends Cxt X T P hot cf WO G where
  stk : X.stack = X.env :: X.outer
  frm : X.env.frame = some X.env.locals
  po : PassesOwn (model X.prog X.w) X.A X.env X.xe
  xm : ∀ d c, d < P.nx → c < P.nx → PySem.W.exmOne X.K (.ref (T.cA d)) (.ref (T.cA c)) = some (P.sub d c)
  er : ∀ c f, P.pay c = some f → ∃ fI cc cda p qual, ErrTxt X.K X.prog.main.file (T.cA c) fI cc cda p (T.fN f) qual
  top : (X.prog.main.scope.names.lookup ("super" : Str)).isSome = false
section
variable {X : Cx} {T : Tb} {P : Pg} {hot : Bool} {cf : Bool → Nat → List W → Hh → Rs W} {WO : WX'} {G : Gm}
theorem loc_ok (C : Cxt X T P hot cf WO G) {i : Nat} {x : Str} (h : G.loc i x = true) : X.N[i]? = some x ∧ X.env.scope.names.lookup x = some .local := by
  obtain ⟨h, h3⟩ := and2 h
  obtain ⟨h1, h2⟩ := and2 h
  exact ⟨by rw [C.N]; exact of_decide_eq_true h2, by rw [C.sc]; exact of_decide_eq_true h3⟩
theorem asAs_ok {st : Stmt} {t v : Expr} {n : Nat} (h : asAs st = some (t, v, n)) : ∃ p, st = .Assign [t] v p ∧ n = p.line := by
  unfold asAs at h
  split at h
  · cases h; exact ⟨_, rfl, rfl⟩
  · cases h
theorem asRai_ok {st : Stmt} {x : Str} {a : Expr} (h : asRai st = some (x, a)) : ∃ p q r, st = .Raise (some (.Call (.Name x p) [a] [] q)) none r := by
  unfold asRai at h
  split at h
  · cases h; exact ⟨_, _, _, rfl⟩
  · cases h
theorem asTry_ok {st : Stmt} {x n : Str} {b z : List Stmt} (h : asTry st = some (b, x, n, z)) : ∃ p q r b0 s, z = b0 :: s ∧ st = .Try b [.ExceptHandler (some (.Name x p)) (some n) (b0 :: s) q] [] [] r := by
  unfold asTry at h
  split at h
  · cases h; exact ⟨_, _, _, _, _, rfl, rfl⟩
  · cases h
theorem asIfS_ok {st : Stmt} {c : Expr} {a b : List Stmt} (h : asIfS st = some (c, a, b)) : ∃ p, st = .If c a b p := by
  unfold asIfS at h
  split at h
  · cases h; exact ⟨_, rfl⟩
  · cases h
theorem asWh_ok {st : Stmt} {c : Expr} {b : List Stmt} (h : asWh st = some (c, b)) : ∃ p, st = .While c b [] p := by
  unfold asWh at h
  split at h
  · cases h; exact ⟨_, rfl⟩
  · cases h
theorem asFo_ok {st : Stmt} {t i : Expr} {b : List Stmt} (h : asFo st = some (t, i, b)) : ∃ p, st = .For t i b [] p := by
  unfold asFo at h
  split at h
  · cases h; exact ⟨_, rfl⟩
  · cases h
theorem asRet_ok {st : Stmt} {o : Option Expr} (h : asRet st = some o) : ∃ p, st = .Return o p := by
  unfold asRet at h
  split at h
  · cases h; exact ⟨_, rfl⟩
  · cases h
theorem asEx_ok {st : Stmt} {e : Expr} (h : asEx st = some e) : ∃ p, st = .Expr e p := by
  unfold asEx at h
  split at h
  · cases h; exact ⟨_, rfl⟩
  · cases h
/-! ### targets -/
def plR (r : Rf) : Prop := match r with
  | .rt _ _ => False
  | .bk _ _ => False
  | .ct _ _ => False
  | _ => True
theorem pl_rf {r : Rs W} {ρ : Env} {f : W → Hh → Rf} (hf : ∀ w h, plR (f w h)) : plR (r.rf ρ f) := by
  cases r with
  | ok w h => exact hf w h
  | exc _ _ _ => trivial
  | bad => trivial
theorem pl_nxt {r : Rf} {f : Env → Hh → Rf} (h : plR r) (hf : ∀ ρ h, plR (f ρ h)) : plR (r.nxt f) := by
  cases r with
  | nx ρ h1 => exact hf ρ h1
  | _ => exact h
mutual
theorem asgT_pl (P : Pg) (hot : Bool) (cf : Nat → List W → Hh → Rs W) : ∀ (d : Tt) (w : W) (ρ : Env) (h : Hh), plR (asgT P hot cf d w ρ h)
  | .nm i, w, ρ, h => trivial
  | .ix a i, w, ρ, h => pl_rf fun x h => pl_rf fun y h => by
      cases setO h x y w <;> trivial
  | .fd a f, w, ρ, h => pl_rf fun x h => by
      cases setF h x f w <;> trivial
  | .tp ts, w, ρ, h => by
    cases w with
    | tup xs =>
      show plR (if hot || !(xs.length == ts.length) then .bad else asgTs P hot cf ts xs ρ h)
      split
      · trivial
      · exact asgTs_pl P hot cf ts xs ρ h
    | _ => trivial
theorem asgTs_pl (P : Pg) (hot : Bool) (cf : Nat → List W → Hh → Rs W) : ∀ (ds : List Tt) (ws : List W) (ρ : Env) (h : Hh), plR (asgTs P hot cf ds ws ρ h)
  | [], [], ρ, h => trivial
  | [], _ :: _, _, _ => trivial
  | _ :: _, [], _, _ => trivial
  | d :: ds, w :: ws, ρ, h => pl_nxt (asgT_pl P hot cf d w ρ h) fun ρ h => asgTs_pl P hot cf ds ws ρ h
end
mutual
theorem sndTt (C : Cxt X T P hot cf WO G) : ∀ (d : Tt) (e : Expr), chkTt P G d e = true → GJ X T WO e (asgT P hot (cf hot) d) ∧ ∀ es : List Expr, assignEach (e :: es) X.env = (false, assign e X.env) :: assignEach es X.env
  | .nm i, e, h => by
    unfold chkTt at h
    split at h
    · rename_i x q
      obtain ⟨p, rfl⟩ := asNm_ok q
      obtain ⟨h1, h2, h3⟩ := st_ok C h
      exact ⟨gj_nm (by rw [C.N]; exact C.nd) h1 h2 h3, fun _ => rfl⟩
    · cases h
  | .ix a i, e, h => by
    unfold chkTt at h
    split at h
    · rename_i x y q
      obtain ⟨p, rfl⟩ := asIx_ok q
      obtain ⟨h12, h3⟩ := and2 h
      obtain ⟨h1, h2⟩ := and2 h12
      have hu : X.A.units + 1 < cLine := by have := C.un; omega
      refine ⟨gj_ix hu (sndE P a C x h2).1 (sndE P i C y h3).1 fun v => ?_, fun _ => rfl⟩
      cases y <;> first | rfl | cases h1
    · cases h
  | .fd _ _, e, h => by cases h
  | .tp ts, e, h => by
    unfold chkTt at h
    split at h
    · rename_i es q
      obtain ⟨k, p, rfl⟩ := asTup_ok q
      obtain ⟨h1, h2, h3, h4⟩ := sndTts C ts es h
      refine ⟨?_, fun _ => rfl⟩
      cases hh : hot with
      | true =>
        refine ⟨fun pins s σ H v u Q I r ⟨L, h, ρ, w, R, E, rv, k⟩ => ?_⟩
        cases w <;> exact k.elim
      | false =>
        have hc := (C.cold hh).1
        subst hh
        have h1' : GsJ X T WO es fun ws ρ h => if !(ws.length == es.length) then .bad else asgTs P false (cf false) ts ws ρ h := PGs.imp h1 fun v σ H Q ⟨L, h, ρ, w, R, E, rv, k⟩ => ⟨L, h, ρ, w, R, E, rv, by
          dsimp only at k
          split at k
          · exact k.elim
          · exact k⟩
        refine PG.imp (gj_tp (n := es.length) C.hK hc h1' h2 h3 fun ws ρ h hl => ?_) fun v σ H Q ⟨L, h, ρ, w, R, E, rv, k⟩ => ⟨L, h, ρ, w, R, E, rv, ?_⟩
        · rw [if_pos (by simpa using hl)]
        · cases w with
          | tup xs =>
            have k : PoS T (px X) WO L H (if false || !(xs.length == ts.length) then .bad else asgTs P false (cf false) ts xs ρ h) { nx := Q, rt := fun _ _ => False } := k
            rw [h4, Bool.false_or] at k
            exact k
          | _ => exact k
    · cases h
theorem sndTts (C : Cxt X T P hot cf WO G) : ∀ (ds : List Tt) (es : List Expr), chkTts P G ds es = true → GsJ X T WO es (asgTs P hot (cf hot) ds) ∧ (assignEach es X.env).length = es.length ∧ (assignEach es X.env).findIdx? (·.1) = none ∧ ds.length = es.length
  | [], [], _ => by
    refine ⟨PGs.imp (gsj_nil (T := T) (WO := WO)) fun v σ H Q ⟨L, h, ρ, w, R, E, rv, k⟩ => ⟨L, h, ρ, w, R, E, rv, by cases w <;> exact k⟩, rfl, rfl, rfl⟩
  | [], _ :: _, h => by cases h
  | _ :: _, [], h => by cases h
  | d :: ds, e :: es, h => by
    obtain ⟨ha, hb⟩ := and2 (show (chkTt P G d e && chkTts P G ds es) = true from h)
    obtain ⟨h1, hs⟩ := sndTt C d e ha
    obtain ⟨h2, h3, h4, h5⟩ := sndTts C ds es hb
    refine ⟨PGs.imp (gsj_cons h1 h2 (by rw [hs es]; rfl)) fun v σ H Q ⟨L, h, ρ, w, R, E, rv, k⟩ => ⟨L, h, ρ, w, R, E, rv, by cases w <;> exact k⟩, ?_, ?_, ?_⟩
    · rw [hs es, List.length_cons, List.length_cons, h3]
    · rw [hs es, List.findIdx?_cons, h4]
      rfl
    · rw [List.length_cons, List.length_cons, h5]
end
end
end LP
/-! LP, part 26: statements: the induction. -/
namespace LP
open L2 PySem PySem.Spec PyProof.Rows
section
variable {X : Cx} {T : Tb} {P : Pg} {hot : Bool} {cf : Bool → Nat → List W → Hh → Rs W} {WO : WX'} {G : Gm}
theorem CxtS.tr (C : CxtS X T P false cf WO G) {pn : List (Addr × Obj)} {xe : Value → Shared → Prop} {W : WX'} (tk : L2N.Takes (X.tr pn xe) W) (po : PassesOwn (model X.prog X.w) X.A X.env xe) : CxtS (X.tr pn xe) T P false cf W G where
  hK := C.hK
  N := C.N
  nd := C.nd
  sc := C.sc
  kind := C.kind
  fnB := C.fnB
  cold := C.cold
  warm := fun z => nomatch z
  un := C.un
  dp := C.dp
  free := C.free
  gl := C.gl
  fn := fun f x ps h => by
    obtain ⟨fa, h1, h2⟩ := C.fn f x ps h
    exact ⟨fa, h1, h2.kp, h2.ex⟩
  cl := C.cl
  fld := C.fld
  xt := C.xt
  pay := C.pay
  xf := C.xf
  tk := tk
  stk := C.stk
  frm := C.frm
  po := po
  xm := C.xm
  er := C.er
  top := C.top
theorem CxtS.suite (C : CxtS X T P false cf WO G) {a : Addr} {oe : Obj} {cls : Value} {d : Option Addr} {pn : List (Addr × Obj)} (hz : L2N.Zn cls d oe) (hd : ∃ vs, oe.data = .fields vs) : CxtS (X.suite a ((a, oe) :: pn)) T P true cf WF G where
  hK := C.hK
  N := C.N
  nd := C.nd
  sc := C.sc
  kind := C.kind
  fnB := C.fnB
  cold := fun z => nomatch z
  warm := fun _ => ⟨(a, oe), ⟨rfl, by
    obtain ⟨vs, e⟩ := hd
    exact ⟨vs, e, hz.2.2 vs e⟩⟩, List.mem_cons_self⟩
  un := C.un
  dp := C.dp
  free := C.free
  gl := C.gl
  fn := fun f x ps h => by
    obtain ⟨fa, h1, h2⟩ := C.fn f x ps h
    obtain ⟨k, fd, q1, q2, q3, q4⟩ := h2.ex
    exact ⟨fa, h1, h2.kp, k, fd, q1, ⟨q2.dp, q2.un⟩, q3, q4⟩
  cl := C.cl
  fld := C.fld
  xt := C.xt
  pay := C.pay
  xf := C.xf
  tk := takesF
  stk := C.stk
  frm := C.frm
  po := PassesOwn.never
  xm := C.xm
  er := C.er
  top := C.top
theorem bad_sj {st : Stmt} {f : Env → Hh → Rf} (h : ∀ ρ h, f ρ h = .bad) : SJ X T WO st f := ⟨fun pins s σ H D I ⟨L, hh, ρ, R, E, k⟩ => by
  rw [h] at k
  exact k.elim⟩
theorem nb {b : Bool} (h : (!b) = true) : b = false := by simpa using h
theorem asNms_cons {us : List Expr} {x : Str} {n : Nat} {r : List (Str × Nat)} (h : asNms us = some ((x, n) :: r)) : ∃ p us', us = .Name x p :: us' ∧ p.line = n ∧ asNms us' = some r := by
  cases us with
  | nil => cases h
  | cons u us =>
    cases u with
    | Name a p =>
      unfold asNms at h
      split at h
      · rename_i l q
        cases h
        exact ⟨p, us, rfl, rfl, q⟩
      · cases h
    | _ => cases h
theorem asNms_nil {us : List Expr} (h : asNms us = some []) : us = [] := by
  cases us with
  | nil => rfl
  | cons u us =>
    cases u with
    | Name a p =>
      unfold asNms at h
      split at h
      · cases h
      · cases h
    | _ => cases h
theorem asNms2 {us : List Expr} {x y : Str} {l1 l2 : Nat} (h : asNms us = some [(x, l1), (y, l2)]) : ∃ p q, us = [.Name x p, .Name y q] ∧ p.line = l1 ∧ q.line = l2 := by
  obtain ⟨p, u1, rfl, e1, h1⟩ := asNms_cons h
  obtain ⟨q, u2, rfl, e2, h2⟩ := asNms_cons h1
  have := asNms_nil h2
  subst this
  exact ⟨p, q, rfl, e1, e2⟩
theorem asNms3 {us : List Expr} {x y z : Str} {l1 l2 l3 : Nat} (h : asNms us = some [(x, l1), (y, l2), (z, l3)]) : ∃ p q r, us = [.Name x p, .Name y q, .Name z r] ∧ p.line = l1 ∧ q.line = l2 ∧ r.line = l3 := by
  obtain ⟨p, u1, rfl, e1, h1⟩ := asNms_cons h
  obtain ⟨q, u2, rfl, e2, h2⟩ := asNms_cons h1
  obtain ⟨r, u3, rfl, e3, h3⟩ := asNms_cons h2
  have := asNms_nil h3
  subst this
  exact ⟨p, q, r, rfl, e1, e2, e3⟩
theorem lc_shape {P : Pg} {G : Gm} {d : E} {v : Expr} {x : Str} {n : Nat} (h : chkE P G d v = true) (hs : swB x n v = true) : ∃ r elt tg k its ifs vs, d = .lc r elt tg k its ifs vs := by
  cases v with
  | ListComp ee gs sc p =>
    cases d with
    | lc r elt tg k its ifs vs => exact ⟨r, elt, tg, k, its, ifs, vs, rfl⟩
    | non => cases h
    | tt _ => cases h
    | int _ => cases h
    | str x =>
      obtain ⟨h12, h3⟩ := and2 (show (isCon (.str (mkS x)) _ && x.all (fun c => decide (c < 1114112)) && decide (x.length ≤ big)) = true from h)
      obtain ⟨h1, h2⟩ := and2 h12
      cases h1
    | call f es =>
      unfold chkE at h
      split at h
      · cases h
      · cases h
    | _ => cases h
  | _ => cases hs
theorem sndSetLc (C : CxtS X T P false cf WO G) {i : Nat} {x : Str} {p pos : Pos} {v : Expr} {r : Bool} {elt : E} {tg : Tg} {k : Ik} {its ifs : List E} {vs : List Nat} (h : chkE P G (.lc r elt tg k its ifs vs) v = true) (hsw : swB x p.line v = true) (hl : G.loc i x = true) :
    SJ X T WO (.Assign [.Name x p] v pos) fun ρ h => (ev P false (cf false) false (.lc r elt tg k its ifs vs) ρ h).rf ρ fun w h => .nx (ρ.set i (some w)) h := by
  unfold chkE at h
  split at h
  · rename_i ee tt it fs sc q
    obtain ⟨pp, rfl⟩ := asLc_ok q
    split at h
    · rename_i es qi
      obtain ⟨h1, h8⟩ := and2 h
      obtain ⟨h1, h7⟩ := and2 h1
      obtain ⟨h1, h6⟩ := and2 h1
      obtain ⟨h1, h5⟩ := and2 h1
      obtain ⟨h1, h4⟩ := and2 h1
      obtain ⟨h1, h3⟩ := and2 h1
      obtain ⟨h1, h2⟩ := and2 h1
      have hes := sndEs P its C.toCxt es h3
      have hlen := chkEs_len h3
      have hIt := sndIt C.toCxt qi hes (fun d e' hd he' => by
        subst hd he'
        exact ⟨(sndE P d C.toCxt e' (and2 (and2 h3).1).2).1, trivial⟩) hlen
      have hN : (ownOf G.N vs).map (·.2) = vs := by
        unfold ownOf
        rw [List.map_map]
        exact List.map_id _
      have hblk : BlkOk X.N X.env.scope sc (ownOf G.N vs) := by
        rw [C.N, C.sc]
        exact blkOk_by h1
      have hk : sc.kind = .function := hblk.kind
      have hfs := fun (s : Shared) (H : Hp) (C0 : Addr) (cl : List (Str × Addr)) (fp : List Addr) => sndFs P ifs (C.toCxt.blk hk s H C0 cl fp) fs h7 (of_decide_eq_true h6)
      obtain ⟨a1, a2⟩ := loc_ok C.toCxt hl
      obtain ⟨w1, w2⟩ := and2 (show ((p.line == pp.line) && !(sc.names.any fun (n, k) => n == x && (k == .local || k == .cell))) = true from hsw)
      have hlc := sj_setLc (spos := pos) (pos := pp) (WO := WO) (fi := fun ws h => ivC h k ws) (gt := asgN tg) (ts := tgS tg) (gf := evi P false (cf false) ifs) (ge := ev P false (cf false) false elt) (gi := evs P false (cf false) its) (C.cold rfl).1 r (by rw [C.N]; exact C.nd) a1 a2
        (sw_true (by rw [C.sc]; exact C.kind) a2 w1 (nb w2)) hblk hIt (by rw [hN]; exact of_decide_eq_true h5)
        (fun s H C0 cl fp => sndTg (C.toCxt.blk hk s H C0 cl fp) tg tt h4)
        (fun s H C0 cl fp => by
          have := hfs s H C0 cl fp
          rw [show px (X.blk s H sc (compEnvC sc cl C0 X.env) fp) = [] from px_calm (C.cold rfl).1] at this
          exact this)
        (fun s H C0 cl fp => (sndE P elt (C.toCxt.blk hk s H C0 cl fp) ee h8).1) h2
      rw [hN] at hlc
      exact hlc
    · cases h
  · cases h
mutual
theorem sndS (P : Pg) : ∀ (d : S) {X : Cx} {T : Tb} {hot : Bool} {cf : Bool → Nat → List W → Hh → Rs W} {WO : WX'} {G : Gm} (C : CxtS X T P hot cf WO G) (st : Stmt), chkS P G d st = true → SJ X T WO st (ex P cf hot d)
  | .set i e, X, T, hot, cf, WO, G, C, st, h => by
    unfold chkS at h
    split at h
    · rename_i x p v n q
      obtain ⟨p2, rfl, _⟩ := asAs_ok q
      obtain ⟨h1, h2⟩ := and2 h
      rw [Bool.or_eq_true] at h2
      have he := (sndE P e C.toCxt v h1).1
      rcases h2 with h2 | h2
      · obtain ⟨h3, h4⟩ := and2 h2
        obtain ⟨s1, s2, s3⟩ := st_ok C.toCxt h4
        rcases s3 with s3 | s3
        · exact sj_setC (by rw [C.N]; exact C.nd) s1 s2 s3 he h3
        · exact sj_set (by rw [C.N]; exact C.nd) s1 s3 he h3
      · obtain ⟨h2, h5⟩ := and2 h2
        obtain ⟨h3, h4⟩ := and2 h2
        obtain ⟨r, elt, tg, k, its, ifs, vs, rfl⟩ := lc_shape h1 h3
        have h5 : (!hotK k) = true := show coldL (.lc r elt tg k its ifs vs) = true from h5
        cases hot with
        | false => exact sndSetLc C h1 h3 h4
        | true =>
          refine bad_sj fun ρ h => ?_
          have hb : ev P true (cf true) false (.lc r elt tg k its ifs vs) ρ h = .bad := by
            show fin false (if true && !hotK k then .bad else _) = _
            have e1 : (true && !hotK k) = true := by rw [h5]; rfl
            rw [e1]
            rfl
          show (ev P true (cf true) false (.lc r elt tg k its ifs vs) ρ h).rf ρ (fun w h => .nx (ρ.set i (some w)) h) = _
          rw [hb]
          rfl
    · cases h
  | .asg t e, X, T, hot, cf, WO, G, C, st, h => by
    unfold chkS at h
    split at h
    · rename_i u v n q
      obtain ⟨p2, rfl, _⟩ := asAs_ok q
      obtain ⟨h1, h4⟩ := and2 h
      obtain ⟨h1, h3⟩ := and2 h1
      obtain ⟨h1, h2⟩ := and2 h1
      have he := (sndE P e C.toCxt v h4).1
      obtain ⟨t1, t2⟩ := sndTt C.toCxt t u h3
      refine sj_asg he t1 h1 ?_ (by rw [t2 []]; rfl) fun w ρ h => ?_
      · cases u <;> first | rfl | (cases v <;> first | rfl | cases h2)
        all_goals first
          | (cases v <;> first | rfl | cases h2)
      · have := asgT_pl P hot (cf hot) t w ρ h
        unfold plR at this
        exact this
    · cases h
  | .par is es, X, T, true, cf, WO, G, C, st, h => bad_sj fun _ _ => rfl
  | .par is es, X, T, false, cf, WO, G, C, st, h => by
    unfold chkS at h
    split at h
    · rename_i us k1 p1 vs k2 p2 n q
      obtain ⟨p3, rfl, _⟩ := asAs_ok q
      split at h
      · rename_i i j x l1 y l2 a b qn
        obtain ⟨pp, qq, rfl, e1, e2⟩ := asNms2 qn
        obtain ⟨h, h7⟩ := and2 h
        obtain ⟨h, h6⟩ := and2 h
        obtain ⟨h, h5⟩ := and2 h
        obtain ⟨h, h4⟩ := and2 h
        obtain ⟨h, h3⟩ := and2 h
        obtain ⟨h1, h2⟩ := and2 h
        obtain ⟨a1, a2⟩ := loc_ok C.toCxt h1
        obtain ⟨b1, b2⟩ := loc_ok C.toCxt h2
        have l2 := (chkEs_len h7).2
        have hp := and2 (show (plE a && (plE b && true)) = true from l2)
        exact sj_par2 (C.cold rfl).1 (by rw [C.sc]; exact C.kind) (by rw [C.N]; exact C.nd) a1 b1 a2 b2 (by rw [e1, e2]; exact h3) (nb h4) hp.1 (and2 hp.2).1 (nb h5) (nb h6) (sndEs P es C.toCxt [a, b] h7)
      · rename_i i j k x l1 y l2 z l3 a b c qn
        obtain ⟨pp, qq, rr, rfl, e1, e2, e3⟩ := asNms3 qn
        obtain ⟨h, h11⟩ := and2 h
        obtain ⟨h, h10⟩ := and2 h
        obtain ⟨h, h9⟩ := and2 h
        obtain ⟨h, h8⟩ := and2 h
        obtain ⟨h, h7⟩ := and2 h
        obtain ⟨h, h6⟩ := and2 h
        obtain ⟨h, h5⟩ := and2 h
        obtain ⟨h, h4⟩ := and2 h
        obtain ⟨h, h3⟩ := and2 h
        obtain ⟨h1, h2⟩ := and2 h
        obtain ⟨a1, a2⟩ := loc_ok C.toCxt h1
        obtain ⟨b1, b2⟩ := loc_ok C.toCxt h2
        obtain ⟨c1, c2⟩ := loc_ok C.toCxt h3
        have l2 := (chkEs_len h11).2
        have hp := and2 (show (plE a && (plE b && (plE c && true))) = true from l2)
        have hp2 := and2 hp.2
        exact sj_par3 (C.cold rfl).1 (by rw [C.sc]; exact C.kind) (by rw [C.N]; exact C.nd) a1 b1 c1 a2 b2 c2 (by rw [e1, e2]; exact h4) (by rw [e1, e3]; exact h5) (nb h6) (nb h7) (nb h8) hp.1 hp2.1 (and2 hp2.2).1 (nb h9) (nb h10) (sndEs P es C.toCxt [a, b, c] h11)
      · cases h
    · cases h
  | .exp e, X, T, hot, cf, WO, G, C, st, h => by
    unfold chkS at h
    split at h
    · rename_i v q
      obtain ⟨p, rfl⟩ := asEx_ok q
      obtain ⟨h1, h2⟩ := and2 h
      exact sj_exp (sndE P e C.toCxt v h2).1 h1
    · cases h
  | .ret e, X, T, hot, cf, WO, G, C, st, h => by
    unfold chkS at h
    split at h
    · rename_i v q
      obtain ⟨p, rfl⟩ := asRet_ok q
      exact sj_ret (sndE P e C.toCxt v h).1
    · cases h
  | .rtn, X, T, hot, cf, WO, G, C, st, h => by
    unfold chkS at h
    split at h
    · rename_i q
      obtain ⟨p, rfl⟩ := asRet_ok q
      exact sj_rtn
    · cases h
  | .iff c a b, X, T, hot, cf, WO, G, C, st, h => by
    unfold chkS at h
    split at h
    · rename_i x y z q
      obtain ⟨p, rfl⟩ := asIfS_ok q
      obtain ⟨h, h4⟩ := and2 h
      obtain ⟨h, h3⟩ := and2 h
      obtain ⟨h1, h2⟩ := and2 h
      exact sj_if ((sndE P c C.toCxt x h2).2 h1) (sndSs P a C y h3) (sndSs P b C z h4)
    · cases h
  | .whl c b, X, T, hot, cf, WO, G, C, st, h => by
    unfold chkS at h
    split at h
    · rename_i x y q
      obtain ⟨p, rfl⟩ := asWh_ok q
      obtain ⟨h, h3⟩ := and2 h
      obtain ⟨h1, h2⟩ := and2 h
      exact sj_whl C.po ((sndE P c C.toCxt x h2).2 h1) (sndSs P b C y h3)
    · cases h
  | .fo tg k its b, X, T, true, cf, WO, G, C, st, h => bad_sj fun _ _ => rfl
  | .fo tg k its b, X, T, false, cf, WO, G, C, st, h => by
    unfold chkS at h
    split at h
    · rename_i t i y q
      obtain ⟨p, rfl⟩ := asFo_ok q
      split at h
      · rename_i es qi
        obtain ⟨h, h4⟩ := and2 h
        obtain ⟨h, h3⟩ := and2 h
        obtain ⟨h1, h2⟩ := and2 h
        have hl := chkEs_len h2
        have hIt := sndIt C.toCxt qi (sndEs P its C.toCxt es h2) (fun d e' hd he' => by
          subst hd he'
          exact ⟨(sndE P d C.toCxt e' (and2 (and2 h2).1).2).1, trivial⟩) hl
        exact sj_for (fi := fun ws h => ivC h k ws) C.po (C.cold rfl).1 hIt (sndTg C.toCxt tg t h3) (sndSs P b C y h4) h1
      · cases h
    · cases h
  | .pass, X, T, hot, cf, WO, G, C, st, h => by
    cases st <;> first | exact sj_pass | cases h
  | .brk, X, T, hot, cf, WO, G, C, st, h => by
    cases st <;> first | exact sj_brk | cases h
  | .cnt, X, T, hot, cf, WO, G, C, st, h => by
    cases st <;> first | exact sj_cnt | cases h
  | .rai c e, X, T, true, cf, WO, G, C, st, h => bad_sj fun _ _ => rfl
  | .rai c e, X, T, false, cf, WO, G, C, st, h => by
    unfold chkS at h
    split at h
    · rename_i x a q
      obtain ⟨p, pp, r, rfl⟩ := asRai_ok q
      obtain ⟨h, h6⟩ := and2 h
      obtain ⟨h, h5⟩ := and2 h
      obtain ⟨h, h4⟩ := and2 h
      obtain ⟨h, h3⟩ := and2 h
      obtain ⟨h1, h2⟩ := and2 h
      obtain ⟨f, hf⟩ := Option.isSome_iff_exists.mp h5
      obtain ⟨fI, cc, cda, pn, qual, TT⟩ := C.er c f hf
      obtain ⟨g, d, n⟩ := glI_ok C.toCxt h3
      exact sj_rai (C.cold rfl).1 C.tk (fun te hte => pmk_err TT C.top C.dp hte h4 g (C.cl c x (of_decide_eq_true h2)) d) (sndE P e C.toCxt a h6).1 (by rw [C.pay]; exact hf)
    · cases h
  | .rai0 _, X, T, hot, cf, WO, G, C, st, h => by cases h
  | .tra b c i s, X, T, true, cf, WO, G, C, st, h => bad_sj fun _ _ => rfl
  | .tra b c i s, X, T, false, cf, WO, G, C, st, h => by
    unfold chkS at h
    split at h
    · rename_i y x n z q
      obtain ⟨p, q1, r, b0, s0, rfl, rfl⟩ := asTry_ok q
      obtain ⟨h, h6⟩ := and2 h
      obtain ⟨h, h5⟩ := and2 h
      obtain ⟨h, h4⟩ := and2 h
      obtain ⟨h, h3⟩ := and2 h
      obtain ⟨h1, h2⟩ := and2 h
      obtain ⟨g, d, nn⟩ := glI_ok C.toCxt h3
      obtain ⟨a1, a2⟩ := loc_ok C.toCxt h4
      exact sj_tra (nx := P.nx) (sub := P.sub) (C.cold rfl).1 C.stk C.frm (by rw [C.N]; exact C.nd) a1 a2 ⟨g, d, .inl (C.cl c x (of_decide_eq_true h2))⟩ C.tk (fun d hd => C.xm d c hd (of_decide_eq_true h1))
        (fun W pn xe tk po => sndSs P b (C.tr tk po) y h5) fun a oe cls d pn hz hd => sndSs P s (C.suite hz hd) (b0 :: s0) h6
    · cases h
theorem sndSs (P : Pg) : ∀ (ds : List S) {X : Cx} {T : Tb} {hot : Bool} {cf : Bool → Nat → List W → Hh → Rs W} {WO : WX'} {G : Gm} (C : CxtS X T P hot cf WO G) (ss : List Stmt), chkSs P G ds ss = true → SsJ X T WO ss (exs P cf hot ds)
  | [], X, T, hot, cf, WO, G, C, [], _ => ssj_nil
  | [], _, _, _, _, _, _, _, _ :: _, h => by cases h
  | _ :: _, _, _, _, _, _, _, _, [], h => by cases h
  | d :: ds, X, T, hot, cf, WO, G, C, s :: ss, h => by
    obtain ⟨h1, h2⟩ := and2 (show (chkS P G d s && chkSs P G ds ss) = true from h)
    exact ssj_cons (sndS P d C s h1) (sndSs P ds C ss h2)
end
end
end LP
/-! LP, part 27: defs, the whole program. -/
namespace LP
open L2 PySem PySem.Spec PyProof.Rows
/-- what the head tells of a law's module -/
structure LawF (prog : Program) (K : PySem.W.Frag) (mg : Str → Option Value) (T : Tb) (P : Pg) (t : Gt) : Prop where
  hK : T.K = K
  free : ∀ x ∈ t.free, mg x = none
  gl : ∀ (k : Nat) (x : Str), t.gl[k]? = some x → ∃ (w : W) (u : Value) (v : V), P.gl[k]? = some w ∧ mg x = some u ∧ RelV v u ∧ ∀ L H, RV T L H w v
  cl : ∀ (c : Nat) (x : Str), t.cl[c]? = some x → mg x = some (.ref (T.cA c))
  fld : ∀ (f : Nat) (n : Str), t.fld[f]? = some n → T.fN f = n
  xt : ∀ c, c < P.nx → ExCl K (T.cA c) ∧ ∀ d, d < P.nx → PySem.W.kitOne K (.ref (T.cA c)) (.ref (T.cA d)) = some (P.sub c d)
  pay : T.pay = P.pay
  xf : ∀ c f, T.pay c = some f → XfC K (T.cA c) ∧ PySem.W.findIn K (.ref (T.cA c)) (T.fN f) = some none
  xm : ∀ d c, d < P.nx → c < P.nx → PySem.W.exmOne K (.ref (T.cA d)) (.ref (T.cA c)) = some (P.sub d c)
  er : ∀ c f, P.pay c = some f → ∃ fI cc cda p qual, ErrTxt K prog.main.file (T.cA c) fI cc cda p (T.fN f) qual
  top : (prog.main.scope.names.lookup ("super" : Str)).isSome = false
/-- one def: its slots, its text -/
structure DefI where
  N : List Str
  qual : Str
  params : Arguments
  body : List Stmt
  scope : Scope
def gm (t : Gt) (d : DefI) : Gm := ⟨d.N, d.scope, fun _ => true, t⟩
/-- the def at fa stands in K -/
structure DefF (K : PySem.W.Frag) (mg : Str → Option Value) (x : Str) (ps : List Str) (d : DefI) (fa : Addr) (fd : FuncData) : Prop where
  mgx : mg x = some (.ref fa)
  ex : L2.FunD K x d.qual d.params d.body d.scope [] [] fa fd
  sc : FnScope d.N ps d.scope
  bd : BindAll K fd ps
/-- all the defs, in order -/
structure ProgF (prog : Program) (K : PySem.W.Frag) (mg : Str → Option Value) (T : Tb) (P : Pg) (t : Gt) (ds : List DefI) : Prop where
  law : LawF prog K mg T P t
  df : ∀ (f : Nat) (x : Str) (ps : List Str), t.fn[f]? = some (x, ps) → ∃ d D fa fd, ds[f]? = some d ∧ P.defs[f]? = some D ∧ DefF K mg x ps d fa fd ∧ D.n = ps.length ∧ D.sl = d.N.length ∧ chkSs P (gm t d) D.body d.body = true
section
variable {prog : Program} {w : World} {K : PySem.W.Frag} {mg : Str → Option Value} {base : Heap} {T : Tb} {P : Pg} {t : Gt} {ds : List DefI}
theorem RX.cut {L : LL} {H : Hp} {c n : Nat} {p : W} {cls : Value} {d : Option Addr} (b : wlo n p = true) (r : RX T L H c p cls d) : RX T (L.take n) H c p cls d := by
  obtain ⟨e, r⟩ := r
  refine ⟨e, ?_⟩
  split at r
  · exact r
  · obtain ⟨dx, u, e1, e2, e4, e5⟩ := r
    exact ⟨dx, u, e1, e2, not_live_take e4, RV.cut n _ _ b e5⟩
/-- the slots at a def's entry -/
theorem start_env {pn : List (Addr × Obj)} {L : LL} {H : Hp} {N : List Str} {n sl : Nat} (hsl : sl = N.length) (hn : n ≤ N.length) {ws : List W} {vs : List V} (r : RVs T L H ws vs) (hw : ws.length = n) : REnv T pn L H (ws.map some ++ List.replicate (sl - n) none) (L2.start N vs) := by
  have hv := r.length
  refine ⟨?_, fun i u e => ?_⟩
  · unfold L2.start
    simp only [List.length_append, List.length_map, List.length_replicate]
    omega
  · have hi : i < ws.length := by
      by_cases hi : i < ws.length
      · exact hi
      · rw [List.getElem?_append_right (by simpa using hi), List.getElem?_replicate] at e
        split at e <;> cases e
    rw [List.getElem?_append_left (by simpa using hi), List.getElem?_map] at e
    cases q : ws[i]? with
    | none => rw [q] at e; cases e
    | some z =>
      rw [q] at e
      have e : some z = some u := by simpa using e
      cases e
      obtain ⟨v, q1, q2⟩ := r.get q
      refine ⟨v, ?_, .of q2⟩
      unfold L2.start
      rw [List.getElem?_append_left (by rw [List.length_map, hv]; exact hi), List.getElem?_map, q1]
      rfl
/-- the end of a body -/
theorem body_end {pn : List (Addr × Obj)} {D : Df} {L : LL} {h : Hh} {H : Hp} {Q : VK} {E : XK} {r : Rf} (hl : L.cs.length = h.length) (k : PoG T (RV T) E L H (match r with
        | .rt w h' => exitD D h.length w h'
        | .nx _ h' => exitD D h.length .non h'
        | .exc c p _ h' => exitX D h.length c p h'
        | _ => .bad) Q) : PoS T pn (fun cls d _ H' => E cls d H') L H r { nx := fun _ H' => Q .non H', rt := Q } := by
  have ret : ∀ (w : W) (h' : Hh), PoG T (RV T) E L H (exitD D h.length w h') Q → ∀ v L' H', Rel T L' h' H' → Evo L H L' H' → RV T L' H' w v → Q v H' := by
    intro w h' k v L' H' R' E' rv
    unfold exitD at k
    split at k
    · split at k
      · rename_i hb
        obtain ⟨b1, b2⟩ := and2 hb
        exact k v (L'.take h.length) H' (R'.cutR _ b2) (E'.cut _ (Nat.le_of_eq hl)) (RV.cut _ _ _ b1 rv)
      · exact k.elim
    · exact k v L' H' R' E' rv
  cases r with
  | rt w h' => exact ret w h' k
  | nx ρ h' => exact fun σ' L' H' R' E' _ => ret .non h' k .non L' H' R' E' rfl
  | bk _ _ => exact k.elim
  | ct _ _ => exact k.elim
  | bad => exact k.elim
  | exc c p ρ h' =>
    intro σ' L' H' cls d R' E' _ x
    have k : PoG T (RV T) E L H (exitX D h.length c p h') Q := k
    unfold exitX at k
    split at k
    · rename_i hb
      obtain ⟨b1, b2⟩ := and2 hb
      exact k (L'.take h.length) H' cls d (R'.cutR _ b2) (E'.cut _ (Nat.le_of_eq hl)) (x.cut b1)
    · exact k.elim
end
end LP
/-! LP, part 28: the whole program keeps its promises. -/
namespace LP
open L2 PySem PySem.Spec PyProof.Rows
section
variable {prog : Program} {w : World} {K : PySem.W.Frag} {mg : Str → Option Value} {base : Heap} {T : Tb} {P : Pg} {t : Gt} {ds : List DefI}
/-- the promises at a depth -/
def AtDepth (prog : Program) (w : World) (K : PySem.W.Frag) (mg : Str → Option Value) (base : Heap) (T : Tb) (P : Pg) (t : Gt) (ds : List DefI) (n : Nat) : Prop := ∀ (f : Nat) (x : Str) (ps : List Str), t.fn[f]? = some (x, ps) → ∀ (d : DefI) (fa : Addr) (fd : FuncData), ds[f]? = some d → DefF K mg x ps d fa fd →
  FnOk prog w K mg base (L2N.CX prog w) n fa fd ps (spF T (cal P n false f)) ∧ L2H.FnH prog w K mg base (L2N.CX prog w) n fa fd ps (spF T (cal P n true f))
theorem ctx_of (F : ProgF prog K mg T P t ds) {n : Nat} (ih : AtDepth prog w K mg base T P t ds n) {X : Cx} {WO : WX'} {hot : Bool} {d : DefI} {ps : List Str} (hS : FnScope d.N ps d.scope) (e1 : X.prog = prog) (e2 : X.w = w) (e3 : X.K = K) (e4 : X.mg = mg) (e5 : X.base = base) (e6 : X.N = d.N) (e7 : X.env.scope = d.scope) (e8 : X.fn = fun _ => true)
    (cold : hot = false → X.calm = true ∧ X.A.handled = none) (warm : hot = true → L2H.HotC X) (hr : L2H.RoomH n X.A) (tk : L2N.Takes X WO) (stk : X.stack = X.env :: X.outer) (frm : X.env.frame = some X.env.locals) (po : PassesOwn (model X.prog X.w) X.A X.env X.xe) :
    CxtS X T P hot (cal P n) WO (gm t d) where
  hK := by rw [e3]; exact F.law.hK
  N := e6
  nd := hS.nd
  sc := e7
  kind := hS.kind
  fnB := fun x _ => by rw [e8]
  cold := cold
  warm := warm
  un := by have := hr.un; omega
  dp := by have := hr.dp; omega
  free := fun x hx => by rw [e4]; exact F.law.free x hx
  gl := fun k x hx => by rw [e4]; exact F.law.gl k x hx
  fn := fun f x ps hf => by
    obtain ⟨d', D', fa, fd, q1, q2, q3, q4, q5, q6⟩ := F.df f x ps hf
    obtain ⟨i1, i2⟩ := ih f x ps hf d' fa fd q1 q3
    subst e1 e2 e3 e4 e5
    exact ⟨fa, q3.mgx, q3.ex.kp, n, fd, q3.bd, hr, i1, i2⟩
  cl := fun c x hx => by rw [e4]; exact F.law.cl c x hx
  fld := F.law.fld
  xt := fun c hc => by rw [e3]; exact F.law.xt c hc
  pay := F.law.pay
  xf := fun c f h => by rw [e3]; exact F.law.xf c f h
  tk := tk
  stk := stk
  frm := frm
  po := po
  xm := fun d c h1 h2 => by rw [e3]; exact F.law.xm d c h1 h2
  er := fun c f h => by rw [e3, e1]; exact F.law.er c f h
  top := by rw [e1]; exact F.law.top
theorem sp_len {g : List W → Hh → Rs W} {m : Nat} (h : ∀ ws h, ws.length ≠ m → g ws h = .bad) : ∀ (vs : List V) (H : Hp) (Q : VK) (E : XK), spF T g vs H Q E → vs.length = m := fun vs H Q E ⟨L, hh, ws, R, r, k⟩ => by
  rw [RVs.length r]
  by_cases z : ws.length = m
  · exact z
  · rw [h ws hh z] at k
    exact k.elim
theorem cal_def {P : Pg} {n f : Nat} {hot : Bool} {D : Df} (e : P.defs[f]? = some D) (ws : List W) (h : Hh) : cal P (n + 1) hot f ws h = if ws.length = D.n then (match exs P (cal P n) hot D.body (ws.map some ++ List.replicate (D.sl - D.n) none) h with
        | .rt w h' => exitD D h.length w h'
        | .nx _ h' => exitD D h.length .non h'
        | .exc c p _ h' => exitX D h.length c p h'
        | _ => .bad) else .bad := by
  show (match P.defs[f]? with
    | some D => if ws.length = D.n then (match exs P (cal P n) hot D.body (ws.map some ++ List.replicate (D.sl - D.n) none) h with
        | .rt w h' => exitD D h.length w h'
        | .nx _ h' => exitD D h.length .non h'
        | .exc c p _ h' => exitX D h.length c p h'
        | _ => .bad) else .bad
    | none => .bad) = _
  rw [e]
theorem prog_ok (F : ProgF prog K mg T P t ds) : ∀ n, AtDepth prog w K mg base T P t ds n
  | 0 => fun f x ps hf d fa fd hd q => by
    have hb : ∀ hot vs H Q E, ¬ spF T (cal P 0 hot f) vs H Q E := fun hot vs H Q E ⟨_, _, _, _, _, k⟩ => k
    exact ⟨⟨fun vs H Q E h => (hb _ _ _ _ _ h).elim, fun _ _ _ _ _ _ _ _ _ _ _ _ _ h => (hb _ _ _ _ _ h).elim⟩, ⟨fun vs H Q E h => (hb _ _ _ _ _ h).elim, fun _ _ _ _ _ _ _ _ _ _ _ _ _ _ _ _ h => (hb _ _ _ _ _ h).elim⟩⟩
  | n + 1 => fun f x ps hf d fa fd hd q => by
    have ih := prog_ok F n
    obtain ⟨d', D, fa', fd', q1, q2, q3, q4, q5, q6⟩ := F.df f x ps hf
    rw [hd] at q1
    cases q1
    have len : ∀ hot, ∀ vs H Q E, spF T (cal P (n + 1) hot f) vs H Q E → vs.length = ps.length := fun hot => sp_len fun ws h hl => by
      rw [cal_def q2, if_neg (by rw [q4]; exact hl)]
    have hps : ps.length ≤ d.N.length := by
      have := congrArg List.length q.sc.pre
      rw [List.length_take] at this
      omega
    have body : ∀ (pn : List (Addr × Obj)) (hot : Bool) (vs : List V) (H : Hp) (Q : VK) (E : XK), spF T (cal P (n + 1) hot f) vs H Q E →
        rS T pn (fun cls d _ H' => E cls d H') (exs P (cal P n) hot D.body) { nx := fun _ H' => Q .non H', rt := Q } (L2.start d.N vs) H := by
      intro pn hot vs H Q E ⟨L, h, ws, R, r, k⟩
      have hw : ws.length = D.n := by
        by_cases z : ws.length = D.n
        · exact z
        · rw [cal_def q2, if_neg z] at k
          exact k.elim
      rw [cal_def q2, if_pos hw] at k
      exact ⟨L, h, _, R, start_env q5 (by rw [q4]; exact hps) r hw, body_end R.len k⟩
    refine ⟨q.ex.ok q.sc (len false) fun cdv A outer s H vs Q E hr hsp => ?_, ?_⟩
    · refine ⟨rS T [] (fun cls d _ H' => E cls d H') (exs P (cal P n) false D.body), ?_, body [] false vs H Q E hsp⟩
      have C : CxtS (cxOf (L2N.CX prog w) prog w K mg base d.N d.qual d.scope fa cdv A outer s H E) T P false (cal P n) (fun cls d _ H' => E cls d H') (gm t d) := ctx_of F ih q.sc rfl rfl rfl rfl rfl rfl rfl rfl (fun _ => ⟨rfl, hr.hd⟩) (fun z => nomatch z) ⟨hr.dp, hr.un⟩ (L2N.takes_of rfl rfl rfl rfl) rfl rfl PassesOwn.leaving
      have := sndSs P D.body C d.body q6
      unfold SsJ at this
      rw [px_calm (by rfl)] at this
      exact this
    · obtain ⟨oc, od, dV, kV, doc, pm, an, cdv, ct, osl, rfl, lk, hcd, _, _⟩ := q.ex.ex
      refine L2H.fn_ofH lk hcd q.sc (len true) fun A outer s H vs Q E p hot1 hr hsp => ?_
      refine ⟨rS T [p] (fun cls d _ H' => E cls d H') (exs P (cal P n) true D.body), ?_, body [p] true vs H Q E hsp⟩
      have C : CxtS (L2H.cxH (L2N.CX prog w) prog w K mg base d.N d.qual d.scope fa cdv A outer s H E p) T P true (cal P n) (fun cls d _ H' => E cls d H') (gm t d) := ctx_of F ih q.sc rfl rfl rfl rfl rfl rfl rfl rfl (fun z => nomatch z) (fun _ => ⟨p, ⟨hot1.1, hot1.2⟩, List.mem_cons_self⟩) hr (L2N.takes_of rfl rfl rfl rfl) rfl rfl PassesOwn.leaving
      have := sndSs P D.body C d.body q6
      exact this
end
end LP
/-! LP, part 29: a head that tells more. -/
namespace LP
open L2 PySem PySem.Spec PyProof.Rows
/-- what is reached from the module and from the statics -/
def asX (g : Addr → Option Obj) : Nat → List Addr
  | 0 => [mainGlobals, cStatics]
  | n + 1 => He.growD g (asX g n)
section
variable {β : Type}
/-- what is told of K: the facts, the defs, one more look -/
def SaysX (fa : List He.Fa) (fn : List He.DefD) (ox : PySem.W.Frag → β) (vx : β) (K : PySem.W.Frag) : Prop := (He.obsD fa fn K, ox K) = (He.valD fn, vx)
def tellG (n : Nat) (fa : List He.Fa) (fn : List He.DefD) (ox : PySem.W.Frag → β) (g : Addr → Option Obj) : He.AlD × β := (He.obsD fa fn (He.frG g (asX g n)), ox (He.frG g (asX g n)))
def hookX (n : Nat) (fa : List He.Fa) (fn : List He.DefD) (ox : PySem.W.Frag → β) (vx : β) : PySem.W.Hook where
  α := He.AlD × β
  obs s := tellG n fa fn ox s.heap.get?
  val _ := (He.valD fn, vx)
  says _ h := ∃ K : PySem.W.Frag, K.In h ∧ SaysX fa fn ox vx K
  of _ _ e := ⟨_, He.frG_in, e⟩
  keeps _ _ _ y k := ⟨y.choose, PySem.W.Frag.In.keeps y.choose_spec.1 k, y.choose_spec.2⟩
variable {fa : List He.Fa} {fn : List He.DefD} {ox : PySem.W.Frag → β} {vx : β} {K : PySem.W.Frag}
theorem tellG_eq {n : Nat} {g : Addr → Option Obj} {s : Shared} (h : ∀ a, g a = s.heap.get? a) : tellG n fa fn ox g = (hookX n fa fn ox vx).obs s := by
  cases (funext h : g = s.heap.get?)
  rfl
theorem SaysX.both (c : SaysX fa fn ox vx K) : He.SaysD fa fn K ∧ ox K = vx := ⟨(Prod.mk.inj c).1, (Prod.mk.inj c).2⟩
end
/-- a function of a class, with a closure -/
abbrev FnI : Type := Option (Str × Str × Arguments × FuncBody × Scope × Addr × List Str × Value × Value × Addr)
def fnI (K : PySem.W.Frag) (a : Addr) : FnI := match K.lookup a with
  | some ⟨_, _, .func fd, _⟩ => some (fd.name, fd.qualname, fd.params, fd.body, fd.scope, fd.globals, fd.closure.map (·.1), fd.defaults, fd.kwdefaults, fd.builtins)
  | _ => none
/-- the tables of errors, as looks -/
def subB (K : PySem.W.Frag) (cA : Nat → Addr) (sub : Nat → Nat → Bool) (nx : Nat) : Bool := (List.range nx).all fun c => (List.range nx).all fun d =>
  (PySem.W.kitOne K (.ref (cA c)) (.ref (cA d)) == some (sub c d)) && (PySem.W.exmOne K (.ref (cA c)) (.ref (cA d)) == some (sub c d))
theorem subB_ok {K : PySem.W.Frag} {cA : Nat → Addr} {sub : Nat → Nat → Bool} {nx : Nat} (h : subB K cA sub nx = true) {c d : Nat} (hc : c < nx) (hd : d < nx) :
    PySem.W.kitOne K (.ref (cA c)) (.ref (cA d)) = some (sub c d) ∧ PySem.W.exmOne K (.ref (cA c)) (.ref (cA d)) = some (sub c d) := by
  have h1 := List.all_eq_true.mp (List.all_eq_true.mp h c (List.mem_range.mpr hc)) d (List.mem_range.mpr hd)
  obtain ⟨a, b⟩ := and2 h1
  exact ⟨eq_of_beq a, eq_of_beq b⟩
end LP
/-! LP, part 30: looks at error classes. -/
namespace LP
open L2 PySem PySem.Spec PyProof.Rows
open PySem.W in
def exclB (K : Frag) (C : Addr) : Bool := L2.xfB K C && (decide (findIn K (.ref C) "__class__" = some (some (.builtin "object.__class__"))) && (decide (specialIn K (.builtin "object.__class__") "__get__" = some (some (.builtin "getset_descriptor.__get__"))) && (decide (takesIn K (.builtin "object.__class__") = some true) && decide (mroIn K C (.type "object") = some true))))
theorem exclB_ok {K : PySem.W.Frag} {C : Addr} (h : exclB K C = true) : ExCl K C := by
  obtain ⟨h1, h⟩ := and2 h
  obtain ⟨h2, h⟩ := and2 h
  obtain ⟨h3, h⟩ := and2 h
  obtain ⟨h4, h5⟩ := and2 h
  exact ⟨L2.xfB_ok h1, of_decide_eq_true h2, of_decide_eq_true h3, of_decide_eq_true h4, of_decide_eq_true h5⟩
section
open PySem.W PySem.Calls PySem.HandSPX
def txB (file : Str) : Option Value → Bool
  | some (.str fl _) => file == fl
  | _ => false
theorem txB_ok {file : Str} : ∀ {o : Option Value}, txB file o = true → ∃ fl tf, o = some (.str fl tf) ∧ (file == fl) = true
  | some (.str fl _), h => ⟨fl, _, rfl, h⟩
/-- what is looked up of an error class and of its __init__ (the text of __init__ aside) -/
def errB (K : Frag) (file : Str) (C fI cc cda : Addr) (f : Str) : Bool :=
  excInitIn K C He.veBase "ValueError.__new__" && ((match clsIn K C with
    | some cd => refsVE cd.mro && cd.hasDict
    | none => false) && (decide (findIn K (.ref C) "__setattr__" = some (some (.builtin "object.__setattr__"))) && (decide (findIn K (.ref C) f = some none) && (decide (findIn K (.ref C) "__init__" = some (some (.ref fI))) &&
  (decide (typeIn K (.ref fI) = some (.type "function")) && (keepIn K (.ref C) && (decide (subIn K (.ref C) (.type "BaseException") = some true) && (decide (typeIn K (.ref C) = some (.type "type")) &&
  (decide (ks_superIn K C C "__init__" = some (some (.builtin "ValueError.__init__"))) && (decide (subIn K (.ref C) (.type "ValueError") = some true) && (decide (nsIn K cStatics "thirdparty.any" = some none) && ((match K.lookup cc with
    | some ⟨_, _, .cell (some v), _⟩ => decide (v = .ref C)
    | _ => false) && (decide (mroIn K C (.ref C) = some true) && (decide (nsIn K mainGlobals "super" = some none) && (match K.lookup cda with
    | some ⟨_, _, .fields vs, _⟩ => txB file vs[2]?
    | _ => false)))))))))))))))
structure ErrK (K : Frag) (file : Str) (C fI cc cda : Addr) (f : Str) : Prop where
  exi : excInitIn K C He.veBase "ValueError.__new__" = true
  cd : ∃ cd, clsIn K C = some cd ∧ refsVE cd.mro = true ∧ cd.hasDict = true
  sa : findIn K (.ref C) "__setattr__" = some (some (.builtin "object.__setattr__"))
  no : findIn K (.ref C) f = some none
  iC : findIn K (.ref C) "__init__" = some (some (.ref fI))
  tC : typeIn K (.ref fI) = some (.type "function")
  kC : keepIn K (.ref C) = true
  exC : subIn K (.ref C) (.type "BaseException") = some true
  tyC : typeIn K (.ref C) = some (.type "type")
  hm : ks_superIn K C C "__init__" = some (some (.builtin "ValueError.__init__"))
  hB : subIn K (.ref C) (.type "ValueError") = some true
  st : nsIn K cStatics "thirdparty.any" = some none
  cell : ∃ cl cld csl, K.lookup cc = some ⟨cl, cld, .cell (some (.ref C)), csl⟩
  sub : mroIn K C (.ref C) = some true
  sup : nsIn K mainGlobals "super" = some none
  code : ∃ ccl cdd vs ccs fl tf, K.lookup cda = some ⟨ccl, cdd, .fields vs, ccs⟩ ∧ vs[2]? = some (.str fl tf) ∧ (file == fl) = true
theorem errB_ok {K : Frag} {file : Str} {C fI cc cda : Addr} {f : Str} (h : errB K file C fI cc cda f = true) : ErrK K file C fI cc cda f := by
  obtain ⟨h1, h⟩ := and2 h
  obtain ⟨h2, h⟩ := and2 h
  obtain ⟨h3, h⟩ := and2 h
  obtain ⟨h4, h⟩ := and2 h
  obtain ⟨h5, h⟩ := and2 h
  obtain ⟨h6, h⟩ := and2 h
  obtain ⟨h7, h⟩ := and2 h
  obtain ⟨h8, h⟩ := and2 h
  obtain ⟨h9, h⟩ := and2 h
  obtain ⟨h10, h⟩ := and2 h
  obtain ⟨h11, h⟩ := and2 h
  obtain ⟨h12, h⟩ := and2 h
  obtain ⟨h13, h⟩ := and2 h
  obtain ⟨h14, h⟩ := and2 h
  obtain ⟨h15, h16⟩ := and2 h
  refine ⟨h1, ?_, of_decide_eq_true h3, of_decide_eq_true h4, of_decide_eq_true h5, of_decide_eq_true h6, h7, of_decide_eq_true h8, of_decide_eq_true h9, of_decide_eq_true h10, of_decide_eq_true h11, of_decide_eq_true h12, ?_, of_decide_eq_true h14, of_decide_eq_true h15, ?_⟩
  · split at h2
    · rename_i cd q
      obtain ⟨a, b⟩ := and2 h2
      exact ⟨cd, q, a, b⟩
    · cases h2
  · split at h13
    · rename_i q
      cases of_decide_eq_true h13
      exact ⟨_, _, _, q⟩
    · cases h13
  · split at h16
    · rename_i q
      obtain ⟨fl, tf, q2, q3⟩ := txB_ok h16
      exact ⟨_, _, _, _, _, _, q, q2, q3⟩
    · cases h16
end
end LP
/-! LP, part 31: the text of an error class's __init__. -/
namespace LP
open L2 PySem PySem.Spec PyProof.Rows
section
open PySem.W PySem.Calls PySem.HandSPX
/-- the code and the cell of the function at fI -/
def ccB (K : Frag) (fI cc cda : Addr) (qual : Str) : Bool := match K.lookup fI with
  | some ⟨_, _, .func fd, _⟩ => decide (fd.code = .ref cda) && (decide (fd.closure = [(("__class__" : Str), cc)]) && codeIn K (.ref cda) qual)
  | _ => false
theorem ks_at {K : Frag} {fI cc cda : Addr} {qual : Str} {params : Arguments} {body : List Stmt} {sc : Scope} (h : fnI K fI = (some (("__init__" : Str), qual, params, FuncBody.stmts body, sc, mainGlobals, [("__class__" : Str)], Value.none, Value.none, builtinsNs) : FnI)) (hc : ccB K fI cc cda qual = true) :
    codeIn K (.ref cda) qual = true ∧ ∃ (oc : Value) (od : Option Addr) (doc pm : Value) (an : Option Addr) (ct : Value) (osl : Array (Option Value)), K.lookup fI = some ⟨oc, od, .func (ksFn "__init__" qual params body sc .none .none doc pm an (.ref cda) ct cc), osl⟩ := by
  unfold fnI at h
  unfold ccB at hc
  cases q : K.lookup fI with
  | none =>
    rw [q] at hc
    cases hc
  | some o =>
    obtain ⟨oc, od, dt, osl⟩ := o
    rw [q] at h hc
    cases dt with
    | func fd =>
      obtain ⟨n1, n2, n3, n4, n5, n6, n7, n8, n9, n10, n11, n12, n13, n14, n15⟩ := fd
      obtain ⟨k1, hc⟩ := and2 hc
      obtain ⟨k2, k3⟩ := and2 hc
      have j1 : n13 = .ref cda := of_decide_eq_true k1
      have j2 : n7 = [(("__class__" : Str), cc)] := of_decide_eq_true k2
      simp only [Option.some.injEq, Prod.mk.injEq] at h
      obtain ⟨h1, h2, h3, h4, h5, h6, h7, h8, h9, h10⟩ := h
      subst j1 j2 h1 h2 h3 h4 h5 h6 h8 h9 h10
      exact ⟨k3, oc, od, n10, n11, n12, n14, osl, rfl⟩
    | _ => cases hc
end
end LP
/-! LP, part 32: an error class as a whole. -/
namespace LP
open L2 PySem PySem.Spec PyProof.Rows
section
open PySem.W PySem.Calls PySem.HandSPX
theorem errTxt_of {K : Frag} {file : Str} {C fI cc cda : Addr} {p f qual : Str} {sc : Scope} {p1 p2 q1 q2 q3 q4 q5 r1 r2 r3 r4 : Pos} (h : ErrK K file C fI cc cda f) (hc : ccB K fI cc cda qual = true)
    (hf : fnI K fI = (some (("__init__" : Str), qual, eA p p1 p2, FuncBody.stmts (eB p f q1 q2 q3 q4 q5 r1 r2 r3 r4), sc, mainGlobals, [("__class__" : Str)], Value.none, Value.none, builtinsNs) : FnI))
    (hs : (∀ x ∈ sc.names, x.2 ≠ .cell) ∧ sc.names.lookup ("self" : Str) = some .local ∧ sc.names.lookup p = some .local ∧ sc.names.lookup ("super" : Str) = some .globalImplicit ∧ sc.names.lookup ("__class__" : Str) = some .free ∧ sc.kind = .function ∧ sc.isCoroutine = false ∧ sc.isGenerator = false ∧ (q3.endLine == q4.line) = true)
    (bd : ∀ (p1 p2 : Pos) (body : List Stmt) (sc : Scope) (doc pm : Value) (an : Option Addr) (cdv ct : Value) (cc : Addr) (u v : Value), bindArgs (ksFn "__init__" qual (eA p p1 p2) body sc .none .none doc pm an cdv ct cc) ⟨[u, v], []⟩ = pure [(("self" : Str), u), (p, v)])
    (ps : (p == ("self" : Str)) = false) (pd : (p == ("__debug__" : Str)) = false) : ErrTxt K file C fI cc cda p f qual := by
  obtain ⟨k, oc, od, doc, pm, an, ct, osl, e⟩ := ks_at hf hc
  exact { exi := h.exi, cd := h.cd, sa := h.sa, no := h.no, iC := h.iC, tC := h.tC, kC := h.kC, exC := h.exC, tyC := h.tyC, hm := h.hm, hB := h.hB, st := h.st, cell := h.cell, sub := h.sub, sup := h.sup, code := h.code, fn := ⟨oc, od, doc, pm, an, ct, osl, p1, p2, q1, q2, q3, q4, q5, r1, r2, r3, r4, sc, e, k, hs⟩, bd := bd, ps := ps, pd := pd }
end
end LP
/-! LP, part 29: tables of the law. -/
namespace LP
open L2 PySem PySem.Spec PyProof.Rows
namespace K88
/-- is_number -/
def d0 : Df := ⟨1, 1, false, [(.ret (.and (.isi (.var 0) [.int]) (.and (.not (.isi (.var 0) [.bool])) (.cmp .ge (.var 0) (.int 0)))))]⟩
def n0 : List PySem.Str := ["value"]
/-- is_up_to -/
def d1 : Df := ⟨2, 2, false, [(.ret (.and (.call 0 [(.var 0)]) (.cmp .le (.var 0) (.var 1))))]⟩
def n1 : List PySem.Str := ["value", "most"]
/-- is_name -/
def d2 : Df := ⟨1, 2, false, [(.iff (.or (.not (.isi (.var 0) [.str])) (.not (.chn .le .le (.int 1) (.blt .len [(.var 0)]) (.gl 1)))) [(.ret (.tt false))] []), (.ret (.blt .all [(.lc false (.cmp .inn (.var 1) (.gl 0)) (.nm 1) .seq [(.var 0)] [] [1])]))]⟩
def n2 : List PySem.Str := ["value", "sign"]
/-- are_refills -/
def d3 : Df := ⟨2, 3, false, [(.iff (.or (.not (.isi (.var 0) [.tup])) (.not (.chn .le .le (.int 1) (.blt .len [(.var 0)]) (.gl 3)))) [(.ret (.tt false))] []), (.ret (.blt .all [(.lc false (.call 1 [(.var 2), (.var 1)]) (.nm 2) .seq [(.var 0)] [] [2])]))]⟩
def n3 : List PySem.Str := ["value", "most", "each"]
/-- is_bucket_by -/
def d4 : Df := ⟨1, 1, false, [(.iff (.or (.not (.isi (.var 0) [.tup])) (.cmp .ne (.blt .len [(.var 0)]) (.int 3))) [(.ret (.tt false))] []), (.ret (.and (.call 1 [(.ix (.var 0) (.int 0)), (.gl 2)]) (.and (.call 3 [(.ix (.var 0) (.int 1)), (.gl 2)]) (.call 1 [(.ix (.var 0) (.int 2)), (.gl 2)]))))]⟩
def n4 : List PySem.Str := ["value"]
/-- is_node -/
def d5 : Df := ⟨1, 1, false, [(.ret (.and (.isi (.var 0) [.tup]) (.and (.cmp .eq (.blt .len [(.var 0)]) (.int 5)) (.and (.call 2 [(.ix (.var 0) (.int 0))]) (.call 4 [(.slf false (.var 0) (.int 2))])))))]⟩
def n5 : List PySem.Str := ["value"]
/-- is_parent -/
def d6 : Df := ⟨2, 2, false, [(.iff (.cmp .eq (.var 1) (.lst false [])) [(.ret (.cmp .is (.var 0) .non))] []), (.ret (.and (.isi (.var 0) [.str]) (.cmp .inn (.var 0) (.var 1))))]⟩
def n6 : List PySem.Str := ["value", "names"]
/-- is_tree_by -/
def d7 : Df := ⟨1, 7, true, [(.iff (.or (.not (.isi (.var 0) [.tup])) (.or (.not (.chn .le .le (.int 1) (.blt .len [(.var 0)]) (.gl 4))) (.not (.blt .all [(.lc false (.call 5 [(.var 6)]) (.nm 6) .seq [(.var 0)] [] [6])])))) [(.ret (.tt false))] []), (.set 1 (.lst true [])), (.fo (.tp [(.nm 2), (.nm 3), (.nm 4), (.nm 5), (.nm 4)]) .seq [(.var 0)] [(.iff (.or (.cmp .inn (.var 2) (.var 1)) (.or (.not (.call 6 [(.var 3), (.var 1)])) (.cmp .ne (.blt .len [(.var 5)]) (.blt .len [(.ix (.ix (.var 0) (.int 0)) (.int 3))])))) [(.ret (.tt false))] []), (.exp (.mth .append (.var 1) [(.var 2)]))]), (.ret (.tt true))]⟩
def n7 : List PySem.Str := ["value", "names", "name", "parent", "_", "refills", "each"]
/-- check_tree -/
def d8 : Df := ⟨1, 1, false, [(.iff (.not (.call 7 [(.var 0)])) [(.rai 1 (.var 0))] [])]⟩
def n8 : List PySem.Str := ["value"]
/-- numbers_of -/
def d9 : Df := ⟨1, 3, false, [(.fo (.nm 1) .seq [(.var 0)] [(.iff (.or (.cmp .eq (.var 1) (.str [])) (.or (.not (.blt .all [(.lc false (.cmp .inn (.var 2) (.gl 5)) (.nm 2) .seq [(.var 1)] [] [2])])) (.and (.cmp .eq (.ix (.var 1) (.int 0)) (.str [48])) (.cmp .gt (.blt .len [(.var 1)]) (.int 1))))) [(.ret .non)] [])]), (.ret (.lc false (.blt .int [(.var 1)]) (.nm 1) .seq [(.var 0)] [] [1]))]⟩
def n9 : List PySem.Str := ["words", "word", "sign"]
/-- rows_of -/
def d10 : Df := ⟨1, 2, false, [(.set 1 (.mth (.split false) (.var 0) [(.str [10])])), (.ret (.tup [(.slt false (.var 1) (.neg (.int 1))), (.ix (.var 1) (.neg (.int 1)))]))]⟩
def n10 : List PySem.Str := ["text", "found"]
/-- node_text -/
def d11 : Df := ⟨1, 8, false, [(.asg (.tp [(.nm 2), (.nm 3), (.nm 4), (.nm 5), (.nm 6)]) (.var 0)), (.set 1 (.bin false .add (.lst false [(.gl 6), (.var 2), (.blt .str [(.var 4)]), (.blt .str [(.var 6)])]) (.lc false (.blt .str [(.var 7)]) (.nm 7) .seq [(.var 5)] [] [7]))), (.ret (.bin false .add (.mth .join (.str [32]) [(.bin false .add (.var 1) (.ite (.cmp .isn (.var 3) .non) (.lst false [(.gl 7), (.var 3)]) (.lst false [])))]) (.str [10])))]⟩
def n11 : List PySem.Str := ["node", "words", "name", "parent", "burst", "refills", "borrow", "each"]
/-- tree_text -/
def d12 : Df := ⟨1, 2, false, [(.exp (.call 8 [(.var 0)])), (.ret (.mth .join (.str []) [(.lc false (.call 11 [(.var 1)]) (.nm 1) .seq [(.var 0)] [] [1])]))]⟩
def n12 : List PySem.Str := ["tree", "node"]
/-- node_of -/
def d13 : Df := ⟨2, 5, false, [(.par [3, 4] [(.mth (.split false) (.var 0) [(.str [32])]), .non]), (.iff (.not (.var 1)) [(.iff (.or (.cmp .lt (.blt .len [(.var 3)]) (.int 3)) (.cmp .ne (.ix (.var 3) (.neg (.int 2))) (.gl 7))) [(.ret (.lst false []))] []), (.par [3, 4] [(.slt false (.var 3) (.neg (.int 2))), (.ix (.var 3) (.neg (.int 1)))])] []), (.set 2 (.call 9 [(.slf false (.var 3) (.int 2))])), (.iff (.or (.cmp .ne (.ix (.var 3) (.int 0)) (.gl 6)) (.or (.cmp .lt (.blt .len [(.var 3)]) (.int 4)) (.cmp .is (.var 2) .non))) [(.ret (.lst false []))] []), (.ret (.lst false [(.tup [(.ix (.var 3) (.int 1)), (.var 4), (.ix (.var 2) (.int 0)), (.blt .tup [(.slf false (.var 2) (.int 2))]), (.ix (.var 2) (.int 1))])]))]⟩
def n13 : List PySem.Str := ["row", "is_first", "numbers", "words", "parent"]
/-- read_tree -/
def d14 : Df := ⟨1, 6, false, [(.iff (.not (.isi (.var 0) [.str])) [(.rai 3 .non)] []), (.asg (.tp [(.nm 2), (.nm 3)]) (.call 10 [(.var 0)])), (.set 1 (.tup [])), (.fo (.tp [(.nm 4), (.nm 5)]) .en [(.var 2)] [(.set 1 (.bin false .add (.var 1) (.blt .tup [(.call 13 [(.var 5), (.cmp .eq (.var 4) (.int 0))])]))), (.iff (.or (.cmp .eq (.blt .len [(.var 1)]) (.var 4)) (.not (.call 7 [(.var 1)]))) [(.rai 3 (.var 4))] [])]), (.iff (.or (.cmp .ne (.var 3) (.str [])) (.cmp .eq (.var 1) (.tup []))) [(.rai 3 (.blt .len [(.var 2)]))] []), (.ret (.var 1))]⟩
def n14 : List PySem.Str := ["text", "tree", "rows", "left", "index", "row"]
/-- is_tree -/
def d15 : Df := ⟨1, 1, false, [(.ret (.call 7 [(.var 0)]))]⟩
def n15 : List PySem.Str := ["value"]
/-- _law_urn -/
def d16 : Df := ⟨2, 5, false, [(.set 2 (.ite (.cmp .lt (.var 1) (.blt .len [(.var 0)])) (.blt .int [(.ix (.var 0) (.var 1))]) (.bin false .add (.bin false .add (.bin false .mul (.int 7963) (.var 1)) (.int 307)) (.bin false .mod (.blt .int [(.blt .suml [(.slt false (.var 0) (.int 5))])]) (.int 999769))))), (.set 3 (.bin false .add (.int 91009) (.bin false .mul (.int 3307) (.var 1)))), (.fo (.nm 4) .seq [(.bin false .add (.slt false (.var 0) (.int 11)) (.lst false [(.var 2)]))] [(.set 3 (.bin false .mod (.blt .int [(.bin false .add (.bin false .add (.bin false .mul (.var 3) (.int 43591)) (.bin false .mod (.blt .int [(.var 4)]) (.int 2147483423))) (.int 43))]) (.int 2147483423)))]), (.ret (.lst true [(.ite (.or (.cmp .lt (.var 2) (.int 0)) (.cmp .ge (.var 2) (.bin false .pow (.int 10) (.int 18)))) (.blt .abs [(.var 2)]) (.int 0)), (.var 3), (.int 0)]))]⟩
def n16 : List PySem.Str := ["script", "lap", "own", "stir", "each"]
/-- _law_nip -/
def d17 : Df := ⟨2, 4, false, [(.iff (.cmp .gt (.ix (.var 0) (.int 0)) (.int 0)) [(.asg (.tp [(.ix (.var 0) (.int 0)), (.nm 3)]) (.blt .dmod [(.ix (.var 0) (.int 0)), (.var 1)])), (.ret (.var 3))] []), (.asg (.ix (.var 0) (.int 2)) (.bin false .add (.ix (.var 0) (.int 2)) (.int 1))), (.set 2 (.bin false .mod (.blt .int [(.bin false .add (.bin false .add (.bin false .mul (.ix (.var 0) (.int 1)) (.int 41299)) (.bin false .mul (.ix (.var 0) (.int 2)) (.int 50951))) (.int 23))]) (.int 2147483423))), (.asg (.ix (.var 0) (.int 1)) (.bin false .mod (.blt .int [(.bin false .add (.bin false .mul (.var 2) (.bin false .add (.bin false .mul (.int 2) (.bin false .fdv (.var 2) (.int 37))) (.int 20011))) (.ix (.var 0) (.int 2)))]) (.int 2147483423))), (.ret (.bin false .mod (.blt .int [(.bin false .fdv (.ix (.var 0) (.int 1)) (.int 103))]) (.var 1)))]⟩
def n17 : List PySem.Str := ["urn", "many", "lap", "found"]
/-- _law_any_of -/
def d18 : Df := ⟨2, 2, false, [(.ret (.ix (.var 1) (.call 17 [(.var 0), (.blt .len [(.var 1)])])))]⟩
def n18 : List PySem.Str := ["urn", "some"]
/-- _law_same -/
def d19 : Df := ⟨2, 4, false, [(.iff (.isi (.var 0) [.tup, .lst]) [(.iff (.or (.cmp .ne (.isi (.var 0) [.tup]) (.isi (.var 1) [.tup])) (.cmp .ne (.isi (.var 0) [.lst]) (.isi (.var 1) [.lst]))) [(.ret (.tt false))] []), (.ret (.and (.cmp .eq (.blt .len [(.var 0)]) (.blt .len [(.var 1)])) (.cmp .nin (.tt false) (.lc false (.call 19 [(.var 2), (.var 3)]) (.tp [(.nm 2), (.nm 3)]) .z2 [(.var 0), (.var 1)] [] [2, 3]))))] []), (.iff (.or (.isi (.var 1) [.tup, .lst]) (.cmp .ne (.isi (.var 0) [.bool]) (.isi (.var 1) [.bool]))) [(.ret (.tt false))] []), (.ret (.and (.cmp .eq (.isi (.var 0) [.str]) (.isi (.var 1) [.str])) (.cmp .eq (.var 0) (.var 1))))]⟩
def n19 : List PySem.Str := ["one", "two", "a", "b"]
/-- _law_name -/
def d20 : Df := ⟨2, 5, false, [(.set 2 (.str [])), (.fo (.nm 3) .r1 [(.bin false .add (.int 1) (.call 17 [(.var 0), (.call 18 [(.var 0), (.tup [(.int 2), (.int 4), (.int 8)])])]))] [(.set 2 (.bin false .add (.var 2) (.call 18 [(.var 0), (.str [97, 98, 99, 100, 101, 102, 103, 104, 105, 106, 107, 108, 109, 110, 111, 112, 113, 114, 115, 116, 117, 118, 119, 120, 121, 122])])))]), (.fo (.nm 4) .seq [(.str [97, 98, 99, 100, 101, 102, 103, 104, 105, 106, 107, 108, 109, 110, 111, 112, 113, 114, 115, 116, 117, 118, 119, 120, 121, 122])] [(.iff (.cmp .nin (.var 2) (.var 1)) [(.ret (.var 2))] []), (.set 2 (.bin false .add (.slt false (.var 2) (.int 7)) (.var 4)))]), (.ret (.var 2))]⟩
def n20 : List PySem.Str := ["urn", "names", "found", "lap", "letter"]
/-- _law_tree -/
def d21 : Df := ⟨3, 12, false, [(.par [4, 5, 6] [(.call 18 [(.var 0), (.tup [(.int 1), (.int 1), (.int 2), (.int 3), (.int 4)])]), (.tup []), (.lst true [])]), (.fo (.nm 3) .r1 [(.call 18 [(.var 0), (.tup [(.int 1), (.int 2), (.int 3), (.int 3), (.var 1), (.var 1)])])] [(.set 7 (.call 20 [(.var 0), (.var 6)])), (.par [9, 10] [(.call 18 [(.var 0), (.tup [(.int 1), (.int 2), (.int 3), (.int 4), (.int 5), (.call 17 [(.var 0), (.bin false .add (.ix (.var 2) (.int 0)) (.int 1))])])]), (.call 18 [(.var 0), (.tup [(.int 0), (.int 0), (.int 0), (.int 1), (.call 17 [(.var 0), (.bin false .add (.ix (.var 2) (.int 1)) (.int 1))])])])]), (.set 8 (.blt .tup [(.lc false (.call 18 [(.var 0), (.tup [(.int 0), (.int 0), (.int 1), (.int 1), (.int 2), (.call 17 [(.var 0), (.bin false .add (.ix (.var 2) (.int 0)) (.int 1))])])]) (.nm 11) .r1 [(.var 4)] [] [11])])), (.set 5 (.bin false .add (.var 5) (.tup [(.tup [(.var 7), (.ite (.cmp .gt (.var 3) (.int 0)) (.call 18 [(.var 0), (.var 6)]) .non), (.bin false .add (.var 9) (.ite (.and (.cmp .eq (.var 3) (.int 0)) (.cmp .lt (.var 9) (.int 6))) (.int 3) (.int 0))), (.var 8), (.var 10)])]))), (.exp (.mth .append (.var 6) [(.var 7)]))]), (.ret (.var 5))]⟩
def n21 : List PySem.Str := ["urn", "most", "high", "k", "period", "nodes", "names", "name", "refill", "burst", "borrow", "lap"]
/-- _law_figures -/
def d22 : Df := ⟨1, 2, false, [(.iff (.or (.cmp .eq (.var 0) (.str [])) (.or (.cmp .inn (.tt false) (.lc false (.cmp .inn (.var 1) (.str [48, 49, 50, 51, 52, 53, 54, 55, 56, 57])) (.nm 1) .seq [(.var 0)] [] [1])) (.and (.cmp .gt (.blt .len [(.var 0)]) (.int 1)) (.cmp .eq (.ix (.var 0) (.int 0)) (.str [48]))))) [(.ret .non)] []), (.ret (.ite (.cmp .lt (.blt .len [(.var 0)]) (.int 31)) (.blt .int [(.var 0)]) (.bin false .pow (.int 10) (.int 30))))]⟩
def n22 : List PySem.Str := ["word", "sign"]
/-- _law_turned -/
def d23 : Df := ⟨3, 9, false, [(.par [5, 6] [(.call 17 [(.var 0), (.bin false .add (.blt .len [(.var 1)]) (.int 1))]), (.call 17 [(.var 0), (.int 8)])]), (.set 3 (.call 18 [(.var 0), (.var 2)])), (.iff (.cmp .eq (.var 6) (.int 0)) [(.ret (.bin false .add (.bin false .add (.slt false (.var 1) (.var 5)) (.var 3)) (.slf false (.var 1) (.var 5))))] []), (.iff (.cmp .eq (.var 6) (.int 1)) [(.ret (.bin false .add (.slt false (.var 1) (.var 5)) (.slf false (.var 1) (.bin false .add (.var 5) (.int 1)))))] []), (.iff (.cmp .eq (.var 6) (.int 2)) [(.ret (.slt false (.var 1) (.var 5)))] []), (.iff (.cmp .eq (.var 6) (.int 3)) [(.ret (.bin false .add (.var 1) (.var 3)))] []), (.set 4 (.mth (.split false) (.var 1) [(.str [32])])), (.par [7, 8] [(.call 17 [(.var 0), (.blt .len [(.var 4)])]), (.call 17 [(.var 0), (.blt .len [(.var 4)])])]), (.iff (.cmp .eq (.var 6) (.int 4)) [(.ret (.mth .join (.str [32]) [(.bin false .add (.slt false (.var 4) (.var 7)) (.slf false (.var 4) (.bin false .add (.var 7) (.int 1))))]))] []), (.iff (.cmp .eq (.var 6) (.int 5)) [(.ret (.mth .join (.str [32]) [(.bin false .add (.bin false .add (.slt false (.var 4) (.var 7)) (.lst false [(.ix (.var 4) (.var 8))])) (.slf false (.var 4) (.var 7)))]))] []), (.iff (.cmp .eq (.var 6) (.int 6)) [(.ret (.mth .join (.str [32]) [(.bin false .add (.bin false .add (.slt false (.var 4) (.var 7)) (.lst false [(.call 18 [(.var 0), (.tup [(.str [48]), (.str [49]), (.str [50]), (.str [49, 48]), (.str [49, 48, 48]), (.str [117, 112]), (.str [99, 117, 116]), (.str [118, 111, 105, 100]), (.str [106, 117, 115, 116]), (.str [105, 110]), (.str [110, 111, 100, 101]), (.str [97, 115, 107]), (.str [48, 48]), (.str [45, 49])])])])) (.slf false (.var 4) (.bin false .add (.var 7) (.int 1))))]))] []), (.ret (.bin false .add (.bin false .add (.slt false (.var 1) (.var 5)) (.var 3)) (.slf false (.var 1) (.bin false .add (.var 5) (.int 1)))))]⟩
def n23 : List PySem.Str := ["urn", "text", "signs", "sign", "words", "at", "way", "k", "j"]
/-- _law_row -/
def d24 : Df := ⟨1, 3, false, [(.set 1 (.bin false .add (.lst false [(.str [110, 111, 100, 101]), (.ix (.var 0) (.int 0)), (.blt .str [(.ix (.var 0) (.int 2))]), (.blt .str [(.ix (.var 0) (.int 4))])]) (.lc false (.blt .str [(.var 2)]) (.nm 2) .seq [(.ix (.var 0) (.int 3))] [] [2]))), (.ret (.bin false .add (.mth .join (.str [32]) [(.bin false .add (.var 1) (.ite (.cmp .is (.ix (.var 0) (.int 1)) .non) (.lst false []) (.lst false [(.str [105, 110]), (.ix (.var 0) (.int 1))])))]) (.str [10])))]⟩
def n24 : List PySem.Str := ["node", "words", "x"]
/-- _law_written -/
def d25 : Df := ⟨1, 2, false, [(.ret (.mth .join (.str []) [(.lc false (.call 24 [(.var 1)]) (.nm 1) .seq [(.var 0)] [] [1])]))]⟩
def n25 : List PySem.Str := ["tree", "node"]
/-- _law_is_name -/
def d26 : Df := ⟨1, 2, false, [(.ret (.and (.chn .lt .lt (.int 0) (.blt .len [(.var 0)]) (.int 9)) (.cmp .nin (.tt false) (.lc false (.cmp .inn (.var 1) (.str [97, 98, 99, 100, 101, 102, 103, 104, 105, 106, 107, 108, 109, 110, 111, 112, 113, 114, 115, 116, 117, 118, 119, 120, 121, 122])) (.nm 1) .seq [(.var 0)] [] [1]))))]⟩
def n26 : List PySem.Str := ["word", "sign"]
/-- _law_node -/
def d27 : Df := ⟨2, 7, false, [(.par [3, 4] [.non, (.var 0)]), (.iff (.cmp .ne (.var 1) (.tup [])) [(.iff (.or (.cmp .lt (.blt .len [(.var 0)]) (.int 2)) (.or (.cmp .ne (.ix (.var 0) (.neg (.int 2))) (.str [105, 110])) (.cmp .nin (.ix (.var 0) (.neg (.int 1))) (.lc false (.ix (.var 6) (.int 0)) (.nm 6) .seq [(.var 1)] [] [6])))) [(.ret .non)] []), (.par [3, 4] [(.ix (.var 0) (.neg (.int 1))), (.slt false (.var 0) (.neg (.int 2)))])] []), (.iff (.or (.not (.chn .lt .lt (.int 4) (.blt .len [(.var 4)]) (.int 9))) (.or (.cmp .ne (.ix (.var 4) (.int 0)) (.str [110, 111, 100, 101])) (.or (.not (.call 26 [(.ix (.var 4) (.int 1))])) (.cmp .inn (.ix (.var 4) (.int 1)) (.lc false (.ix (.var 6) (.int 0)) (.nm 6) .seq [(.var 1)] [] [6]))))) [(.ret .non)] []), (.set 2 (.lc false (.call 22 [(.var 5)]) (.nm 5) .seq [(.slf false (.var 4) (.int 2))] [] [5])), (.iff (.or (.cmp .inn .non (.var 2)) (.or (.cmp .gt (.blt .maxl [(.var 2)]) (.int 99)) (.and (.cmp .ne (.var 1) (.tup [])) (.cmp .ne (.bin false .sub (.blt .len [(.var 2)]) (.int 2)) (.blt .len [(.ix (.ix (.var 1) (.int 0)) (.int 3))]))))) [(.ret .non)] []), (.ret (.tup [(.ix (.var 4) (.int 1)), (.var 3), (.ix (.var 2) (.int 0)), (.blt .tup [(.slf false (.var 2) (.int 2))]), (.ix (.var 2) (.int 1))]))]⟩
def n27 : List PySem.Str := ["words", "nodes", "numbers", "parent", "some", "word", "node"]
/-- _law_tree_of -/
def d28 : Df := ⟨1, 5, false, [(.par [2, 3] [(.mth (.split false) (.var 0) [(.str [10])]), (.tup [])]), (.fo (.nm 1) .r1 [(.bin false .sub (.blt .len [(.var 2)]) (.int 1))] [(.set 4 (.ite (.cmp .lt (.var 1) (.int 6)) (.call 27 [(.mth (.split false) (.ix (.var 2) (.var 1)) [(.str [32])]), (.var 3)]) .non)), (.iff (.cmp .is (.var 4) .non) [(.ret (.tup [.non, (.var 1)]))] []), (.set 3 (.bin false .add (.var 3) (.tup [(.var 4)])))]), (.ret (.ite (.or (.cmp .ne (.ix (.var 2) (.neg (.int 1))) (.str [])) (.cmp .eq (.var 3) (.tup []))) (.tup [.non, (.blt .len [(.var 3)])]) (.tup [(.var 3), .non])))]⟩
def n28 : List PySem.Str := ["text", "at", "rows", "nodes", "node"]
/-- _law_told -/
def d29 : Df := ⟨2, 3, false, [(.tra [(.ret (.lst false [(.ite (.var 1) (.call 14 [(.var 0)]) (.call 14 [(.var 0)]))]))] 3 2 [(.ret (.ite (.and (.xis 2 [0]) (.not (.xis 2 [1, 2]))) (.tup [(.xfl 2 1)]) (.tup [(.str [111, 100, 100])])))])]⟩
def n29 : List PySem.Str := ["text", "is_named", "e"]
/-- _law_changed -/
def d30 : Df := ⟨2, 7, false, [(.set 2 (.mth (.split false) (.var 1) [(.str [10])])), (.par [3, 4, 5] [(.call 17 [(.var 0), (.blt .len [(.var 2)])]), (.call 17 [(.var 0), (.blt .len [(.var 2)])]), (.call 17 [(.var 0), (.int 9)])]), (.iff (.cmp .lt (.var 5) (.int 4)) [(.set 6 (.call 23 [(.var 0), (.ix (.var 2) (.var 3)), (.str [32, 48, 57, 97, 10, 45, 90])])), (.ret (.mth .join (.str [10]) [(.bin false .add (.bin false .add (.slt false (.var 2) (.var 3)) (.lst false [(.var 6)])) (.slf false (.var 2) (.bin false .add (.var 3) (.int 1))))]))] []), (.iff (.cmp .eq (.var 5) (.int 4)) [(.ret (.mth .join (.str [10]) [(.bin false .add (.slt false (.var 2) (.var 3)) (.slf false (.var 2) (.bin false .add (.var 3) (.int 1))))]))] []), (.iff (.cmp .eq (.var 5) (.int 5)) [(.ret (.mth .join (.str [10]) [(.bin false .add (.bin false .add (.slt false (.var 2) (.var 3)) (.lst false [(.ix (.var 2) (.var 4))])) (.slf false (.var 2) (.var 3)))]))] []), (.iff (.cmp .eq (.var 5) (.int 6)) [(.ret (.slt false (.var 1) (.bin false .sub (.bin false .sub (.blt .len [(.var 1)]) (.int 1)) (.call 17 [(.var 0), (.int 4)]))))] []), (.iff (.cmp .eq (.var 5) (.int 7)) [(.ret (.bin false .add (.var 1) (.call 18 [(.var 0), (.tup [(.str [10]), (.str [32]), (.str [110, 111, 100, 101]), (.var 1), (.bin false .add (.bin false .add (.str [110, 111, 100, 101, 32, 122, 32, 49, 32, 48, 32, 49, 32, 105, 110, 32]) (.ix (.mth (.split false) (.bin false .add (.ix (.var 2) (.int 0)) (.str [32, 97])) [(.str [32])]) (.int 1))) (.str [10]))])])))] []), (.ret (.call 18 [(.var 0), (.tup [(.str []), (.str [10]), (.str [110, 111, 100, 101, 10]), (.str [110, 111, 100, 101, 32, 97, 32, 49, 32, 48, 32, 49]), (.str [110, 111, 100, 101, 32, 97, 32, 49, 32, 48, 32, 49, 10]), (.str [110, 111, 100, 101, 32, 97, 32, 49, 32, 48, 32, 49, 32, 105, 110, 32, 97, 10]), (.str [110, 111, 100, 101, 32, 97, 32, 49, 32, 48, 32, 49, 32, 50, 32, 51, 32, 52, 32, 53, 10]), (.str [110, 111, 100, 101, 32, 97, 32, 49, 48, 48, 32, 48, 32, 49, 10])])]))]⟩
def n30 : List PySem.Str := ["urn", "text", "rows", "at", "other", "way", "row"]
/-- _law_refused -/
def d31 : Df := ⟨1, 2, false, [(.tra [(.exp (.call 12 [(.var 0)]))] 1 1 [(.ret (.and (.xis 1 [0]) (.and (.not (.xis 1 [3])) (.call 19 [(.xfl 1 0), (.var 0)]))))]), (.ret (.tt false))]⟩
def n31 : List PySem.Str := ["value", "e"]
/-- _law_right -/
def d32 : Df := ⟨1, 11, true, [(.fo (.nm 1) .r1 [(.int 3)] [(.set 5 (.call 21 [(.var 0), (.int 6), (.tup [(.int 99), (.int 99)])])), (.set 6 (.call 25 [(.var 5)])), (.set 7 (.ite (.cmp .eq (.call 17 [(.var 0), (.int 2)]) (.int 0)) (.call 12 [(.var 5)]) (.call 12 [(.var 5)]))), (.iff (.or (.cmp .isn (.call 15 [(.var 5)]) (.tt true)) (.or (.not (.call 19 [(.var 7), (.var 6)])) (.not (.call 19 [(.call 29 [(.var 6), (.cmp .eq (.call 17 [(.var 0), (.int 2)]) (.int 0))]), (.lst false [(.var 5)])])))) [(.ret (.tt false))] []), (.fo (.nm 8) .r1 [(.int 8)] [(.set 9 (.call 30 [(.var 0), (.var 6)])), (.set 9 (.ite (.cmp .eq (.call 17 [(.var 0), (.int 4)]) (.int 0)) (.call 30 [(.var 0), (.var 9)]) (.var 9))), (.set 10 (.call 28 [(.var 9)])), (.set 10 (.ite (.cmp .isn (.ix (.var 10) (.int 0)) .non) (.lst false [(.ix (.var 10) (.int 0))]) (.tup [(.ix (.var 10) (.int 1))]))), (.iff (.and (.cmp .lt (.blt .len [(.var 9)]) (.int 2000)) (.not (.call 19 [(.call 29 [(.var 9), (.cmp .eq (.call 17 [(.var 0), (.int 2)]) (.int 0))]), (.var 10)]))) [(.ret (.tt false))] [])])]), (.set 2 (.ix (.var 5) (.int 0))), (.set 3 (.tup [.non, (.tup []), (.ite (.cmp .gt (.blt .len [(.var 5)]) (.int 1)) (.rev (.var 5)) (.int 0)), (.blt (.lst false) [(.var 5)]), (.var 6), (.tup [(.bin false .add (.bin false .add (.slt false (.var 2) (.int 2)) (.tup [(.int 100)])) (.slf false (.var 2) (.int 3)))]), (.tup [(.bin false .add (.bin false .add (.slt false (.var 2) (.int 1)) (.tup [(.ix (.var 2) (.int 0))])) (.slf false (.var 2) (.int 2)))]), (.tup [(.var 2), (.var 2)])])), (.set 3 (.bin false .add (.var 3) (.tup [(.tup [(.bin false .add (.bin false .add (.slt false (.var 2) (.int 3)) (.tup [(.tup [])])) (.slf false (.var 2) (.int 4)))]), (.tup [(.bin false .add (.bin false .add (.slt false (.var 2) (.int 3)) (.tup [(.bin false .mul (.tup [(.int 1)]) (.int 5))])) (.slf false (.var 2) (.int 4)))]), (.tup [(.bin false .add (.tup [(.bin false .add (.ix (.var 2) (.int 0)) (.str [90]))]) (.slf false (.var 2) (.int 1)))]), (.tup [(.bin false .add (.var 2) (.tup [(.int 0)]))]), (.tup [(.bin false .add (.slt false (.var 2) (.int 4)) (.tup [(.tt true)]))])]))), (.set 4 (.call 18 [(.var 0), (.tup [.non, (.int 0), (.tt true), (.tup [(.str [110, 111, 100, 101])]), (.lst false [(.str [110, 111, 100, 101])]), (.var 5), (.tup [])])])), (.ret (.and (.call 31 [(.call 18 [(.var 0), (.var 3)])]) (.call 19 [(.call 29 [(.var 4), (.tt false)]), (.tup [.non])])))]⟩
def n32 : List PySem.Str := ["urn", "lap", "first", "odd", "strange", "tree", "text", "told", "turn", "other", "due"]
/-- law -/
def d33 : Df := ⟨1, 2, true, [(.ret (.blt .all [(.lc false (.call 32 [(.call 16 [(.var 0), (.var 1)])]) (.nm 1) .r1 [(.int 2)] [] [1])]))]⟩
def n33 : List PySem.Str := ["script", "lap"]
def dfs : List Df := [d0, d1, d2, d3, d4, d5, d6, d7, d8, d9, d10, d11, d12, d13, d14, d15, d16, d17, d18, d19, d20, d21, d22, d23, d24, d25, d26, d27, d28, d29, d30, d31, d32, d33]
def nms : List (List PySem.Str) := [n0, n1, n2, n3, n4, n5, n6, n7, n8, n9, n10, n11, n12, n13, n14, n15, n16, n17, n18, n19, n20, n21, n22, n23, n24, n25, n26, n27, n28, n29, n30, n31, n32, n33]
def tops : List Nat := [8, 9, 10, 14, 15, 18, 19, 20, 22, 25, 29, 30, 31, 32, 33, 35, 37, 38, 39, 40, 41, 42, 43, 44, 45, 46, 47, 48, 49, 50, 51, 52, 53, 54]
def fnT : List (PySem.Str × List PySem.Str) := [(("is_number" : PySem.Str), (["value"] : List PySem.Str)), (("is_up_to" : PySem.Str), (["value", "most"] : List PySem.Str)), (("is_name" : PySem.Str), (["value"] : List PySem.Str)), (("are_refills" : PySem.Str), (["value", "most"] : List PySem.Str)), (("is_bucket_by" : PySem.Str), (["value"] : List PySem.Str)), (("is_node" : PySem.Str), (["value"] : List PySem.Str)), (("is_parent" : PySem.Str), (["value", "names"] : List PySem.Str)), (("is_tree_by" : PySem.Str), (["value"] : List PySem.Str)), (("check_tree" : PySem.Str), (["value"] : List PySem.Str)), (("numbers_of" : PySem.Str), (["words"] : List PySem.Str)), (("rows_of" : PySem.Str), (["text"] : List PySem.Str)), (("node_text" : PySem.Str), (["node"] : List PySem.Str)), (("tree_text" : PySem.Str), (["tree"] : List PySem.Str)), (("node_of" : PySem.Str), (["row", "is_first"] : List PySem.Str)), (("read_tree" : PySem.Str), (["text"] : List PySem.Str)), (("is_tree" : PySem.Str), (["value"] : List PySem.Str)), (("_law_urn" : PySem.Str), (["script", "lap"] : List PySem.Str)), (("_law_nip" : PySem.Str), (["urn", "many"] : List PySem.Str)), (("_law_any_of" : PySem.Str), (["urn", "some"] : List PySem.Str)), (("_law_same" : PySem.Str), (["one", "two"] : List PySem.Str)), (("_law_name" : PySem.Str), (["urn", "names"] : List PySem.Str)), (("_law_tree" : PySem.Str), (["urn", "most", "high"] : List PySem.Str)), (("_law_figures" : PySem.Str), (["word"] : List PySem.Str)), (("_law_turned" : PySem.Str), (["urn", "text", "signs"] : List PySem.Str)), (("_law_row" : PySem.Str), (["node"] : List PySem.Str)), (("_law_written" : PySem.Str), (["tree"] : List PySem.Str)), (("_law_is_name" : PySem.Str), (["word"] : List PySem.Str)), (("_law_node" : PySem.Str), (["words", "nodes"] : List PySem.Str)), (("_law_tree_of" : PySem.Str), (["text"] : List PySem.Str)), (("_law_told" : PySem.Str), (["text", "is_named"] : List PySem.Str)), (("_law_changed" : PySem.Str), (["urn", "text"] : List PySem.Str)), (("_law_refused" : PySem.Str), (["value"] : List PySem.Str)), (("_law_right" : PySem.Str), (["urn"] : List PySem.Str)), (("law" : PySem.Str), (["script"] : List PySem.Str))]
def clT : List PySem.Str := ["LimitError", "InvalidTree", "InvalidDeed", "InvalidText"]
def glT : List PySem.Str := ["LETTERS", "MOST_LETTERS", "MOST", "MOST_PERIOD", "MOST_NODES", "DIGITS", "NODE", "INSIDE"]
def glW : List W := [.str [97, 98, 99, 100, 101, 102, 103, 104, 105, 106, 107, 108, 109, 110, 111, 112, 113, 114, 115, 116, 117, 118, 119, 120, 121, 122], .int 8, .int 99, .int 4, .int 6, .str [48, 49, 50, 51, 52, 53, 54, 55, 56, 57], .str [110, 111, 100, 101], .str [105, 110]]
def fldT : List PySem.Str := ["given", "index"]
def freeT : List PySem.Str := ["abs", "all", "bool", "divmod", "enumerate", "int", "isinstance", "len", "list", "max", "range", "str", "sum", "tuple", "zip"]
def subL : List (Nat × Nat) := [(0, 0), (1, 1), (1, 0), (2, 2), (2, 0), (3, 3), (3, 0)]
def payT : List (Option Nat) := [none, some 0, some 1, some 1]
def PG : Pg := { defs := dfs, gl := glW, sub := fun a b => decide ((a, b) ∈ subL), nx := 4, pay := fun c => (payT[c]?).getD none }
def GT : Gt := { fn := fnT, cl := clT, gl := glT, fld := fldT, free := freeT }
def top (i : Nat) : Stmt := PySem.Challenge.pw_lentlimits_k88_whole_texts_of_trees.main.body.getD i (.Pass ⟨0, 0, 0, 0⟩)
def dI : List DefI := (nms.zip tops).map fun (n, k) => ⟨n, "", defArgs (top k), defBody (top k), defScope (top k)⟩
def chk1 (i : Nat) : Bool := match dI[i]?, dfs[i]? with
  | some d, some D => chkSs PG (gm GT d) D.body d.body
  | _, _ => false
end K88
end LP
/-! LP, part 29: tables of the law. -/
namespace LP
open L2 PySem PySem.Spec PyProof.Rows
namespace K88
theorem c0 : chk1 0 = true := by kernel_rfl
theorem c1 : chk1 1 = true := by kernel_rfl
theorem c2 : chk1 2 = true := by kernel_rfl
theorem c3 : chk1 3 = true := by kernel_rfl
theorem c4 : chk1 4 = true := by kernel_rfl
theorem c5 : chk1 5 = true := by kernel_rfl
theorem c6 : chk1 6 = true := by kernel_rfl
theorem c7 : chk1 7 = true := by kernel_rfl
theorem c8 : chk1 8 = true := by kernel_rfl
theorem c9 : chk1 9 = true := by kernel_rfl
theorem c10 : chk1 10 = true := by kernel_rfl
theorem c11 : chk1 11 = true := by kernel_rfl
theorem c12 : chk1 12 = true := by kernel_rfl
theorem c13 : chk1 13 = true := by kernel_rfl
theorem c14 : chk1 14 = true := by kernel_rfl
theorem c15 : chk1 15 = true := by kernel_rfl
theorem c16 : chk1 16 = true := by kernel_rfl
theorem c17 : chk1 17 = true := by kernel_rfl
theorem c18 : chk1 18 = true := by kernel_rfl
theorem c19 : chk1 19 = true := by kernel_rfl
theorem c20 : chk1 20 = true := by kernel_rfl
theorem c21 : chk1 21 = true := by kernel_rfl
theorem c22 : chk1 22 = true := by kernel_rfl
theorem c23 : chk1 23 = true := by kernel_rfl
theorem c24 : chk1 24 = true := by kernel_rfl
theorem c25 : chk1 25 = true := by kernel_rfl
theorem c26 : chk1 26 = true := by kernel_rfl
theorem c27 : chk1 27 = true := by kernel_rfl
theorem c28 : chk1 28 = true := by kernel_rfl
theorem c29 : chk1 29 = true := by kernel_rfl
theorem c30 : chk1 30 = true := by kernel_rfl
theorem c31 : chk1 31 = true := by kernel_rfl
theorem c32 : chk1 32 = true := by kernel_rfl
theorem c33 : chk1 33 = true := by kernel_rfl
end K88
end LP
/-! LP, part 29: tables of the law. -/
namespace LP
open L2 PySem PySem.Spec PyProof.Rows
namespace K88
def fsB (d : DefI) (ps : List Str) : Bool := (match d.scope.kind with
  | .function => true
  | _ => false) && !d.scope.isCoroutine && !d.scope.isGenerator && decide d.N.Nodup && decide (d.N.take ps.length = ps) && ps.all (fun x => decide (d.scope.names.lookup x = some .local) || decide (d.scope.names.lookup x = some .cell)) && d.scope.names.all (fun y => match y.2 with
    | .free => false
    | _ => true)
theorem fsB_ok {d : DefI} {ps : List Str} (h : fsB d ps = true) : FnScope d.N ps d.scope := by
  unfold fsB at h
  simp only [Bool.and_eq_true, List.all_eq_true, decide_eq_true_eq, Bool.not_eq_true', Bool.or_eq_true] at h
  obtain ⟨⟨⟨⟨⟨⟨h1, h2⟩, h3⟩, h4⟩, h5⟩, h6⟩, h7⟩ := h
  refine ⟨?_, h2, h3, h4, h5, h6, fun y hy e => ?_⟩
  · split at h1
    · assumption
    · cases h1
  · have := h7 y hy
    rw [e] at this
    cases this
def fs1 (i : Nat) : Bool := match dI[i]?, fnT[i]? with
  | some d, some p => fsB d p.2
  | _, _ => false
theorem fsAll : ((List.range 34).all fs1) = true := by kernel_rfl
theorem len_dI : dI.length = 34 := by kernel_rfl
theorem len_fn : fnT.length = 34 := by kernel_rfl

theorem sp1 {R : List Value → List Value → Prop} (h0 : ∀ a, R [] [a]) (h1 : ∀ a, R [a] []) : ∀ us ws, us.length + ws.length = 1 → R us ws
  | [], [a], _ => h0 a
  | [a], [], _ => h1 a
  | [], [], h => by cases h
  | [], _ :: _ :: _, h => by simp at h
  | [_], _ :: _, h => by simp at h
  | _ :: _ :: _, _, h => by simp only [List.length_cons] at h; omega
theorem sp2 {R : List Value → List Value → Prop} (h0 : ∀ a b, R [] [a, b]) (h1 : ∀ a b, R [a] [b]) (h2 : ∀ a b, R [a, b] []) : ∀ us ws, us.length + ws.length = 2 → R us ws
  | [], [a, b], _ => h0 a b
  | [a], [b], _ => h1 a b
  | [a, b], [], _ => h2 a b
  | [], [], h => by cases h
  | [], [_], h => by cases h
  | [_], [], h => by cases h
  | [], _ :: _ :: _ :: _, h => by simp only [List.length_cons, List.length_nil] at h; omega
  | [_], _ :: _ :: _, h => by simp only [List.length_cons, List.length_nil] at h; omega
  | [_, _], _ :: _, h => by simp only [List.length_cons, List.length_nil] at h; omega
  | _ :: _ :: _ :: _, _, h => by simp only [List.length_cons] at h; omega
theorem sp3 {R : List Value → List Value → Prop} (h0 : ∀ a b c, R [] [a, b, c]) (h1 : ∀ a b c, R [a] [b, c]) (h2 : ∀ a b c, R [a, b] [c]) (h3 : ∀ a b c, R [a, b, c] []) : ∀ us ws, us.length + ws.length = 3 → R us ws
  | [], [a, b, c], _ => h0 a b c
  | [a], [b, c], _ => h1 a b c
  | [a, b], [c], _ => h2 a b c
  | [a, b, c], [], _ => h3 a b c
  | [], [], h => by cases h
  | [], [_], h => by cases h
  | [], [_, _], h => by cases h
  | [_], [], h => by cases h
  | [_], [_], h => by cases h
  | [_, _], [], h => by cases h
  | [], _ :: _ :: _ :: _ :: _, h => by simp only [List.length_cons, List.length_nil] at h; omega
  | [_], _ :: _ :: _ :: _, h => by simp only [List.length_cons, List.length_nil] at h; omega
  | [_, _], _ :: _ :: _, h => by simp only [List.length_cons, List.length_nil] at h; omega
  | [_, _, _], _ :: _, h => by simp only [List.length_cons, List.length_nil] at h; omega
  | _ :: _ :: _ :: _ :: _, _, h => by simp only [List.length_cons] at h; omega
abbrev bdT (K : PySem.W.Frag) (i : Nat) (ps : List Str) : Prop := ∀ (x qual : Str) (body : List Stmt) (scope : Scope) (f : Addr) (fd : FuncData), L2.FunD K x qual (defArgs (top i)) body scope [] [] f fd → BindAll K fd ps
theorem b0 {K : PySem.W.Frag} : bdT K 8 ["value"] := by
  intro x qual body scope f fd F s us ws I hl
  obtain ⟨oc, od, dV, kV, doc, pm, an, cdv, ct, osl, rfl, _, _, hd, _⟩ := F.ex
  obtain ⟨_, rfl⟩ | ⟨z, _⟩ := hd
  case inr => exact absurd rfl z
  clear I
  revert us ws hl
  refine sp1 ?_ ?_
  · exact fun _ => .of_eq (by with_unfolding_all rfl)
  · exact fun _ => .of_eq (by with_unfolding_all rfl)
theorem b1 {K : PySem.W.Frag} : bdT K 9 ["value", "most"] := by
  intro x qual body scope f fd F s us ws I hl
  obtain ⟨oc, od, dV, kV, doc, pm, an, cdv, ct, osl, rfl, _, _, hd, _⟩ := F.ex
  obtain ⟨_, rfl⟩ | ⟨z, _⟩ := hd
  case inr => exact absurd rfl z
  clear I
  revert us ws hl
  refine sp2 ?_ ?_ ?_
  · exact fun _ _ => .of_eq (by with_unfolding_all rfl)
  · exact fun _ _ => .of_eq (by with_unfolding_all rfl)
  · exact fun _ _ => .of_eq (by with_unfolding_all rfl)
theorem b2 {K : PySem.W.Frag} : bdT K 10 ["value"] := by
  intro x qual body scope f fd F s us ws I hl
  obtain ⟨oc, od, dV, kV, doc, pm, an, cdv, ct, osl, rfl, _, _, hd, _⟩ := F.ex
  obtain ⟨_, rfl⟩ | ⟨z, _⟩ := hd
  case inr => exact absurd rfl z
  clear I
  revert us ws hl
  refine sp1 ?_ ?_
  · exact fun _ => .of_eq (by with_unfolding_all rfl)
  · exact fun _ => .of_eq (by with_unfolding_all rfl)
theorem b3 {K : PySem.W.Frag} : bdT K 14 ["value", "most"] := by
  intro x qual body scope f fd F s us ws I hl
  obtain ⟨oc, od, dV, kV, doc, pm, an, cdv, ct, osl, rfl, _, _, hd, _⟩ := F.ex
  obtain ⟨_, rfl⟩ | ⟨z, _⟩ := hd
  case inr => exact absurd rfl z
  clear I
  revert us ws hl
  refine sp2 ?_ ?_ ?_
  · exact fun _ _ => .of_eq (by with_unfolding_all rfl)
  · exact fun _ _ => .of_eq (by with_unfolding_all rfl)
  · exact fun _ _ => .of_eq (by with_unfolding_all rfl)
theorem b4 {K : PySem.W.Frag} : bdT K 15 ["value"] := by
  intro x qual body scope f fd F s us ws I hl
  obtain ⟨oc, od, dV, kV, doc, pm, an, cdv, ct, osl, rfl, _, _, hd, _⟩ := F.ex
  obtain ⟨_, rfl⟩ | ⟨z, _⟩ := hd
  case inr => exact absurd rfl z
  clear I
  revert us ws hl
  refine sp1 ?_ ?_
  · exact fun _ => .of_eq (by with_unfolding_all rfl)
  · exact fun _ => .of_eq (by with_unfolding_all rfl)
theorem b5 {K : PySem.W.Frag} : bdT K 18 ["value"] := by
  intro x qual body scope f fd F s us ws I hl
  obtain ⟨oc, od, dV, kV, doc, pm, an, cdv, ct, osl, rfl, _, _, hd, _⟩ := F.ex
  obtain ⟨_, rfl⟩ | ⟨z, _⟩ := hd
  case inr => exact absurd rfl z
  clear I
  revert us ws hl
  refine sp1 ?_ ?_
  · exact fun _ => .of_eq (by with_unfolding_all rfl)
  · exact fun _ => .of_eq (by with_unfolding_all rfl)
theorem b6 {K : PySem.W.Frag} : bdT K 19 ["value", "names"] := by
  intro x qual body scope f fd F s us ws I hl
  obtain ⟨oc, od, dV, kV, doc, pm, an, cdv, ct, osl, rfl, _, _, hd, _⟩ := F.ex
  obtain ⟨_, rfl⟩ | ⟨z, _⟩ := hd
  case inr => exact absurd rfl z
  clear I
  revert us ws hl
  refine sp2 ?_ ?_ ?_
  · exact fun _ _ => .of_eq (by with_unfolding_all rfl)
  · exact fun _ _ => .of_eq (by with_unfolding_all rfl)
  · exact fun _ _ => .of_eq (by with_unfolding_all rfl)
theorem b7 {K : PySem.W.Frag} : bdT K 20 ["value"] := by
  intro x qual body scope f fd F s us ws I hl
  obtain ⟨oc, od, dV, kV, doc, pm, an, cdv, ct, osl, rfl, _, _, hd, _⟩ := F.ex
  obtain ⟨_, rfl⟩ | ⟨z, _⟩ := hd
  case inr => exact absurd rfl z
  clear I
  revert us ws hl
  refine sp1 ?_ ?_
  · exact fun _ => .of_eq (by with_unfolding_all rfl)
  · exact fun _ => .of_eq (by with_unfolding_all rfl)
theorem b8 {K : PySem.W.Frag} : bdT K 22 ["value"] := by
  intro x qual body scope f fd F s us ws I hl
  obtain ⟨oc, od, dV, kV, doc, pm, an, cdv, ct, osl, rfl, _, _, hd, _⟩ := F.ex
  obtain ⟨_, rfl⟩ | ⟨z, _⟩ := hd
  case inr => exact absurd rfl z
  clear I
  revert us ws hl
  refine sp1 ?_ ?_
  · exact fun _ => .of_eq (by with_unfolding_all rfl)
  · exact fun _ => .of_eq (by with_unfolding_all rfl)
theorem b9 {K : PySem.W.Frag} : bdT K 25 ["words"] := by
  intro x qual body scope f fd F s us ws I hl
  obtain ⟨oc, od, dV, kV, doc, pm, an, cdv, ct, osl, rfl, _, _, hd, _⟩ := F.ex
  obtain ⟨_, rfl⟩ | ⟨z, _⟩ := hd
  case inr => exact absurd rfl z
  clear I
  revert us ws hl
  refine sp1 ?_ ?_
  · exact fun _ => .of_eq (by with_unfolding_all rfl)
  · exact fun _ => .of_eq (by with_unfolding_all rfl)
theorem b10 {K : PySem.W.Frag} : bdT K 29 ["text"] := by
  intro x qual body scope f fd F s us ws I hl
  obtain ⟨oc, od, dV, kV, doc, pm, an, cdv, ct, osl, rfl, _, _, hd, _⟩ := F.ex
  obtain ⟨_, rfl⟩ | ⟨z, _⟩ := hd
  case inr => exact absurd rfl z
  clear I
  revert us ws hl
  refine sp1 ?_ ?_
  · exact fun _ => .of_eq (by with_unfolding_all rfl)
  · exact fun _ => .of_eq (by with_unfolding_all rfl)
theorem b11 {K : PySem.W.Frag} : bdT K 30 ["node"] := by
  intro x qual body scope f fd F s us ws I hl
  obtain ⟨oc, od, dV, kV, doc, pm, an, cdv, ct, osl, rfl, _, _, hd, _⟩ := F.ex
  obtain ⟨_, rfl⟩ | ⟨z, _⟩ := hd
  case inr => exact absurd rfl z
  clear I
  revert us ws hl
  refine sp1 ?_ ?_
  · exact fun _ => .of_eq (by with_unfolding_all rfl)
  · exact fun _ => .of_eq (by with_unfolding_all rfl)
theorem b12 {K : PySem.W.Frag} : bdT K 31 ["tree"] := by
  intro x qual body scope f fd F s us ws I hl
  obtain ⟨oc, od, dV, kV, doc, pm, an, cdv, ct, osl, rfl, _, _, hd, _⟩ := F.ex
  obtain ⟨_, rfl⟩ | ⟨z, _⟩ := hd
  case inr => exact absurd rfl z
  clear I
  revert us ws hl
  refine sp1 ?_ ?_
  · exact fun _ => .of_eq (by with_unfolding_all rfl)
  · exact fun _ => .of_eq (by with_unfolding_all rfl)
theorem b13 {K : PySem.W.Frag} : bdT K 32 ["row", "is_first"] := by
  intro x qual body scope f fd F s us ws I hl
  obtain ⟨oc, od, dV, kV, doc, pm, an, cdv, ct, osl, rfl, _, _, hd, _⟩ := F.ex
  obtain ⟨_, rfl⟩ | ⟨z, _⟩ := hd
  case inr => exact absurd rfl z
  clear I
  revert us ws hl
  refine sp2 ?_ ?_ ?_
  · exact fun _ _ => .of_eq (by with_unfolding_all rfl)
  · exact fun _ _ => .of_eq (by with_unfolding_all rfl)
  · exact fun _ _ => .of_eq (by with_unfolding_all rfl)
theorem b14 {K : PySem.W.Frag} : bdT K 33 ["text"] := by
  intro x qual body scope f fd F s us ws I hl
  obtain ⟨oc, od, dV, kV, doc, pm, an, cdv, ct, osl, rfl, _, _, hd, _⟩ := F.ex
  obtain ⟨_, rfl⟩ | ⟨z, _⟩ := hd
  case inr => exact absurd rfl z
  clear I
  revert us ws hl
  refine sp1 ?_ ?_
  · exact fun _ => .of_eq (by with_unfolding_all rfl)
  · exact fun _ => .of_eq (by with_unfolding_all rfl)
theorem b15 {K : PySem.W.Frag} : bdT K 35 ["value"] := by
  intro x qual body scope f fd F s us ws I hl
  obtain ⟨oc, od, dV, kV, doc, pm, an, cdv, ct, osl, rfl, _, _, hd, _⟩ := F.ex
  obtain ⟨_, rfl⟩ | ⟨z, _⟩ := hd
  case inr => exact absurd rfl z
  clear I
  revert us ws hl
  refine sp1 ?_ ?_
  · exact fun _ => .of_eq (by with_unfolding_all rfl)
  · exact fun _ => .of_eq (by with_unfolding_all rfl)
theorem b16 {K : PySem.W.Frag} : bdT K 37 ["script", "lap"] := by
  intro x qual body scope f fd F s us ws I hl
  obtain ⟨oc, od, dV, kV, doc, pm, an, cdv, ct, osl, rfl, _, _, hd, _⟩ := F.ex
  obtain ⟨_, rfl⟩ | ⟨z, _⟩ := hd
  case inr => exact absurd rfl z
  clear I
  revert us ws hl
  refine sp2 ?_ ?_ ?_
  · exact fun _ _ => .of_eq (by with_unfolding_all rfl)
  · exact fun _ _ => .of_eq (by with_unfolding_all rfl)
  · exact fun _ _ => .of_eq (by with_unfolding_all rfl)
theorem b17 {K : PySem.W.Frag} : bdT K 38 ["urn", "many"] := by
  intro x qual body scope f fd F s us ws I hl
  obtain ⟨oc, od, dV, kV, doc, pm, an, cdv, ct, osl, rfl, _, _, hd, _⟩ := F.ex
  obtain ⟨_, rfl⟩ | ⟨z, _⟩ := hd
  case inr => exact absurd rfl z
  clear I
  revert us ws hl
  refine sp2 ?_ ?_ ?_
  · exact fun _ _ => .of_eq (by with_unfolding_all rfl)
  · exact fun _ _ => .of_eq (by with_unfolding_all rfl)
  · exact fun _ _ => .of_eq (by with_unfolding_all rfl)
theorem b18 {K : PySem.W.Frag} : bdT K 39 ["urn", "some"] := by
  intro x qual body scope f fd F s us ws I hl
  obtain ⟨oc, od, dV, kV, doc, pm, an, cdv, ct, osl, rfl, _, _, hd, _⟩ := F.ex
  obtain ⟨_, rfl⟩ | ⟨z, _⟩ := hd
  case inr => exact absurd rfl z
  clear I
  revert us ws hl
  refine sp2 ?_ ?_ ?_
  · exact fun _ _ => .of_eq (by with_unfolding_all rfl)
  · exact fun _ _ => .of_eq (by with_unfolding_all rfl)
  · exact fun _ _ => .of_eq (by with_unfolding_all rfl)
theorem b19 {K : PySem.W.Frag} : bdT K 40 ["one", "two"] := by
  intro x qual body scope f fd F s us ws I hl
  obtain ⟨oc, od, dV, kV, doc, pm, an, cdv, ct, osl, rfl, _, _, hd, _⟩ := F.ex
  obtain ⟨_, rfl⟩ | ⟨z, _⟩ := hd
  case inr => exact absurd rfl z
  clear I
  revert us ws hl
  refine sp2 ?_ ?_ ?_
  · exact fun _ _ => .of_eq (by with_unfolding_all rfl)
  · exact fun _ _ => .of_eq (by with_unfolding_all rfl)
  · exact fun _ _ => .of_eq (by with_unfolding_all rfl)
theorem b20 {K : PySem.W.Frag} : bdT K 41 ["urn", "names"] := by
  intro x qual body scope f fd F s us ws I hl
  obtain ⟨oc, od, dV, kV, doc, pm, an, cdv, ct, osl, rfl, _, _, hd, _⟩ := F.ex
  obtain ⟨_, rfl⟩ | ⟨z, _⟩ := hd
  case inr => exact absurd rfl z
  clear I
  revert us ws hl
  refine sp2 ?_ ?_ ?_
  · exact fun _ _ => .of_eq (by with_unfolding_all rfl)
  · exact fun _ _ => .of_eq (by with_unfolding_all rfl)
  · exact fun _ _ => .of_eq (by with_unfolding_all rfl)
theorem b21 {K : PySem.W.Frag} : bdT K 42 ["urn", "most", "high"] := by
  intro x qual body scope f fd F s us ws I hl
  obtain ⟨oc, od, dV, kV, doc, pm, an, cdv, ct, osl, rfl, _, _, hd, _⟩ := F.ex
  obtain ⟨_, rfl⟩ | ⟨z, _⟩ := hd
  case inr => exact absurd rfl z
  clear I
  revert us ws hl
  refine sp3 ?_ ?_ ?_ ?_
  · exact fun _ _ _ => .of_eq (by with_unfolding_all rfl)
  · exact fun _ _ _ => .of_eq (by with_unfolding_all rfl)
  · exact fun _ _ _ => .of_eq (by with_unfolding_all rfl)
  · exact fun _ _ _ => .of_eq (by with_unfolding_all rfl)
theorem b22 {K : PySem.W.Frag} : bdT K 43 ["word"] := by
  intro x qual body scope f fd F s us ws I hl
  obtain ⟨oc, od, dV, kV, doc, pm, an, cdv, ct, osl, rfl, _, _, hd, _⟩ := F.ex
  obtain ⟨_, rfl⟩ | ⟨z, _⟩ := hd
  case inr => exact absurd rfl z
  clear I
  revert us ws hl
  refine sp1 ?_ ?_
  · exact fun _ => .of_eq (by with_unfolding_all rfl)
  · exact fun _ => .of_eq (by with_unfolding_all rfl)
theorem b23 {K : PySem.W.Frag} : bdT K 44 ["urn", "text", "signs"] := by
  intro x qual body scope f fd F s us ws I hl
  obtain ⟨oc, od, dV, kV, doc, pm, an, cdv, ct, osl, rfl, _, _, hd, _⟩ := F.ex
  obtain ⟨_, rfl⟩ | ⟨z, _⟩ := hd
  case inr => exact absurd rfl z
  clear I
  revert us ws hl
  refine sp3 ?_ ?_ ?_ ?_
  · exact fun _ _ _ => .of_eq (by with_unfolding_all rfl)
  · exact fun _ _ _ => .of_eq (by with_unfolding_all rfl)
  · exact fun _ _ _ => .of_eq (by with_unfolding_all rfl)
  · exact fun _ _ _ => .of_eq (by with_unfolding_all rfl)
theorem b24 {K : PySem.W.Frag} : bdT K 45 ["node"] := by
  intro x qual body scope f fd F s us ws I hl
  obtain ⟨oc, od, dV, kV, doc, pm, an, cdv, ct, osl, rfl, _, _, hd, _⟩ := F.ex
  obtain ⟨_, rfl⟩ | ⟨z, _⟩ := hd
  case inr => exact absurd rfl z
  clear I
  revert us ws hl
  refine sp1 ?_ ?_
  · exact fun _ => .of_eq (by with_unfolding_all rfl)
  · exact fun _ => .of_eq (by with_unfolding_all rfl)
theorem b25 {K : PySem.W.Frag} : bdT K 46 ["tree"] := by
  intro x qual body scope f fd F s us ws I hl
  obtain ⟨oc, od, dV, kV, doc, pm, an, cdv, ct, osl, rfl, _, _, hd, _⟩ := F.ex
  obtain ⟨_, rfl⟩ | ⟨z, _⟩ := hd
  case inr => exact absurd rfl z
  clear I
  revert us ws hl
  refine sp1 ?_ ?_
  · exact fun _ => .of_eq (by with_unfolding_all rfl)
  · exact fun _ => .of_eq (by with_unfolding_all rfl)
theorem b26 {K : PySem.W.Frag} : bdT K 47 ["word"] := by
  intro x qual body scope f fd F s us ws I hl
  obtain ⟨oc, od, dV, kV, doc, pm, an, cdv, ct, osl, rfl, _, _, hd, _⟩ := F.ex
  obtain ⟨_, rfl⟩ | ⟨z, _⟩ := hd
  case inr => exact absurd rfl z
  clear I
  revert us ws hl
  refine sp1 ?_ ?_
  · exact fun _ => .of_eq (by with_unfolding_all rfl)
  · exact fun _ => .of_eq (by with_unfolding_all rfl)
theorem b27 {K : PySem.W.Frag} : bdT K 48 ["words", "nodes"] := by
  intro x qual body scope f fd F s us ws I hl
  obtain ⟨oc, od, dV, kV, doc, pm, an, cdv, ct, osl, rfl, _, _, hd, _⟩ := F.ex
  obtain ⟨_, rfl⟩ | ⟨z, _⟩ := hd
  case inr => exact absurd rfl z
  clear I
  revert us ws hl
  refine sp2 ?_ ?_ ?_
  · exact fun _ _ => .of_eq (by with_unfolding_all rfl)
  · exact fun _ _ => .of_eq (by with_unfolding_all rfl)
  · exact fun _ _ => .of_eq (by with_unfolding_all rfl)
theorem b28 {K : PySem.W.Frag} : bdT K 49 ["text"] := by
  intro x qual body scope f fd F s us ws I hl
  obtain ⟨oc, od, dV, kV, doc, pm, an, cdv, ct, osl, rfl, _, _, hd, _⟩ := F.ex
  obtain ⟨_, rfl⟩ | ⟨z, _⟩ := hd
  case inr => exact absurd rfl z
  clear I
  revert us ws hl
  refine sp1 ?_ ?_
  · exact fun _ => .of_eq (by with_unfolding_all rfl)
  · exact fun _ => .of_eq (by with_unfolding_all rfl)
theorem b29 {K : PySem.W.Frag} : bdT K 50 ["text", "is_named"] := by
  intro x qual body scope f fd F s us ws I hl
  obtain ⟨oc, od, dV, kV, doc, pm, an, cdv, ct, osl, rfl, _, _, hd, _⟩ := F.ex
  obtain ⟨_, rfl⟩ | ⟨z, _⟩ := hd
  case inr => exact absurd rfl z
  clear I
  revert us ws hl
  refine sp2 ?_ ?_ ?_
  · exact fun _ _ => .of_eq (by with_unfolding_all rfl)
  · exact fun _ _ => .of_eq (by with_unfolding_all rfl)
  · exact fun _ _ => .of_eq (by with_unfolding_all rfl)
theorem b30 {K : PySem.W.Frag} : bdT K 51 ["urn", "text"] := by
  intro x qual body scope f fd F s us ws I hl
  obtain ⟨oc, od, dV, kV, doc, pm, an, cdv, ct, osl, rfl, _, _, hd, _⟩ := F.ex
  obtain ⟨_, rfl⟩ | ⟨z, _⟩ := hd
  case inr => exact absurd rfl z
  clear I
  revert us ws hl
  refine sp2 ?_ ?_ ?_
  · exact fun _ _ => .of_eq (by with_unfolding_all rfl)
  · exact fun _ _ => .of_eq (by with_unfolding_all rfl)
  · exact fun _ _ => .of_eq (by with_unfolding_all rfl)
theorem b31 {K : PySem.W.Frag} : bdT K 52 ["value"] := by
  intro x qual body scope f fd F s us ws I hl
  obtain ⟨oc, od, dV, kV, doc, pm, an, cdv, ct, osl, rfl, _, _, hd, _⟩ := F.ex
  obtain ⟨_, rfl⟩ | ⟨z, _⟩ := hd
  case inr => exact absurd rfl z
  clear I
  revert us ws hl
  refine sp1 ?_ ?_
  · exact fun _ => .of_eq (by with_unfolding_all rfl)
  · exact fun _ => .of_eq (by with_unfolding_all rfl)
theorem b32 {K : PySem.W.Frag} : bdT K 53 ["urn"] := by
  intro x qual body scope f fd F s us ws I hl
  obtain ⟨oc, od, dV, kV, doc, pm, an, cdv, ct, osl, rfl, _, _, hd, _⟩ := F.ex
  obtain ⟨_, rfl⟩ | ⟨z, _⟩ := hd
  case inr => exact absurd rfl z
  clear I
  revert us ws hl
  refine sp1 ?_ ?_
  · exact fun _ => .of_eq (by with_unfolding_all rfl)
  · exact fun _ => .of_eq (by with_unfolding_all rfl)
theorem b33 {K : PySem.W.Frag} : bdT K 54 ["script"] := by
  intro x qual body scope f fd F s us ws I hl
  obtain ⟨oc, od, dV, kV, doc, pm, an, cdv, ct, osl, rfl, _, _, hd, _⟩ := F.ex
  obtain ⟨_, rfl⟩ | ⟨z, _⟩ := hd
  case inr => exact absurd rfl z
  clear I
  revert us ws hl
  refine sp1 ?_ ?_
  · exact fun _ => .of_eq (by with_unfolding_all rfl)
  · exact fun _ => .of_eq (by with_unfolding_all rfl)
end K88
end LP
/-! LP, part 31: the head of k88. -/
namespace LP
open L2 PySem PySem.Spec PyProof.Rows
namespace K88
def defD (p : (Str × List Str) × Nat) : He.DefD := ⟨(p.1.1, none), p.1.1, p.1.1, defArgs (top p.2), defBody (top p.2), defScope (top p.2), [], []⟩
def fnL : List He.DefD := (fnT.zip tops).map defD
def faL : List He.Fa := fnT.map (fun p => .glo p.1) ++ (clT.map .glo ++ (freeT.map .free ++ [.str "LETTERS" "abcdefghijklmnopqrstuvwxyz", .int "MOST_LETTERS" 8, .int "MOST" 99, .int "MOST_PERIOD" 4, .int "MOST_NODES" 6, .str "DIGITS" "0123456789", .str "NODE" "node", .str "INSIDE" "in"]))
def subF (a b : Nat) : Bool := decide ((a, b) ∈ subL)
def cA (K : PySem.W.Frag) (c : Nat) : Addr := He.ga K (clT[c]?.getD Str.empty)
def fN (f : Nat) : Str := fldT[f]?.getD Str.empty
def iA (K : PySem.W.Frag) (c : Nat) : Addr := match PySem.W.findIn K (.ref (cA K c)) "__init__" with
  | some (some (.ref a)) => a
  | _ => 0
def iC (K : PySem.W.Frag) (c : Nat) : Addr × Addr := match K.lookup (iA K c) with
  | some ⟨_, _, .func fd, _⟩ => ((match fd.closure with
    | [(_, a)] => a
    | _ => 0), (match fd.code with
    | .ref a => a
    | _ => 0))
  | _ => (0, 0)
def file : Str := PySem.Challenge.pw_lentlimits_k88_whole_texts_of_trees.main.file
def qT : List Str := ["", "InvalidTree.__init__", "InvalidDeed.__init__", "InvalidText.__init__"]
def fxL (K : PySem.W.Frag) : Bool := subB K (cA K) subF 4 && ((List.range 4).all (fun c => exclB K (cA K c)) && (List.range 4).all fun c => match payT[c]?.getD none with
  | some f => decide (PySem.W.findIn K (.ref (cA K c)) (fN f) = some none) && errB K file (cA K c) (iA K c) (iC K c).1 (iC K c).2 (fN f) && ccB K (iA K c) (iC K c).1 (iC K c).2 (qT[c]?.getD Str.empty)
  | none => true)
/-- the row's own text of a class's __init__ -/
def clsS (i : Nat) : Stmt := match top i with
  | .ClassDef _ _ _ (b :: _) _ _ _ _ _ _ _ => b
  | s => s
def initV : List FnI := ([(2, "InvalidTree.__init__"), (3, "InvalidDeed.__init__"), (4, "InvalidText.__init__")] : List (Nat × Str)).map fun (p : Nat × Str) => some ("__init__", p.2, defArgs (clsS p.1), .stmts (defBody (clsS p.1)), defScope (clsS p.1), mainGlobals, ["__class__"], .none, .none, builtinsNs)
def oxL (K : PySem.W.Frag) : Bool × List FnI := (fxL K, [1, 2, 3].map fun c => fnI K (iA K c))
abbrev R : PySem.W.OpenRow := PySem.W.OpenLaw.row PySem.Challenge.rw_lentlimits_k88_whole_texts_of_trees
abbrev qv : Program := PySem.W.view R.prog [54]
abbrev hk : PySem.W.Hook := hookX 6 faL fnL oxL (true, initV)
def ob (s : PySem.W.SharedT) : He.AlD × (Bool × List FnI) := tellG 6 faL fnL oxL (HandSHeadRun.getT s)
def nm0 : List PySem.Str := ["LimitError", "InvalidTree", "InvalidDeed", "InvalidText", "LETTERS", "MOST_LETTERS", "is_number", "is_up_to", "is_name", "MOST", "MOST_PERIOD", "are_refills", "is_bucket_by", "MOST_NODES", "is_node", "is_parent", "is_tree_by", "check_tree", "DIGITS", "numbers_of"]
def nm1 : List PySem.Str := ["NODE", "INSIDE", "rows_of", "node_text", "tree_text", "node_of", "read_tree", "is_tree", "_law_urn", "_law_nip", "_law_any_of", "_law_same", "_law_name", "_law_tree", "_law_figures", "_law_turned", "_law_row", "_law_written", "_law_is_name", "_law_node"]
def nm2 : List PySem.Str := ["_law_tree_of", "_law_told", "_law_changed", "_law_refused", "_law_right"]
def names : List PySem.Str := nm0 ++ nm1 ++ nm2
theorem run (w : World) : HandSHeadRun.RunEq R qv hk ob 3000 names w := by
  intro os
  kernel_rfl
end K88
end LP
/-! LP, the plain rules: what the small programs do, step by step. -/
namespace LP
universe u
/-- a mark: what it names is not to be looked into -/
inductive Kp {γ : Type u} (f : γ) : Type where
  | mk
def PP (p : Prop) : Prop := p
theorem ofPP {p : Prop} (h : PP p) : p := h
theorem toPP {p : Prop} (h : p) : PP p := h
@[irreducible] def Rs.wp {α : Type} (r : Rs α) (Q : α → Hh → Prop) (X : Nat → W → Hh → Prop) (_ : Kp (Q, X) := .mk) : Prop := match r with
  | .ok a h => Q a h
  | .exc c p h => X c p h
  | .bad => False
structure Ps where
  nx : Env → Hh → Prop
  rt : W → Hh → Prop
  bk : Env → Hh → Prop
  ct : Env → Hh → Prop
  ex : Nat → W → Env → Hh → Prop
@[irreducible] def Rf.wp (r : Rf) (D : Ps) (_ : Kp D := .mk) : Prop := match r with
  | .nx ρ h => D.nx ρ h
  | .rt w h => D.rt w h
  | .bk ρ h => D.bk ρ h
  | .ct ρ h => D.ct ρ h
  | .exc c p ρ h => D.ex c p ρ h
  | .bad => False
def onB {α : Type} (w : W) (a b c : α) (_ : Kp (a, b, c) := .mk) : α := match w with
  | .bl true => a
  | .bl false => b
  | _ => c
def onI {α : Type} (w : W) (f : Int → α) (c : α) (_ : Kp (f, c) := .mk) : α := match w with
  | .int i => f i
  | _ => c
def onO {α β : Type} (o : Option α) (f : α → β) (c : β) (_ : Kp (f, c) := .mk) : β := match o with
  | some a => f a
  | none => c
def Rs.bndL {α β : Type} (r : Rs β) (f : β → Hh → Rs α) (_ : Kp f := .mk) : Rs α := r.bnd f
def Rs.rfL (r : Rs W) (ρ : Env) (f : W → Hh → Rf) (_ : Kp f := .mk) : Rf := r.rf ρ f
def Rs.rfsL (r : Rs (List W)) (ρ : Env) (f : List W → Hh → Rf) (_ : Kp f := .mk) : Rf := r.rfs ρ f
def Rf.nxtL (r : Rf) (f : Env → Hh → Rf) (_ : Kp f := .mk) : Rf := r.nxt f
section
variable {α β : Type} {a b c : α}
theorem onB_t : onB (.bl true) a b c = a := (rfl)
theorem onB_f : onB (.bl false) a b c = b := (rfl)
theorem onB_b {p : Bool} : onB (.bl p) a b c = if p = true then a else b := by cases p <;> rfl
theorem onI_i {i : Int} {f : Int → α} : onI (.int i) f c = f i := (rfl)
theorem onO_s {x : β} {f : β → α} : onO (some x) f c = f x := (rfl)
theorem onO_n {f : β → α} : onO none f c = c := (rfl)
end
section
variable {α β : Type} {Q : α → Hh → Prop} {X : Nat → W → Hh → Prop} {D : Ps}
theorem wp_ok {a : α} {h : Hh} : (Rs.ok a h).wp Q X = Q a h := by unfold Rs.wp; rfl
theorem wp_exc {c : Nat} {p : W} {h : Hh} : (Rs.exc c p h : Rs α).wp Q X = X c p h := by unfold Rs.wp; rfl
theorem wp_bad : (Rs.bad : Rs α).wp Q X = False := by unfold Rs.wp; rfl
theorem wp_bnd {r : Rs β} {f : β → Hh → Rs α} : (r.bndL f).wp Q X = r.wp (fun a h => (f a h).wp Q X) X := by unfold Rs.wp; cases r <;> rfl
theorem wp_ite {p : Prop} [Decidable p] {r s : Rs α} : (if p then r else s).wp Q X = ((p → r.wp Q X) ∧ (¬p → s.wp Q X)) := by
  by_cases h : p
  · simp only [h, if_true, forall_const, not_true, false_implies, and_true]
  · simp only [h, if_false, forall_const, not_false_eq_true, false_implies, true_and]
theorem wp_rf {r : Rs W} {ρ : Env} {f : W → Hh → Rf} : (r.rfL ρ f).wp D = r.wp (fun w h => (f w h).wp D) (fun c p h => D.ex c p ρ h) := by unfold Rs.wp Rf.wp; cases r <;> rfl
theorem wp_rfs {r : Rs (List W)} {ρ : Env} {f : List W → Hh → Rf} : (r.rfsL ρ f).wp D = r.wp (fun w h => (f w h).wp D) (fun c p h => D.ex c p ρ h) := by unfold Rs.wp Rf.wp; cases r <;> rfl
theorem wf_nx {ρ : Env} {h : Hh} : (Rf.nx ρ h).wp D = D.nx ρ h := by unfold Rf.wp; rfl
theorem wf_rt {w : W} {h : Hh} : (Rf.rt w h).wp D = D.rt w h := by unfold Rf.wp; rfl
theorem wf_bk {ρ : Env} {h : Hh} : (Rf.bk ρ h).wp D = D.bk ρ h := by unfold Rf.wp; rfl
theorem wf_ct {ρ : Env} {h : Hh} : (Rf.ct ρ h).wp D = D.ct ρ h := by unfold Rf.wp; rfl
theorem wf_exc {c : Nat} {p : W} {ρ : Env} {h : Hh} : (Rf.exc c p ρ h).wp D = D.ex c p ρ h := by unfold Rf.wp; rfl
theorem wf_bad : Rf.bad.wp D = False := by unfold Rf.wp; rfl
theorem wf_nxt {r : Rf} {f : Env → Hh → Rf} : (r.nxtL f).wp D = r.wp { D with nx := fun ρ h => (f ρ h).wp D } := by cases r <;> simp only [Rf.nxtL, Rf.nxt, wf_nx, wf_rt, wf_bk, wf_ct, wf_exc, wf_bad]
theorem wf_ite {p : Prop} [Decidable p] {r s : Rf} : (if p then r else s).wp D = ((p → r.wp D) ∧ (¬p → s.wp D)) := by
  by_cases h : p
  · simp only [h, if_true, forall_const, not_true, false_implies, and_true]
  · simp only [h, if_false, forall_const, not_false_eq_true, false_implies, true_and]
theorem bnd_ok' {a : β} {h : Hh} {f : β → Hh → Rs α} : (Rs.ok a h).bndL f = f a h := (rfl)
theorem bnd_exc' {c : Nat} {p : W} {h : Hh} {f : β → Hh → Rs α} : (Rs.exc c p h).bndL f = .exc c p h := (rfl)
theorem rf_ok' {w : W} {h : Hh} {ρ : Env} {f : W → Hh → Rf} : (Rs.ok w h).rfL ρ f = f w h := (rfl)
theorem rf_exc' {c : Nat} {p : W} {h : Hh} {ρ : Env} {f : W → Hh → Rf} : (Rs.exc c p h).rfL ρ f = .exc c p ρ h := (rfl)
theorem rfs_ok' {w : List W} {h : Hh} {ρ : Env} {f : List W → Hh → Rf} : (Rs.ok w h).rfsL ρ f = f w h := (rfl)
theorem nxt_nx' {ρ : Env} {h : Hh} {f : Env → Hh → Rf} : (Rf.nx ρ h).nxtL f = f ρ h := (rfl)
theorem nxt_rt' {w : W} {h : Hh} {f : Env → Hh → Rf} : (Rf.rt w h).nxtL f = .rt w h := (rfl)
theorem nxt_exc' {c : Nat} {p : W} {ρ : Env} {h : Hh} {f : Env → Hh → Rf} : (Rf.exc c p ρ h).nxtL f = .exc c p ρ h := (rfl)
theorem Rs.wp_mono {r : Rs α} {Q Q' : α → Hh → Prop} {X X' : Nat → W → Hh → Prop} (k : r.wp Q X) (i : ∀ a h, Q a h → Q' a h) (j : ∀ c p h, X c p h → X' c p h) : r.wp Q' X' := by
  cases r with
  | ok a h => rw [wp_ok] at k ⊢; exact i a h k
  | exc c p h => rw [wp_exc] at k ⊢; exact j c p h k
  | bad => rw [wp_bad] at k; exact k.elim
theorem Rs.wp_eq {r : Rs α} (k : r.wp Q X) : (∃ a h, r = .ok a h ∧ Q a h) ∨ ∃ c p h, r = .exc c p h ∧ X c p h := by
  cases r with
  | ok a h => rw [wp_ok] at k; exact .inl ⟨a, h, rfl, k⟩
  | exc c p h => rw [wp_exc] at k; exact .inr ⟨c, p, h, rfl, k⟩
  | bad => rw [wp_bad] at k; exact k.elim
theorem Rf.wp_mono {r : Rf} {D' : Ps} (k : r.wp D) (h1 : ∀ ρ h, D.nx ρ h → D'.nx ρ h) (h2 : ∀ w h, D.rt w h → D'.rt w h) (h3 : ∀ ρ h, D.bk ρ h → D'.bk ρ h) (h4 : ∀ ρ h, D.ct ρ h → D'.ct ρ h) (h5 : ∀ c p ρ h, D.ex c p ρ h → D'.ex c p ρ h) : r.wp D' := by
  cases r with
  | nx ρ h => rw [wf_nx] at k ⊢; exact h1 _ _ k
  | rt w h => rw [wf_rt] at k ⊢; exact h2 _ _ k
  | bk ρ h => rw [wf_bk] at k ⊢; exact h3 _ _ k
  | ct ρ h => rw [wf_ct] at k ⊢; exact h4 _ _ k
  | exc c p ρ h => rw [wf_exc] at k ⊢; exact h5 _ _ _ _ k
  | bad => rw [wf_bad] at k; exact k.elim
end
/-! ### the small things -/
section
variable {α : Type} {a b : α} {xs : List α} {n : Nat}
theorem sv_set0 : (a :: xs).set 0 b = b :: xs := (rfl)
theorem sv_setS : (a :: xs).set (n + 1) b = a :: xs.set n b := (rfl)
theorem sv_get0 : (a :: xs)[0]? = some a := (rfl)
theorem sv_getS : (a :: xs)[n + 1]? = xs[n]? := (rfl)
theorem sv_getN : ([] : List α)[n]? = none := (rfl)
theorem sv_joinS {o : Option α} : (some o).join = o := (rfl)
theorem sv_map0 {β : Type} {f : α → β} : ([] : List α).map f = [] := (rfl)
theorem sv_mapS {β : Type} {f : α → β} : (a :: xs).map f = f a :: xs.map f := (rfl)
theorem sv_app0 : [] ++ xs = xs := (rfl)
theorem sv_appS {ys : List α} : (a :: xs) ++ ys = a :: (xs ++ ys) := (rfl)
theorem sv_len0 : ([] : List α).length = 0 := (rfl)
theorem sv_lenS : (a :: xs).length = xs.length + 1 := (rfl)
theorem sv_rep0 : List.replicate 0 a = [] := (rfl)
theorem sv_repS : List.replicate (n + 1) a = a :: List.replicate n a := (rfl)
theorem sv_true {_ : Decidable True} : (if True then a else b) = a := if_pos trivial
theorem sv_false {_ : Decidable False} : (if False then a else b) = b := if_neg id
theorem sv_dec {p : Prop} [Decidable p] : (decide p = true) = p := by simp
theorem sv_not {p : Bool} : ((!p) = true) = ¬ (p = true) := by cases p <;> simp
theorem sv_imT {p : Prop} : (True → p) = p := by simp
theorem sv_imF {p : Prop} : (False → p) = True := by simp
theorem sv_nT : (¬True) = False := by simp
theorem sv_nF : (¬False) = True := by simp
theorem sv_aT {p : Prop} : (True ∧ p) = p := by simp
theorem sv_Ta {p : Prop} : (p ∧ True) = p := by simp
theorem sv_ft : (false = true) = False := by simp
theorem sv_tt : (true = true) = True := by simp
theorem sv_nt : (!true) = false := (rfl)
theorem sv_nf : (!false) = true := (rfl)
theorem sv_beqTT : (true == true) = true := (rfl)
theorem sv_beqTF : (true == false) = false := (rfl)
theorem sv_beqFT : (false == true) = false := (rfl)
theorem sv_beqFF : (false == false) = true := (rfl)
theorem sv_andT {b : Bool} : (true && b) = b := by simp
theorem sv_andF {b : Bool} : (false && b) = false := by simp
theorem sv_orT {b : Bool} : (true || b) = true := by simp
theorem sv_orF {b : Bool} : (false || b) = b := by simp
end
/-! ### expressions -/
section
variable {P : Pg} {hot : Bool} {cf : Nat → List W → Hh → Rs W} {t : Bool} {ρ : Env} {h : Hh}
theorem fin_f {r : Rs W} : fin false r = r := (rfl)
theorem fin_t {r : Rs W} : fin true r = r.bndL fun w h => outB (tru h w) h := (rfl)
theorem outV_s {w : W} : outV (some w) h = if isExn w = true then .bad else .ok w h := (rfl)
theorem outV_n : outV none h = .bad := (rfl)
theorem outB_s {b : Bool} : outB (some b) h = .ok (.bl b) h := (rfl)
theorem outB_n : outB none h = .bad := (rfl)
theorem outW_s {w : W} : outW (some w) h = .ok w h := (rfl)
theorem outW_n : outW none h = .bad := (rfl)
theorem isExn_int {i : Int} : isExn (.int i) = false := (rfl)
theorem isExn_str {i : Tx} : isExn (.str i) = false := (rfl)
theorem isExn_bl {i : Bool} : isExn (.bl i) = false := (rfl)
theorem isExn_non : isExn .non = false := (rfl)
theorem isExn_tup {i : List W} : isExn (.tup i) = false := (rfl)
theorem isExn_lst {i : List W} : isExn (.lst i) = false := (rfl)
theorem isExn_frz {i : List W} : isExn (.frz i) = false := (rfl)
theorem isExn_ref {i : Nat} : isExn (.ref i) = false := (rfl)
theorem tru_bl {b : Bool} : tru h (.bl b) = some b := (rfl)
theorem tru_int {i : Int} : tru h (.int i) = some (i != 0) := (rfl)
theorem tru_str {i : Tx} : tru h (.str i) = some (!i.isEmpty) := (rfl)
theorem tru_non : tru h .non = some false := (rfl)
theorem ev_var {i : Nat} : ev P hot cf t (.var i) ρ h = fin t (outV (ρ[i]?).join h) := (rfl)
theorem ev_non : ev P hot cf t .non ρ h = fin t (.ok .non h) := (rfl)
theorem ev_tt {b : Bool} : ev P hot cf t (.tt b) ρ h = fin t (.ok (.bl b) h) := (rfl)
theorem ev_int {i : Int} : ev P hot cf t (.int i) ρ h = fin t (.ok (.int i) h) := (rfl)
theorem ev_str {x : Tx} : ev P hot cf t (.str x) ρ h = fin t (.ok (.str x) h) := (rfl)
theorem ev_gl {k : Nat} : ev P hot cf t (.gl k) ρ h = fin t (outW P.gl[k]? h) := (rfl)
theorem ev_bin {r : Bool} {o : Bo} {a b : E} : ev P hot cf t (.bin r o a b) ρ h = fin t ((ev P hot cf false a ρ h).bndL fun x h => (ev P hot cf false b ρ h).bndL fun y h => binO r o x y h) := (rfl)
theorem ev_cmp {o : Co} {a b : E} : ev P hot cf t (.cmp o a b) ρ h = fin t ((ev P hot cf false a ρ h).bndL fun x h => (ev P hot cf false b ρ h).bndL fun y h => outB (cmpO o x y h) h) := (rfl)
theorem ev_chn {o p : Co} {a b c : E} : ev P hot cf t (.chn o p a b c) ρ h = fin t ((ev P hot cf false a ρ h).bndL fun x h => (ev P hot cf false b ρ h).bndL fun y h => onO (cmpO o x y h) (fun b => if b = true then (ev P hot cf false c ρ h).bndL fun z h => outB (cmpO p y z h) h else .ok (.bl false) h) .bad) := by
  show fin t _ = fin t _
  congr 1
  show Rs.bnd _ _ = Rs.bnd _ _
  congr 1
  funext x h
  congr 1
  funext y h
  cases cmpO o x y h with
  | none => rfl
  | some b => cases b <;> rfl
theorem ev_neg {a : E} : ev P hot cf t (.neg a) ρ h = fin t ((ev P hot cf false a ρ h).bndL fun x h => onI x (fun i => .ok (.int (-i)) h) .bad) := (rfl)
def nB (x : W) (h : Hh) : Rs W := match x with
  | .bl b => .ok (.bl (!b)) h
  | _ => .bad
theorem nB_b {b : Bool} : nB (.bl b) h = .ok (.bl (!b)) h := (rfl)
theorem ev_notT {a : E} : ev P hot cf true (.not a) ρ h = (ev P hot cf true a ρ h).bndL nB := (rfl)
theorem ev_notF {a : E} : ev P hot cf false (.not a) ρ h = ((ev P hot cf false a ρ h).bndL fun w h => outB (tru h w) h).bndL nB := (rfl)
theorem ev_and {a b : E} : ev P hot cf t (.and a b) ρ h = (ev P hot cf t a ρ h).bndL fun x h => onB x (ev P hot cf t b ρ h) (.ok (.bl false) h) .bad := (rfl)
theorem ev_or {a b : E} : ev P hot cf t (.or a b) ρ h = (ev P hot cf t a ρ h).bndL fun x h => onB x (.ok (.bl true) h) (ev P hot cf t b ρ h) .bad := (rfl)
theorem ev_ite {a b c : E} : ev P hot cf t (.ite c a b) ρ h = fin t ((ev P hot cf true c ρ h).bndL fun x h => onB x (ev P hot cf false a ρ h) (ev P hot cf false b ρ h) .bad) := (rfl)
theorem ev_tup {es : List E} : ev P hot cf t (.tup es) ρ h = fin t ((evs P hot cf es ρ h).bndL fun ws h => mkT ws h) := (rfl)
theorem ev_lst {r : Bool} {es : List E} : ev P hot cf t (.lst r es) ρ h = fin t ((evs P hot cf es ρ h).bndL fun ws h => mkL r ws h) := (rfl)
theorem ev_call {f : Nat} {es : List E} : ev P hot cf t (.call f es) ρ h = fin t ((evs P hot cf es ρ h).bndL fun ws h => cf f ws h) := (rfl)
theorem ev_blt {b : Bi} {es : List E} : ev P hot cf t (.blt b es) ρ h = fin t ((evs P hot cf es ρ h).bndL fun ws h => if (hot && coldB b) = true then .bad else biO b ws h) := (rfl)
theorem ev_mth {m : Me} {o : E} {es : List E} : ev P hot cf t (.mth m o es) ρ h = fin t ((ev P hot cf false o ρ h).bndL fun x h => if meT m h x = true then (evs P hot cf es ρ h).bndL fun ws h => meO m x ws h else .bad) := (rfl)
theorem ev_ix {a i : E} : ev P hot cf t (.ix a i) ρ h = fin t ((ev P hot cf false a ρ h).bndL fun x h => (ev P hot cf false i ρ h).bndL fun y h => outW (ixO h x y) h) := (rfl)
theorem ev_sln {r : Bool} {a : E} : ev P hot cf t (.sln r a) ρ h = fin t ((ev P hot cf false a ρ h).bndL fun x h => slO r h x none none) := (rfl)
theorem ev_slf {r : Bool} {a lo : E} : ev P hot cf t (.slf r a lo) ρ h = fin t ((ev P hot cf false a ρ h).bndL fun x h => (ev P hot cf false lo ρ h).bndL fun y h => onI y (fun i => slO r h x (some i) none) .bad) := (rfl)
theorem ev_slt {r : Bool} {a hi : E} : ev P hot cf t (.slt r a hi) ρ h = fin t ((ev P hot cf false a ρ h).bndL fun x h => (ev P hot cf false hi ρ h).bndL fun y h => onI y (fun i => slO r h x none (some i)) .bad) := (rfl)
theorem ev_slb {r : Bool} {a lo hi : E} : ev P hot cf t (.slb r a lo hi) ρ h = fin t ((ev P hot cf false a ρ h).bndL fun x h => (ev P hot cf false lo ρ h).bndL fun y h => onI y (fun i => (ev P hot cf false hi ρ h).bndL fun z h => onI z (fun j => slO r h x (some i) (some j)) .bad) .bad) := (rfl)
def revO (x : W) (h : Hh) : Rs W := match x with
  | .tup xs => .ok (.tup xs.reverse) h
  | _ => .bad
theorem revO_t {xs : List W} : revO (.tup xs) h = .ok (.tup xs.reverse) h := (rfl)
theorem ev_rev {a : E} : ev P hot cf t (.rev a) ρ h = fin t ((ev P hot cf false a ρ h).bndL revO) := (rfl)
theorem ev_isi {a : E} {ts : List Ty} : ev P hot cf t (.isi a ts) ρ h = fin t ((ev P hot cf false a ρ h).bndL fun x h => outB (tysO h P.sub x ts) h) := (rfl)
def xflO (o : Option W) (P : Pg) (f : Nat) (h : Hh) : Rs W := match o with
  | some (.exn c p) => if P.pay c = some f then .ok p h else .bad
  | _ => .bad
def xisO (o : Option W) (P : Pg) (cs : List Nat) (h : Hh) : Rs W := match o with
  | some (.exn c _) => if c < P.nx then .ok (.bl (cs.any (P.sub c))) h else .bad
  | _ => .bad
theorem xflO_x {c f : Nat} {p : W} : xflO (some (.exn c p)) P f h = if P.pay c = some f then .ok p h else .bad := (rfl)
theorem xisO_x {c : Nat} {p : W} {cs : List Nat} : xisO (some (.exn c p)) P cs h = if c < P.nx then .ok (.bl (cs.any (P.sub c))) h else .bad := (rfl)
theorem ev_xfl {i f : Nat} : ev P hot cf t (.xfl i f) ρ h = fin t (xflO (ρ[i]?).join P f h) := by
  show fin t _ = fin t _
  congr 1
theorem ev_xis {i : Nat} {cs : List Nat} : ev P hot cf t (.xis i cs) ρ h = fin t (xisO (ρ[i]?).join P cs h) := by
  show fin t _ = fin t _
  congr 1
theorem evs_n : evs P hot cf [] ρ h = .ok [] h := (rfl)
theorem evs_c {e : E} {es : List E} : evs P hot cf (e :: es) ρ h = (ev P hot cf false e ρ h).bndL fun w h => (evs P hot cf es ρ h).bndL fun ws h => .ok (w :: ws) h := (rfl)
theorem evi_n : evi P hot cf [] ρ h = .ok (.bl true) h := (rfl)
theorem evi_c {e : E} {es : List E} : evi P hot cf (e :: es) ρ h = (ev P hot cf true e ρ h).bndL fun c h => onB c (evi P hot cf es ρ h) (.ok (.bl false) h) .bad := (rfl)
/-- the turn of a list made item by item -/
def lcTu (P : Pg) (hot : Bool) (cf : Nat → List W → Hh → Rs W) (elt : E) (tg : Tg) (ifs : List E) (ρ : Env) (x : W) (acc : List W) (h : Hh) : Rs (List W) :=
  onO (asgN tg x ρ) (fun ρ' => (evi P hot cf ifs ρ' h).bndL fun c h => onB c ((ev P hot cf false elt ρ' h).bndL fun y h => if acc.length < big then .ok (acc ++ [y]) h else .bad) (.ok acc h) .bad) .bad
theorem ev_lc {r : Bool} {elt : E} {tg : Tg} {k : Ik} {its ifs : List E} {vs : List Nat} : ev P hot cf t (.lc r elt tg k its ifs vs) ρ h = fin t (if (hot && !hotK k) = true then .bad else (evs P hot cf its ρ h).bndL fun ws h =>
    onO (ivC h k ws) (fun iv => ((lcL iv (lcTu P hot cf elt tg ifs (wipeE ρ vs)) (lenV h iv) 0 [] h).cl).bnd fun xs h => lcEnd r xs h) .bad) := by
  have e : lcTu P hot cf elt tg ifs (wipeE ρ vs) = fun x acc h => match asgN tg x (wipeE ρ vs) with
        | some ρ' => (evi P hot cf ifs ρ' h).bnd fun c h => match c with
          | .bl true => (ev P hot cf false elt ρ' h).bnd fun y h => if acc.length < big then .ok (acc ++ [y]) h else .bad
          | .bl false => .ok acc h
          | _ => .bad
        | none => .bad := by
    funext x acc h
    unfold lcTu
    cases asgN tg x (wipeE ρ vs) <;> rfl
  rw [e]
  show fin t (if (hot && !hotK k) = true then _ else Rs.bnd _ _) = fin t (if (hot && !hotK k) = true then _ else Rs.bnd _ _)
  congr 2
  refine congrArg _ ?_
  funext ws h
  cases ivC h k ws <;> rfl
theorem asgN_nm {i : Nat} {w : W} : asgN (.nm i) w ρ = some (ρ.set i (some w)) := (rfl)
theorem asgN_tp {ts : List Tg} {xs : List W} : asgN (.tp ts) (.tup xs) ρ = asgNs ts xs ρ := (rfl)
theorem asgNs_n : asgNs [] [] ρ = some ρ := (rfl)
theorem asgNs_c {t : Tg} {ts : List Tg} {x : W} {xs : List W} : asgNs (t :: ts) (x :: xs) ρ = onO (asgN t x ρ) (fun ρ' => asgNs ts xs ρ') none := by
  show (match asgN t x ρ with
    | some ρ' => asgNs ts xs ρ'
    | none => none) = _
  cases asgN t x ρ <;> rfl
theorem wipe_n : wipeE ρ [] = ρ := (rfl)
theorem wipe_c {v : Nat} {vs : List Nat} : wipeE ρ (v :: vs) = (wipeE ρ vs).set v none := (rfl)
end
/-! ### statements -/
section
variable {P : Pg} {hot : Bool} {cf : Bool → Nat → List W → Hh → Rs W} {ρ : Env} {h : Hh} {D : Ps}
theorem exs_n : exs P cf hot [] ρ h = .nx ρ h := (rfl)
theorem exs_c {s : S} {ss : List S} : exs P cf hot (s :: ss) ρ h = (ex P cf hot s ρ h).nxtL fun ρ h => exs P cf hot ss ρ h := (rfl)
theorem ex_set {i : Nat} {e : E} : ex P cf hot (.set i e) ρ h = (ev P hot (cf hot) false e ρ h).rfL ρ fun w h => .nx (ρ.set i (some w)) h := (rfl)
theorem ex_asg {t : Tt} {e : E} : ex P cf hot (.asg t e) ρ h = (ev P hot (cf hot) false e ρ h).rfL ρ fun w h => asgT P hot (cf hot) t w ρ h := (rfl)
theorem ex_par {is : List Nat} {es : List E} : ex P cf hot (.par is es) ρ h = if hot = true then .bad else (evs P hot (cf hot) es ρ h).rfsL ρ fun ws h => onO (setAll is ws ρ) (fun ρ' => .nx ρ' h) .bad := by
  cases hot with
  | true => rfl
  | false =>
    show Rs.rfs _ ρ _ = Rs.rfs _ ρ _
    congr 1
    funext ws h
    cases setAll is ws ρ <;> rfl
theorem ex_exp {e : E} : ex P cf hot (.exp e) ρ h = (ev P hot (cf hot) false e ρ h).rfL ρ fun _ h => .nx ρ h := (rfl)
theorem ex_ret {e : E} : ex P cf hot (.ret e) ρ h = (ev P hot (cf hot) false e ρ h).rfL ρ fun w h => .rt w h := (rfl)
theorem ex_rtn : ex P cf hot .rtn ρ h = .rt .non h := (rfl)
theorem ex_iff {c : E} {a b : List S} : ex P cf hot (.iff c a b) ρ h = (ev P hot (cf hot) true c ρ h).rfL ρ fun x h => onB x (exs P cf hot a ρ h) (exs P cf hot b ρ h) .bad := (rfl)
theorem ex_whl {c : E} {b : List S} : ex P cf hot (.whl c b) ρ h = whL (ev P hot (cf hot) true c) (exs P cf hot b) big ρ h := rfl
/-- the turn of a for -/
def foTu (P : Pg) (cf : Bool → Nat → List W → Hh → Rs W) (hot : Bool) (tg : Tg) (b : List S) (x : W) (ρ : Env) (h : Hh) : Rf := onO (asgN tg x ρ) (fun ρ' => exs P cf hot b ρ' h) .bad
theorem ex_fo {tg : Tg} {k : Ik} {its : List E} {b : List S} : ex P cf hot (.fo tg k its b) ρ h = if hot = true then .bad else (evs P hot (cf hot) its ρ h).rfs ρ fun ws h => onO (ivC h k ws) (fun iv => foL iv (foTu P cf hot tg b) (lenV h iv) 0 ρ h) .bad := by
  cases hot with
  | true => rfl
  | false =>
    have e : foTu P cf false tg b = fun x ρ h => match asgN tg x ρ with
      | some ρ' => exs P cf false b ρ' h
      | none => .bad := by
      funext x ρ h
      unfold foTu
      cases asgN tg x ρ <;> rfl
    rw [e]
    show Rs.rfs _ ρ _ = Rs.rfs _ ρ _
    congr 1
    funext ws h
    cases ivC h k ws <;> rfl
theorem ex_pass : ex P cf hot .pass ρ h = .nx ρ h := (rfl)
theorem ex_brk : ex P cf hot .brk ρ h = .bk ρ h := (rfl)
theorem ex_cnt : ex P cf hot .cnt ρ h = .ct ρ h := (rfl)
theorem ex_rai {c : Nat} {e : E} : ex P cf hot (.rai c e) ρ h = if hot = true then .bad else (ev P hot (cf hot) false e ρ h).rfL ρ fun w h => .exc c w ρ h := by
  cases hot <;> rfl
theorem ex_rai0 {c : Nat} : ex P cf hot (.rai0 c) ρ h = if hot = true then .bad else .exc c .non ρ h := by
  cases hot <;> rfl
/-- an except suite's end -/
def traE (i : Nat) (ρ' : Env) (r : Rf) : Rf := match r with
  | .nx ρ h => if noX (ρ.set i none) then .nx (ρ.set i none) h else .bad
  | .rt w h => .rt w h
  | .bk ρ h => if noX (ρ.set i none) then .bk (ρ.set i none) h else .bad
  | .ct ρ h => if noX (ρ.set i none) then .ct (ρ.set i none) h else .bad
  | _ => .bad
theorem traE_rt {i : Nat} {ρ' : Env} {w : W} : traE i ρ' (.rt w h) = .rt w h := (rfl)
def traX (P : Pg) (cf : Bool → Nat → List W → Hh → Rs W) (c i : Nat) (s : List S) (r : Rf) : Rf := match r with
  | .exc d p ρ h => if d < P.nx then (if P.sub d c = true then traE i ρ (exs P cf true s (ρ.set i (some (.exn d p))) h) else .exc d p ρ h) else .bad
  | r => r
theorem traX_exc {c i d : Nat} {s : List S} {p : W} : traX P cf c i s (.exc d p ρ h) = if d < P.nx then (if P.sub d c = true then traE i ρ (exs P cf true s (ρ.set i (some (.exn d p))) h) else .exc d p ρ h) else .bad := (rfl)
theorem traX_rt {c i : Nat} {s : List S} {w : W} : traX P cf c i s (.rt w h) = .rt w h := (rfl)
theorem traX_nx {c i : Nat} {s : List S} : traX P cf c i s (.nx ρ h) = .nx ρ h := (rfl)
theorem ex_tra {b : List S} {c i : Nat} {s : List S} : ex P cf hot (.tra b c i s) ρ h = if hot = true then .bad else traX P cf c i s (exs P cf hot b ρ h) := by
  cases hot with
  | true => rfl
  | false =>
    show (match exs P cf false b ρ h with
      | .exc d p ρ h => if d < P.nx then (if P.sub d c then (match exs P cf true s (ρ.set i (some (.exn d p))) h with
          | .nx ρ h => if noX (ρ.set i none) then .nx (ρ.set i none) h else .bad
          | .rt w h => .rt w h
          | .bk ρ h => if noX (ρ.set i none) then .bk (ρ.set i none) h else .bad
          | .ct ρ h => if noX (ρ.set i none) then .ct (ρ.set i none) h else .bad
          | _ => .bad) else .exc d p ρ h) else .bad
      | r => r : Rf) = traX P cf c i s (exs P cf false b ρ h)
    cases exs P cf false b ρ h with
    | exc d p ρ h =>
      unfold traX
      dsimp only
      by_cases h1 : d < P.nx
      · rw [if_pos h1, if_pos h1]
        by_cases h2 : P.sub d c = true
        · rw [if_pos h2, if_pos h2]
          cases exs P cf true s (ρ.set i (some (.exn d p))) h <;> rfl
        · rw [if_neg h2, if_neg h2]
      · rw [if_neg h1, if_neg h1]
    | _ => rfl
theorem asgT_nm {i : Nat} {w : W} {cg : Nat → List W → Hh → Rs W} : asgT P hot cg (.nm i) w ρ h = .nx (ρ.set i (some w)) h := (rfl)
theorem asgT_ix {a i : E} {w : W} {cg : Nat → List W → Hh → Rs W} : asgT P hot cg (.ix a i) w ρ h = (ev P hot cg false a ρ h).rfL ρ fun x h => (ev P hot cg false i ρ h).rfL ρ fun y h => onO (setO h x y w) (fun h' => .nx ρ h') .bad := by
  show Rs.rf _ ρ _ = Rs.rf _ ρ _
  congr 1
  funext x h
  show Rs.rf _ ρ _ = Rs.rf _ ρ _
  congr 1
  funext y h
  cases setO h x y w <;> rfl
theorem asgT_tp {ts : List Tt} {xs : List W} {cg : Nat → List W → Hh → Rs W} : asgT P hot cg (.tp ts) (.tup xs) ρ h = if (hot || !(xs.length == ts.length)) = true then .bad else asgTs P hot cg ts xs ρ h := (rfl)
theorem asgTs_n {cg : Nat → List W → Hh → Rs W} : asgTs P hot cg [] [] ρ h = .nx ρ h := (rfl)
theorem asgTs_c {t : Tt} {ts : List Tt} {x : W} {xs : List W} {cg : Nat → List W → Hh → Rs W} : asgTs P hot cg (t :: ts) (x :: xs) ρ h = (asgT P hot cg t x ρ h).nxtL fun ρ h => asgTs P hot cg ts xs ρ h := (rfl)
theorem setAll_n : setAll [] [] ρ = some ρ := (rfl)
theorem setAll_c {i : Nat} {is : List Nat} {w : W} {ws : List W} : setAll (i :: is) (w :: ws) ρ = setAll is ws (ρ.set i (some w)) := (rfl)
end
theorem exs_c_eq {P : Pg} {hot : Bool} {cf : Bool → Nat → List W → Hh → Rs W} {ρ ρ' : Env} {h h' : Hh} {D : Ps} {s : S} {ss : List S} (e : ex P cf hot s ρ h = .nx ρ' h') (k : (exs P cf hot ss ρ' h').wp D) : (exs P cf hot (s :: ss) ρ h).wp D := by
  rw [exs_c, e, nxt_nx']
  exact k
theorem exs_c_wp {P : Pg} {hot : Bool} {cf : Bool → Nat → List W → Hh → Rs W} {ρ : Env} {h : Hh} {D : Ps} {s : S} {ss : List S} (k : (ex P cf hot s ρ h).wp { D with nx := fun ρ h => (exs P cf hot ss ρ h).wp D }) : (exs P cf hot (s :: ss) ρ h).wp D := by
  rw [exs_c, wf_nxt]
  exact k
/-! ### calls -/
/-- what a body's end makes of a call -/
def endC (D : Df) (n : Nat) (r : Rf) : Rs W := match r with
  | .rt w h' => exitD D n w h'
  | .nx _ h' => exitD D n .non h'
  | .exc c p _ h' => exitX D n c p h'
  | _ => .bad
theorem cal_def' {P : Pg} {n f : Nat} {hot : Bool} {D : Df} (e : P.defs[f]? = some D) (ws : List W) (h : Hh) (hw : ws.length = D.n) : cal P (n + 1) hot f ws h = endC D h.length (exs P (cal P n) hot D.body (ws.map some ++ List.replicate (D.sl - D.n) none) h) := by
  show (match P.defs[f]? with
    | some D => if ws.length = D.n then (match exs P (cal P n) hot D.body (ws.map some ++ List.replicate (D.sl - D.n) none) h with
        | .rt w h' => exitD D h.length w h'
        | .nx _ h' => exitD D h.length .non h'
        | .exc c p _ h' => exitX D h.length c p h'
        | _ => .bad) else .bad
    | none => .bad) = _
  rw [e]
  dsimp only
  rw [if_pos hw]
  cases exs P (cal P n) hot D.body (ws.map some ++ List.replicate (D.sl - D.n) none) h <;> rfl
theorem wp_endC {D : Df} {n : Nat} {r : Rf} {Q : W → Hh → Prop} {X : Nat → W → Hh → Prop} (k : r.wp ⟨fun _ h' => (exitD D n .non h').wp Q X, fun w h' => (exitD D n w h').wp Q X, fun _ _ => False, fun _ _ => False, fun c p _ h' => (exitX D n c p h').wp Q X⟩) : (endC D n r).wp Q X := by
  cases r with
  | nx ρ h => rw [wf_nx] at k; exact k
  | rt w h => rw [wf_rt] at k; exact k
  | bk ρ h => rw [wf_bk] at k; exact k.elim
  | ct ρ h => rw [wf_ct] at k; exact k.elim
  | exc c p ρ h => rw [wf_exc] at k; exact k
  | bad => rw [wf_bad] at k; exact k.elim
theorem endC_rt {n m s : Nat} {b : List S} {w : W} {h : Hh} : endC ⟨m, s, false, b⟩ n (.rt w h) = .ok w h := (rfl)
theorem endC_nx {n m s : Nat} {b : List S} {ρ : Env} {h : Hh} : endC ⟨m, s, false, b⟩ n (.nx ρ h) = .ok .non h := (rfl)
theorem endC_exc {D : Df} {n c : Nat} {p : W} {ρ : Env} {h : Hh} : endC D n (.exc c p ρ h) = exitX D n c p h := (rfl)
theorem exitD_f {n m s : Nat} {b : List S} {w : W} {h : Hh} : exitD ⟨m, s, false, b⟩ n w h = .ok w h := (rfl)
theorem exitD_t {n m s : Nat} {b : List S} {w : W} {h : Hh} : exitD ⟨m, s, true, b⟩ n w h = if (wlo n w && (h.take n).all (O.lo n)) = true then .ok w (h.take n) else .bad := (rfl)
/-! ### operators on what is known -/
section
variable {h : Hh} {r : Bool} {i j : Int} {x y : Tx} {xs ys : List W}
theorem bin_addI : binO r .add (.int i) (.int j) h = .ok (.int (i + j)) h := (rfl)
theorem bin_addS : binO r .add (.str x) (.str y) h = mkX (x ++ y) h := (rfl)
theorem bin_addT : binO r .add (.tup xs) (.tup ys) h = mkT (xs ++ ys) h := (rfl)
theorem bin_addL : binO r .add (.lst xs) (.lst ys) h = mkL r (xs ++ ys) h := (rfl)
theorem bin_subI : binO r .sub (.int i) (.int j) h = .ok (.int (i - j)) h := (rfl)
theorem bin_mulI : binO r .mul (.int i) (.int j) h = if (small i || small j) = true then .ok (.int (i * j)) h else .bad := (rfl)
theorem bin_modI : binO r .mod (.int i) (.int j) h = if 0 < j then .ok (.int (i % j)) h else .bad := (rfl)
theorem bin_fdvI : binO r .fdv (.int i) (.int j) h = if 0 < j ∧ j < 1073741824 then .ok (.int (i / j)) h else .bad := (rfl)
theorem bin_powI : binO r .pow (.int i) (.int j) h = if 0 ≤ j ∧ j ≤ 1000 ∧ small i = true then .ok (.int (i ^ j.toNat)) h else .bad := (rfl)
theorem cmp_lt : cmpO .lt (.int i) (.int j) h = some (decide (i < j)) := (rfl)
theorem cmp_le : cmpO .le (.int i) (.int j) h = some (decide (i ≤ j)) := (rfl)
theorem cmp_gt : cmpO .gt (.int i) (.int j) h = some (decide (j < i)) := (rfl)
theorem cmp_ge : cmpO .ge (.int i) (.int j) h = some (decide (j ≤ i)) := (rfl)
theorem beq_dec {α : Type} [DecidableEq α] {b : BEq α} [LawfulBEq α] {x y : α} : (x == y) = decide (x = y) := by
  rw [Bool.eq_iff_iff, beq_iff_eq, decide_eq_true_eq]
theorem dat_flat {w : W} (f : flat w = true) : dat w = true := by
  cases w <;> first | rfl | cases f
theorem dep_flat {w : W} (f : flat w = true) : dep w = 0 := by
  cases w <;> first | rfl | cases f
theorem plainly_flat {w : W} (f : flat w = true) : plainly h w = w := by
  cases w <;> first | rfl | cases f
theorem eqO_flat {a b : W} (f : flat a = true) (g : flat b = true) : eqO h a b = some (eqB a b) := by
  unfold eqO
  rw [plainly_flat f, plainly_flat g, dat_flat f, dat_flat g, dep_flat f, dep_flat g]
  rfl
theorem cmp_eqI : cmpO .eq (.int i) (.int j) h = some (decide (i = j)) := by
  show eqO h _ _ = _
  rw [eqO_flat rfl rfl]
  rfl
theorem cmp_neI : cmpO .ne (.int i) (.int j) h = some (decide (i ≠ j)) := by
  show (eqO h (.int i) (.int j)).map (!·) = _
  rw [eqO_flat rfl rfl]
  show some (!(i == j)) = some (decide (¬ i = j))
  rw [beq_dec, decide_not]
theorem cmp_eqS : cmpO .eq (.str x) (.str y) h = some (decide (x = y)) := by
  show eqO h _ _ = _
  rw [eqO_flat rfl rfl]
  show some (x == y) = _
  rw [beq_dec]
theorem cmp_neS : cmpO .ne (.str x) (.str y) h = some (decide (x ≠ y)) := by
  show (eqO h (.str x) (.str y)).map (!·) = _
  rw [eqO_flat rfl rfl]
  show some (!(x == y)) = some (decide (¬ x = y))
  rw [beq_dec, decide_not]
theorem cmp_eqB {p q : Bool} : cmpO .eq (.bl p) (.bl q) h = some (p == q) := by
  show eqO h _ _ = _
  rw [eqO_flat rfl rfl]
  rfl
theorem cmp_neB {p q : Bool} : cmpO .ne (.bl p) (.bl q) h = some (!(p == q)) := by
  show (eqO h (.bl p) (.bl q)).map (!·) = _
  rw [eqO_flat rfl rfl]
  rfl
theorem cmp_eqNN : cmpO .eq .non .non h = some true := eqO_flat rfl rfl
theorem cmp_neNN : cmpO .ne .non .non h = some (!true) := by
  show (eqO h .non .non).map (!·) = _
  rw [eqO_flat rfl rfl]
  rfl
theorem cmp_eqNI : cmpO .eq .non (.int i) h = some false := eqO_flat rfl rfl
theorem cmp_neNI : cmpO .ne .non (.int i) h = some (!false) := by
  show (eqO h .non (.int i)).map (!·) = _
  rw [eqO_flat rfl rfl]
  rfl
theorem cmp_eqIN : cmpO .eq (.int i) .non h = some false := eqO_flat rfl rfl
theorem cmp_neIN : cmpO .ne (.int i) .non h = some (!false) := by
  show (eqO h (.int i) .non).map (!·) = _
  rw [eqO_flat rfl rfl]
  rfl
theorem cmp_eqNS : cmpO .eq .non (.str x) h = some false := eqO_flat rfl rfl
theorem cmp_neNS : cmpO .ne .non (.str x) h = some (!false) := by
  show (eqO h .non (.str x)).map (!·) = _
  rw [eqO_flat rfl rfl]
  rfl
theorem cmp_eqSN : cmpO .eq (.str x) .non h = some false := eqO_flat rfl rfl
theorem cmp_neSN : cmpO .ne (.str x) .non h = some (!false) := by
  show (eqO h (.str x) .non).map (!·) = _
  rw [eqO_flat rfl rfl]
  rfl
theorem cmp_eqIS : cmpO .eq (.int i) (.str x) h = some false := eqO_flat rfl rfl
theorem cmp_neIS : cmpO .ne (.int i) (.str x) h = some (!false) := by
  show (eqO h (.int i) (.str x)).map (!·) = _
  rw [eqO_flat rfl rfl]
  rfl
theorem cmp_eqSI : cmpO .eq (.str x) (.int i) h = some false := eqO_flat rfl rfl
theorem cmp_neSI : cmpO .ne (.str x) (.int i) h = some (!false) := by
  show (eqO h (.str x) (.int i)).map (!·) = _
  rw [eqO_flat rfl rfl]
  rfl
theorem isiI {s : Nat → Nat → Bool} : tyO h s (.int i) .int = some true := (rfl)
theorem mkX_ok (e : x.length ≤ big) : mkX x h = .ok (.str x) h := if_pos e
theorem mkT_ok (e : xs.length ≤ big) : mkT xs h = .ok (.tup xs) h := if_pos e
theorem mkL_ok (e : xs.length ≤ big) : mkL false xs h = .ok (.lst xs) h := by
  unfold mkL
  rw [if_pos e]
  rfl
theorem mkL_r (e : xs.length ≤ big) : mkL true xs h = .ok (.ref h.length) (h ++ [.lst xs]) := by
  unfold mkL
  rw [if_pos e]
  rfl
end
end LP
/-! LP, the plain rules: loops, what a value is, slices. -/
namespace LP
/-- the items of what is walked -/
def Itm (h : Hh) (iv : Iv) (xs : List W) : Prop := lenV h iv = xs.length ∧ ∀ i, nthV h i iv = some xs[i]?
theorem itm_tup {h : Hh} {xs : List W} : Itm h (.q (.tup xs)) xs := ⟨rfl, fun _ => rfl⟩
theorem itm_lst {h : Hh} {xs : List W} : Itm h (.q (.lst xs)) xs := ⟨rfl, fun _ => rfl⟩
theorem itm_frz {h : Hh} {xs : List W} : Itm h (.q (.frz xs)) xs := ⟨rfl, fun _ => rfl⟩
theorem itm_str {h : Hh} {x : Tx} : Itm h (.q (.str x)) (x.map fun c => .str [c]) := ⟨by simp [lenV], fun i => by simp [nthV]⟩
theorem itm_en {h : Hh} {xs : List W} : Itm h (.en (.lst xs)) (xs.mapIdx fun i x => .tup [.int i, x]) := ⟨by simp [lenV, asQ, asF, asL], fun i => by simp [nthV, asQ, asF, asL]⟩
theorem itm_rg {h : Hh} {n : Nat} : Itm h (.rg 0 1 n) ((List.range n).map fun (i : Nat) => W.int i) := ⟨by simp [lenV], fun i => by
  simp only [nthV, List.getElem?_map]
  by_cases q : i < n
  · rw [if_pos q, List.getElem?_range q]
    simp
  · rw [if_neg q, List.getElem?_eq_none (by simp; omega)]
    rfl⟩
theorem itm_z2t {h : Hh} {xs ys : List W} : Itm h (.z2 (.tup xs) (.tup ys)) ((xs.zip ys).map fun p => .tup [p.1, p.2]) := ⟨by simp [lenV, asQ], fun i => by
  simp only [nthV, asQ, List.getElem?_map, List.getElem?_zip_eq_some, List.zip, List.getElem?_zipWith]
  cases xs[i]? <;> cases ys[i]? <;> rfl⟩
theorem itm_z2l {h : Hh} {xs ys : List W} : Itm h (.z2 (.lst xs) (.lst ys)) ((xs.zip ys).map fun p => .tup [p.1, p.2]) := ⟨by simp [lenV, asQ, asF, asL], fun i => by
  simp only [nthV, asQ, asF, asL, List.getElem?_map, List.zip, List.getElem?_zipWith]
  cases xs[i]? <;> cases ys[i]? <;> rfl⟩
section
variable {iv : Iv} {turn : W → List W → Hh → Rs (List W)} {xs : List W}
theorem lcL_wp {Q : List W → Hh → Prop} {X : Nat → W → Hh → Prop} (I : Nat → List W → Hh → Prop) (hn : ∀ i acc h, I i acc h → nthV h i iv = some xs[i]?)
    (hs : ∀ i x acc h, xs[i]? = some x → I i acc h → (turn x acc h).wp (fun acc h => I (i + 1) acc h) X) (k : ∀ acc h, I xs.length acc h → Q acc h) : ∀ (n i : Nat) (acc : List W) (h : Hh), n + i = xs.length → I i acc h → (lcL iv turn n i acc h).wp Q X
  | 0, i, acc, h, e, J => by
    unfold lcL
    have e' : i = xs.length := by omega
    subst e'
    rw [hn _ _ _ J, List.getElem?_eq_none (Nat.le_refl _)]
    dsimp only
    rw [wp_ok]
    exact k _ _ J
  | n + 1, i, acc, h, e, J => by
    unfold lcL
    have hl : i < xs.length := by omega
    have q : xs[i]? = some xs[i] := List.getElem?_eq_getElem hl
    rw [hn _ _ _ J, q]
    show ((turn xs[i] acc h).bndL fun acc' h' => lcL iv turn n (i + 1) acc' h').wp Q X
    rw [wp_bnd]
    exact Rs.wp_mono (hs i _ acc h q J) (fun a h' z => lcL_wp I hn hs k n (i + 1) a h' (by omega) z) fun _ _ _ z => z
theorem lcL_pure {h : Hh} (hi : Itm h iv xs) (g : W → List W) (hg : ∀ x ∈ xs, (g x).length ≤ 1) (hs : ∀ x ∈ xs, ∀ acc : List W, acc.length < big → turn x acc h = .ok (acc ++ g x) h) : ∀ (n i : Nat) (acc : List W), n + i = xs.length → acc.length + n ≤ big → lcL iv turn n i acc h = .ok (acc ++ (xs.drop i).flatMap g) h
  | 0, i, acc, e, hb => by
    unfold lcL
    have e' : i = xs.length := by omega
    subst e'
    rw [hi.2, List.getElem?_eq_none (Nat.le_refl _)]
    simp
  | n + 1, i, acc, e, hb => by
    unfold lcL
    have hl : i < xs.length := by omega
    have q : xs[i]? = some xs[i] := List.getElem?_eq_getElem hl
    have hm : xs[i] ∈ xs := List.getElem_mem hl
    rw [hi.2, q]
    show (turn xs[i] acc h).bnd _ = _
    rw [hs _ hm acc (by omega)]
    show lcL iv turn n (i + 1) (acc ++ g xs[i]) h = _
    have := hg _ hm
    rw [lcL_pure hi g hg hs n (i + 1) (acc ++ g xs[i]) (by omega) (by rw [List.length_append]; omega), List.drop_eq_getElem_cons hl, List.flatMap_cons, List.append_assoc]
end
theorem flatMap_one {α β : Type} {f : α → β} : ∀ {xs : List α}, xs.flatMap (fun x => [f x]) = xs.map f
  | [] => rfl
  | x :: xs => by rw [List.flatMap_cons, flatMap_one]; rfl
section
variable {P : Pg} {hot : Bool} {cf : Nat → List W → Hh → Rs W} {ρ : Env} {h : Hh} {r : Bool} {elt : E} {tg : Tg} {k : Ik} {its ifs : List E} {vs : List Nat} {ws xs : List W} {iv : Iv}
/-- a list made item by item, the heap as it was -/
theorem ev_lc_pure (hk : (hot && !hotK k) = false) (he : evs P hot cf its ρ h = .ok ws h) (hv : ivC h k ws = some iv) (hi : Itm h iv xs) (hb : xs.length ≤ big) (g : W → List W) (hg : ∀ x ∈ xs, (g x).length ≤ 1)
    (hs : ∀ x ∈ xs, ∀ acc : List W, acc.length < big → lcTu P hot cf elt tg ifs (wipeE ρ vs) x acc h = .ok (acc ++ g x) h) : ev P hot cf false (.lc r elt tg k its ifs vs) ρ h = lcEnd r (xs.flatMap g) h := by
  rw [ev_lc, hk, he]
  show (onO (ivC h k ws) _ _ : Rs W) = _
  rw [hv]
  show ((lcL iv _ (lenV h iv) 0 [] h).cl).bnd _ = _
  rw [lcL_pure hi g hg hs _ 0 [] (by rw [hi.1]; rfl) (by rw [hi.1]; simpa using hb)]
  show lcEnd r ([] ++ (xs.drop 0).flatMap g) h = _
  rw [List.nil_append, List.drop_zero]
theorem ev_lc_map (hk : (hot && !hotK k) = false) (he : evs P hot cf its ρ h = .ok ws h) (hv : ivC h k ws = some iv) (hi : Itm h iv xs) (hb : xs.length ≤ big) (f : W → W)
    (hs : ∀ x ∈ xs, onO (asgN tg x (wipeE ρ vs)) (fun ρ' => ev P hot cf false elt ρ' h) .bad = .ok (f x) h) : ev P hot cf false (.lc r elt tg k its [] vs) ρ h = lcEnd r (xs.map f) h := by
  rw [ev_lc_pure hk he hv hi hb (fun x => [f x]) (fun _ _ => Nat.le_refl _) (fun x hx acc ha => ?_)]
  · rw [flatMap_one]
  · have e := hs x hx
    unfold lcTu
    cases q : asgN tg x (wipeE ρ vs) with
    | none => rw [q] at e; cases e
    | some ρ' =>
      rw [q] at e
      have e : ev P hot cf false elt ρ' h = .ok (f x) h := e
      show (ev P hot cf false elt ρ' h).bnd _ = _
      rw [e]
      show (if acc.length < big then _ else _ : Rs (List W)) = _
      rw [if_pos ha]
theorem lcL_pureA {α : Type} {turn : W → List W → Hh → Rs (List W)} {ys : List α} {enc : α → W} (hi : Itm h iv (ys.map enc)) (g : α → List W) (hg : ∀ y ∈ ys, (g y).length ≤ 1) (hs : ∀ y ∈ ys, ∀ acc : List W, acc.length < big → turn (enc y) acc h = .ok (acc ++ g y) h) : ∀ (n i : Nat) (acc : List W), n + i = ys.length → acc.length + n ≤ big → lcL iv turn n i acc h = .ok (acc ++ (ys.drop i).flatMap g) h
  | 0, i, acc, e, hb => by
    unfold lcL
    have e' : i = ys.length := by omega
    subst e'
    rw [hi.2, List.getElem?_eq_none (by rw [List.length_map]; exact Nat.le_refl _)]
    simp
  | n + 1, i, acc, e, hb => by
    unfold lcL
    have hl : i < ys.length := by omega
    have q : (ys.map enc)[i]? = some (enc ys[i]) := by rw [List.getElem?_map, List.getElem?_eq_getElem hl]; rfl
    have hm : ys[i] ∈ ys := List.getElem_mem hl
    rw [hi.2, q]
    show (turn (enc ys[i]) acc h).bnd _ = _
    rw [hs _ hm acc (by omega)]
    show lcL iv turn n (i + 1) (acc ++ g ys[i]) h = _
    have := hg _ hm
    rw [lcL_pureA hi g hg hs n (i + 1) (acc ++ g ys[i]) (by omega) (by rw [List.length_append]; omega), List.drop_eq_getElem_cons hl, List.flatMap_cons, List.append_assoc]
theorem ev_lc_mapA {α : Type} {ys : List α} {enc : α → W} (hk : (hot && !hotK k) = false) (he : evs P hot cf its ρ h = .ok ws h) (hv : ivC h k ws = some iv) (hi : Itm h iv (ys.map enc)) (hb : ys.length ≤ big) (f : α → W)
    (hs : ∀ y ∈ ys, onO (asgN tg (enc y) (wipeE ρ vs)) (fun ρ' => ev P hot cf false elt ρ' h) .bad = .ok (f y) h) : ev P hot cf false (.lc r elt tg k its [] vs) ρ h = lcEnd r (ys.map f) h := by
  rw [ev_lc, hk, he]
  show (onO (ivC h k ws) _ _ : Rs W) = _
  rw [hv]
  show ((lcL iv _ (lenV h iv) 0 [] h).cl).bnd _ = _
  have hl : lenV h iv = ys.length := by rw [hi.1, List.length_map]
  rw [lcL_pureA hi (fun y => [f y]) (fun _ _ => Nat.le_refl _) (fun y hy acc ha => ?_) _ 0 [] (by rw [hl]; rfl) (by rw [hl]; simpa using hb)]
  · show lcEnd r ([] ++ (ys.drop 0).flatMap fun y => [f y]) h = _
    rw [List.nil_append, List.drop_zero, flatMap_one]
  · have e := hs y hy
    unfold lcTu
    cases q : asgN tg (enc y) (wipeE ρ vs) with
    | none => rw [q] at e; cases e
    | some ρ' =>
      rw [q] at e
      have e : ev P hot cf false elt ρ' h = .ok (f y) h := e
      show (ev P hot cf false elt ρ' h).bnd _ = _
      rw [e]
      show (if acc.length < big then _ else _ : Rs (List W)) = _
      rw [if_pos ha]
/-- .. the heap may change -/
theorem ev_lc_wp {Q : W → Hh → Prop} {X : Nat → W → Hh → Prop} (hk : (hot && !hotK k) = false) (he : (evs P hot cf its ρ h).wp (fun ws h => ∃ (iv : Iv) (xs : List W) (I : Nat → List W → Hh → Prop), ivC h k ws = some iv ∧ lenV h iv = List.length xs ∧ I 0 [] h ∧ (∀ i acc h, I i acc h → nthV h i iv = some xs[i]?) ∧
      (∀ i x acc h, xs[i]? = some x → I i acc h → (lcTu P hot cf elt tg ifs (wipeE ρ vs) x acc h).wp (fun acc h => I (i + 1) acc h) (fun _ _ _ => False)) ∧ ∀ acc h, I xs.length acc h → (lcEnd r acc h).wp Q X) X) : (ev P hot cf false (.lc r elt tg k its ifs vs) ρ h).wp Q X := by
  rw [ev_lc, hk]
  show ((evs P hot cf its ρ h).bndL _).wp Q X
  rw [wp_bnd]
  refine Rs.wp_mono he (fun ws h ⟨iv, xs, I, e1, e2, e3, e4, e5, e6⟩ => ?_) fun _ _ _ z => z
  rw [e1]
  show (((lcL iv _ (lenV h iv) 0 [] h).cl).bndL _).wp Q X
  rw [wp_bnd]
  have := lcL_wp (X := fun _ _ _ => False) (Q := fun acc h => (lcEnd r acc h).wp Q X) I e4 e5 e6 (lenV h iv) 0 [] h (by rw [e2]; rfl) e3
  cases q : lcL iv (lcTu P hot cf elt tg ifs (wipeE ρ vs)) (lenV h iv) 0 [] h with
  | ok a h' => rw [q, wp_ok] at this; show (Rs.ok a h').wp _ _; rw [wp_ok]; exact this
  | exc c p h' => rw [q, wp_exc] at this; exact this.elim
  | bad => rw [q, wp_bad] at this; exact this.elim
end
section
variable {iv : Iv} {turn : W → Env → Hh → Rf} {xs : List W} {D : Ps}
theorem foL_wp (I : Nat → Env → Hh → Prop) (hn : ∀ i ρ h, I i ρ h → nthV h i iv = some xs[i]?)
    (hs : ∀ i x ρ h, xs[i]? = some x → I i ρ h → (turn x ρ h).wp ⟨I (i + 1), D.rt, D.nx, I (i + 1), D.ex⟩) (k : ∀ ρ h, I xs.length ρ h → D.nx ρ h) : ∀ (n i : Nat) (ρ : Env) (h : Hh), n + i = xs.length → I i ρ h → (foL iv turn n i ρ h).wp D
  | 0, i, ρ, h, e, J => by
    unfold foL
    have e' : i = xs.length := by omega
    subst e'
    rw [hn _ _ _ J, List.getElem?_eq_none (Nat.le_refl _)]
    dsimp only
    rw [wf_nx]
    exact k _ _ J
  | n + 1, i, ρ, h, e, J => by
    unfold foL
    have hl : i < xs.length := by omega
    have q : xs[i]? = some xs[i] := List.getElem?_eq_getElem hl
    rw [hn _ _ _ J, q]
    show (match turn xs[i] ρ h with
      | .nx ρ h => foL iv turn n (i + 1) ρ h
      | .ct ρ h => foL iv turn n (i + 1) ρ h
      | .bk ρ h => .nx ρ h
      | r => r : Rf).wp D
    have w := hs i _ ρ h q J
    cases z : turn xs[i] ρ h with
    | nx ρ' h' => rw [z, wf_nx] at w; exact foL_wp I hn hs k n (i + 1) ρ' h' (by omega) w
    | ct ρ' h' => rw [z, wf_ct] at w; exact foL_wp I hn hs k n (i + 1) ρ' h' (by omega) w
    | bk ρ' h' => rw [z, wf_bk] at w; show (Rf.nx ρ' h').wp D; rw [wf_nx]; exact w
    | rt v h' => rw [z, wf_rt] at w; show (Rf.rt v h').wp D; rw [wf_rt]; exact w
    | exc c p ρ' h' => rw [z, wf_exc] at w; show (Rf.exc c p ρ' h').wp D; rw [wf_exc]; exact w
    | bad => rw [z, wf_bad] at w; exact w.elim
theorem ex_fo_wp {P : Pg} {cf : Bool → Nat → List W → Hh → Rs W} {ρ : Env} {h : Hh} {tg : Tg} {k : Ik} {its : List E} {b : List S}
    (he : (evs P false (cf false) its ρ h).wp (fun ws h => ∃ (iv : Iv) (xs : List W) (I : Nat → Env → Hh → Prop), ivC h k ws = some iv ∧ lenV h iv = List.length xs ∧ I 0 ρ h ∧ (∀ i ρ h, I i ρ h → nthV h i iv = some xs[i]?) ∧
      (∀ i x ρ h, xs[i]? = some x → I i ρ h → (foTu P cf false tg b x ρ h).wp ⟨I (i + 1), D.rt, D.nx, I (i + 1), D.ex⟩) ∧ ∀ ρ h, I xs.length ρ h → D.nx ρ h) (fun c p h => D.ex c p ρ h)) : (ex P cf false (.fo tg k its b) ρ h).wp D := by
  rw [ex_fo]
  show (Rs.rfsL _ ρ _).wp D
  rw [wp_rfs]
  refine Rs.wp_mono he (fun ws h ⟨iv, xs, I, e1, e2, e3, e4, e5, e6⟩ => ?_) fun _ _ _ z => z
  rw [e1]
  exact foL_wp I e4 e5 e6 (lenV h iv) 0 ρ h (by rw [e2]; rfl) e3
end
/-! ### no cells within -/
mutual
theorem wlo_mono (n : Nat) : ∀ w : W, wlo 0 w = true → wlo n w = true
  | .non, _ => rfl
  | .bl _, _ => rfl
  | .int _, _ => rfl
  | .str _, _ => rfl
  | .cls _, _ => rfl
  | .tup xs, h => wlos_mono n xs h
  | .lst xs, h => wlos_mono n xs h
  | .frz xs, h => wlos_mono n xs h
  | .ref m, h => by
    have h : decide (m < 0) = true := h
    exact absurd (of_decide_eq_true h) (Nat.not_lt_zero m)
  | .ins _ fs, h => wlof_mono n fs h
  | .exn _ p, h => wlo_mono n p h
theorem wlos_mono (n : Nat) : ∀ ws : List W, wlos 0 ws = true → wlos n ws = true
  | [], _ => rfl
  | w :: ws, h => by
    have h : (wlo 0 w && wlos 0 ws) = true := h
    rw [Bool.and_eq_true] at h
    show (wlo n w && wlos n ws) = true
    rw [wlo_mono n w h.1, wlos_mono n ws h.2]
    rfl
theorem wlof_mono (n : Nat) : ∀ ws : List (Nat × W), wlof 0 ws = true → wlof n ws = true
  | [], _ => rfl
  | (f, w) :: ws, h => by
    have h : (wlo 0 w && wlof 0 ws) = true := h
    rw [Bool.and_eq_true] at h
    show (wlo n w && wlof n ws) = true
    rw [wlo_mono n w h.1, wlof_mono n ws h.2]
    rfl
end
theorem wlok_mono (n : Nat) : ∀ ws : List (DK × W), wlok 0 ws = true → wlok n ws = true
  | [], _ => rfl
  | (f, w) :: ws, h => by
    have h : (wlo 0 w && wlok 0 ws) = true := h
    rw [Bool.and_eq_true] at h
    show (wlo n w && wlok n ws) = true
    rw [wlo_mono n w h.1, wlok_mono n ws h.2]
    rfl
theorem olo_mono (n : Nat) {o : O} (h : O.lo 0 o = true) : O.lo n o = true := by
  cases o with
  | lst xs => exact wlos_mono n xs h
  | dct kvs => exact wlok_mono n kvs h
  | ins c fs => exact wlof_mono n fs h
  | dead => rfl
/-- cells that hold no cells -/
def Hf (h : Hh) : Prop := ∀ o ∈ h, O.lo 0 o = true
theorem Hf.nil : Hf [] := fun _ h => nomatch h
theorem Hf.take {h : Hh} (f : Hf h) (n m : Nat) : (h.take n).all (O.lo m) = true := List.all_eq_true.mpr fun o ho => olo_mono m (f o (List.mem_of_mem_take ho))
theorem Hf.app {h : Hh} (f : Hf h) {o : O} (q : O.lo 0 o = true) : Hf (h ++ [o]) := fun o' ho => by
  rcases List.mem_append.mp ho with z | z
  · exact f o' z
  · have : o' = o := by simpa using z
    rw [this]
    exact q
theorem Hf.set {h : Hh} (f : Hf h) {o : O} (n : Nat) (q : O.lo 0 o = true) : Hf (h.set n o) := fun o' ho => by
  rcases List.mem_or_eq_of_mem_set ho with z | z
  · exact f o' z
  · rw [z]
    exact q
theorem Hf.tk {h : Hh} (f : Hf h) (n : Nat) : Hf (h.take n) := fun o ho => f o (List.mem_of_mem_take ho)
/-- always a value -/
def Ps.ret (R : W → Hh → Prop) : Ps := ⟨fun _ _ => False, R, fun _ _ => False, fun _ _ => False, fun _ _ _ _ => False⟩
section
variable {R : W → Hh → Prop}
theorem ret_nx {ρ : Env} {h : Hh} : (Ps.ret R).nx ρ h = False := (rfl)
theorem ret_rt {w : W} {h : Hh} : (Ps.ret R).rt w h = R w h := (rfl)
theorem ret_bk {ρ : Env} {h : Hh} : (Ps.ret R).bk ρ h = False := (rfl)
theorem ret_ct {ρ : Env} {h : Hh} : (Ps.ret R).ct ρ h = False := (rfl)
theorem ret_ex {c : Nat} {p : W} {ρ : Env} {h : Hh} : (Ps.ret R).ex c p ρ h = False := (rfl)
end
theorem wp_call {P : Pg} {n f : Nat} {hot : Bool} {D : Df} {ws : List W} {h : Hh} {Q : W → Hh → Prop} {X : Nat → W → Hh → Prop} (e : P.defs[f]? = some D) (hw : ws.length = D.n) (R : W → Hh → Prop) (k : (exs P (cal P n) hot D.body (ws.map some ++ List.replicate (D.sl - D.n) none) h).wp (Ps.ret R)) (hr : ∀ w h', R w h' → (exitD D h.length w h').wp Q X) : (cal P (n + 1) hot f ws h).wp Q X := by
  rw [cal_def' e _ _ hw]
  refine wp_endC (Rf.wp_mono k (fun _ _ z => z.elim) hr (fun _ _ z => z) (fun _ _ z => z) (fun _ _ _ _ z => z.elim))
theorem exitD_no {D : Df} {n : Nat} {w : W} {h : Hh} (t : D.tr = false) : exitD D n w h = .ok w h := by
  unfold exitD
  rw [t]
  rfl
theorem wp_callf {P : Pg} {n f : Nat} {hot : Bool} {D : Df} {ws : List W} {h : Hh} {Q : W → Hh → Prop} {X : Nat → W → Hh → Prop} (e : P.defs[f]? = some D) (t : D.tr = false) (hw : ws.length = D.n) (R : W → Hh → Prop) (k : (exs P (cal P n) hot D.body (ws.map some ++ List.replicate (D.sl - D.n) none) h).wp (Ps.ret R)) (hr : ∀ w h', R w h' → Q w h') : (cal P (n + 1) hot f ws h).wp Q X :=
  wp_call e hw R k fun w h' z => by rw [exitD_no t, wp_ok]; exact hr w h' z
theorem wp_val {r : Rs W} {v : W} {h : Hh} (k : r.wp (fun w h' => w = v ∧ h' = h) (fun _ _ _ => False)) : r = .ok v h := by
  rcases Rs.wp_eq k with ⟨a, h', e, rfl, rfl⟩ | ⟨_, _, _, _, z⟩
  · exact e
  · exact z.elim
/-- a value or an error -/
def Ps.rex (R : W → Hh → Prop) (Y : Nat → W → Hh → Prop) : Ps := ⟨fun _ _ => False, R, fun _ _ => False, fun _ _ => False, fun c p _ h => Y c p h⟩
section
variable {R : W → Hh → Prop} {Y : Nat → W → Hh → Prop}
theorem rex_nx {ρ : Env} {h : Hh} : (Ps.rex R Y).nx ρ h = False := (rfl)
theorem rex_rt {w : W} {h : Hh} : (Ps.rex R Y).rt w h = R w h := (rfl)
theorem rex_bk {ρ : Env} {h : Hh} : (Ps.rex R Y).bk ρ h = False := (rfl)
theorem rex_ct {ρ : Env} {h : Hh} : (Ps.rex R Y).ct ρ h = False := (rfl)
theorem rex_ex {c : Nat} {p : W} {ρ : Env} {h : Hh} : (Ps.rex R Y).ex c p ρ h = Y c p h := (rfl)
end
theorem wp_callx {P : Pg} {n f : Nat} {hot : Bool} {D : Df} {ws : List W} {h : Hh} {Q : W → Hh → Prop} {X : Nat → W → Hh → Prop} (e : P.defs[f]? = some D) (hw : ws.length = D.n) (R : W → Hh → Prop) (Y : Nat → W → Hh → Prop) (k : (exs P (cal P n) hot D.body (ws.map some ++ List.replicate (D.sl - D.n) none) h).wp (Ps.rex R Y)) (hr : ∀ w h', R w h' → (exitD D h.length w h').wp Q X) (hx : ∀ c w h', Y c w h' → (exitX D h.length c w h').wp Q X) : (cal P (n + 1) hot f ws h).wp Q X := by
  rw [cal_def' e _ _ hw]
  refine wp_endC (Rf.wp_mono k (fun _ _ z => z.elim) hr (fun _ _ z => z) (fun _ _ z => z) (fun _ _ _ _ z => hx _ _ _ z))
theorem wp_callxf {P : Pg} {n f : Nat} {hot : Bool} {D : Df} {ws : List W} {h : Hh} {Q : W → Hh → Prop} {X : Nat → W → Hh → Prop} (e : P.defs[f]? = some D) (t : D.tr = false) (hw : ws.length = D.n) (R : W → Hh → Prop) (Y : Nat → W → Hh → Prop) (k : (exs P (cal P n) hot D.body (ws.map some ++ List.replicate (D.sl - D.n) none) h).wp (Ps.rex R Y)) (hr : ∀ w h', R w h' → Q w h') (hx : ∀ c w h', Y c w h' → (exitX D h.length c w h').wp Q X) : (cal P (n + 1) hot f ws h).wp Q X :=
  wp_callx e hw R Y k (fun w h' z => by rw [exitD_no t, wp_ok]; exact hr w h' z) hx
/-- a value or one error -/
theorem wp_vals {r : Rs W} {o : Except (Nat × W) W} {h : Hh} (k : r.wp (fun w h' => o = .ok w ∧ h' = h) (fun c p h' => o = .error (c, p) ∧ h' = h)) : r = match o with
    | .ok w => .ok w h
    | .error (c, p) => .exc c p h := by
  rcases Rs.wp_eq k with ⟨a, h', e, rfl, rfl⟩ | ⟨c, p, h', e, rfl, rfl⟩
  · exact e
  · exact e
mutual
theorem dat_wlo : ∀ w : W, dat w = true → wlo 0 w = true
  | .non, _ => rfl
  | .bl _, _ => rfl
  | .int _, _ => rfl
  | .str _, _ => rfl
  | .cls _, h => by cases h
  | .tup xs, h => dats_wlo xs h
  | .lst xs, h => dats_wlo xs h
  | .frz _, h => by cases h
  | .ref _, h => by cases h
  | .ins _ _, h => by cases h
  | .exn _ _, h => by cases h
theorem dats_wlo : ∀ ws : List W, dats ws = true → wlos 0 ws = true
  | [], _ => rfl
  | w :: ws, h => by
    have h : (dat w && dats ws) = true := h
    rw [Bool.and_eq_true] at h
    show (wlo 0 w && wlos 0 ws) = true
    rw [dat_wlo w h.1, dats_wlo ws h.2]
    rfl
end
theorem exitX_hf {D : Df} {c : Nat} {w : W} {h : Hh} (d : dat w = true) (f : Hf h) : exitX D h.length c w h = .exc c w h := by
  unfold exitX
  rw [wlo_mono _ _ (dat_wlo _ d), f.take, List.take_length]
  rfl
end LP
/-! LP, the plain rules: kinds of values, places, slices. -/
namespace LP
section
variable {h : Hh} {s : Nat → Nat → Bool} {w : W} {i : Int} {b : Bool} {x : Tx} {xs : List W} {t : Ty} {ts : List Ty}
theorem tys_n : tysO h s w [] = some false := (rfl)
theorem tys_1 : tysO h s w [t] = tyO h s w t := by
  show (match tyO h s w t with
    | some true => some true
    | some false => tysO h s w []
    | none => none) = _
  cases tyO h s w t with
  | none => rfl
  | some b => cases b <;> rfl
theorem tys_2 {t' : Ty} : tysO h s w [t, t'] = onO (tyO h s w t) (fun b => if b = true then some true else tyO h s w t') none := by
  show (match tyO h s w t with
    | some true => some true
    | some false => tysO h s w [t']
    | none => none) = _
  rw [tys_1]
  cases tyO h s w t with
  | none => rfl
  | some b => cases b <;> rfl
/-- what kind of value -/
def isIntW : W → Bool
  | .int _ => true
  | .bl _ => true
  | _ => false
def isBlW : W → Bool
  | .bl _ => true
  | _ => false
def isStrW : W → Bool
  | .str _ => true
  | _ => false
def isTupW : W → Bool
  | .tup _ => true
  | _ => false
def isLstW : W → Bool
  | .lst _ => true
  | .frz _ => true
  | _ => false
/-- a value of data or a list that is read -/
def datF : W → Bool
  | .frz _ => true
  | w => dat w
theorem ty_int (d : dat w = true) : tyO h s w .int = some (isIntW w) := by cases w <;> first | rfl | cases d
theorem ty_bool (d : dat w = true) : tyO h s w .bool = some (isBlW w) := by cases w <;> first | rfl | cases d
theorem ty_str (d : dat w = true) : tyO h s w .str = some (isStrW w) := by cases w <;> first | rfl | cases d
theorem ty_tup (d : dat w = true) : tyO h s w .tup = some (isTupW w) := by cases w <;> first | rfl | cases d
theorem ty_lst (d : dat w = true) : tyO h s w .lst = some (isLstW w) := by cases w <;> first | rfl | cases d
theorem ty_int_int : tyO h s (.int i) .int = some true := (rfl)
theorem ty_int_bl : tyO h s (.bl b) .int = some true := (rfl)
theorem ty_int_non : tyO h s .non .int = some false := (rfl)
theorem ty_int_str : tyO h s (.str x) .int = some false := (rfl)
theorem ty_int_tup : tyO h s (.tup xs) .int = some false := (rfl)
theorem ty_int_lst : tyO h s (.lst xs) .int = some false := (rfl)
theorem ty_bl_int : tyO h s (.int i) .bool = some false := (rfl)
theorem ty_bl_bl : tyO h s (.bl b) .bool = some true := (rfl)
theorem ty_bl_non : tyO h s .non .bool = some false := (rfl)
theorem ty_bl_str : tyO h s (.str x) .bool = some false := (rfl)
theorem ty_bl_tup : tyO h s (.tup xs) .bool = some false := (rfl)
theorem ty_bl_lst : tyO h s (.lst xs) .bool = some false := (rfl)
theorem ty_str_int : tyO h s (.int i) .str = some false := (rfl)
theorem ty_str_bl : tyO h s (.bl b) .str = some false := (rfl)
theorem ty_str_non : tyO h s .non .str = some false := (rfl)
theorem ty_str_str : tyO h s (.str x) .str = some true := (rfl)
theorem ty_str_tup : tyO h s (.tup xs) .str = some false := (rfl)
theorem ty_str_lst : tyO h s (.lst xs) .str = some false := (rfl)
theorem ty_tup_int : tyO h s (.int i) .tup = some false := (rfl)
theorem ty_tup_bl : tyO h s (.bl b) .tup = some false := (rfl)
theorem ty_tup_non : tyO h s .non .tup = some false := (rfl)
theorem ty_tup_str : tyO h s (.str x) .tup = some false := (rfl)
theorem ty_tup_tup : tyO h s (.tup xs) .tup = some true := (rfl)
theorem ty_tup_lst : tyO h s (.lst xs) .tup = some false := (rfl)
theorem ty_lst_int : tyO h s (.int i) .lst = some false := (rfl)
theorem ty_lst_bl : tyO h s (.bl b) .lst = some false := (rfl)
theorem ty_lst_non : tyO h s .non .lst = some false := (rfl)
theorem ty_lst_str : tyO h s (.str x) .lst = some false := (rfl)
theorem ty_lst_tup : tyO h s (.tup xs) .lst = some false := (rfl)
theorem ty_lst_lst : tyO h s (.lst xs) .lst = some true := (rfl)
theorem ex_dat (d : dat w = true) : isExn w = false := by cases w <;> first | rfl | cases d
theorem dats_mem : ∀ {ws : List W}, dats ws = true → ∀ w ∈ ws, dat w = true
  | [], _, _, h => nomatch h
  | w :: ws, d, v, h => by
    have d : (dat w && dats ws) = true := d
    rw [Bool.and_eq_true] at d
    rcases List.mem_cons.mp h with rfl | h
    · exact d.1
    · exact dats_mem d.2 v h
theorem dats_of : ∀ {ws : List W}, (∀ w ∈ ws, dat w = true) → dats ws = true
  | [], _ => rfl
  | w :: ws, h => by
    show (dat w && dats ws) = true
    rw [h w List.mem_cons_self, dats_of fun v hv => h v (List.mem_cons_of_mem _ hv)]
    rfl
/-! ### built-ins -/
theorem bi_lenS : biO .len [.str x] h = .ok (.int x.length) h := (rfl)
theorem bi_lenT : biO .len [.tup xs] h = .ok (.int xs.length) h := (rfl)
theorem bi_lenL : biO .len [.lst xs] h = .ok (.int xs.length) h := (rfl)
theorem bi_lenF : biO .len [.frz xs] h = .ok (.int xs.length) h := (rfl)
theorem bi_abs : biO .abs [.int i] h = .ok (.int (if i < 0 then -i else i)) h := (rfl)
theorem bi_int : biO .int [.int i] h = .ok (.int i) h := (rfl)
theorem bi_intS : biO .int [.str x] h = if x ≠ [] ∧ x.all (fun c => decide (48 ≤ c) && decide (c ≤ 57)) = true ∧ x.length ≤ 640 then .ok (.int (digVal x : Nat)) h else .bad := (rfl)
theorem bi_strI : biO .str [.int i] h = if small i = true then .ok (.str (numTx i)) h else .bad := (rfl)
theorem bi_tupL : biO .tup [.lst xs] h = .ok (.tup xs) h := (rfl)
theorem bi_tupT : biO .tup [.tup xs] h = .ok (.tup xs) h := (rfl)
theorem bi_lstT : biO (.lst false) [.tup xs] h = mkL false xs h := (rfl)
theorem bi_dmod {j : Int} : biO .dmod [.int i, .int j] h = if 0 < j ∧ j < 1073741824 then .ok (.tup [.int (i / j), .int (i % j)]) h else .bad := (rfl)
theorem blsOf_map {α : Type} (f : α → Bool) : ∀ l : List α, blsOf (l.map fun a => .bl (f a)) = some (l.map f)
  | [] => rfl
  | a :: l => by
    show (match blsOf (l.map fun a => W.bl (f a)) with
      | some l => some (f a :: l)
      | none => none) = _
    rw [blsOf_map f l]
    rfl
theorem intsOf_map {α : Type} (f : α → Int) : ∀ l : List α, intsOf (l.map fun a => .int (f a)) = some (l.map f)
  | [] => rfl
  | a :: l => by
    show (match intsOf (l.map fun a => W.int (f a)) with
      | some l => some (f a :: l)
      | none => none) = _
    rw [intsOf_map f l]
    rfl
theorem strsOf_map {α : Type} (f : α → Tx) : ∀ l : List α, strsOf (l.map fun a => .str (f a)) = some (l.map f)
  | [] => rfl
  | a :: l => by
    show (match strsOf (l.map fun a => W.str (f a)) with
      | some l => some (f a :: l)
      | none => none) = _
    rw [strsOf_map f l]
    rfl
theorem bi_allO {ws : List W} : biO .all [.lst ws] h = onO (blsOf ws) (fun l => .ok (.bl (l.all id)) h) .bad := by
  unfold biO
  dsimp only [asF, asL]
  cases blsOf ws <;> rfl
theorem bi_all {α : Type} (f : α → Bool) (l : List α) : biO .all [.lst (l.map fun a => .bl (f a))] h = .ok (.bl (l.all f)) h := by
  rw [bi_allO, blsOf_map]
  show Rs.ok (W.bl ((l.map f).all id)) h = _
  rw [List.all_map]
  rfl
theorem cold_len : coldB .len = false := (rfl)
theorem cold_abs : coldB .abs = false := (rfl)
theorem cold_int : coldB .int = false := (rfl)
theorem cold_str : coldB .str = false := (rfl)
theorem cold_tup : coldB .tup = false := (rfl)
theorem cold_lst {r : Bool} : coldB (.lst r) = false := (rfl)
theorem cold_dmod : coldB .dmod = false := (rfl)
theorem andb_f {b : Bool} : (b && false) = false := by cases b <;> rfl
/-! ### places -/
theorem nthI_nat {α : Type} {xs : List α} {n : Nat} (hn : n < xs.length) : nthI xs (n : Int) = some n := by
  unfold nthI
  rw [if_pos (Int.natCast_nonneg n), if_pos (by omega)]
  rfl
theorem atW_nat {α : Type} {xs : List α} {n : Nat} (hn : n < xs.length) : atW xs (n : Int) = some xs[n] := by
  unfold atW
  rw [nthI_nat hn]
  exact List.getElem?_eq_getElem hn
theorem atW_pos {α : Type} {xs : List α} {i : Int} (h0 : 0 ≤ i) (hn : i < xs.length) : ∃ x, atW xs i = some x ∧ xs[i.toNat]? = some x := by
  obtain ⟨n, rfl⟩ := Int.eq_ofNat_of_zero_le h0
  have hn' : n < xs.length := by omega
  exact ⟨xs[n], atW_nat hn', List.getElem?_eq_getElem hn'⟩
theorem ix_tup {i : W} : ixO h (.tup xs) i = onI i (fun i => atW xs i) none := by cases i <;> rfl
theorem ix_lst {i : W} : ixO h (.lst xs) i = onI i (fun i => atW xs i) none := by cases i <;> rfl
theorem ix_frz {i : W} : ixO h (.frz xs) i = onI i (fun i => atW xs i) none := by cases i <;> rfl
theorem ix_str : ixO h (.str x) (.int i) = onO (atW x i) (fun c => some (.str [c])) none := by
  show (match atW x i with
    | some c => some (W.str [c])
    | none => none) = _
  cases atW x i <;> rfl
section
variable {α : Type} {a b c d e f : α} {l : List α}
theorem at_0 : atW (a :: l) 0 = some a := atW_nat (n := 0) (by simp)
theorem at_1 : atW (a :: b :: l) 1 = some b := atW_nat (n := 1) (by simp)
theorem at_2 : atW (a :: b :: c :: l) 2 = some c := atW_nat (n := 2) (by simp)
theorem at_3 : atW (a :: b :: c :: d :: l) 3 = some d := atW_nat (n := 3) (by simp)
theorem at_4 : atW (a :: b :: c :: d :: e :: l) 4 = some e := atW_nat (n := 4) (by simp)
theorem bd_n0 {n : Nat} : bound1 n 0 none = 0 := (rfl)
theorem bd_nd {n d : Nat} : bound1 n d none = d := (rfl)
theorem bd_nat {n d k : Nat} : bound1 n d (some (k : Int)) = min k n := by
  unfold bound1
  dsimp only
  rw [if_neg (by omega)]
  simp
theorem cut_from {k : Nat} : cutW l (some (k : Int)) none = l.drop k := by
  unfold cutW
  rw [bd_nat, bd_nd]
  by_cases q : k ≤ l.length
  · rw [Nat.min_eq_left q, List.take_of_length_le (by rw [List.length_drop]; exact Nat.le_refl _)]
  · rw [Nat.min_eq_right (by omega), List.drop_eq_nil_of_le (Nat.le_refl _), List.drop_eq_nil_of_le (by omega)]
    simp
theorem cut_to {k : Nat} : cutW l none (some (k : Int)) = l.take k := by
  unfold cutW
  rw [bd_nat, bd_n0]
  by_cases q : k ≤ l.length
  · rw [Nat.min_eq_left q]
    simp
  · rw [Nat.min_eq_right (by omega)]
    simp only [List.drop_zero, Nat.sub_zero]
    rw [List.take_of_length_le (Nat.le_refl _), List.take_of_length_le (by omega)]
theorem cut_to_neg {k : Nat} (hk : 0 < k) : cutW l none (some (-(k : Int))) = l.take (l.length - k) := by
  unfold cutW
  rw [bd_n0]
  have e : bound1 l.length l.length (some (-(k : Int))) = l.length - k := by
    unfold bound1
    dsimp only
    rw [if_pos (by omega)]
    omega
  rw [e]
  simp
theorem cut_f0 : cutW l (some 0) none = l := by
  rw [show (0 : Int) = ((0 : Nat) : Int) from rfl, cut_from]; rfl
theorem cut_f1 : cutW l (some 1) none = l.drop 1 := by rw [show (1 : Int) = ((1 : Nat) : Int) from rfl, cut_from]
theorem cut_f2 : cutW l (some 2) none = l.drop 2 := by rw [show (2 : Int) = ((2 : Nat) : Int) from rfl, cut_from]
theorem cut_f3 : cutW l (some 3) none = l.drop 3 := by rw [show (3 : Int) = ((3 : Nat) : Int) from rfl, cut_from]
theorem cut_f4 : cutW l (some 4) none = l.drop 4 := by rw [show (4 : Int) = ((4 : Nat) : Int) from rfl, cut_from]
theorem cut_t1 : cutW l none (some 1) = l.take 1 := by rw [show (1 : Int) = ((1 : Nat) : Int) from rfl, cut_to]
theorem cut_t2 : cutW l none (some 2) = l.take 2 := by rw [show (2 : Int) = ((2 : Nat) : Int) from rfl, cut_to]
theorem cut_t3 : cutW l none (some 3) = l.take 3 := by rw [show (3 : Int) = ((3 : Nat) : Int) from rfl, cut_to]
theorem cut_t4 : cutW l none (some 4) = l.take 4 := by rw [show (4 : Int) = ((4 : Nat) : Int) from rfl, cut_to]
theorem dropS {n : Nat} : (a :: l).drop (n + 1) = l.drop n := (rfl)
theorem dropN {n : Nat} : ([] : List α).drop n = [] := by simp
theorem takeN {n : Nat} : ([] : List α).take n = [] := by simp
theorem drop0 : l.drop 0 = l := (rfl)
theorem takeS {n : Nat} : (a :: l).take (n + 1) = a :: l.take n := (rfl)
theorem take0 : l.take 0 = [] := by simp
end
theorem sl_tup {r : Bool} {lo hi : Option Int} : slO r h (.tup xs) lo hi = .ok (.tup (cutW xs lo hi)) h := (rfl)
theorem sl_str {r : Bool} {lo hi : Option Int} : slO r h (.str x) lo hi = .ok (.str (cutW x lo hi)) h := (rfl)
theorem sl_lst {r : Bool} {lo hi : Option Int} : slO r h (.lst xs) lo hi = mkL r (cutW xs lo hi) h := (rfl)
theorem sl_frz {r : Bool} {lo hi : Option Int} : slO r h (.frz xs) lo hi = mkL r (cutW xs lo hi) h := (rfl)
/-! ### in -/
theorem in_str {c : Nat} : cmpO .inn (.str [c]) (.str x) h = some (decide (c ∈ x)) := (rfl)
theorem cmp_nin' {a b : W} : cmpO .nin a b h = (cmpO .inn a b h).map (!·) := (rfl)
theorem cmp_isn' {a b : W} : cmpO .isn a b h = (cmpO .is a b h).map (!·) := (rfl)
theorem mapO_s {α β : Type} {f : α → β} {a : α} : (some a).map f = some (f a) := (rfl)
theorem in_lst {a : W} (f : flat a = true) (g : xs.all flat = true) : cmpO .inn a (.lst xs) h = some (xs.any fun y => eqB y a) := by
  have e : cmpO .inn a (.lst xs) h = if (flat a && xs.all flat) = true then some (xs.any fun y => eqB y a) else none := by cases a <;> rfl
  rw [e, f, g]
  rfl
theorem in_tup {a : W} (f : flat a = true) (g : xs.all flat = true) : cmpO .inn a (.tup xs) h = some (xs.any fun y => eqB y a) := by
  have e : cmpO .inn a (.tup xs) h = if (flat a && xs.all flat) = true then some (xs.any fun y => eqB y a) else none := by cases a <;> rfl
  rw [e, f, g]
  rfl
theorem in_ref {a : W} {n : Nat} (q : h[n]? = some (.lst xs)) (f : flat a = true) (g : xs.all flat = true) : cmpO .inn a (.ref n) h = some (xs.any fun y => eqB y a) := by
  have e0 : asQ h (.ref n) = some xs := by
    show (match h[n]? with
      | some (.lst xs) => some xs
      | _ => none) = _
    rw [q]
  have e : cmpO .inn a (.ref n) h = (match asQ h (.ref n) with
    | some xs => if (flat a && xs.all flat) = true then some (xs.any fun y => eqB y a) else none
    | none => none) := by cases a <;> rfl
  rw [e, e0]
  show (if (flat a && xs.all flat) = true then some (xs.any fun y => eqB y a) else none) = _
  rw [f, g]
  rfl
theorem is_non_non : cmpO .is .non .non h = some true := (rfl)
theorem is_int_non : cmpO .is (.int i) .non h = some false := (rfl)
theorem is_str_non : cmpO .is (.str x) .non h = some false := (rfl)
theorem is_bl_non : cmpO .is (.bl b) .non h = some false := (rfl)
theorem is_tup_non : cmpO .is (.tup xs) .non h = some false := (rfl)
theorem is_lst_non : cmpO .is (.lst xs) .non h = some false := (rfl)
theorem is_bl_bl {c : Bool} : cmpO .is (.bl b) (.bl c) h = some (b == c) := (rfl)
/-! ### methods -/
theorem me_splitT {r : Bool} : meT (.split r) h (.str x) = true := (rfl)
theorem me_joinT : meT .join h (.str x) = true := (rfl)
theorem meL_split {c : Nat} {r : Bool} : meO (.split r) (.str x) [.str [c]] h = if c < 256 ∧ x.length ≤ big then mkL r ((splT c x).map .str) h else .bad := (rfl)
theorem meL_join {l : List Tx} (e : (l.map List.length).sum + l.length * x.length ≤ big) : meO .join (.str x) [.lst (l.map .str)] h = .ok (.str (joinT x l)) h := by
  show (match strsOf (l.map W.str) with
    | some l => if (l.map List.length).sum + l.length * x.length ≤ big then Rs.ok (W.str (joinT x l)) h else .bad
    | none => .bad) = _
  have := strsOf_map id l
  rw [List.map_id] at this
  rw [show l.map W.str = l.map (fun a => W.str (id a)) from rfl, this]
  exact if_pos e
theorem meL_append {n : Nat} {a : W} (q : h[n]? = some (.lst xs)) (hb : xs.length < big) : meT .append h (.ref n) = true ∧ meO .append (.ref n) [a] h = .ok .non (h.set n (.lst (xs ++ [a]))) := by
  constructor
  · show (match h[n]? with
      | some (.lst xs) => some xs
      | _ => none).isSome = true
    rw [q]
    rfl
  · show (match h[n]? with
      | some (.lst xs) => if xs.length < big then Rs.ok W.non (h.set n (.lst (xs ++ [a]))) else .bad
      | _ => .bad) = _
    rw [q]
    exact if_pos hb
theorem iv_tup : ivC h .seq [.tup xs] = some (.q (.tup xs)) := (rfl)
theorem iv_str : ivC h .seq [.str x] = some (.q (.str x)) := (rfl)
theorem iv_lst : ivC h .seq [.lst xs] = some (.q (.lst xs)) := (rfl)
theorem iv_frz : ivC h .seq [.frz xs] = some (.q (.frz xs)) := (rfl)
theorem ivP_en : ivC h .en [.lst xs] = some (.en (.lst xs)) := (rfl)
theorem iv_z2t {ys : List W} : ivC h .z2 [.tup xs, .tup ys] = some (.z2 (.tup xs) (.tup ys)) := (rfl)
theorem iv_z2l {ys : List W} : ivC h .z2 [.lst xs, .lst ys] = some (.z2 (.lst xs) (.lst ys)) := (rfl)
end
/-! ### few -/
theorem bg0 : (0 ≤ big) = True := eq_true (by unfold big; omega)
theorem bg1 : (1 ≤ big) = True := eq_true (by unfold big; omega)
theorem bg2 : (2 ≤ big) = True := eq_true (by unfold big; omega)
theorem bg3 : (3 ≤ big) = True := eq_true (by unfold big; omega)
theorem bg4 : (4 ≤ big) = True := eq_true (by unfold big; omega)
theorem bg5 : (5 ≤ big) = True := eq_true (by unfold big; omega)
theorem bg6 : (6 ≤ big) = True := eq_true (by unfold big; omega)
theorem bg7 : (7 ≤ big) = True := eq_true (by unfold big; omega)
theorem bg8 : (8 ≤ big) = True := eq_true (by unfold big; omega)
theorem bg9 : (9 ≤ big) = True := eq_true (by unfold big; omega)
theorem bg10 : (10 ≤ big) = True := eq_true (by unfold big; omega)
theorem bg11 : (11 ≤ big) = True := eq_true (by unfold big; omega)
theorem bg12 : (12 ≤ big) = True := eq_true (by unfold big; omega)
theorem bg13 : (13 ≤ big) = True := eq_true (by unfold big; omega)
theorem bg14 : (14 ≤ big) = True := eq_true (by unfold big; omega)
theorem bg15 : (15 ≤ big) = True := eq_true (by unfold big; omega)
theorem bg16 : (16 ≤ big) = True := eq_true (by unfold big; omega)
theorem bg17 : (17 ≤ big) = True := eq_true (by unfold big; omega)
theorem bg18 : (18 ≤ big) = True := eq_true (by unfold big; omega)
theorem bg19 : (19 ≤ big) = True := eq_true (by unfold big; omega)
theorem bg20 : (20 ≤ big) = True := eq_true (by unfold big; omega)
theorem bg21 : (21 ≤ big) = True := eq_true (by unfold big; omega)
theorem bg22 : (22 ≤ big) = True := eq_true (by unfold big; omega)
theorem bg23 : (23 ≤ big) = True := eq_true (by unfold big; omega)
theorem bg24 : (24 ≤ big) = True := eq_true (by unfold big; omega)
/-! ### cells -/
def ixC (o : Option O) (b : W) : Option W := match o with
  | some (.lst xs) => onI b (fun i => atW xs i) none
  | some (.dct kvs) => onO (keyOf b) (fun k => getDK k kvs) none
  | _ => none
def setC (h : Hh) (n : Nat) (o : Option O) (i w : W) : Option Hh := match o with
  | some (.lst xs) => onI i (fun k => onO (nthI xs k) (fun j => some (h.set n (.lst (xs.set j w)))) none) none
  | some (.dct kvs) => onO (keyOf i) (fun k => if kvs.length < 1000 then some (h.set n (.dct (putDK k w kvs))) else none) none
  | _ => none
section
variable {h : Hh} {n : Nat} {b i w : W} {xs : List W} {kvs : List (DK × W)} {α : Type} {x y z : α} {l : List α}
theorem ix_ref : ixO h (.ref n) b = ixC h[n]? b := by
  show (match asQ h (.ref n) with
    | some xs => (match b with
      | .int i => atW xs i
      | _ => none)
    | none => (match h[n]? with
        | some (.dct kvs) => (match keyOf b with
          | some k => getDK k kvs
          | none => none)
        | _ => none)) = _
  show (match (match h[n]? with
    | some (.lst xs) => some xs
    | _ => none : Option (List W)) with
    | some xs => (match b with
      | .int i => atW xs i
      | _ => none)
    | none => (match h[n]? with
        | some (.dct kvs) => (match keyOf b with
          | some k => getDK k kvs
          | none => none)
        | _ => none)) = _
  unfold ixC
  cases h[n]? with
  | none => rfl
  | some o =>
    cases o with
    | dct kvs => dsimp only; cases keyOf b <;> rfl
    | _ => rfl
theorem ixC_lst : ixC (some (.lst xs)) b = onI b (fun i => atW xs i) none := (rfl)
theorem ixC_dct : ixC (some (.dct kvs)) b = onO (keyOf b) (fun k => getDK k kvs) none := (rfl)
theorem set_ref : setO h (.ref n) i w = setC h n h[n]? i w := by
  show (match h[n]? with
    | some (.lst xs) => (match i with
      | .int k => (match nthI xs k with
        | some j => some (h.set n (.lst (xs.set j w)))
        | none => none)
      | _ => none)
    | some (.dct kvs) => (match keyOf i with
      | some k => if kvs.length < 1000 then some (h.set n (.dct (putDK k w kvs))) else none
      | none => none)
    | _ => none) = _
  unfold setC
  cases h[n]? with
  | none => rfl
  | some o =>
    cases o with
    | lst xs =>
      cases i with
      | int k => dsimp only [onI]; cases nthI xs k <;> rfl
      | _ => rfl
    | dct kvs => dsimp only; cases keyOf i <;> rfl
    | _ => rfl
theorem setC_lst : setC h n (some (.lst xs)) i w = onI i (fun k => onO (nthI xs k) (fun j => some (h.set n (.lst (xs.set j w)))) none) none := (rfl)
theorem setC_dct : setC h n (some (.dct kvs)) i w = onO (keyOf i) (fun k => if kvs.length < 1000 then some (h.set n (.dct (putDK k w kvs))) else none) none := (rfl)
theorem nth_0 : nthI (x :: l) 0 = some 0 := nthI_nat (n := 0) (by simp)
theorem nth_1 : nthI (x :: y :: l) 1 = some 1 := nthI_nat (n := 1) (by simp)
theorem nth_2 : nthI (x :: y :: z :: l) 2 = some 2 := nthI_nat (n := 2) (by simp)
end
end LP
/-! LP, plain: numbers, names, trees. -/
local macro_rules
  | `(tactic| simp_arith [$xs,*] $[$l:location]?) => `(tactic| simp only [seval, LP.onB_t, LP.onB_f, LP.onB_b, LP.onI_i, LP.onO_s, LP.onO_n, LP.wp_ok, LP.wp_exc, LP.wp_bad, LP.wp_bnd, LP.wp_ite, LP.wp_rf, LP.wp_rfs, LP.wf_nx, LP.wf_rt, LP.wf_bk, LP.wf_ct, LP.wf_exc, LP.wf_bad, LP.wf_nxt, LP.wf_ite, LP.bnd_ok', LP.bnd_exc', LP.rf_ok', LP.rf_exc', LP.rfs_ok', LP.nxt_nx', LP.nxt_rt', LP.nxt_exc', LP.sv_set0, LP.sv_setS, LP.sv_get0, LP.sv_getS, LP.sv_getN, LP.sv_joinS, LP.sv_map0, LP.sv_mapS, LP.sv_app0, LP.sv_appS, LP.sv_len0, LP.sv_lenS, LP.sv_rep0, LP.sv_repS, LP.sv_true, LP.sv_false, LP.sv_dec, LP.sv_not, LP.sv_imT, LP.sv_imF, LP.sv_nT, LP.sv_nF, LP.sv_aT, LP.sv_Ta, LP.sv_ft, LP.sv_tt, LP.sv_nt, LP.sv_nf, LP.sv_beqTT, LP.sv_beqTF, LP.sv_beqFT, LP.sv_beqFF, LP.sv_andT, LP.sv_andF, LP.sv_orT, LP.sv_orF, LP.fin_f, LP.fin_t, LP.outV_s, LP.outV_n, LP.outB_s, LP.outB_n, LP.outW_s, LP.outW_n, LP.isExn_int, LP.isExn_str, LP.isExn_bl, LP.isExn_non, LP.isExn_tup, LP.isExn_lst, LP.isExn_frz, LP.isExn_ref, LP.tru_bl, LP.tru_int, LP.tru_str, LP.tru_non, LP.ev_var, LP.ev_non, LP.ev_tt, LP.ev_int, LP.ev_str, LP.ev_gl, LP.ev_bin, LP.ev_cmp, LP.ev_chn, LP.ev_neg, LP.nB_b, LP.ev_notT, LP.ev_notF, LP.ev_and, LP.ev_or, LP.ev_ite, LP.ev_tup, LP.ev_lst, LP.ev_call, LP.ev_blt, LP.ev_mth, LP.ev_ix, LP.ev_sln, LP.ev_slf, LP.ev_slt, LP.ev_slb, LP.revO_t, LP.ev_rev, LP.ev_isi, LP.xflO_x, LP.xisO_x, LP.ev_xfl, LP.ev_xis, LP.evs_n, LP.evs_c, LP.evi_n, LP.evi_c, LP.asgN_nm, LP.asgN_tp, LP.asgNs_n, LP.asgNs_c, LP.wipe_n, LP.wipe_c, LP.exs_n, LP.exs_c, LP.ex_set, LP.ex_asg, LP.ex_par, LP.ex_exp, LP.ex_ret, LP.ex_rtn, LP.ex_iff, LP.ex_pass, LP.ex_brk, LP.ex_cnt, LP.ex_rai, LP.ex_rai0, LP.traE_rt, LP.traX_exc, LP.traX_rt, LP.traX_nx, LP.ex_tra, LP.asgT_nm, LP.asgT_ix, LP.asgT_tp, LP.asgTs_n, LP.asgTs_c, LP.setAll_n, LP.setAll_c, LP.endC_rt, LP.endC_nx, LP.endC_exc, LP.exitD_f, LP.exitD_t, LP.bin_addI, LP.bin_addS, LP.bin_addT, LP.bin_addL, LP.bin_subI, LP.bin_mulI, LP.bin_modI, LP.bin_fdvI, LP.bin_powI, LP.cmp_lt, LP.cmp_le, LP.cmp_gt, LP.cmp_ge, LP.cmp_eqI, LP.cmp_neI, LP.cmp_eqS, LP.cmp_neS, LP.cmp_eqB, LP.cmp_neB, LP.cmp_eqNN, LP.cmp_neNN, LP.cmp_eqNI, LP.cmp_neNI, LP.cmp_eqIN, LP.cmp_neIN, LP.cmp_eqNS, LP.cmp_neNS, LP.cmp_eqSN, LP.cmp_neSN, LP.cmp_eqIS, LP.cmp_neIS, LP.cmp_eqSI, LP.cmp_neSI, LP.isiI, LP.mkX_ok, LP.mkT_ok, LP.mkL_ok, LP.mkL_r, LP.ret_nx, LP.ret_rt, LP.ret_bk, LP.ret_ct, LP.ret_ex, LP.rex_nx, LP.rex_rt, LP.rex_bk, LP.rex_ct, LP.rex_ex, LP.tys_n, LP.tys_1, LP.tys_2, LP.ty_int_int, LP.ty_int_bl, LP.ty_int_non, LP.ty_int_str, LP.ty_int_tup, LP.ty_int_lst, LP.ty_bl_int, LP.ty_bl_bl, LP.ty_bl_non, LP.ty_bl_str, LP.ty_bl_tup, LP.ty_bl_lst, LP.ty_str_int, LP.ty_str_bl, LP.ty_str_non, LP.ty_str_str, LP.ty_str_tup, LP.ty_str_lst, LP.ty_tup_int, LP.ty_tup_bl, LP.ty_tup_non, LP.ty_tup_str, LP.ty_tup_tup, LP.ty_tup_lst, LP.ty_lst_int, LP.ty_lst_bl, LP.ty_lst_non, LP.ty_lst_str, LP.ty_lst_tup, LP.ty_lst_lst, LP.bi_lenS, LP.bi_lenT, LP.bi_lenL, LP.bi_lenF, LP.bi_abs, LP.bi_int, LP.bi_intS, LP.bi_strI, LP.bi_tupL, LP.bi_tupT, LP.bi_lstT, LP.bi_dmod, LP.cold_len, LP.cold_abs, LP.cold_int, LP.cold_str, LP.cold_tup, LP.cold_lst, LP.cold_dmod, LP.andb_f, LP.ix_tup, LP.ix_lst, LP.ix_frz, LP.ix_str, LP.at_0, LP.at_1, LP.at_2, LP.at_3, LP.at_4, LP.bd_n0, LP.bd_nd, LP.cut_f0, LP.cut_f1, LP.cut_f2, LP.cut_f3, LP.cut_f4, LP.cut_t1, LP.cut_t2, LP.cut_t3, LP.cut_t4, LP.dropS, LP.dropN, LP.takeN, LP.drop0, LP.takeS, LP.take0, LP.sl_tup, LP.sl_str, LP.sl_lst, LP.sl_frz, LP.in_str, LP.cmp_nin', LP.cmp_isn', LP.mapO_s, LP.is_non_non, LP.is_int_non, LP.is_str_non, LP.is_bl_non, LP.is_tup_non, LP.is_lst_non, LP.is_bl_bl, LP.me_splitT, LP.me_joinT, LP.iv_tup, LP.iv_str, LP.iv_lst, LP.iv_frz, LP.ivP_en, LP.iv_z2t, LP.iv_z2l, LP.bg0, LP.bg1, LP.bg2, LP.bg3, LP.bg4, LP.bg5, LP.bg6, LP.bg7, LP.bg8, LP.bg9, LP.bg10, LP.bg11, LP.bg12, LP.bg13, LP.bg14, LP.bg15, LP.bg16, LP.bg17, LP.bg18, LP.bg19, LP.bg20, LP.bg21, LP.bg22, LP.bg23, LP.bg24, LP.ix_ref, LP.ixC_lst, LP.ixC_dct, LP.set_ref, LP.setC_lst, LP.setC_dct, LP.nth_0, LP.nth_1, LP.nth_2, $xs,*] $[$l:location]?)
namespace LP
/-! ### what they tell -/
def letters : Tx := [97, 98, 99, 100, 101, 102, 103, 104, 105, 106, 107, 108, 109, 110, 111, 112, 113, 114, 115, 116, 117, 118, 119, 120, 121, 122]
def isNumW : W → Bool
  | .int i => decide (0 ≤ i)
  | _ => false
def upToW (m : Int) : W → Bool
  | .int i => decide (0 ≤ i) && decide (i ≤ m)
  | _ => false
def nameT (x : Tx) : Bool := (decide (1 ≤ x.length) && decide (x.length ≤ 8)) && x.all fun c => decide (c ∈ letters)
def isNameW : W → Bool
  | .str x => nameT x
  | _ => false
def refW (m : Int) : W → Bool
  | .tup xs => (decide (1 ≤ xs.length) && decide (xs.length ≤ 4)) && xs.all (upToW m)
  | _ => false
def bucketW : W → Bool
  | .tup [a, b, c] => upToW 99 a && (refW 99 b && upToW 99 c)
  | _ => false
def nodeW : W → Bool
  | .tup [n, _, a, b, c] => isNameW n && (upToW 99 a && (refW 99 b && upToW 99 c))
  | _ => false
def parW (p : W) (names : List W) : Bool := if names = [] then p matches .non else match p with
  | .str x => names.any fun y => eqB y (.str x)
  | _ => false
def lenW : W → Nat
  | .tup xs => xs.length
  | _ => 0
/-- the loop over the nodes -/
def treeGo (k : Nat) : List W → List W → Bool
  | [], _ => true
  | .tup [n, p, _, r, _] :: ws, names => if ((names.any fun y => eqB y n) || (!(parW p names) || !(lenW r == k))) = true then false else treeGo k ws (names ++ [n])
  | _ :: _, _ => false
def treeW : W → Bool
  | .tup xs => (decide (1 ≤ xs.length) && decide (xs.length ≤ 6)) && (xs.all nodeW && treeGo (match xs with
    | .tup [_, _, _, r, _] :: _ => lenW r
    | _ => 0) xs [])
  | _ => false
/-! ### the texts -/
def bNum : Df := ⟨1, 1, false, [(.ret (.and (.isi (.var 0) [.int]) (.and (.not (.isi (.var 0) [.bool])) (.cmp .ge (.var 0) (.int 0)))))]⟩
def bUpTo (num : Nat) : Df := ⟨2, 2, false, [(.ret (.and (.call num [(.var 0)]) (.cmp .le (.var 0) (.var 1))))]⟩
def bName (gMost gLet : Nat) : Df := ⟨1, 2, false, [(.iff (.or (.not (.isi (.var 0) [.str])) (.not (.chn .le .le (.int 1) (.blt .len [(.var 0)]) (.gl gMost)))) [(.ret (.tt false))] []), (.ret (.blt .all [(.lc false (.cmp .inn (.var 1) (.gl gLet)) (.nm 1) .seq [(.var 0)] [] [1])]))]⟩
def bRef (gPer upto : Nat) : Df := ⟨2, 3, false, [(.iff (.or (.not (.isi (.var 0) [.tup])) (.not (.chn .le .le (.int 1) (.blt .len [(.var 0)]) (.gl gPer)))) [(.ret (.tt false))] []), (.ret (.blt .all [(.lc false (.call upto [(.var 2), (.var 1)]) (.nm 2) .seq [(.var 0)] [] [2])]))]⟩
def bBucket (upto ref gM : Nat) : Df := ⟨1, 1, false, [(.iff (.or (.not (.isi (.var 0) [.tup])) (.cmp .ne (.blt .len [(.var 0)]) (.int 3))) [(.ret (.tt false))] []), (.ret (.and (.call upto [(.ix (.var 0) (.int 0)), (.gl gM)]) (.and (.call ref [(.ix (.var 0) (.int 1)), (.gl gM)]) (.call upto [(.ix (.var 0) (.int 2)), (.gl gM)]))))]⟩
def bNode (name bucket : Nat) : Df := ⟨1, 1, false, [(.ret (.and (.isi (.var 0) [.tup]) (.and (.cmp .eq (.blt .len [(.var 0)]) (.int 5)) (.and (.call name [(.ix (.var 0) (.int 0))]) (.call bucket [(.slf false (.var 0) (.int 2))])))))]⟩
def bPar : Df := ⟨2, 2, false, [(.iff (.cmp .eq (.var 1) (.lst false [])) [(.ret (.cmp .is (.var 0) .non))] []), (.ret (.and (.isi (.var 0) [.str]) (.cmp .inn (.var 0) (.var 1))))]⟩
def bTree (gN node par : Nat) : Df := ⟨1, 7, true, [(.iff (.or (.not (.isi (.var 0) [.tup])) (.or (.not (.chn .le .le (.int 1) (.blt .len [(.var 0)]) (.gl gN))) (.not (.blt .all [(.lc false (.call node [(.var 6)]) (.nm 6) .seq [(.var 0)] [] [6])])))) [(.ret (.tt false))] []), (.set 1 (.lst true [])), (.fo (.tp [(.nm 2), (.nm 3), (.nm 4), (.nm 5), (.nm 4)]) .seq [(.var 0)] [(.iff (.or (.cmp .inn (.var 2) (.var 1)) (.or (.not (.call par [(.var 3), (.var 1)])) (.cmp .ne (.blt .len [(.var 5)]) (.blt .len [(.ix (.ix (.var 0) (.int 0)) (.int 3))])))) [(.ret (.tt false))] []), (.exp (.mth .append (.var 1) [(.var 2)]))]), (.ret (.tt true))]⟩
example : K88.dfs[0]? = some bNum ∧ K88.dfs[1]? = some (bUpTo 0) ∧ K88.dfs[2]? = some (bName 1 0) ∧ K88.dfs[3]? = some (bRef 3 1) ∧ K88.dfs[4]? = some (bBucket 1 3 2) ∧ K88.dfs[5]? = some (bNode 2 4) ∧ K88.dfs[6]? = some bPar ∧ K88.dfs[7]? = some (bTree 4 5 6) := ⟨rfl, rfl, rfl, rfl, rfl, rfl, rfl, rfl⟩
section
variable {P : Pg} {f n : Nat} {hot : Bool} {h : Hh} {w : W}
theorem num_ok (e : P.defs[f]? = some bNum) (d : dat w = true) : cal P (n + 1) hot f [w] h = .ok (.bl (isNumW w)) h := by
  rw [cal_def' e _ _ rfl]
  unfold bNum
  cases w <;> first | (cases d; done) | (simp_arith [isNumW]; done) | skip
theorem upto_ok {g : Nat} (e : P.defs[f]? = some (bUpTo g)) (e0 : P.defs[g]? = some bNum) {m : Int} (d : dat w = true) : cal P (n + 2) hot f [w, .int m] h = .ok (.bl (upToW m w)) h := by
  rw [cal_def' e _ _ rfl]
  unfold bUpTo
  cases w with
  | int i =>
    simp_arith [ex_dat d, num_ok e0 d, isNumW, upToW]
    by_cases q : 0 ≤ i <;> first | (simp_arith [q]; done) | (simp_arith [q]; simp [q]; done) | simp [q]
  | _ => first | (cases d; done) | (simp_arith [num_ok e0 d, isNumW, upToW])

theorem cold_all : coldB .all = true := rfl
theorem lcEnd_f {xs : List W} : lcEnd false xs h = .ok (.lst xs) h := rfl
theorem lt_big {n m : Nat} (a : n ≤ m) (b : m ≤ 4000000) : n ≤ big := by unfold big; omega
theorem name_ok {gM gL : Nat} (e : P.defs[f]? = some (bName gM gL)) (e1 : P.gl[gM]? = some (.int 8)) (e2 : P.gl[gL]? = some (.str letters)) (d : dat w = true) : cal P (n + 1) false f [w] h = .ok (.bl (isNameW w)) h := by
  rw [cal_def' e _ _ rfl]
  unfold bName
  cases w with
  | str x =>
    simp_arith [e1]
    have e0 : (decide (1 ≤ x.length) && decide (x.length ≤ 8)) = decide (1 ≤ (x.length : Int) ∧ (x.length : Int) ≤ 8) := by
      rw [Bool.decide_and]
      congr 1 <;> exact decide_eq_decide.mpr (by omega)
    by_cases q : 1 ≤ (x.length : Int)
    · by_cases q2 : (x.length : Int) ≤ 8
      · simp_arith [q, q2]
        rw [ev_lc_map (xs := x.map fun c => .str [c]) (iv := .q (.str x)) (ws := [.str x]) (f := fun w => .bl (match w with
          | .str [c] => decide (c ∈ letters)
          | _ => false)) rfl rfl rfl itm_str (lt_big (m := 8) (by rw [List.length_map]; omega) (by decide)) (fun z hz => ?_)]
        · rw [lcEnd_f, List.map_map]
          simp_arith []
          rw [show (List.map ((fun w => W.bl (match w with
            | .str [c] => decide (c ∈ letters)
            | _ => false)) ∘ fun c => W.str [c]) x) = x.map (fun c => W.bl (decide (c ∈ letters))) from rfl, bi_all]
          simp_arith []
          simp only [isNameW, nameT]
          rw [e0, decide_eq_true (And.intro q q2)]
          rfl
        · obtain ⟨c, _, rfl⟩ := List.mem_map.mp hz
          simp_arith [e2]
      · simp_arith [q, q2]
        simp only [isNameW, nameT]
        rw [e0, decide_eq_false (fun z => q2 z.2)]
        rfl
    · simp_arith [q]
      simp only [isNameW, nameT]
      rw [e0, decide_eq_false (fun z => q z.1)]
      rfl
  | _ => first | (cases d; done) | (simp_arith [isNameW])
theorem ref_ok {gP u g : Nat} (e : P.defs[f]? = some (bRef gP u)) (e1 : P.gl[gP]? = some (.int 4)) (e2 : P.defs[u]? = some (bUpTo g)) (e3 : P.defs[g]? = some bNum) {m : Int} (d : dat w = true) : cal P (n + 3) false f [w, .int m] h = .ok (.bl (refW m w)) h := by
  rw [cal_def' e _ _ rfl]
  unfold bRef
  cases w with
  | tup xs =>
    simp_arith [e1]
    have e0 : (decide (1 ≤ xs.length) && decide (xs.length ≤ 4)) = decide (1 ≤ (xs.length : Int) ∧ (xs.length : Int) ≤ 4) := by
      rw [Bool.decide_and]
      congr 1 <;> exact decide_eq_decide.mpr (by omega)
    by_cases q : 1 ≤ (xs.length : Int)
    · by_cases q2 : (xs.length : Int) ≤ 4
      · simp_arith [q, q2]
        rw [ev_lc_map (xs := xs) (iv := .q (.tup xs)) (ws := [.tup xs]) (f := fun w => .bl (upToW m w)) rfl rfl rfl itm_tup (lt_big (m := 8) (by omega) (by decide)) (fun z hz => ?_)]
        · rw [lcEnd_f]
          simp_arith []
          rw [bi_all]
          simp_arith []
          simp only [refW]
          rw [e0, decide_eq_true (And.intro q q2)]
          rfl
        · have dz := dats_mem d z hz
          simp_arith [ex_dat dz, upto_ok e2 e3 dz]
      · simp_arith [q, q2]
        simp only [refW]
        rw [e0, decide_eq_false (fun z => q2 z.2)]
        rfl
    · simp_arith [q]
      simp only [refW]
      rw [e0, decide_eq_false (fun z => q z.1)]
      rfl
  | _ => first | (cases d; done) | (simp_arith [refW])
theorem bucket_ok {u r g gM gP : Nat} (e : P.defs[f]? = some (bBucket u r gM)) (eM : P.gl[gM]? = some (.int 99)) (er : P.defs[r]? = some (bRef gP u)) (e1 : P.gl[gP]? = some (.int 4)) (e2 : P.defs[u]? = some (bUpTo g)) (e3 : P.defs[g]? = some bNum) (d : dat w = true) : cal P (n + 4) false f [w] h = .ok (.bl (bucketW w)) h := by
  rw [cal_def' e _ _ rfl]
  unfold bBucket
  cases w with
  | tup xs =>
    match xs, d with
    | [a, b, c], d =>
      have da := dats_mem d a (by simp)
      have db := dats_mem d b (by simp)
      have dc := dats_mem d c (by simp)
      simp_arith [eM, upto_ok e2 e3 da, ref_ok er e1 e2 e3 db, upto_ok e2 e3 dc, bucketW]
      cases upToW 99 a <;> cases refW 99 b <;> simp_arith []
    | [], d => simp_arith [bucketW]
    | [a], d => simp_arith [bucketW]
    | [a, b], d => simp_arith [bucketW]
    | a :: b :: c :: x :: l, d =>
      have : ¬ ((l.length : Int) + 1 + 1 + 1 + 1 = 3) := by omega
      simp_arith [bucketW, Int.natCast_add, Int.natCast_one, Int.cast_ofNat_Int, this, ne_eq]
  | _ => first | (cases d; done) | (simp_arith [bucketW])

theorem node_ok {nm b u r g gM gP g8 gL : Nat} (e : P.defs[f]? = some (bNode nm b)) (en : P.defs[nm]? = some (bName g8 gL)) (e8 : P.gl[g8]? = some (.int 8)) (eL : P.gl[gL]? = some (.str letters)) (eb : P.defs[b]? = some (bBucket u r gM)) (eM : P.gl[gM]? = some (.int 99)) (er : P.defs[r]? = some (bRef gP u)) (e1 : P.gl[gP]? = some (.int 4)) (e2 : P.defs[u]? = some (bUpTo g)) (e3 : P.defs[g]? = some bNum) (d : dat w = true) : cal P (n + 5) false f [w] h = .ok (.bl (nodeW w)) h := by
  rw [cal_def' e _ _ rfl]
  unfold bNode
  cases w with
  | tup xs =>
    match xs, d with
    | [a, q, b, c, x], d =>
      have da := dats_mem d a (by simp)
      have db := dats_mem d b (by simp)
      have dc := dats_mem d c (by simp)
      have dx := dats_mem d x (by simp)
      have dd : dat (.tup [b, c, x]) = true := dats_of (by simp [db, dc, dx])
      simp_arith [name_ok en e8 eL da, bucket_ok eb eM er e1 e2 e3 dd, nodeW, bucketW]
      cases isNameW a <;> simp_arith []
    | [], d => simp_arith [nodeW]
    | [a], d => simp_arith [nodeW]
    | [a, b], d => simp_arith [nodeW]
    | [a, b, c], d => simp_arith [nodeW]
    | [a, b, c, x], d => simp_arith [nodeW]
    | a :: b :: c :: x :: y :: z :: l, d =>
      have : ¬ ((l.length : Int) + 1 + 1 + 1 + 1 + 1 + 1 = 5) := by omega
      simp_arith [nodeW, Int.natCast_add, Int.natCast_one, Int.cast_ofNat_Int, this, ne_eq]
  | _ => first | (cases d; done) | (simp_arith [nodeW])
theorem asQ_lst {m : Nat} {xs : List W} (q : h[m]? = some (.lst xs)) : asQ h (.ref m) = some xs := by
  show (match h[m]? with
    | some (.lst xs) => some xs
    | _ => none) = _
  rw [q]
theorem plainly_ref {m : Nat} {xs : List W} (q : h[m]? = some (.lst xs)) : plainly h (.ref m) = .lst xs := by
  show (match h[m]? with
    | some (.lst xs) => W.lst xs
    | _ => .ref m) = _
  rw [q]
theorem dats_flat : ∀ {xs : List W}, xs.all flat = true → dats xs = true
  | [], _ => rfl
  | x :: xs, h => by
    rw [List.all_cons, Bool.and_eq_true] at h
    show (dat x && dats xs) = true
    rw [dat_flat h.1, dats_flat h.2]
    rfl
/-- == with the empty list -/
theorem eq_ref_nil {m : Nat} {xs : List W} (q : h[m]? = some (.lst xs)) (g : xs.all flat = true) : cmpO .eq (.ref m) (.lst []) h = some (decide (xs = [])) := by
  show eqO h (.ref m) (.lst []) = _
  unfold eqO
  rw [plainly_ref q, show plainly h (.lst []) = .lst [] from rfl]
  have e : dat (.lst xs) = true := dats_flat g
  have e2 : min (dep (.lst xs)) (dep (.lst [])) ≤ 60 := Nat.le_trans (Nat.min_le_right _ _) (by decide)
  rw [e, decide_eq_true e2]
  show some (eqBs xs []) = _
  cases xs with
  | nil => rfl
  | cons _ _ => simp [eqBs]
theorem par_ok (e : P.defs[f]? = some bPar) {m : Nat} {xs : List W} (q : h[m]? = some (.lst xs)) (g : xs.all flat = true) (d : dat w = true) : cal P (n + 1) false f [w, .ref m] h = .ok (.bl (parW w xs)) h := by
  rw [cal_def' e _ _ rfl]
  unfold bPar
  unfold parW
  by_cases hx : xs = []
  · simp_arith [eq_ref_nil q g, hx]
    cases w <;> first | (cases d; done) | (simp_arith [])
  · simp_arith [eq_ref_nil q g, hx]
    cases w with
    | str x =>
      simp_arith [in_ref q (a := .str x) rfl g]
    | _ => first | (cases d; done) | (simp_arith [])
end
/-- the functions that look at trees, in a program -/
structure TreeFn (P : Pg) where
  num : Nat
  upto : Nat
  name : Nat
  ref : Nat
  bucket : Nat
  node : Nat
  par : Nat
  tree : Nat
  g8 : Nat
  gL : Nat
  g4 : Nat
  gM : Nat
  gN : Nat
  eNum : P.defs[num]? = some bNum
  eUpto : P.defs[upto]? = some (bUpTo num)
  eName : P.defs[name]? = some (bName g8 gL)
  eRef : P.defs[ref]? = some (bRef g4 upto)
  eBucket : P.defs[bucket]? = some (bBucket upto ref gM)
  eNode : P.defs[node]? = some (bNode name bucket)
  ePar : P.defs[par]? = some bPar
  eTree : P.defs[tree]? = some (bTree gN node par)
  e8 : P.gl[g8]? = some (.int 8)
  eL : P.gl[gL]? = some (.str letters)
  e4 : P.gl[g4]? = some (.int 4)
  eM : P.gl[gM]? = some (.int 99)
  eN : P.gl[gN]? = some (.int 6)
section
variable {P : Pg} (T : TreeFn P) {n : Nat} {h : Hh} {w : W}
include T
theorem TreeFn.node_ok (d : dat w = true) : cal P (n + 5) false T.node [w] h = .ok (.bl (nodeW w)) h := LP.node_ok T.eNode T.eName T.e8 T.eL T.eBucket T.eM T.eRef T.e4 T.eUpto T.eNum d
theorem TreeFn.par_ok {m : Nat} {xs : List W} (q : h[m]? = some (.lst xs)) (g : xs.all flat = true) (d : dat w = true) : cal P (n + 1) false T.par [w, .ref m] h = .ok (.bl (parW w xs)) h := LP.par_ok T.ePar q g d
end
theorem get_app1 {h : Hh} {o : O} : (h ++ [o])[h.length]? = some o := by simp
theorem set_app1 {h : Hh} {o o' : O} : (h ++ [o]).set h.length o' = h ++ [o'] := by simp
theorem take_app1 {h : Hh} {o : O} : (h ++ [o]).take h.length = h := by simp
theorem nodeW_ok : ∀ {w : W}, nodeW w = true → ∃ x p a xs b, w = .tup [.str x, p, a, .tup xs, b] ∧ nameT x = true ∧ upToW 99 a = true ∧ refW 99 (.tup xs) = true ∧ upToW 99 b = true
  | .tup [n, p, a, r, b], h => by
    have h : (isNameW n && (upToW 99 a && (refW 99 r && upToW 99 b))) = true := h
    simp only [Bool.and_eq_true] at h
    obtain ⟨h1, h2, h3, h4⟩ := h
    cases n with
    | str x =>
      cases r with
      | tup xs => exact ⟨x, p, a, xs, b, rfl, h1, h2, h3, h4⟩
      | _ => cases h3
    | _ => cases h1
def nmOf : W → W
  | .tup (n :: _) => n
  | _ => .non
theorem treeGo_cons {k : Nat} {n p a r b : W} {ws names : List W} : treeGo k (.tup [n, p, a, r, b] :: ws) names = if ((names.any fun y => eqB y n) || (!(parW p names) || !(lenW r == k))) = true then false else treeGo k ws (names ++ [n]) := rfl
theorem tree_ok {P : Pg} (T : TreeFn P) {n : Nat} {h : Hh} {w : W} (hf : Hf h) (d : dat w = true) : cal P (n + 6) false T.tree [w] h = .ok (.bl (treeW w)) h := by
  refine wp_val (wp_call T.eTree rfl (fun v h' => v = .bl (treeW w) ∧ h'.take h.length = h) ?_ fun v h' hv => ?_)
  · show (exs P (cal P (n + 5)) false (bTree T.gN T.node T.par).body [some w, none, none, none, none, none, none] h).wp _
    have tk : h.take h.length = h := List.take_length
    unfold bTree
    cases w with
    | tup xs =>
      have e0 : (decide (1 ≤ xs.length) && decide (xs.length ≤ 6)) = decide (1 ≤ (xs.length : Int) ∧ (xs.length : Int) ≤ 6) := by
        rw [Bool.decide_and]
        congr 1 <;> exact decide_eq_decide.mpr (by omega)
      by_cases q : 1 ≤ (xs.length : Int)
      · by_cases q2 : (xs.length : Int) ≤ 6
        · have hl : xs.length ≤ big := lt_big (m := 8) (by omega) (by decide)
          have lc : ∀ ρ : Env, ρ[0]? = some (some (.tup xs)) → wipeE ρ [6] = ρ.set 6 none → ρ.length = 7 → ev P false (cal P (n + 5) false) false (.lc false (.call T.node [(.var 6)]) (.nm 6) .seq [(.var 0)] [] [6]) ρ h = .ok (.lst (xs.map fun w => .bl (nodeW w))) h := by
            intro ρ r0 rw6 rl
            rw [ev_lc_map (xs := xs) (iv := .q (.tup xs)) (ws := [.tup xs]) (f := fun w => .bl (nodeW w)) rfl (by simp_arith [r0]) rfl itm_tup hl (fun z hz => ?_)]
            · rfl
            · have dz := dats_mem d z hz
              rw [rw6]
              have : ((ρ.set 6 none).set 6 (some z))[6]? = some (some z) := by rw [List.getElem?_set_self (by rw [List.length_set]; omega)]
              simp_arith [this, ex_dat dz, T.node_ok dz]
          simp_arith [T.eN, q, q2, lc [some (.tup xs), none, none, none, none, none, none] rfl rfl rfl, bi_all]
          have et : treeW (.tup xs) = (xs.all nodeW && treeGo (match xs with
            | .tup [_, _, _, r, _] :: _ => lenW r
            | _ => 0) xs []) := by
            show ((decide (1 ≤ xs.length) && decide (xs.length ≤ 6)) && (xs.all nodeW && treeGo _ xs [])) = _
            rw [e0, decide_eq_true (And.intro q q2)]
            rfl
          by_cases q3 : xs.all nodeW = true
          · simp_arith [q3]
            rw [et, q3, Bool.true_and]
            generalize hk : (match xs with
              | .tup [_, _, _, r, _] :: _ => lenW r
              | _ => 0) = k
            refine ex_fo_wp ?_
            simp_arith []
            refine ⟨_, xs, fun i ρ h' => ∃ a b c e g ns, ρ = [some (.tup xs), some (.ref h.length), a, b, c, e, g] ∧ h' = h ++ [.lst ns] ∧ ns.all flat = true ∧ ns.length ≤ i ∧ treeGo k xs [] = treeGo k (xs.drop i) ns, rfl, itm_tup.1, ⟨none, none, none, none, none, [], rfl, rfl, rfl, Nat.le_refl _, rfl⟩, fun i ρ h' _ => itm_tup.2 i, fun i x ρ h' hx J => ?_, fun ρ h' J => ?_⟩
            · refine ofPP ?_
              obtain ⟨a, b, c, e, g, ns, rfl, rfl, hn, hnl, ht⟩ := J
              refine toPP ?_
              have hm : x ∈ xs := List.mem_of_getElem? hx
              have hi : i < xs.length := (List.getElem?_eq_some_iff.mp hx).1
              obtain ⟨nm, p, a1, rs, b1, rfl, h1, h2, h3, h4⟩ := nodeW_ok (List.all_eq_true.mp q3 x hm)
              have dx := dats_mem d _ hm
              have dp : dat p = true := dats_mem (show dats _ = true from dx) p (by simp)
              have da : dat a1 = true := dats_mem (show dats _ = true from dx) a1 (by simp)
              have db : dat b1 = true := dats_mem (show dats _ = true from dx) b1 (by simp)
              rw [List.drop_eq_getElem_cons hi, (List.getElem?_eq_some_iff.mp hx).2, treeGo_cons] at ht
              unfold foTu
              obtain ⟨x0, xt, exs⟩ : ∃ x0 xt, xs = x0 :: xt := by
                cases xs with
                | nil => simp at hi
                | cons x0 xt => exact ⟨x0, xt, rfl⟩
              obtain ⟨nm0, p0, a0, rs0, b0, ex0, _⟩ := nodeW_ok (List.all_eq_true.mp q3 x0 (by rw [exs]; simp))
              have k0 : k = rs0.length := by rw [← hk, exs, ex0]; rfl
              have at0 : atW xs 0 = some (.tup [.str nm0, p0, a0, .tup rs0, b0]) := by rw [exs, ex0]; exact at_0
              have ga : (h ++ [O.lst ns])[h.length]? = some (.lst ns) := get_app1
              obtain ⟨ma, mb⟩ := meL_append (a := .str nm) ga (by unfold big; omega)
              simp_arith [in_ref ga (a := .str nm) rfl hn, ex_dat dp, T.par_ok ga hn dp, at0, ma, mb, set_app1]
              have tk1 : ∀ ns : List W, (h ++ [O.lst ns]).take h.length = h := fun ns => take_app1
              simp only [k0, lenW] at ht
              refine ⟨fun z => ⟨?_, tk1 _⟩, fun z => ⟨fun z2 => ⟨?_, tk1 _⟩, fun z2 => ⟨fun z3 => ⟨?_, tk1 _⟩, fun z3 => ?_⟩⟩⟩
              · rw [z] at ht
                rw [k0, ht]
                rfl
              · rw [Bool.eq_false_iff.mpr z2] at ht
                rw [k0, ht]
                simp
              · have : (rs.length == rs0.length) = false := beq_eq_false_iff_ne.mpr (by omega)
                rw [this] at ht
                rw [k0, ht]
                simp
              · have e1 : (rs.length == rs0.length) = true := beq_iff_eq.mpr (by omega)
                have e2 : parW p ns = true := Decidable.not_not.mp z2
                rw [e1, e2, Bool.eq_false_iff.mpr z] at ht
                refine ⟨_, _, _, _, _, ns ++ [.str nm], rfl, rfl, ?_, ?_, ?_⟩
                · rw [List.all_append, hn]; rfl
                · rw [List.length_append]; simp; exact hnl
                · rw [k0, ht]; rfl
            · refine ofPP ?_
              obtain ⟨a, b, c, e, g, ns, rfl, rfl, hn, hnl, ht⟩ := J
              refine toPP ?_
              rw [List.drop_length] at ht
              show _ ∧ _
              rw [ht]
              exact ⟨rfl, take_app1⟩
          · simp_arith [q3]
            rw [et, Bool.eq_false_iff.mpr q3]
            exact ⟨rfl, tk⟩
        · simp_arith [T.eN, q, q2]
          simp only [treeW, e0, decide_eq_false (fun z : _ ∧ _ => q2 z.2)]
          exact ⟨rfl, tk⟩
      · simp_arith [T.eN, q]
        simp only [treeW, e0, decide_eq_false (fun z : _ ∧ _ => q z.1)]
        exact ⟨rfl, tk⟩
    | _ => first | (cases d; done) | (simp_arith [treeW]; exact tk)
  · refine ofPP ?_
    obtain ⟨rfl, e⟩ := hv
    refine toPP ?_
    show (if (wlo h.length (.bl _) && (h'.take h.length).all (O.lo h.length)) = true then Rs.ok (W.bl _) (h'.take h.length) else .bad).wp _ _
    rw [e]
    have := hf.take h.length h.length
    rw [List.take_length] at this
    rw [this]
    show (Rs.ok (W.bl (treeW w)) h).wp _ _
    rw [wp_ok]
    exact ⟨rfl, rfl⟩
end LP
/-! LP, plain: the law's draws. -/
namespace LP
def bNip : Df := ⟨2, 4, false, [(.iff (.cmp .gt (.ix (.var 0) (.int 0)) (.int 0)) [(.asg (.tp [(.ix (.var 0) (.int 0)), (.nm 3)]) (.blt .dmod [(.ix (.var 0) (.int 0)), (.var 1)])), (.ret (.var 3))] []), (.asg (.ix (.var 0) (.int 2)) (.bin false .add (.ix (.var 0) (.int 2)) (.int 1))), (.set 2 (.bin false .mod (.blt .int [(.bin false .add (.bin false .add (.bin false .mul (.ix (.var 0) (.int 1)) (.int 41299)) (.bin false .mul (.ix (.var 0) (.int 2)) (.int 50951))) (.int 23))]) (.int 2147483423))), (.asg (.ix (.var 0) (.int 1)) (.bin false .mod (.blt .int [(.bin false .add (.bin false .mul (.var 2) (.bin false .add (.bin false .mul (.int 2) (.bin false .fdv (.var 2) (.int 37))) (.int 20011))) (.ix (.var 0) (.int 2)))]) (.int 2147483423))), (.ret (.bin false .mod (.blt .int [(.bin false .fdv (.ix (.var 0) (.int 1)) (.int 103))]) (.var 1)))]⟩
def bAny (nip : Nat) : Df := ⟨2, 2, false, [(.ret (.ix (.var 1) (.call nip [(.var 0), (.blt .len [(.var 1)])])))]⟩
example : K88.dfs[17]? = some bNip ∧ K88.dfs[18]? = some (bAny 17) := ⟨rfl, rfl⟩
/-- a cell that draws come from -/
def Ur (o : O) : Prop := ∃ a b c : Int, o = .lst [.int a, .int b, .int c]
theorem small_mod {i : Int} : small (i % 2147483423) = true := by
  have h1 := Int.emod_nonneg i (show (2147483423 : Int) ≠ 0 by decide)
  have h2 := Int.emod_lt_of_pos i (show (0 : Int) < 2147483423 by decide)
  unfold small
  rw [Bool.and_eq_true, decide_eq_true_eq, decide_eq_true_eq]
  omega
theorem small_lit {i : Int} (h : small i = true) (j : Int) : (small j || small i) = true := by rw [h]; cases small j <;> rfl
section
variable {P : Pg} {f n u : Nat} {h : Hh} {Q : W → Hh → Prop} {X : Nat → W → Hh → Prop}
theorem nip_wp (e : P.defs[f]? = some bNip) {o : O} (hu : h[u]? = some o) (ho : Ur o) {m : Int} (h0 : 0 < m) (h1 : m < 1073741824) (k : ∀ r o', 0 ≤ r → r < m → Ur o' → Q (.int r) (h.set u o')) : (cal P (n + 1) false f [.ref u, .int m] h).wp Q X := by
  refine ofPP ?_; obtain ⟨a, b, c, rfl⟩ := ho; refine toPP ?_
  have hl : u < h.length := (List.getElem?_eq_some_iff.mp hu).1
  refine wp_callf e rfl rfl (fun w h' => ∃ r o', 0 ≤ r ∧ r < m ∧ Ur o' ∧ w = .int r ∧ h' = h.set u o') ?_ fun w h' ⟨r, o', q1, q2, q3, q4, q5⟩ => by rw [q4, q5]; exact k r o' q1 q2 q3
  have gs : ∀ o', (h.set u o')[u]? = some o' := fun o' => List.getElem?_set_self hl
  have s1 : ∀ i, (small i || small 41299) = true := small_lit (by decide)
  have s2 : ∀ i, (small i || small 50951) = true := small_lit (by decide)
  have s3 : ∀ i, (small 2 || small i) = true := fun i => by rw [show small 2 = true by decide]; rfl
  have s4 : ∀ i j : Int, (small (i % 2147483423) || small j) = true := fun i j => by rw [small_mod]; rfl
  unfold bNip
  by_cases q : 0 < a
  · simp_arith [hu, q, h0, h1]
    exact ⟨_, _, Int.emod_nonneg _ (by omega), Int.emod_lt_of_pos _ h0, ⟨_, _, _, rfl⟩, rfl, rfl⟩
  · simp_arith [hu, q]
    simp_arith [gs]
    simp_arith [s1, s2, s3, s4, List.set_set, gs, h0]
    exact ⟨_, _, Int.emod_nonneg _ (by omega), Int.emod_lt_of_pos _ h0, ⟨_, _, _, rfl⟩, rfl, rfl⟩
/-- one of some things, by the place drawn -/
theorem any_wp {g : Nat} (e : P.defs[f]? = some (bAny g)) (e0 : P.defs[g]? = some bNip) {o : O} (hu : h[u]? = some o) (ho : Ur o) {w : W} {l : Int} (hw : biO .len [w] h = .ok (.int l) h) (hx : isExn w = false) (h0 : 0 < l) (h1 : l < 1073741824)
    (k : ∀ r o', 0 ≤ r → r < l → Ur o' → ∃ v, ixO (h.set u o') w (.int r) = some v ∧ Q v (h.set u o')) : (cal P (n + 2) false f [.ref u, w] h).wp Q X := by
  refine wp_callf e rfl rfl (fun w h' => Q w h') ?_ fun w h' z => z
  unfold bAny
  simp_arith [hx, hw]
  refine nip_wp e0 hu ho h0 h1 fun r o' r0 r1 ho' => ?_
  obtain ⟨v, e1, q⟩ := k r o' r0 r1 ho'
  rw [e1, outW_s, wp_ok]
  simp_arith []
  exact q
theorem any_tup {g : Nat} (e : P.defs[f]? = some (bAny g)) (e0 : P.defs[g]? = some bNip) {o : O} (hu : h[u]? = some o) (ho : Ur o) {xs : List W} (h0 : 0 < xs.length) (h1 : xs.length < 1073741824)
    (k : ∀ v ∈ xs, ∀ o', Ur o' → Q v (h.set u o')) : (cal P (n + 2) false f [.ref u, .tup xs] h).wp Q X :=
  any_wp e e0 hu ho (l := xs.length) rfl rfl (by omega) (by omega) fun r o' r0 r1 ho' => by
    obtain ⟨x, e1, e2⟩ := atW_pos r0 r1
    exact ⟨x, e1, k x (List.mem_of_getElem? e2) o' ho'⟩
theorem any_str {g : Nat} (e : P.defs[f]? = some (bAny g)) (e0 : P.defs[g]? = some bNip) {o : O} (hu : h[u]? = some o) (ho : Ur o) {x : Tx} (h0 : 0 < x.length) (h1 : x.length < 1073741824)
    (k : ∀ c ∈ x, ∀ o', Ur o' → Q (.str [c]) (h.set u o')) : (cal P (n + 2) false f [.ref u, .str x] h).wp Q X :=
  any_wp e e0 hu ho (l := x.length) rfl rfl (by omega) (by omega) fun r o' r0 r1 ho' => by
    obtain ⟨c, e1, e2⟩ := atW_pos r0 r1
    exact ⟨.str [c], by rw [ix_str, e1]; rfl, k c (List.mem_of_getElem? e2) o' ho'⟩
theorem any_ref {g : Nat} (e : P.defs[f]? = some (bAny g)) (e0 : P.defs[g]? = some bNip) {o : O} (hu : h[u]? = some o) (ho : Ur o) {m : Nat} {xs : List W} (hm : h[m]? = some (.lst xs)) (hmu : m ≠ u) (h0 : 0 < xs.length) (h1 : xs.length < 1073741824)
    (k : ∀ v ∈ xs, ∀ o', Ur o' → Q v (h.set u o')) : (cal P (n + 2) false f [.ref u, .ref m] h).wp Q X :=
  any_wp e e0 hu ho (l := xs.length) (by
    show (match asQ h (.ref m) with
      | some xs => Rs.ok (W.int xs.length) h
      | none => .bad) = _
    rw [asQ_lst hm]) rfl (by omega) (by omega) fun r o' r0 r1 ho' => by
    obtain ⟨x, e1, e2⟩ := atW_pos r0 r1
    refine ⟨x, ?_, k x (List.mem_of_getElem? e2) o' ho'⟩
    rw [ix_ref, List.getElem?_set_ne (fun z => hmu z.symm), hm]
    exact e1
theorem bi_suml {α : Type} (f : α → Int) (l : List α) : biO .suml [.lst (l.map fun a => .int (f a))] h = .ok (.int (l.map f).sum) h := by
  unfold biO
  dsimp only [asF, asL]
  rw [intsOf_map]
def bUrn : Df := ⟨2, 5, false, [(.set 2 (.ite (.cmp .lt (.var 1) (.blt .len [(.var 0)])) (.blt .int [(.ix (.var 0) (.var 1))]) (.bin false .add (.bin false .add (.bin false .mul (.int 7963) (.var 1)) (.int 307)) (.bin false .mod (.blt .int [(.blt .suml [(.slt false (.var 0) (.int 5))])]) (.int 999769))))), (.set 3 (.bin false .add (.int 91009) (.bin false .mul (.int 3307) (.var 1)))), (.fo (.nm 4) .seq [(.bin false .add (.slt false (.var 0) (.int 11)) (.lst false [(.var 2)]))] [(.set 3 (.bin false .mod (.blt .int [(.bin false .add (.bin false .add (.bin false .mul (.var 3) (.int 43591)) (.bin false .mod (.blt .int [(.var 4)]) (.int 2147483423))) (.int 43))]) (.int 2147483423)))]), (.ret (.lst true [(.ite (.or (.cmp .lt (.var 2) (.int 0)) (.cmp .ge (.var 2) (.bin false .pow (.int 10) (.int 18)))) (.blt .abs [(.var 2)]) (.int 0)), (.var 3), (.int 0)]))]⟩
example : K88.dfs[16]? = some bUrn := rfl
theorem small_r {i : Int} (h : small i = true) (j : Int) : (small i || small j) = true := by rw [h]; rfl
theorem cut_lit {α : Type} {l : List α} {k : Nat} : cutW l none (some (OfNat.ofNat k : Int)) = l.take k := cut_to
theorem urn_wp (e : P.defs[f]? = some bUrn) {is : List Int} {lap : Int} (hl : is.length ≤ 63) (h0 : 0 ≤ lap) (k : ∀ o, Ur o → Q (.ref h.length) (h ++ [o])) : (cal P (n + 1) false f [.frz (is.map .int), .int lap] h).wp Q X := by
  refine wp_callf e rfl rfl (fun w h' => ∃ o, Ur o ∧ w = .ref h.length ∧ h' = h ++ [o]) ?_ fun w h' ⟨o, q1, q2, q3⟩ => by rw [q2, q3]; exact k o q1
  show (exs P (cal P n) false bUrn.body [some (.frz (is.map .int)), some (.int lap), none, none, none] h).wp _
  unfold bUrn
  have s1 : ∀ i, (small 7963 || small i) = true := small_r (by decide)
  have s2 : ∀ i, (small 3307 || small i) = true := small_r (by decide)
  have s3 : ∀ i, (small i || small 43591) = true := small_lit (by decide)
  have s4 : small 10 = true := by decide
  have c5 : cutW (is.map W.int) none (some 5) = (is.take 5).map (fun i => W.int (id i)) := by rw [show (5 : Int) = ((5 : Nat) : Int) from rfl, cut_to, List.map_take]; rfl
  have c11 : cutW (is.map W.int) none (some 11) = (is.take 11).map W.int := by rw [show (11 : Int) = ((11 : Nat) : Int) from rfl, cut_to, List.map_take]
  have b5 : ((is.take 5).map (fun i => W.int (id i))).length ≤ big := lt_big (m := 63) (by rw [List.length_map, List.length_take]; omega) (by decide)
  have b11 : ((is.take 11).map W.int).length ≤ big := lt_big (m := 63) (by rw [List.length_map, List.length_take]; omega) (by decide)
  have b12 : ∀ own, ((is.take 11).map W.int ++ [W.int own]).length ≤ big := fun own => lt_big (m := 64) (by rw [List.length_append, List.length_map, List.length_take]; simp; omega) (by decide)
  -- behind the first number
  have rest : ∀ own : Int, (exs P (cal P n) false [(.set 3 (.bin false .add (.int 91009) (.bin false .mul (.int 3307) (.var 1)))), (.fo (.nm 4) .seq [(.bin false .add (.slt false (.var 0) (.int 11)) (.lst false [(.var 2)]))] [(.set 3 (.bin false .mod (.blt .int [(.bin false .add (.bin false .add (.bin false .mul (.var 3) (.int 43591)) (.bin false .mod (.blt .int [(.var 4)]) (.int 2147483423))) (.int 43))]) (.int 2147483423)))]), (.ret (.lst true [(.ite (.or (.cmp .lt (.var 2) (.int 0)) (.cmp .ge (.var 2) (.bin false .pow (.int 10) (.int 18)))) (.blt .abs [(.var 2)]) (.int 0)), (.var 3), (.int 0)]))] [some (.frz (is.map .int)), some (.int lap), some (.int own), none, none] h).wp (Ps.ret fun w h' => ∃ o, Ur o ∧ w = .ref h.length ∧ h' = h ++ [o]) := fun own => by
    simp_arith [s2]
    refine ex_fo_wp ?_
    simp_arith [c11, mkL_ok b11, mkL_ok (b12 own)]
    refine ⟨_, (is.take 11).map W.int ++ [W.int own], fun i ρ h' => h' = h ∧ ∃ (s : Int) (x : Option W), ρ = [some (.frz (is.map .int)), some (.int lap), some (.int own), some (.int s), x], rfl, itm_lst.1, ⟨rfl, _, _, rfl⟩, fun i ρ h' _ => itm_lst.2 i, fun i x ρ h' hx J => ?_, fun ρ h' J => ?_⟩
    · refine ofPP ?_; obtain ⟨rfl, s, y, rfl⟩ := J; refine toPP ?_
      obtain ⟨z, rfl⟩ : ∃ z, x = .int z := by
        rcases List.mem_append.mp (List.mem_of_getElem? hx) with q | q
        · obtain ⟨z, _, rfl⟩ := List.mem_map.mp q
          exact ⟨z, rfl⟩
        · exact ⟨own, by simpa using q⟩
      unfold foTu
      simp_arith [s3]
      exact ⟨_, _, rfl⟩
    · refine ofPP ?_; obtain ⟨rfl, s, y, rfl⟩ := J; refine toPP ?_
      by_cases q1 : own < 0
      · simp_arith [q1, s4]
        exact ⟨_, ⟨_, _, _, rfl⟩, rfl⟩
      · by_cases q2 : (1000000000000000000 : Int) ≤ own
        · simp_arith [q1, s4, q2]
          exact ⟨_, ⟨_, _, _, rfl⟩, rfl⟩
        · simp_arith [q1, s4, q2]
          exact ⟨_, ⟨_, _, _, rfl⟩, rfl⟩
  by_cases q : lap < is.length
  · have q' : lap < ((is.map W.int).length : Int) := by rw [List.length_map]; exact q
    obtain ⟨x, e1, e2⟩ := atW_pos h0 q'
    obtain ⟨z, _, rfl⟩ := List.mem_map.mp (List.mem_of_getElem? e2)
    exact exs_c_eq (by simp_arith [q', e1]) (rest z)
  · have q' : ¬ lap < ((is.map W.int).length : Int) := by rw [List.length_map]; exact q
    exact exs_c_eq (by simp_arith [q', s1, c5, mkL_ok b5, bi_suml]; rfl) (rest _)
end
end LP
/-! LP, plain: whether two values are the same. -/
namespace LP
def bSame (f : Nat) : Df := ⟨2, 4, false, [(.iff (.isi (.var 0) [.tup, .lst]) [(.iff (.or (.cmp .ne (.isi (.var 0) [.tup]) (.isi (.var 1) [.tup])) (.cmp .ne (.isi (.var 0) [.lst]) (.isi (.var 1) [.lst]))) [(.ret (.tt false))] []), (.ret (.and (.cmp .eq (.blt .len [(.var 0)]) (.blt .len [(.var 1)])) (.cmp .nin (.tt false) (.lc false (.call f [(.var 2), (.var 3)]) (.tp [(.nm 2), (.nm 3)]) .z2 [(.var 0), (.var 1)] [] [2, 3]))))] []), (.iff (.or (.isi (.var 1) [.tup, .lst]) (.cmp .ne (.isi (.var 0) [.bool]) (.isi (.var 1) [.bool]))) [(.ret (.tt false))] []), (.ret (.and (.cmp .eq (.isi (.var 0) [.str]) (.isi (.var 1) [.str])) (.cmp .eq (.var 0) (.var 1))))]⟩
example : K88.dfs[19]? = some (bSame 19) := rfl
mutual
def sameW : W → W → Bool
  | .tup xs, .tup ys => sameWs xs ys
  | .lst xs, .lst ys => sameWs xs ys
  | .non, .non => true
  | .bl a, .bl b => a == b
  | .int a, .int b => decide (a = b)
  | .str a, .str b => decide (a = b)
  | _, _ => false
def sameWs : List W → List W → Bool
  | [], [] => true
  | x :: xs, y :: ys => sameW x y && sameWs xs ys
  | _, _ => false
end
/-- data, so deep and wide -/
def fitW : Nat → W → Bool
  | k + 1, .tup xs => decide (xs.length ≤ big) && xs.all (fitW k)
  | k + 1, .lst xs => decide (xs.length ≤ big) && xs.all (fitW k)
  | _, a => flat a
theorem fit_dat : ∀ (k : Nat) (a : W), fitW k a = true → dat a = true
  | 0, a, h => by cases a <;> first | rfl | cases h
  | k + 1, a, h => by
    cases a with
    | tup xs =>
      have h : (decide (xs.length ≤ big) && xs.all (fitW k)) = true := h
      rw [Bool.and_eq_true] at h
      exact dats_of fun w hw => fit_dat k w (List.all_eq_true.mp h.2 w hw)
    | lst xs =>
      have h : (decide (xs.length ≤ big) && xs.all (fitW k)) = true := h
      rw [Bool.and_eq_true] at h
      exact dats_of fun w hw => fit_dat k w (List.all_eq_true.mp h.2 w hw)
    | _ => first | rfl | cases h
theorem fit_up : ∀ (k : Nat) (a : W), fitW k a = true → fitW (k + 1) a = true
  | 0, a, h => by cases a <;> first | exact h | cases h
  | k + 1, a, h => by
    cases a with
    | tup xs =>
      have h : (decide (xs.length ≤ big) && xs.all (fitW k)) = true := h
      rw [Bool.and_eq_true] at h
      show (decide (xs.length ≤ big) && xs.all (fitW (k + 1))) = true
      rw [h.1, List.all_eq_true.mpr fun w hw => fit_up k w (List.all_eq_true.mp h.2 w hw)]
      rfl
    | lst xs =>
      have h : (decide (xs.length ≤ big) && xs.all (fitW k)) = true := h
      rw [Bool.and_eq_true] at h
      show (decide (xs.length ≤ big) && xs.all (fitW (k + 1))) = true
      rw [h.1, List.all_eq_true.mpr fun w hw => fit_up k w (List.all_eq_true.mp h.2 w hw)]
      rfl
    | _ => first | exact h | cases h
theorem fit_flat {k : Nat} {a : W} (h : flat a = true) : fitW k a = true := by
  cases k <;> cases a <;> first | exact h | cases h
theorem sameWs_zip : ∀ xs ys : List W, sameWs xs ys = (decide (xs.length = ys.length) && (xs.zip ys).all fun p => sameW p.1 p.2)
  | [], [] => rfl
  | [], _ :: _ => by simp [sameWs]
  | _ :: _, [] => by simp [sameWs]
  | x :: xs, y :: ys => by
    show (sameW x y && sameWs xs ys) = _
    rw [sameWs_zip xs ys, List.zip_cons_cons, List.all_cons]
    have : decide ((x :: xs).length = (y :: ys).length) = decide (xs.length = ys.length) := decide_eq_decide.mpr (by simp)
    rw [this]
    cases sameW x y <;> cases decide (xs.length = ys.length) <;> rfl
mutual
theorem sameW_refl : ∀ a : W, dat a = true → sameW a a = true
  | .non, _ => rfl
  | .bl b, _ => by cases b <;> rfl
  | .int i, _ => by simp [sameW]
  | .str x, _ => by simp [sameW]
  | .tup xs, h => sameWs_refl xs h
  | .lst xs, h => sameWs_refl xs h
  | .frz _, h => by cases h
  | .ref _, h => by cases h
  | .ins _ _, h => by cases h
  | .cls _, h => by cases h
  | .exn _ _, h => by cases h
theorem sameWs_refl : ∀ a : List W, dats a = true → sameWs a a = true
  | [], _ => rfl
  | x :: xs, h => by
    have h : (dat x && dats xs) = true := h
    rw [Bool.and_eq_true] at h
    show (sameW x x && sameWs xs xs) = true
    rw [sameW_refl x h.1, sameWs_refl xs h.2]
    rfl
end
theorem cmp_eq_flat {h : Hh} {a b : W} (f : flat a = true) (g : flat b = true) : cmpO .eq a b h = some (eqB a b) := eqO_flat f g
section
variable {P : Pg} {f : Nat} {h : Hh} {hot : Bool}
theorem same_ok (e : P.defs[f]? = some (bSame f)) (hz : (hot && !hotK .z2) = false) : ∀ (k n : Nat) (a b : W), fitW k a = true → dat b = true → cal P (n + k + 1) hot f [a, b] h = .ok (.bl (sameW a b)) h
  | k, n, a, b, fa, db => by
    rw [cal_def' e _ _ rfl]
    show endC (bSame f) h.length (exs P (cal P (n + k)) hot (bSame f).body [some a, some b, none, none] h) = _
    have hc : (hot && false) = false := by cases hot <;> rfl
    -- both of one kind, with items
    have pairs : ∀ (k' : Nat) (xs ys : List W) (ρ : Env) (x y : W), k = k' + 1 → xs.length ≤ big → (∀ w ∈ xs, fitW k' w = true) → dats ys = true → ((x = .tup xs ∧ y = .tup ys) ∨ (x = .lst xs ∧ y = .lst ys)) → ρ = [some x, some y, none, none] →
        ev P hot (cal P (n + k) hot) false (.lc false (.call f [(.var 2), (.var 3)]) (.tp [(.nm 2), (.nm 3)]) .z2 [(.var 0), (.var 1)] [] [2, 3]) ρ h = .ok (.lst ((xs.zip ys).map fun p => .bl (sameW p.1 p.2))) h := by
      intro k' xs ys ρ x y hk hl hx hy hxy hρ
      refine ofPP ?_; subst hk hρ; refine toPP ?_
      have hit : ∃ iv, ivC h .z2 [x, y] = some iv ∧ Itm h iv ((xs.zip ys).map fun p => .tup [p.1, p.2]) := by
        rcases hxy with ⟨rfl, rfl⟩ | ⟨rfl, rfl⟩
        · exact ⟨_, rfl, itm_z2t⟩
        · exact ⟨_, rfl, itm_z2l⟩
      have ex : isExn x = false ∧ isExn y = false := by
        rcases hxy with ⟨rfl, rfl⟩ | ⟨rfl, rfl⟩ <;> exact ⟨rfl, rfl⟩
      obtain ⟨iv, h1, h2⟩ := hit
      rw [ev_lc_map (ws := [x, y]) (iv := iv) hz (by simp_arith [ex.1, ex.2]) h1 h2 (by rw [List.length_map, List.length_zip]; exact Nat.le_trans (Nat.min_le_left _ _) hl) (fun w => match w with
        | .tup [a, b] => .bl (sameW a b)
        | w => w) (fun z hz' => ?_)]
      · rw [List.map_map]
        rfl
      · obtain ⟨⟨p, q⟩, hm, rfl⟩ := List.mem_map.mp hz'
        have hp := (List.of_mem_zip hm).1
        have hq := (List.of_mem_zip hm).2
        have f1 := hx p hp
        have d2 := dats_mem hy q hq
        have := same_ok e hz k' n p q f1 d2
        rw [show n + k' + 1 = n + (k' + 1) from rfl] at this
        simp_arith [ex_dat (fit_dat _ _ f1), ex_dat d2, this]
    have nin : ∀ (l : List (W × W)), cmpO .inn (.bl false) (.lst (l.map fun p => .bl (sameW p.1 p.2))) h = some (!(l.all fun p => sameW p.1 p.2)) := by
      intro l
      rw [in_lst rfl (by rw [List.all_map]; exact List.all_eq_true.mpr fun _ _ => rfl), List.any_map]
      congr 1
      induction l with
      | nil => rfl
      | cons p l ih =>
        rw [List.any_cons, List.all_cons, ih]
        show ((sameW p.1 p.2 == false) || _) = _
        cases sameW p.1 p.2 <;> rfl
    unfold bSame
    cases a with
    | tup xs =>
      cases k with
      | zero => cases fa
      | succ k' =>
        have fa : (decide (xs.length ≤ big) && xs.all (fitW k')) = true := fa
        rw [Bool.and_eq_true, decide_eq_true_eq] at fa
        cases b with
        | tup ys =>
          have en : sameW (.tup xs) (.tup ys) = (decide (xs.length = ys.length) && (xs.zip ys).all fun p => sameW p.1 p.2) := sameWs_zip xs ys
          simp_arith [pairs k' xs ys _ _ _ rfl fa.1 (List.all_eq_true.mp fa.2) db (.inl ⟨rfl, rfl⟩) rfl, nin, hc, en]
          by_cases q : xs.length = ys.length
          · simp_arith [q]
            simp
          · have q' : ¬ ((xs.length : Int) = ys.length) := by omega
            simp_arith [q, q']
            try simp [q]
        | _ => first | (cases db; done) | (simp_arith [sameW, sameWs]; done)
    | lst xs =>
      cases k with
      | zero => cases fa
      | succ k' =>
        have fa : (decide (xs.length ≤ big) && xs.all (fitW k')) = true := fa
        rw [Bool.and_eq_true, decide_eq_true_eq] at fa
        cases b with
        | lst ys =>
          have en : sameW (.lst xs) (.lst ys) = (decide (xs.length = ys.length) && (xs.zip ys).all fun p => sameW p.1 p.2) := sameWs_zip xs ys
          simp_arith [pairs k' xs ys _ _ _ rfl fa.1 (List.all_eq_true.mp fa.2) db (.inr ⟨rfl, rfl⟩) rfl, nin, hc, en]
          by_cases q : xs.length = ys.length
          · simp_arith [q]
            simp
          · have q' : ¬ ((xs.length : Int) = ys.length) := by omega
            simp_arith [q, q']
            try simp [q]
        | _ => first | (cases db; done) | (simp_arith [sameW, sameWs]; done)
    | non => cases b <;> first | (cases db; done) | (simp_arith [sameW]; done)
    | bl p => cases b <;> first | (cases db; done) | (simp_arith [sameW]; done)
    | int i => cases b <;> first | (cases db; done) | (simp_arith [sameW]; done)
    | str x => cases b <;> first | (cases db; done) | (simp_arith [sameW]; done)
    | _ => first | (cases (fit_dat _ _ fa); done)
end
end LP
/-! LP, plain: texts of trees, the program's own. -/
namespace LP
def digitsT : Tx := [48, 49, 50, 51, 52, 53, 54, 55, 56, 57]
/-- a word of figures without noughts ahead -/
def figT (x : Tx) : Bool := !decide (x = []) && (x.all (fun c => decide (c ∈ digitsT)) && !(decide (x[0]? = some 48) && decide (1 < x.length)))
def bNumbers (gD : Nat) : Df := ⟨1, 3, false, [(.fo (.nm 1) .seq [(.var 0)] [(.iff (.or (.cmp .eq (.var 1) (.str [])) (.or (.not (.blt .all [(.lc false (.cmp .inn (.var 2) (.gl gD)) (.nm 2) .seq [(.var 1)] [] [2])])) (.and (.cmp .eq (.ix (.var 1) (.int 0)) (.str [48])) (.cmp .gt (.blt .len [(.var 1)]) (.int 1))))) [(.ret .non)] [])]), (.ret (.lc false (.blt .int [(.var 1)]) (.nm 1) .seq [(.var 0)] [] [1]))]⟩
example : K88.dfs[9]? = some (bNumbers 5) := rfl
theorem digit_of {c : Nat} (h : c ∈ digitsT) : (decide (48 ≤ c) && decide (c ≤ 57)) = true := by
  rw [Bool.and_eq_true, decide_eq_true_eq, decide_eq_true_eq]
  have h : c ∈ [48, 49, 50, 51, 52, 53, 54, 55, 56, 57] := h
  simp only [List.mem_cons, List.not_mem_nil, or_false] at h
  omega
section
variable {P : Pg} {f n : Nat} {h : Hh} {hot : Bool}
/-- all signs of a word are among some -/
theorem lc_signs {cf : Nat → List W → Hh → Rs W} {x y : Tx} {i g : Nat} {ρ : Env} {own : List Nat} {gl : E} (hx : x.length ≤ big) (hr : ρ[i]? = some (some (.str x))) (hg : ∀ ρ', ev P false cf false gl ρ' h = .ok (.str y) h) (ho : ∀ c : Nat, ((wipeE ρ own).set g (some (.str [c])))[g]? = some (some (.str [c]))) : ev P false cf false (.lc false (.cmp .inn (.var g) gl) (.nm g) .seq [(.var i)] [] own) ρ h = .ok (.lst (x.map fun c => .bl (decide (c ∈ y)))) h := by
  rw [ev_lc_map (xs := x.map fun c => .str [c]) (iv := .q (.str x)) (ws := [.str x]) (f := fun w => .bl (match w with
    | .str [c] => decide (c ∈ y)
    | _ => false)) rfl (by simp_arith [hr]) rfl itm_str (by rw [List.length_map]; exact hx) (fun z hz => ?_)]
  · rw [lcEnd_f, List.map_map]
    rfl
  · obtain ⟨c, _, rfl⟩ := List.mem_map.mp hz
    simp_arith [ho c, hg]
theorem atW_head {x : Tx} (hx : x ≠ []) : ∃ c, atW x 0 = some c ∧ x[0]? = some c := by
  cases x with
  | nil => exact absurd rfl hx
  | cons c l => exact ⟨c, at_0, rfl⟩
theorem numbers_ok {gD : Nat} (e : P.defs[f]? = some (bNumbers gD)) (eD : P.gl[gD]? = some (.str digitsT)) {ws : List Tx} (hb : ws.length ≤ big) (hx : ∀ x ∈ ws, x.length ≤ big) (h640 : ∀ x ∈ ws, figT x = true → x.length ≤ 640) :
    cal P (n + 1) false f [.lst (ws.map .str)] h = .ok (if ws.all figT = true then .lst (ws.map fun x => .int (digVal x : Nat)) else .non) h := by
  refine wp_val (wp_callf e rfl rfl (fun w h' => w = (if ws.all figT = true then .lst (ws.map fun x => .int (digVal x : Nat)) else .non) ∧ h' = h) ?_ fun v h' hv => hv)
  show (exs P (cal P n) false (bNumbers gD).body [some (.lst (ws.map .str)), none, none] h).wp _
  unfold bNumbers
  refine exs_c_wp (ex_fo_wp ?_)
  simp_arith []
  refine ⟨_, ws.map .str, fun i ρ h' => h' = h ∧ (∃ a b, ρ = [some (.lst (ws.map .str)), a, b]) ∧ ws.all figT = (ws.drop i).all figT, rfl, itm_lst.1, ⟨rfl, ⟨_, _, rfl⟩, rfl⟩, fun i ρ h' _ => itm_lst.2 i, fun i x ρ h' hx' J => ?_, fun ρ h' J => ?_⟩
  · refine ofPP ?_; obtain ⟨rfl, ⟨a, b, rfl⟩, hd⟩ := J; refine toPP ?_
    have hi : i < ws.length := by have := (List.getElem?_eq_some_iff.mp hx').1; simpa using this
    obtain rfl : W.str ws[i] = x := by
      rw [List.getElem?_map, List.getElem?_eq_getElem hi] at hx'
      exact Option.some.inj hx'
    have hm : ws[i] ∈ ws := List.getElem_mem hi
    rw [List.drop_eq_getElem_cons hi, List.all_cons] at hd
    generalize hz : ws[i] = z at *
    unfold foTu
    by_cases q1 : z = []
    · simp_arith [q1]
      rw [hd, show figT z = false by rw [q1]; rfl]
      rfl
    · simp_arith [q1, lc_signs (y := digitsT) (P := P) (cf := cal P n false) (h := h') (ρ := [some (.lst (ws.map .str)), some (.str z), b]) (x := z) (i := 1) (g := 2) (own := [2]) (gl := .gl gD) (hx z hm) rfl (fun ρ' => by simp_arith [eD]) (fun c => rfl), bi_all]
      by_cases q2 : z.all (fun c => decide (c ∈ digitsT)) = true
      · obtain ⟨c, e1, e2⟩ := atW_head q1
        simp_arith [q2, e1]
        by_cases q3 : c = 48
        · refine ofPP ?_; subst q3; refine toPP ?_
          by_cases q4 : (1 : Int) < z.length
          · simp_arith [q4]
            have : figT z = false := by
              unfold figT
              rw [e2, decide_eq_true (show some 48 = some 48 from rfl), decide_eq_true (show 1 < z.length by omega)]
              simp
            rw [hd, this]
            rfl
          · simp_arith [q4]
            have : figT z = true := by
              unfold figT
              rw [q2, decide_eq_false q1, decide_eq_false (show ¬ 1 < z.length by omega)]
              simp
            rw [this] at hd
            exact ⟨⟨_, _, rfl⟩, hd⟩
        · have q3' : ¬ ([c] = [48]) := fun z => q3 (List.cons.inj z).1
          simp_arith [q3']
          have : figT z = true := by
            unfold figT
            rw [q2, decide_eq_false q1, e2, decide_eq_false (show ¬ (some c = some 48) from fun z => q3 (Option.some.inj z))]
            simp
          rw [this] at hd
          exact ⟨⟨_, _, rfl⟩, hd⟩
      · simp_arith [q2]
        have : figT z = false := by
          unfold figT
          rw [Bool.eq_false_iff.mpr q2]
          simp
        rw [hd, this]
        rfl
  · refine ofPP ?_; obtain ⟨rfl, ⟨a, b, rfl⟩, hd⟩ := J; refine toPP ?_
    rw [List.length_map, List.drop_length] at hd
    have hd : ws.all figT = true := hd
    rw [hd]
    rw [ev_lc_map (xs := ws.map .str) (iv := .q (.lst (ws.map .str))) (ws := [.lst (ws.map .str)]) (f := fun w => match w with
      | .str x => .int (digVal x : Nat)
      | w => w) rfl (by simp_arith []) rfl itm_lst (by rw [List.length_map]; exact hb) (fun z hz => ?_)]
    · rw [List.map_map, lcEnd_f, wp_ok]
      first | (simp_arith []; done) | (simp_arith []; rfl)
    · obtain ⟨x, hm, rfl⟩ := List.mem_map.mp hz
      have hf := List.all_eq_true.mp hd x hm
      have hf' := hf
      unfold figT at hf'
      rw [Bool.and_eq_true, Bool.and_eq_true] at hf'
      have c1 : x ≠ [] := by
        intro z
        rw [z] at hf'
        exact absurd hf'.1 (by decide)
      have c2 : (x.all fun c => decide (48 ≤ c) && decide (c ≤ 57)) = true := List.all_eq_true.mpr fun c hc => digit_of (of_decide_eq_true (List.all_eq_true.mp hf'.2.1 c hc))
      simp_arith [ne_eq, c1, c2, h640 x hm hf, not_false_eq_true]
end
end LP
/-! LP, plain: rows, nodes of texts. -/
namespace LP
theorem spT_ne (c : Nat) : ∀ x : Tx, splT c x ≠ []
  | [] => by simp [splT]
  | d :: r => by
    unfold splT
    split
    · simp
    · split <;> simp
theorem spT_len (c : Nat) : ∀ x : Tx, (splT c x).length ≤ x.length + 1
  | [] => by simp [splT]
  | d :: r => by
    have := spT_len c r
    unfold splT
    split
    · simp; exact this
    · split
      · rename_i p ps e
        rw [e] at this
        simp at this ⊢
        omega
      · simp
theorem splT_part (c : Nat) : ∀ (x : Tx), ∀ p ∈ splT c x, p.length ≤ x.length
  | [], p, h => by
    have : p = [] := by simpa [splT] using h
    simp [this]
  | d :: r, p, h => by
    have ih := splT_part c r
    unfold splT at h
    split at h
    · rcases List.mem_cons.mp h with rfl | h
      · simp
      · have := ih p h
        simp
        omega
    · split at h
      · rename_i q qs e
        rcases List.mem_cons.mp h with rfl | h
        · have := ih q (by rw [e]; simp)
          simp
          exact this
        · have := ih p (by rw [e]; simp [h])
          simp
          omega
      · have : p = [d] := by simpa using h
        simp [this]
theorem atW_neg {α : Type} {xs : List α} {k : Nat} (h0 : 0 < k) (h1 : k ≤ xs.length) : atW xs (-(k : Int)) = xs[xs.length - k]? := by
  unfold atW nthI
  rw [if_neg (by omega), if_pos (by omega)]
  show xs[(-(k : Int) + xs.length).toNat]? = _
  congr 1
  omega
/-- the last one -/
def lastT (l : List Tx) : Tx := l[l.length - 1]?.getD []
theorem at_last {l : List Tx} (h : l ≠ []) : atW (l.map W.str) (-1) = some (.str (lastT l)) := by
  have h0 : 0 < l.length := List.length_pos_iff.mpr h
  have := atW_neg (xs := l.map W.str) (k := 1) (by decide) (by rw [List.length_map]; omega)
  rw [show (-((1 : Nat) : Int)) = -1 from rfl] at this
  rw [this, List.length_map, List.getElem?_map]
  unfold lastT
  rw [List.getElem?_eq_getElem (by omega)]
  rfl
theorem cut_t_neg {l : List Tx} {k : Nat} (h : 0 < k) : cutW (l.map W.str) none (some (-(k : Int))) = (l.take (l.length - k)).map W.str := by
  rw [cut_to_neg h, List.length_map, List.map_take]
theorem cut_m1 {l : List Tx} : cutW (l.map W.str) none (some (-1)) = (l.take (l.length - 1)).map W.str := cut_t_neg (k := 1) (by decide)
theorem cut_m2 {l : List Tx} : cutW (l.map W.str) none (some (-2)) = (l.take (l.length - 2)).map W.str := cut_t_neg (k := 2) (by decide)
def bRows : Df := ⟨1, 2, false, [(.set 1 (.mth (.split false) (.var 0) [(.str [10])])), (.ret (.tup [(.slt false (.var 1) (.neg (.int 1))), (.ix (.var 1) (.neg (.int 1)))]))]⟩
example : K88.dfs[10]? = some bRows := rfl
/-- short enough -/
def Sm (x : Tx) : Prop := x.length ≤ 100000
theorem Sm.bg {x : Tx} (h : Sm x) : x.length ≤ big := lt_big h (by decide)
theorem Sm.spl {x : Tx} (h : Sm x) (c : Nat) : (splT c x).length ≤ big := lt_big (m := 100001) (Nat.le_trans (spT_len c x) (Nat.succ_le_succ h)) (by decide)
theorem Sm.part {x p : Tx} {c : Nat} (h : Sm x) (hp : p ∈ splT c x) : Sm p := Nat.le_trans (splT_part c x p hp) h
section
variable {P : Pg} {f n : Nat} {h : Hh} {hot : Bool}
theorem neg1 : -(1 : Int) = -1 := rfl
theorem split_ok {x : Tx} {c : Nat} (hc : c < 256) (hx : Sm x) : meO (.split false) (.str x) [.str [c]] h = .ok (.lst ((splT c x).map .str)) h := by
  rw [meL_split, if_pos ⟨hc, hx.bg⟩, mkL_ok (by rw [List.length_map]; exact hx.spl c)]
theorem rows_ok (e : P.defs[f]? = some bRows) {x : Tx} (hx : Sm x) : cal P (n + 1) false f [.str x] h = .ok (.tup [.lst (((splT 10 x).take ((splT 10 x).length - 1)).map .str), .str (lastT (splT 10 x))]) h := by
  rw [cal_def' e _ _ rfl]
  unfold bRows
  have hb := hx.spl 10
  have h1 : (((splT 10 x).take ((splT 10 x).length - 1)).map W.str).length ≤ big := by
    rw [List.length_map, List.length_take]
    exact Nat.le_trans (Nat.min_le_right _ _) hb
  simp_arith [split_ok (show 10 < 256 by decide) hx, neg1, cut_m1, at_last (spT_ne 10 x), mkL_ok h1]
end
/-! ### nodes -/
structure Nd where
  nm : Tx
  par : Option Tx
  bu : Nat
  re : List Nat
  bo : Nat
def encP : Option Tx → W
  | none => .non
  | some x => .str x
def encI (l : List Nat) : List W := l.map fun i => .int (i : Nat)
def encN (d : Nd) : W := .tup [.str d.nm, encP d.par, .int d.bu, .tup (encI d.re), .int d.bo]
def encT (t : List Nd) : W := .tup (t.map encN)
theorem encI_dat (l : List Nat) : dats (encI l) = true := dats_of fun w hw => by
  obtain ⟨i, _, rfl⟩ := List.mem_map.mp hw
  rfl
theorem encN_dat (d : Nd) : dat (encN d) = true := by
  show dats [W.str d.nm, encP d.par, .int d.bu, .tup (encI d.re), .int d.bo] = true
  refine dats_of fun w hw => ?_
  simp only [List.mem_cons, List.not_mem_nil, or_false] at hw
  rcases hw with rfl | rfl | rfl | rfl | rfl
  · rfl
  · cases d.par <;> rfl
  · rfl
  · exact encI_dat _
  · rfl
theorem encT_dat (t : List Nd) : dat (encT t) = true := dats_of fun w hw => by
  obtain ⟨d, _, rfl⟩ := List.mem_map.mp hw
  exact encN_dat d
def NODE : Tx := [110, 111, 100, 101]
def INS : Tx := [105, 110]
/-- the node of a row's words: the words of it, its parent -/
def nodeWd (ws : List Tx) (par : Option Tx) : Option Nd :=
  if (ws.drop 2).all figT = true ∧ ws[0]? = some NODE ∧ 4 ≤ ws.length then some ⟨ws[1]?.getD [], par, digVal (ws[2]?.getD []), (ws.drop 4).map digVal, digVal (ws[3]?.getD [])⟩ else none
def nodeRow (row : Tx) (first : Bool) : Option Nd := if first = true then nodeWd (splT 32 row) none else
  (if (splT 32 row).length < 3 ∨ (splT 32 row)[(splT 32 row).length - 2]? ≠ some INS then none else nodeWd ((splT 32 row).take ((splT 32 row).length - 2)) (some (lastT (splT 32 row))))
def encNs : Option Nd → List W
  | none => []
  | some d => [encN d]
def bNodeOf (gI nums gN : Nat) : Df := ⟨2, 5, false, [(.par [3, 4] [(.mth (.split false) (.var 0) [(.str [32])]), .non]), (.iff (.not (.var 1)) [(.iff (.or (.cmp .lt (.blt .len [(.var 3)]) (.int 3)) (.cmp .ne (.ix (.var 3) (.neg (.int 2))) (.gl gI))) [(.ret (.lst false []))] []), (.par [3, 4] [(.slt false (.var 3) (.neg (.int 2))), (.ix (.var 3) (.neg (.int 1)))])] []), (.set 2 (.call nums [(.slf false (.var 3) (.int 2))])), (.iff (.or (.cmp .ne (.ix (.var 3) (.int 0)) (.gl gN)) (.or (.cmp .lt (.blt .len [(.var 3)]) (.int 4)) (.cmp .is (.var 2) .non))) [(.ret (.lst false []))] []), (.ret (.lst false [(.tup [(.ix (.var 3) (.int 1)), (.var 4), (.ix (.var 2) (.int 0)), (.blt .tup [(.slf false (.var 2) (.int 2))]), (.ix (.var 2) (.int 1))])]))]⟩
example : K88.dfs[13]? = some (bNodeOf 7 9 6) := rfl
section
variable {P : Pg} {f n g gD gI gN : Nat} {h : Hh}
/-- behind the words and the parent -/
theorem nodeOf_end (eN : P.defs[g]? = some (bNumbers gD)) (eD : P.gl[gD]? = some (.str digitsT)) (eG : P.gl[gN]? = some (.str NODE)) {ws : List Tx} {par : Option Tx} (hne : ws ≠ []) (hl : ws.length ≤ big) (hx : ∀ x ∈ ws, x.length ≤ big) (h640 : ∀ x ∈ ws, figT x = true → x.length ≤ 640) {a b c : Option W} {Q : W → Hh → Prop} (k : Q (.lst (encNs (nodeWd ws par))) h) :
    (exs P (cal P (n + 1)) false [(.set 2 (.call g [(.slf false (.var 3) (.int 2))])), (.iff (.or (.cmp .ne (.ix (.var 3) (.int 0)) (.gl gN)) (.or (.cmp .lt (.blt .len [(.var 3)]) (.int 4)) (.cmp .is (.var 2) .non))) [(.ret (.lst false []))] []), (.ret (.lst false [(.tup [(.ix (.var 3) (.int 1)), (.var 4), (.ix (.var 2) (.int 0)), (.blt .tup [(.slf false (.var 2) (.int 2))]), (.ix (.var 2) (.int 1))])]))] [a, b, c, some (.lst (ws.map .str)), some (encP par)] h).wp (Ps.ret Q) := by
  have e2 : cutW (ws.map W.str) (some 2) none = (ws.drop 2).map W.str := by rw [cut_f2, List.map_drop]
  have b2 : ((ws.drop 2).map W.str).length ≤ big := by rw [List.length_map, List.length_drop]; omega
  have hd : ∀ x ∈ ws.drop 2, x ∈ ws := fun x hx => List.mem_of_mem_drop hx
  have nums := numbers_ok (n := n) (h := h) eN eD (ws := ws.drop 2) (by rw [List.length_drop]; omega) (fun x m => hx x (hd x m)) (fun x m => h640 x (hd x m))
  cases ws with
  | nil => exact absurd rfl hne
  | cons w0 wr =>
    have xp : isExn (encP par) = false := by cases par <;> rfl
    by_cases q1 : w0 = NODE
    · refine ofPP ?_; subst q1; refine toPP ?_
      match wr, hl, hx, h640, e2, b2, hd, nums, k with
      | w1 :: w2 :: w3 :: wr, hl, hx, h640, e2, b2, hd, nums, k =>
        have q2' : ¬ ((wr.length : Int) + 1 + 1 + 1 + 1 < 4) := by omega
        have b3 : wr.length + 1 + 1 ≤ big := by simpa using b2
        have b4 : wr.length ≤ big := by omega
        have mk1 := mkL_ok (h := h) (xs := W.str w2 :: W.str w3 :: wr.map W.str) (by simpa using b3)
        have mk2 := mkL_ok (h := h) (xs := wr.map fun x => W.int (digVal x : Nat)) (by simpa using b4)
        have q2'' : ¬ (((wr.length + 1 + 1 + 1 + 1 : Nat) : Int) < 4) := by omega
        simp_arith [List.drop_succ_cons, List.drop_zero] at nums
        by_cases q3 : (w2 :: w3 :: wr).all figT = true
        · have k' : nodeWd (NODE :: w1 :: w2 :: w3 :: wr) par = some ⟨w1, par, digVal w2, wr.map digVal, digVal w3⟩ := by
            unfold nodeWd
            rw [if_pos ⟨q3, rfl, by simp⟩]
            rfl
          rw [k'] at k
          simp_arith [q3] at nums
          have en : encN ⟨w1, par, digVal w2, wr.map digVal, digVal w3⟩ = .tup [.str w1, encP par, .int (digVal w2 : Nat), .tup (wr.map fun x => .int (digVal x : Nat)), .int (digVal w3 : Nat)] := by
            unfold encN encI
            rw [List.map_map]
            rfl
          have k : Q (.lst [encN ⟨w1, par, digVal w2, wr.map digVal, digVal w3⟩]) h := k
          rw [en] at k
          simp_arith [nums, eG, mk1, mk2, q2'', xp, List.length_map, ne_eq, not_true]
          exact k
        · have k' : nodeWd (NODE :: w1 :: w2 :: w3 :: wr) par = none := by
            unfold nodeWd
            rw [if_neg (fun z => q3 z.1)]
          rw [k'] at k
          simp_arith [q3] at nums
          simp_arith [nums, eG, mk1, mk2, q2'', xp, List.length_map, ne_eq, not_true]
          exact k
      | [w1], hl, hx, h640, e2, b2, hd, nums, k =>
        have nums : cal P (n + 1) false g [.lst []] h = .ok (.lst []) h := nums
        simp_arith [nums, eG, xp, ne_eq, not_true]
        exact k
      | [w1, w2], hl, hx, h640, e2, b2, hd, nums, k =>
        have nums : cal P (n + 1) false g [.lst [.str w2]] h = .ok (if figT w2 = true then .lst [.int (digVal w2 : Nat)] else .non) h := by
          have e0 : (List.drop 2 [NODE, w1, w2]).all figT = figT w2 := by simp
          rw [e0] at nums
          exact nums
        have k' : nodeWd [NODE, w1, w2] par = none := by
          unfold nodeWd
          rw [if_neg (fun z => absurd z.2.2 (by simp))]
        rw [k'] at k
        by_cases q3 : figT w2 = true
        · simp_arith [q3] at nums
          simp_arith [nums, eG, xp, ne_eq, not_true]
          exact k
        · simp_arith [q3] at nums
          simp_arith [nums, eG, xp, ne_eq, not_true]
          exact k
      | [], hl, hx, h640, e2, b2, hd, nums, k =>
        have nums : cal P (n + 1) false g [.lst []] h = .ok (.lst []) h := nums
        simp_arith [nums, eG, xp, ne_eq, not_true]
        exact k
    · have k' : nodeWd (w0 :: wr) par = none := by
        unfold nodeWd
        rw [if_neg (fun z => q1 (Option.some.inj z.2.1))]
      rw [k'] at k
      have ev2 : ∀ ρ, ρ[3]? = some (some (.lst ((w0 :: wr).map W.str))) → ev P false (cal P (n + 1) false) false (.slf false (.var 3) (.int 2)) ρ h = .ok (.lst (((w0 :: wr).drop 2).map W.str)) h := fun ρ hr => by
        simp only [ev_slf, ev_var, ev_int, hr, fin_f, bnd_ok', sv_joinS, outV_s, isExn_lst, sv_ft, sv_false, onI_i, sl_lst, e2, mkL_ok b2]
      refine exs_c_wp ?_
      rw [ex_set, ev_call, evs_c, ev2 _ rfl]
      simp only [evs_n, bnd_ok', fin_f, nums]
      by_cases q3 : (List.drop 2 (w0 :: wr)).all figT = true
      · simp_arith [q3, eG, ne_eq, q1, not_false_eq_true]
        exact k
      · simp_arith [q3, eG, ne_eq, q1, not_false_eq_true]
        exact k
theorem lastT_mem {l : List Tx} (h : l ≠ []) : lastT l ∈ l := by
  have h0 : 0 < l.length := List.length_pos_iff.mpr h
  unfold lastT
  rw [List.getElem?_eq_getElem (by omega)]
  exact List.getElem_mem _
theorem nodeOf_ok (e : P.defs[f]? = some (bNodeOf gI g gN)) (eN : P.defs[g]? = some (bNumbers gD)) (eD : P.gl[gD]? = some (.str digitsT)) (eG : P.gl[gN]? = some (.str NODE)) (eI : P.gl[gI]? = some (.str INS)) {row : Tx} {first : Bool} (hs : Sm row) (h640 : ∀ x ∈ splT 32 row, figT x = true → x.length ≤ 640) : cal P (n + 2) false f [.str row, .bl first] h = .ok (.lst (encNs (nodeRow row first))) h := by
  refine wp_val (wp_callf e rfl rfl (fun w h' => w = .lst (encNs (nodeRow row first)) ∧ h' = h) ?_ fun v h' hv => hv)
  show (exs P (cal P (n + 1)) false (bNodeOf gI g gN).body [some (.str row), some (.bl first), none, none, none] h).wp _
  unfold bNodeOf
  have hl := hs.spl 32
  have hp : ∀ x ∈ splT 32 row, x.length ≤ big := fun x hx => (hs.part hx).bg
  have sp := split_ok (h := h) (show 32 < 256 by decide) hs
  have hne := spT_ne 32 row
  refine exs_c_eq (h' := h) (ρ' := [some (.str row), some (.bl first), none, some (.lst ((splT 32 row).map .str)), some .non]) (by simp_arith [sp]) ?_
  refine ofPP ?_
  cases first with
  | true =>
    refine toPP ?_
    refine exs_c_eq (h' := h) (ρ' := [some (.str row), some (.bl true), none, some (.lst ((splT 32 row).map .str)), some .non]) (by simp_arith []) ?_
    exact nodeOf_end (par := none) eN eD eG hne hl hp h640 ⟨by unfold nodeRow; rfl, rfl⟩
  | false =>
    refine toPP ?_
    by_cases q1 : (splT 32 row).length < 3
    · have q1' : ((splT 32 row).length : Int) < 3 := by omega
      simp_arith [q1', List.length_map]
      unfold nodeRow
      rw [if_neg (by decide), if_pos (.inl q1)]
      rfl
    · have q1' : ¬ ((splT 32 row).length : Int) < 3 := by omega
      have e2 : atW ((splT 32 row).map W.str) (-2) = ((splT 32 row)[(splT 32 row).length - 2]?).map .str := by
        have := atW_neg (xs := (splT 32 row).map W.str) (k := 2) (by decide) (by rw [List.length_map]; omega)
        rw [show (-((2 : Nat) : Int)) = -2 from rfl] at this
        rw [this, List.length_map, List.getElem?_map]
      have hi : (splT 32 row).length - 2 < (splT 32 row).length := by omega
      rw [List.getElem?_eq_getElem hi] at e2
      have n2 : -(2 : Int) = -2 := rfl
      by_cases q2 : (splT 32 row)[(splT 32 row).length - 2] = INS
      · have t2 : (((splT 32 row).take ((splT 32 row).length - 2)).map W.str).length ≤ big := by
          rw [List.length_map, List.length_take]
          exact Nat.le_trans (Nat.min_le_right _ _) hl
        refine exs_c_eq (h' := h) (ρ' := [some (.str row), some (.bl false), none, some (.lst (((splT 32 row).take ((splT 32 row).length - 2)).map .str)), some (.str (lastT (splT 32 row)))]) (by simp_arith [q1', List.length_map, n2, e2, eI, q2, ne_eq, not_true, neg1, at_last hne, cut_m2, mkL_ok t2]) ?_
        have sub : ∀ x ∈ (splT 32 row).take ((splT 32 row).length - 2), x ∈ splT 32 row := fun x hx => List.mem_of_mem_take hx
        refine nodeOf_end (par := some (lastT (splT 32 row))) eN eD eG ?_ (by rw [List.length_map] at t2; exact t2) (fun x hx => hp x (sub x hx)) (fun x hx => h640 x (sub x hx)) ⟨?_, rfl⟩
        · intro z
          have := congrArg List.length z
          rw [List.length_take] at this
          simp at this
          omega
        · unfold nodeRow
          rw [if_neg (by decide), if_neg]
          intro z
          rcases z with z | z
          · exact q1 z
          · rw [List.getElem?_eq_getElem hi, q2] at z
            exact z rfl
      · simp_arith [q1', List.length_map, n2, e2, eI, q2, ne_eq, not_false_eq_true]
        unfold nodeRow
        rw [if_neg (by decide), if_pos]
        · rfl
        · refine .inr ?_
          rw [List.getElem?_eq_getElem hi]
          exact fun z => q2 (Option.some.inj z)
end
end LP
/-! LP, plain: texts of trees are made and read. -/
namespace LP
def bCheck (tree c : Nat) : Df := ⟨1, 1, false, [(.iff (.not (.call tree [(.var 0)])) [(.rai c (.var 0))] [])]⟩
def bIsTree (tree : Nat) : Df := ⟨1, 1, false, [(.ret (.call tree [(.var 0)]))]⟩
def bNodeText (gN gI : Nat) : Df := ⟨1, 8, false, [(.asg (.tp [(.nm 2), (.nm 3), (.nm 4), (.nm 5), (.nm 6)]) (.var 0)), (.set 1 (.bin false .add (.lst false [(.gl gN), (.var 2), (.blt .str [(.var 4)]), (.blt .str [(.var 6)])]) (.lc false (.blt .str [(.var 7)]) (.nm 7) .seq [(.var 5)] [] [7]))), (.ret (.bin false .add (.mth .join (.str [32]) [(.bin false .add (.var 1) (.ite (.cmp .isn (.var 3) .non) (.lst false [(.gl gI), (.var 3)]) (.lst false [])))]) (.str [10])))]⟩
def bTreeText (chk nt : Nat) : Df := ⟨1, 2, false, [(.exp (.call chk [(.var 0)])), (.ret (.mth .join (.str []) [(.lc false (.call nt [(.var 1)]) (.nm 1) .seq [(.var 0)] [] [1])]))]⟩
def bReadTree (rows no tree c : Nat) : Df := ⟨1, 6, false, [(.iff (.not (.isi (.var 0) [.str])) [(.rai c .non)] []), (.asg (.tp [(.nm 2), (.nm 3)]) (.call rows [(.var 0)])), (.set 1 (.tup [])), (.fo (.tp [(.nm 4), (.nm 5)]) .en [(.var 2)] [(.set 1 (.bin false .add (.var 1) (.blt .tup [(.call no [(.var 5), (.cmp .eq (.var 4) (.int 0))])]))), (.iff (.or (.cmp .eq (.blt .len [(.var 1)]) (.var 4)) (.not (.call tree [(.var 1)]))) [(.rai c (.var 4))] [])]), (.iff (.or (.cmp .ne (.var 3) (.str [])) (.cmp .eq (.var 1) (.tup []))) [(.rai c (.blt .len [(.var 2)]))] []), (.ret (.var 1))]⟩
example : K88.dfs[8]? = some (bCheck 7 1) ∧ K88.dfs[15]? = some (bIsTree 7) ∧ K88.dfs[11]? = some (bNodeText 6 7) ∧ K88.dfs[12]? = some (bTreeText 8 11) ∧ K88.dfs[14]? = some (bReadTree 10 13 7 3) := ⟨rfl, rfl, rfl, rfl, rfl⟩
/-- the row of a node -/
def wordsN (d : Nd) : List Tx := [NODE, d.nm, digits d.bu, digits d.bo] ++ d.re.map digits ++ (match d.par with
  | none => []
  | some p => [INS, p])
def nodeT (d : Nd) : Tx := joinT [32] (wordsN d) ++ [10]
def treeT (t : List Nd) : Tx := joinT [] (t.map nodeT)
structure NdOk (d : Nd) : Prop where
  nm : nameT d.nm = true
  par : ∀ p, d.par = some p → nameT p = true
  bu : d.bu ≤ 99
  bo : d.bo ≤ 99
  re : ∀ r ∈ d.re, r ≤ 99
  len : 1 ≤ d.re.length ∧ d.re.length ≤ 4
section
variable {P : Pg} (T : TreeFn P) {n f c : Nat} {h : Hh} {w : W}
theorem check_ok (e : P.defs[f]? = some (bCheck T.tree c)) (hf : Hf h) (d : dat w = true) (t : treeW w = true) : cal P (n + 7) false f [w] h = .ok .non h := by
  rw [cal_def' e _ _ rfl]
  unfold bCheck
  simp_arith [ex_dat d, tree_ok T hf d, t]
theorem check_bad (e : P.defs[f]? = some (bCheck T.tree c)) (hf : Hf h) (d : dat w = true) (t : treeW w = false) : cal P (n + 7) false f [w] h = .exc c w h := by
  rw [cal_def' e _ _ rfl]
  unfold bCheck
  simp_arith [ex_dat d, tree_ok T hf d, t, exitX_hf d hf]
theorem isTree_ok (e : P.defs[f]? = some (bIsTree T.tree)) (hf : Hf h) (d : dat w = true) : cal P (n + 7) false f [w] h = .ok (.bl (treeW w)) h := by
  rw [cal_def' e _ _ rfl]
  unfold bIsTree
  simp_arith [ex_dat d, tree_ok T hf d]
end
theorem numTx_nat (k : Nat) : numTx (k : Int) = digits k := by
  unfold numTx
  rw [if_neg (by omega)]
  rfl
theorem smallN {k : Nat} (h : k ≤ 1000000) : small (k : Int) = true := by
  unfold small
  rw [Bool.and_eq_true, decide_eq_true_eq, decide_eq_true_eq]
  omega
theorem sum_le {m : Nat} : ∀ {l : List Tx}, (∀ x ∈ l, x.length ≤ m) → (l.map List.length).sum ≤ l.length * m
  | [], _ => by simp
  | x :: l, h => by
    have h1 := h x List.mem_cons_self
    have h2 := sum_le fun y hy => h y (List.mem_cons_of_mem _ hy)
    rw [List.map_cons, List.sum_cons, List.length_cons, Nat.succ_mul]
    omega
theorem digits2 {k : Nat} (h : k ≤ 99) : (digits k).length ≤ 2 := by
  have : ∀ k : Fin 100, (digits k.val).length ≤ 2 := by decide +kernel
  exact this ⟨k, by omega⟩
theorem nameT_len {x : Tx} (h : nameT x = true) : 1 ≤ x.length ∧ x.length ≤ 8 := by
  unfold nameT at h
  rw [Bool.and_eq_true, Bool.and_eq_true, decide_eq_true_eq, decide_eq_true_eq] at h
  exact h.1
theorem wordsN_len {d : Nd} (o : NdOk d) : (wordsN d).length ≤ 10 ∧ ∀ x ∈ wordsN d, x.length ≤ 8 := by
  unfold wordsN
  constructor
  · have := o.len
    cases d.par <;> simp <;> omega
  · intro x hx
    rw [List.mem_append, List.mem_append] at hx
    rcases hx with (hx | hx) | hx
    · simp only [List.mem_cons, List.not_mem_nil, or_false] at hx
      rcases hx with rfl | rfl | rfl | rfl
      · decide
      · exact (nameT_len o.nm).2
      · have := digits2 o.bu; omega
      · have := digits2 o.bo; omega
    · obtain ⟨r, hr, rfl⟩ := List.mem_map.mp hx
      have := digits2 (o.re r hr)
      omega
    · cases q : d.par with
      | none => rw [q] at hx; cases hx
      | some p =>
        rw [q] at hx
        simp only [List.mem_cons, List.not_mem_nil, or_false] at hx
        rcases hx with rfl | rfl
        · decide
        · exact (nameT_len (o.par _ q)).2
theorem joT_len (s : Tx) : ∀ l : List Tx, (joinT s l).length ≤ (l.map List.length).sum + l.length * s.length
  | [] => by simp [joinT]
  | [p] => by simp [joinT]
  | p :: q :: r => by
    have := joT_len s (q :: r)
    simp only [joinT, List.length_append, List.map_cons, List.sum_cons, List.length_cons, Nat.succ_mul] at this ⊢
    omega
theorem nodeT_len {d : Nd} (o : NdOk d) : (nodeT d).length ≤ 100 := by
  obtain ⟨h1, h2⟩ := wordsN_len o
  have h3 := joT_len [32] (wordsN d)
  have h4 := sum_le h2
  have h5 : (wordsN d).length * 8 ≤ 80 := by omega
  unfold nodeT
  simp at h3 ⊢
  omega
section
variable {P : Pg} {n f gN gI : Nat} {h : Hh}
theorem nodeText_ok (e : P.defs[f]? = some (bNodeText gN gI)) (eN : P.gl[gN]? = some (.str NODE)) (eI : P.gl[gI]? = some (.str INS)) {d : Nd} (o : NdOk d) : cal P (n + 1) false f [encN d] h = .ok (.str (nodeT d)) h := by
  rw [cal_def' e _ _ rfl]
  unfold bNodeText
  obtain ⟨h1, h2⟩ := wordsN_len o
  have h4 := sum_le h2
  have hj : ((wordsN d).map List.length).sum + (wordsN d).length * ([32] : Tx).length ≤ big := lt_big (m := 100) (by simp; omega) (by decide)
  have h3 := nodeT_len o
  have hm : (joinT [32] (wordsN d) ++ [10]).length ≤ big := lt_big (m := 100) h3 (by decide)
  have lc : ∀ ρ : Env, ρ[5]? = some (some (.tup (encI d.re))) → wipeE ρ [7] = ρ.set 7 none → ρ.length = 8 → ev P false (cal P n false) false (.lc false (.blt .str [(.var 7)]) (.nm 7) .seq [(.var 5)] [] [7]) ρ h = .ok (.lst ((d.re.map digits).map .str)) h := fun ρ r0 r1 rl => by
    rw [ev_lc_map (xs := encI d.re) (iv := .q (.tup (encI d.re))) (ws := [.tup (encI d.re)]) (f := fun w => match w with
      | .int i => .str (numTx i)
      | w => w) rfl (by simp_arith [r0]) rfl itm_tup (lt_big (m := 4) (by unfold encI; rw [List.length_map]; exact o.len.2) (by decide)) (fun z hz => ?_)]
    · have em : (encI d.re).map (fun w => match w with
        | .int i => .str (numTx i)
        | w => w) = (d.re.map digits).map W.str := by
        unfold encI
        rw [List.map_map, List.map_map]
        refine List.map_congr_left fun r _ => ?_
        show W.str (numTx (r : Int)) = W.str (digits r)
        rw [numTx_nat]
      rw [lcEnd_f, em]
    · obtain ⟨r, hr, rfl⟩ := List.mem_map.mp hz
      have sr := smallN (k := r) (Nat.le_trans (o.re r hr) (by decide))
      rw [r1]
      have gz : ((ρ.set 7 none).set 7 (some (W.int (r : Nat))))[7]? = some (some (.int (r : Nat))) := by rw [List.getElem?_set_self (by rw [List.length_set]; omega)]
      simp_arith [gz, sr]
  have sb := smallN (k := d.bu) (Nat.le_trans o.bu (by decide))
  have sc := smallN (k := d.bo) (Nat.le_trans o.bo (by decide))
  obtain ⟨nm, par, bu, re, bo⟩ := d
  have lr : re.length ≤ 4 := o.len.2
  have m1 := mkL_ok (h := h) (xs := .str NODE :: .str nm :: .str (digits bu) :: .str (digits bo) :: (re.map digits).map W.str) (lt_big (m := 10) (by simp; omega) (by decide))
  have lc' := lc [some (encN ⟨nm, par, bu, re, bo⟩), none, some (.str nm), some (encP par), some (.int bu), some (.tup (encI re)), some (.int bo), none] rfl rfl rfl
  cases par with
  | none =>
    have mj := meL_join (h := h) hj
    rw [show (wordsN ⟨nm, none, bu, re, bo⟩).map W.str = .str NODE :: .str nm :: .str (digits bu) :: .str (digits bo) :: (re.map digits).map W.str by unfold wordsN; simp] at mj
    unfold encN encP at lc' ⊢
    simp_arith [eN, sb, sc, numTx_nat, lc', m1, List.append_nil, mj, mkX_ok hm]
    rfl
  | some p =>
    have mj := meL_join (h := h) hj
    rw [show (wordsN ⟨nm, some p, bu, re, bo⟩).map W.str = .str NODE :: .str nm :: .str (digits bu) :: .str (digits bo) :: ((re.map digits).map W.str ++ [.str INS, .str p]) by unfold wordsN; simp] at mj
    have m2 := mkL_ok (h := h) (xs := .str NODE :: .str nm :: .str (digits bu) :: .str (digits bo) :: ((re.map digits).map W.str ++ [.str INS, .str p])) (lt_big (m := 12) (by simp; omega) (by decide))
    unfold encN encP at lc' ⊢
    simp_arith [eN, eI, sb, sc, numTx_nat, lc', m1, m2, mj, mkX_ok hm]
    rfl
end
theorem treeT_len {t : List Nd} (o : ∀ d ∈ t, NdOk d) (hl : t.length ≤ 6) : ((t.map nodeT).map List.length).sum ≤ 600 := by
  have := sum_le (m := 100) (l := t.map nodeT) fun x hx => by
    obtain ⟨d, hd, rfl⟩ := List.mem_map.mp hx
    exact nodeT_len (o d hd)
  rw [List.length_map] at this
  omega
section
variable {P : Pg} (T : TreeFn P) {n f c k gN gI nt : Nat} {h : Hh} {w : W}
theorem treeText_ok (e : P.defs[f]? = some (bTreeText k nt)) (ek : P.defs[k]? = some (bCheck T.tree c)) (et : P.defs[nt]? = some (bNodeText gN gI)) (eN : P.gl[gN]? = some (.str NODE)) (eI : P.gl[gI]? = some (.str INS)) (hf : Hf h) {t : List Nd} (o : ∀ d ∈ t, NdOk d) (hl : t.length ≤ 6) (ht : treeW (encT t) = true) : cal P (n + 8) false f [encT t] h = .ok (.str (treeT t)) h := by
  rw [cal_def' e _ _ rfl]
  unfold bTreeText
  have lc : ev P false (cal P (n + 7) false) false (.lc false (.call nt [(.var 1)]) (.nm 1) .seq [(.var 0)] [] [1]) [some (encT t), none] h = .ok (.lst ((t.map nodeT).map .str)) h := by
    rw [ev_lc_mapA (ys := t) (enc := encN) (iv := .q (encT t)) (ws := [encT t]) rfl (by simp_arith [ex_dat (encT_dat t)]) rfl itm_tup (lt_big (m := 6) hl (by decide)) (fun d => .str (nodeT d)) (fun d hd => ?_)]
    · rw [lcEnd_f, List.map_map]
      rfl
    · simp_arith [ex_dat (encN_dat d), nodeText_ok et eN eI (o d hd)]
  have mj := meL_join (h := h) (x := []) (l := t.map nodeT) (lt_big (m := 600) (by have := treeT_len o hl; simpa using this) (by decide))
  simp_arith [ex_dat (encT_dat t), check_ok T ek hf (encT_dat t) ht, lc, mj]
  rfl
theorem treeText_bad (e : P.defs[f]? = some (bTreeText k nt)) (ek : P.defs[k]? = some (bCheck T.tree c)) (hf : Hf h) (d : dat w = true) (ht : treeW w = false) : cal P (n + 8) false f [w] h = .exc c w h := by
  rw [cal_def' e _ _ rfl]
  unfold bTreeText
  simp_arith [ex_dat d, check_bad T ek hf d ht, exitX_hf d hf]
end
/-- the rows, one by one -/
def readGo : List Tx → Nat → List Nd → Except Nat (List Nd)
  | [], _, t => .ok t
  | r :: rs, i, t => match nodeRow r (decide (i = 0)) with
    | none => .error i
    | some d => if treeW (encT (t ++ [d])) = true then readGo rs (i + 1) (t ++ [d]) else .error i
theorem readGo_cons {r : Tx} {rs : List Tx} {i : Nat} {t : List Nd} : readGo (r :: rs) i t = match nodeRow r (decide (i = 0)) with
    | none => .error i
    | some d => if treeW (encT (t ++ [d])) = true then readGo rs (i + 1) (t ++ [d]) else .error i := rfl
def rowsT (x : Tx) : List Tx := (splT 10 x).take ((splT 10 x).length - 1)
def readT (x : Tx) : Except Nat (List Nd) := match readGo (rowsT x) 0 [] with
  | .error i => .error i
  | .ok t => if lastT (splT 10 x) ≠ [] ∨ t = [] then .error (rowsT x).length else .ok t
section
variable {P : Pg} (T : TreeFn P) {n f c gN gI gD rw no nu : Nat} {h : Hh} {w : W}
theorem read_ok (e : P.defs[f]? = some (bReadTree rw no T.tree c)) (er : P.defs[rw]? = some bRows) (eo : P.defs[no]? = some (bNodeOf gI nu gN)) (eu : P.defs[nu]? = some (bNumbers gD)) (eD : P.gl[gD]? = some (.str digitsT)) (eN : P.gl[gN]? = some (.str NODE)) (eI : P.gl[gI]? = some (.str INS)) (hf : Hf h)
    {x : Tx} (hs : Sm x) (h640 : ∀ r ∈ splT 10 x, ∀ y ∈ splT 32 r, figT y = true → y.length ≤ 640) : cal P (n + 7) false f [.str x] h = match readT x with
      | .ok t => .ok (encT t) h
      | .error i => .exc c (.int i) h := by
  have main : (cal P (n + 7) false f [.str x] h).wp (fun w h' => (∃ t, readT x = .ok t ∧ w = encT t) ∧ h' = h) (fun d p h' => d = c ∧ (∃ i, readT x = .error i ∧ p = .int (i : Nat)) ∧ h' = h) := by
    refine wp_callxf e rfl rfl (fun w h' => (∃ t, readT x = .ok t ∧ w = encT t) ∧ h' = h) (fun d p h' => d = c ∧ (∃ i, readT x = .error i ∧ p = .int (i : Nat)) ∧ h' = h) ?_ (fun w h' z => z) (fun d p h' ⟨z1, ⟨i, z2, z3⟩, z4⟩ => ?_)
    · show (exs P (cal P (n + 6)) false (bReadTree rw no T.tree c).body [some (.str x), none, none, none, none, none] h).wp _
      unfold bReadTree
      have hlen : (rowsT x).length ≤ 100001 := by
        unfold rowsT
        rw [List.length_take]
        have := spT_len 10 x
        have : x.length ≤ 100000 := hs
        omega
      refine exs_c_eq (h' := h) (ρ' := [some (.str x), none, none, none, none, none]) (by simp_arith []) ?_
      refine exs_c_eq (h' := h) (ρ' := [some (.str x), none, some (.lst ((rowsT x).map .str)), some (.str (lastT (splT 10 x))), none, none]) (by simp_arith [rows_ok er hs]; rfl) ?_
      refine exs_c_eq (h' := h) (ρ' := [some (.str x), some (.tup []), some (.lst ((rowsT x).map .str)), some (.str (lastT (splT 10 x))), none, none]) (by simp_arith []) ?_
      refine exs_c_wp (ex_fo_wp ?_)
      simp_arith []
      refine ⟨_, ((rowsT x).map W.str).mapIdx fun i x => .tup [.int i, x], fun i ρ h' => h' = h ∧ ∃ a b t, ρ = [some (.str x), some (encT t), some (.lst ((rowsT x).map .str)), some (.str (lastT (splT 10 x))), a, b] ∧ t.length = i ∧ readGo (rowsT x) 0 [] = readGo ((rowsT x).drop i) i t, rfl, itm_en.1, ⟨rfl, none, none, [], rfl, rfl, rfl⟩, fun i ρ h' _ => itm_en.2 i, fun i y ρ h' hy J => ?_, fun ρ h' J => ?_⟩
      · refine ofPP ?_; obtain ⟨rfl, a, b, t, rfl, htl, hg⟩ := J; refine toPP ?_
        have hi : i < (rowsT x).length := by have := (List.getElem?_eq_some_iff.mp hy).1; simpa using this
        obtain rfl : W.tup [.int i, .str (rowsT x)[i]] = y := by
          rw [List.getElem?_mapIdx, List.getElem?_map, List.getElem?_eq_getElem hi] at hy
          exact Option.some.inj hy
        rw [List.drop_eq_getElem_cons hi] at hg
        have hm : (rowsT x)[i] ∈ splT 10 x := List.mem_of_mem_take (List.getElem_mem hi)
        generalize hr : (rowsT x)[i] = r at *
        have d0 : decide ((i : Int) = 0) = decide (i = 0) := decide_eq_decide.mpr (by omega)
        have no_ok := nodeOf_ok (n := n + 4) (h := h') eo eu eD eN eI (first := decide (i = 0)) (hs.part hm) (h640 r hm)
        rw [show n + 4 + 2 = n + 6 from rfl] at no_ok
        have ht6 : t.length ≤ 100001 := by omega
        unfold foTu
        have xt := ex_dat (encT_dat t)
        rw [readGo_cons] at hg
        cases q : nodeRow r (decide (i = 0)) with
        | none =>
          rw [q] at no_ok hg
          have m1 := mkT_ok (h := h') (xs := t.map encN ++ []) (lt_big (m := 100001) (by simp; exact ht6) (by decide))
          rw [List.append_nil] at m1
          have el : ((t.map encN).length : Int) = i := by rw [List.length_map]; omega
          unfold encT
          simp_arith [d0, no_ok, encNs, List.append_nil, m1, el]
          refine ⟨i, ?_, rfl⟩
          unfold readT
          rw [hg]
        | some d =>
          rw [q] at no_ok hg
          have m1 := mkT_ok (h := h') (xs := t.map encN ++ [encN d]) (lt_big (m := 100002) (by simp; omega) (by decide))
          have el : ¬ (((t.map encN ++ [encN d]).length : Int) = i) := by simp; omega
          have ee : encT (t ++ [d]) = .tup (t.map encN ++ [encN d]) := by unfold encT; rw [List.map_append]; rfl
          have tk := tree_ok T (n := n) hf (encT_dat (t ++ [d]))
          dsimp only at hg
          rw [ee] at tk hg
          unfold encT
          by_cases q2 : treeW (.tup (t.map encN ++ [encN d])) = true
          · simp_arith [d0, no_ok, encNs, m1, el, tk, q2]
            rw [if_pos q2] at hg
            exact ⟨_, _, t ++ [d], by rw [List.map_append]; rfl, by rw [List.length_append, htl]; rfl, hg⟩
          · simp_arith [d0, no_ok, encNs, m1, el, tk, q2]
            rw [if_neg q2] at hg
            refine ⟨i, ?_, rfl⟩
            unfold readT
            rw [hg]
      · refine ofPP ?_; obtain ⟨rfl, a, b, t, rfl, htl, hg⟩ := J; refine toPP ?_
        rw [List.length_mapIdx, List.length_map] at htl hg
        rw [List.drop_length] at hg
        have hg : readGo (rowsT x) 0 [] = .ok t := hg
        have xt := ex_dat (encT_dat t)
        have eqT : cmpO .eq (encT t) (.tup []) h' = some (decide (t = [])) := by
          show eqO h' (encT t) (.tup []) = _
          unfold eqO
          rw [show plainly h' (encT t) = encT t from rfl, show plainly h' (.tup []) = .tup [] from rfl, encT_dat t, decide_eq_true (show min (dep (encT t)) (dep (.tup [])) ≤ 60 from Nat.le_trans (Nat.min_le_right _ _) (by decide))]
          show some (eqBs (t.map encN) []) = _
          cases t <;> simp [eqBs]
        by_cases q1 : lastT (splT 10 x) = []
        · by_cases q2 : t = []
          · have er : readT x = .error (rowsT x).length := by
              unfold readT
              rw [hg]
              exact if_pos (.inr q2)
            simp_arith [q1, ne_eq, not_true, xt, eqT, decide_eq_true q2, List.length_map]
            exact ⟨_, er, rfl⟩
          · have er : readT x = .ok t := by
              unfold readT
              rw [hg]
              exact if_neg fun z => z.elim (fun z => z q1) q2
            simp_arith [q1, ne_eq, not_true, xt, eqT, decide_eq_false q2]
            exact ⟨_, er, rfl⟩
        · have er : readT x = .error (rowsT x).length := by
            unfold readT
            rw [hg]
            exact if_pos (.inl q1)
          simp_arith [q1, ne_eq, not_false_eq_true, List.length_map]
          exact ⟨_, er, rfl⟩
    · refine ofPP ?_; subst z1 z3 z4; refine toPP ?_
      rw [exitX_hf rfl hf, wp_exc]
      exact ⟨rfl, ⟨_, z2, rfl⟩, rfl⟩
  rcases Rs.wp_eq main with ⟨a, h', e1, ⟨t, e2, rfl⟩, rfl⟩ | ⟨d, p, h', e1, rfl, ⟨i, e2, rfl⟩, rfl⟩
  · rw [e1, e2]
  · rw [e1, e2]
theorem read_no (e : P.defs[f]? = some (bReadTree rw no T.tree c)) (hf : Hf h) (d : dat w = true) (hw : isStrW w = false) : cal P (n + 1) false f [w] h = .exc c .non h := by
  rw [cal_def' e _ _ rfl]
  unfold bReadTree
  simp_arith [ex_dat d, ty_str d, hw, exitX_hf (w := .non) rfl hf]
end
end LP
/-! LP, plain: the law's own reading of texts of trees. -/
namespace LP
def bFigures : Df := ⟨1, 2, false, [(.iff (.or (.cmp .eq (.var 0) (.str [])) (.or (.cmp .inn (.tt false) (.lc false (.cmp .inn (.var 1) (.str [48, 49, 50, 51, 52, 53, 54, 55, 56, 57])) (.nm 1) .seq [(.var 0)] [] [1])) (.and (.cmp .gt (.blt .len [(.var 0)]) (.int 1)) (.cmp .eq (.ix (.var 0) (.int 0)) (.str [48]))))) [(.ret .non)] []), (.ret (.ite (.cmp .lt (.blt .len [(.var 0)]) (.int 31)) (.blt .int [(.var 0)]) (.bin false .pow (.int 10) (.int 30))))]⟩
def bLRow : Df := ⟨1, 3, false, [(.set 1 (.bin false .add (.lst false [(.str [110, 111, 100, 101]), (.ix (.var 0) (.int 0)), (.blt .str [(.ix (.var 0) (.int 2))]), (.blt .str [(.ix (.var 0) (.int 4))])]) (.lc false (.blt .str [(.var 2)]) (.nm 2) .seq [(.ix (.var 0) (.int 3))] [] [2]))), (.ret (.bin false .add (.mth .join (.str [32]) [(.bin false .add (.var 1) (.ite (.cmp .is (.ix (.var 0) (.int 1)) .non) (.lst false []) (.lst false [(.str [105, 110]), (.ix (.var 0) (.int 1))])))]) (.str [10])))]⟩
def bWritten (row : Nat) : Df := ⟨1, 2, false, [(.ret (.mth .join (.str []) [(.lc false (.call row [(.var 1)]) (.nm 1) .seq [(.var 0)] [] [1])]))]⟩
def bLName : Df := ⟨1, 2, false, [(.ret (.and (.chn .lt .lt (.int 0) (.blt .len [(.var 0)]) (.int 9)) (.cmp .nin (.tt false) (.lc false (.cmp .inn (.var 1) (.str letters)) (.nm 1) .seq [(.var 0)] [] [1]))))]⟩
example : K88.dfs[22]? = some bFigures ∧ K88.dfs[24]? = some bLRow ∧ K88.dfs[25]? = some (bWritten 24) ∧ K88.dfs[26]? = some bLName := ⟨rfl, rfl, rfl, rfl⟩
/-- what the law makes of a word of figures -/
def numF (x : Tx) : W := if figT x = true then .int (if x.length < 31 then (digVal x : Nat) else (10 ^ 30 : Nat)) else .non
section
variable {P : Pg} {f n : Nat} {h : Hh}
theorem in_false (l : List Nat) (g : Nat → Bool) : cmpO .inn (.bl false) (.lst (l.map fun c => .bl (g c))) h = some (!(l.all g)) := by
  rw [in_lst rfl (by rw [List.all_map]; exact List.all_eq_true.mpr fun _ _ => rfl), List.any_map]
  congr 1
  induction l with
  | nil => rfl
  | cons p l ih =>
    rw [List.any_cons, List.all_cons, ih]
    show ((g p == false) || _) = _
    cases g p <;> rfl
theorem figures_ok (e : P.defs[f]? = some bFigures) {x : Tx} (hx : x.length ≤ big) : cal P (n + 1) false f [.str x] h = .ok (numF x) h := by
  rw [cal_def' e _ _ rfl]
  unfold bFigures
  have lc := lc_signs (P := P) (cf := cal P n false) (h := h) (y := digitsT) (x := x) (i := 0) (g := 1) (own := [1]) (gl := .str digitsT) (ρ := [some (.str x), none]) hx rfl (fun ρ' => by simp_arith []) (fun c => rfl)
  unfold digitsT at lc
  by_cases q1 : x = []
  · refine ofPP ?_; subst q1; refine toPP ?_
    simp_arith []
    rfl
  · obtain ⟨c, e1, e2⟩ := atW_head q1
    simp_arith [q1, lc, in_false]
    by_cases q2 : x.all (fun c => decide (c ∈ digitsT)) = true
    · have q2' : x.all (fun c => decide (c ∈ [48, 49, 50, 51, 52, 53, 54, 55, 56, 57])) = true := q2
      by_cases q4 : (1 : Int) < x.length
      · by_cases q3 : c = 48
        · refine ofPP ?_; subst q3; refine toPP ?_
          simp_arith [q2', q4, e1]
          have : figT x = false := by
            unfold figT
            rw [e2, decide_eq_true (show some 48 = some 48 from rfl), decide_eq_true (show 1 < x.length by omega)]
            simp
          unfold numF
          rw [this]
          rfl
        · have q3' : ¬ ([c] = [48]) := fun z => q3 (List.cons.inj z).1
          have fx : figT x = true := by
            unfold figT
            rw [q2, decide_eq_false q1, e2, decide_eq_false (show ¬ (some c = some 48) from fun z => q3 (Option.some.inj z))]
            simp
          have c2 : (x.all fun c => decide (48 ≤ c) && decide (c ≤ 57)) = true := List.all_eq_true.mpr fun c hc => digit_of (of_decide_eq_true (List.all_eq_true.mp q2 c hc))
          unfold numF
          by_cases q5 : x.length < 31
          · have q5' : (x.length : Int) < 31 := by omega
            have q6 : x.length ≤ 640 := by omega
            simp_arith [q2', q4, e1, q3', q5', q5, q6, q1, c2, ne_eq, not_false_eq_true, fx]
          · have q5' : ¬ (x.length : Int) < 31 := by omega
            simp_arith [q2', q4, e1, q3', q5', q5, fx, show small 10 = true by decide]
      · have fx : figT x = true := by
          unfold figT
          rw [q2, decide_eq_false q1, decide_eq_false (show ¬ 1 < x.length by omega)]
          simp
        have c2 : (x.all fun c => decide (48 ≤ c) && decide (c ≤ 57)) = true := List.all_eq_true.mpr fun c hc => digit_of (of_decide_eq_true (List.all_eq_true.mp q2 c hc))
        have q5 : x.length < 31 := by omega
        have q5' : (x.length : Int) < 31 := by omega
        have q6 : x.length ≤ 640 := by omega
        unfold numF
        simp_arith [q2', q4, q5', q5, q6, q1, c2, ne_eq, not_false_eq_true, fx]
    · have q2' : ¬ (x.all (fun c => decide (c ∈ [48, 49, 50, 51, 52, 53, 54, 55, 56, 57])) = true) := q2
      simp_arith [q2']
      have : figT x = false := by
        unfold figT
        rw [Bool.eq_false_iff.mpr q2]
        simp
      unfold numF
      rw [this]
      rfl
theorem lname_ok (e : P.defs[f]? = some bLName) {x : Tx} (hx : x.length ≤ big) : cal P (n + 1) false f [.str x] h = .ok (.bl (nameT x)) h := by
  rw [cal_def' e _ _ rfl]
  unfold bLName
  have lc := lc_signs (P := P) (cf := cal P n false) (h := h) (y := letters) (x := x) (i := 0) (g := 1) (own := [1]) (gl := .str letters) (ρ := [some (.str x), none]) hx rfl (fun ρ' => by simp_arith []) (fun c => rfl)
  unfold nameT
  have e0 : (decide (1 ≤ x.length) && decide (x.length ≤ 8)) = decide ((0 : Int) < x.length ∧ (x.length : Int) < 9) := by
    rw [Bool.decide_and]
    congr 1 <;> exact decide_eq_decide.mpr (by omega)
  rw [e0]
  by_cases q1 : (0 : Int) < x.length
  · by_cases q2 : (x.length : Int) < 9
    · simp_arith [q1, q2, lc, in_false]
      simp
    · simp_arith [q1, q2]
      simp
  · simp_arith [q1]
    simp
theorem lrow_ok (e : P.defs[f]? = some bLRow) {d : Nd} (o : NdOk d) : cal P (n + 1) false f [encN d] h = .ok (.str (nodeT d)) h := by
  rw [cal_def' e _ _ rfl]
  unfold bLRow
  obtain ⟨h1, h2⟩ := wordsN_len o
  have h4 := sum_le h2
  have hj : ((wordsN d).map List.length).sum + (wordsN d).length * ([32] : Tx).length ≤ big := lt_big (m := 100) (by simp; omega) (by decide)
  have h3 := nodeT_len o
  have hm : (joinT [32] (wordsN d) ++ [10]).length ≤ big := lt_big (m := 100) h3 (by decide)
  have lc : ev P false (cal P n false) false (.lc false (.blt .str [(.var 2)]) (.nm 2) .seq [(.ix (.var 0) (.int 3))] [] [2]) [some (encN d), none, none] h = .ok (.lst ((d.re.map digits).map .str)) h := by
    rw [ev_lc_mapA (ys := d.re) (enc := fun (r : Nat) => W.int (r : Nat)) (iv := .q (.tup (encI d.re))) (ws := [.tup (encI d.re)]) rfl (by unfold encN; simp_arith []) rfl itm_tup (lt_big (m := 4) o.len.2 (by decide)) (fun r => .str (digits r)) (fun r hr => ?_)]
    · rw [lcEnd_f, List.map_map]
      rfl
    · have sr := smallN (k := r) (Nat.le_trans (o.re r hr) (by decide))
      simp_arith [sr, numTx_nat]
  have sb := smallN (k := d.bu) (Nat.le_trans o.bu (by decide))
  have sc := smallN (k := d.bo) (Nat.le_trans o.bo (by decide))
  obtain ⟨nm, par, bu, re, bo⟩ := d
  have lr : re.length ≤ 4 := o.len.2
  have m1 := mkL_ok (h := h) (xs := .str [110, 111, 100, 101] :: .str nm :: .str (digits bu) :: .str (digits bo) :: (re.map digits).map W.str) (lt_big (m := 10) (by simp; omega) (by decide))
  cases par with
  | none =>
    have mj := meL_join (h := h) hj
    rw [show (wordsN ⟨nm, none, bu, re, bo⟩).map W.str = .str [110, 111, 100, 101] :: .str nm :: .str (digits bu) :: .str (digits bo) :: (re.map digits).map W.str by unfold wordsN NODE; simp] at mj
    unfold encN encP at lc ⊢
    simp_arith [sb, sc, numTx_nat, lc, m1, List.append_nil, mj, mkX_ok hm]
    rfl
  | some p =>
    have mj := meL_join (h := h) hj
    rw [show (wordsN ⟨nm, some p, bu, re, bo⟩).map W.str = .str [110, 111, 100, 101] :: .str nm :: .str (digits bu) :: .str (digits bo) :: ((re.map digits).map W.str ++ [.str [105, 110], .str p]) by unfold wordsN NODE INS; simp] at mj
    have m2 := mkL_ok (h := h) (xs := .str [110, 111, 100, 101] :: .str nm :: .str (digits bu) :: .str (digits bo) :: ((re.map digits).map W.str ++ [.str [105, 110], .str p])) (lt_big (m := 12) (by simp; omega) (by decide))
    unfold encN encP at lc ⊢
    simp_arith [sb, sc, numTx_nat, lc, m1, m2, mj, mkX_ok hm]
    rfl
theorem written_ok {g : Nat} (e : P.defs[f]? = some (bWritten g)) (eg : P.defs[g]? = some bLRow) {t : List Nd} (o : ∀ d ∈ t, NdOk d) (hl : t.length ≤ 6) : cal P (n + 2) false f [encT t] h = .ok (.str (treeT t)) h := by
  rw [cal_def' e _ _ rfl]
  unfold bWritten
  have lc : ev P false (cal P (n + 1) false) false (.lc false (.call g [(.var 1)]) (.nm 1) .seq [(.var 0)] [] [1]) [some (encT t), none] h = .ok (.lst ((t.map nodeT).map .str)) h := by
    rw [ev_lc_mapA (ys := t) (enc := encN) (iv := .q (encT t)) (ws := [encT t]) rfl (by simp_arith [ex_dat (encT_dat t)]) rfl itm_tup (lt_big (m := 6) hl (by decide)) (fun d => .str (nodeT d)) (fun d hd => ?_)]
    · rw [lcEnd_f, List.map_map]
      rfl
    · simp_arith [ex_dat (encN_dat d), lrow_ok eg (o d hd)]
  have mj := meL_join (h := h) (x := []) (l := t.map nodeT) (lt_big (m := 600) (by have := treeT_len o hl; simpa using this) (by decide))
  simp_arith [lc, mj]
  rfl
end
/-! ### the law's node -/
def bLNode (ln fg : Nat) : Df := ⟨2, 7, false, [(.par [3, 4] [.non, (.var 0)]), (.iff (.cmp .ne (.var 1) (.tup [])) [(.iff (.or (.cmp .lt (.blt .len [(.var 0)]) (.int 2)) (.or (.cmp .ne (.ix (.var 0) (.neg (.int 2))) (.str [105, 110])) (.cmp .nin (.ix (.var 0) (.neg (.int 1))) (.lc false (.ix (.var 6) (.int 0)) (.nm 6) .seq [(.var 1)] [] [6])))) [(.ret .non)] []), (.par [3, 4] [(.ix (.var 0) (.neg (.int 1))), (.slt false (.var 0) (.neg (.int 2)))])] []), (.iff (.or (.not (.chn .lt .lt (.int 4) (.blt .len [(.var 4)]) (.int 9))) (.or (.cmp .ne (.ix (.var 4) (.int 0)) (.str [110, 111, 100, 101])) (.or (.not (.call ln [(.ix (.var 4) (.int 1))])) (.cmp .inn (.ix (.var 4) (.int 1)) (.lc false (.ix (.var 6) (.int 0)) (.nm 6) .seq [(.var 1)] [] [6]))))) [(.ret .non)] []), (.set 2 (.lc false (.call fg [(.var 5)]) (.nm 5) .seq [(.slf false (.var 4) (.int 2))] [] [5])), (.iff (.or (.cmp .inn .non (.var 2)) (.or (.cmp .gt (.blt .maxl [(.var 2)]) (.int 99)) (.and (.cmp .ne (.var 1) (.tup [])) (.cmp .ne (.bin false .sub (.blt .len [(.var 2)]) (.int 2)) (.blt .len [(.ix (.ix (.var 1) (.int 0)) (.int 3))]))))) [(.ret .non)] []), (.ret (.tup [(.ix (.var 4) (.int 1)), (.var 3), (.ix (.var 2) (.int 0)), (.blt .tup [(.slf false (.var 2) (.int 2))]), (.ix (.var 2) (.int 1))]))]⟩
example : K88.dfs[27]? = some (bLNode 26 22) := rfl
def hasNm (t : List Nd) (x : Tx) : Bool := t.any fun d => decide (d.nm = x)
def firstLen (t : List Nd) : Option Nat := (t[0]?).map fun d => d.re.length
/-- the node told by words, behind some nodes, its parent known -/
def lawWd (ws : List Tx) (par : Option Tx) (t : List Nd) : Option Nd := match ws with
  | w0 :: w1 :: w2 :: w3 :: rs =>
    if (1 ≤ rs.length ∧ rs.length ≤ 4) ∧ w0 = NODE ∧ nameT w1 = true ∧ hasNm t w1 = false ∧ ((w2 :: w3 :: rs).all fun x => figT x && decide (digVal x ≤ 99)) = true ∧ (t = [] ∨ firstLen t = some rs.length) then some ⟨w1, par, digVal w2, rs.map digVal, digVal w3⟩ else none
  | _ => none
def lawNd (ws : List Tx) (t : List Nd) : Option Nd := if t = [] then lawWd ws none t else
  if ws.length < 2 ∨ ws[ws.length - 2]? ≠ some INS ∨ hasNm t (lastT ws) = false then none else lawWd (ws.take (ws.length - 2)) (some (lastT ws)) t
def encO : Option Nd → W
  | none => .non
  | some d => encN d
theorem any_nm (t : List Nd) (x : Tx) : ((t.map fun d => W.str d.nm).any fun y => eqB y (.str x)) = hasNm t x := by
  unfold hasNm
  rw [List.any_map]
  congr 1
  funext d
  show (d.nm == x) = decide (d.nm = x)
  exact beq_dec
theorem digVal_big : ∀ (x : Tx) (a : Nat), 1 ≤ a → a * 10 ^ x.length ≤ x.foldl (fun a c => a * 10 + (c - 48)) a
  | [], a, _ => by simp
  | c :: x, a, h => by
    have := digVal_big x (a * 10 + (c - 48)) (by omega)
    rw [List.foldl_cons, List.length_cons, Nat.pow_succ]
    refine Nat.le_trans ?_ this
    rw [Nat.mul_comm (10 ^ x.length) 10, ← Nat.mul_assoc]
    exact Nat.mul_le_mul_right _ (Nat.le_add_right _ _)
theorem fig_big {x : Tx} (h : figT x = true) (hl : 3 ≤ x.length) : 99 < digVal x := by
  unfold figT at h
  simp only [Bool.and_eq_true, Bool.not_eq_true', decide_eq_false_iff_not, Bool.and_eq_false_iff] at h
  obtain ⟨h1, h2, h3⟩ := h
  cases x with
  | nil => exact absurd rfl h1
  | cons c y =>
    have hc := List.all_eq_true.mp h2 c List.mem_cons_self
    have hc' := digit_of (of_decide_eq_true hc)
    rw [Bool.and_eq_true, decide_eq_true_eq, decide_eq_true_eq] at hc'
    have hne : c ≠ 48 := fun z => by
      rcases h3 with h3 | h3
      · exact h3 (by rw [z]; rfl)
      · exact h3 (by simp at hl ⊢; omega)
    have := digVal_big y (0 * 10 + (c - 48)) (by omega)
    have hp : 10 ^ 2 ≤ 10 ^ y.length := Nat.pow_le_pow_right (by decide) (by simp at hl; omega)
    have h4 : 1 * 10 ^ 2 ≤ (0 * 10 + (c - 48)) * 10 ^ y.length := Nat.mul_le_mul (by omega) hp
    have e : digVal (c :: y) = y.foldl (fun a c => a * 10 + (c - 48)) (0 * 10 + (c - 48)) := rfl
    rw [e]
    exact Nat.lt_of_lt_of_le (by decide : 99 < 1 * 10 ^ 2) (Nat.le_trans h4 this)
def nv (x : Tx) : Nat := if x.length < 31 then digVal x else 10 ^ 30
theorem nv_le {x : Tx} (h : figT x = true) : nv x ≤ 99 ↔ digVal x ≤ 99 := by
  unfold nv
  by_cases q : x.length < 31
  · rw [if_pos q]
  · rw [if_neg q]
    have := fig_big h (by omega)
    constructor
    · intro z
      exact absurd z (by decide)
    · intro z
      omega
theorem nv_eq {x : Tx} (h : figT x = true) (h2 : digVal x ≤ 99) : nv x = digVal x := by
  unfold nv
  by_cases q : x.length < 31
  · rw [if_pos q]
  · have := fig_big h (by omega)
    omega
theorem numF_fig {x : Tx} (h : figT x = true) : numF x = .int (nv x : Nat) := by
  unfold numF nv
  rw [if_pos h]
  by_cases q : x.length < 31
  · rw [if_pos q, if_pos q]
  · rw [if_neg q, if_neg q]
theorem numF_no {x : Tx} (h : ¬ figT x = true) : numF x = .non := by
  unfold numF
  rw [if_neg h]
theorem maxI_le : ∀ (l : List Int) (m : Int), maxI m l ≤ 99 ↔ m ≤ 99 ∧ ∀ a ∈ l, a ≤ 99
  | [], m => by simp [maxI]
  | a :: l, m => by
    show maxI (if m < a then a else m) l ≤ 99 ↔ _
    rw [maxI_le l]
    simp only [List.mem_cons, forall_eq_or_imp]
    by_cases q : m < a
    · rw [if_pos q]
      constructor
      · rintro ⟨h1, h2⟩
        exact ⟨by omega, h1, h2⟩
      · rintro ⟨h1, h2, h3⟩
        exact ⟨h2, h3⟩
    · rw [if_neg q]
      constructor
      · rintro ⟨h1, h2⟩
        exact ⟨h1, by omega, h2⟩
      · rintro ⟨h1, h2, h3⟩
        exact ⟨h1, h3⟩
theorem numF_flat (l : List Tx) : (l.map numF).all flat = true := by
  rw [List.all_map]
  refine List.all_eq_true.mpr fun x _ => ?_
  by_cases q : figT x = true
  · show flat (numF x) = true
    rw [numF_fig q]
    rfl
  · show flat (numF x) = true
    rw [numF_no q]
    rfl
theorem non_in (l : List Tx) : ((l.map numF).any fun y => eqB y .non) = !(l.all figT) := by
  induction l with
  | nil => rfl
  | cons x l ih =>
    rw [List.map_cons, List.any_cons, List.all_cons, ih]
    by_cases q : figT x = true
    · rw [numF_fig q, q]
      rfl
    · rw [numF_no q, Bool.eq_false_iff.mpr q]
      rfl
theorem bi_maxl {h : Hh} {x : Tx} {l : List Tx} (hf : (x :: l).all figT = true) : biO .maxl [.lst ((x :: l).map numF)] h = .ok (.int (maxI (nv x) (l.map fun y => ((nv y : Nat) : Int)))) h := by
  have e : (x :: l).map numF = (x :: l).map fun y => W.int ((nv y : Nat) : Int) := List.map_congr_left fun y hy => numF_fig (List.all_eq_true.mp hf y hy)
  rw [e]
  unfold biO
  dsimp only [asF, asL]
  rw [intsOf_map (fun y => ((nv y : Nat) : Int))]
  rfl
section
variable {P : Pg} {f n ln fg : Nat} {h : Hh}
theorem lawWd_end (el : P.defs[ln]? = some bLName) (ef : P.defs[fg]? = some bFigures) {ws : List Tx} {par : Option Tx} {t : List Nd} {a : W} (hl : ws.length ≤ 100001) (hx : ∀ x ∈ ws, x.length ≤ big) (ht : t.length ≤ big) {Q : W → Hh → Prop} (k : Q (encO (lawWd ws par t)) h) :
    (exs P (cal P (n + 1)) false [(.iff (.or (.not (.chn .lt .lt (.int 4) (.blt .len [(.var 4)]) (.int 9))) (.or (.cmp .ne (.ix (.var 4) (.int 0)) (.str [110, 111, 100, 101])) (.or (.not (.call ln [(.ix (.var 4) (.int 1))])) (.cmp .inn (.ix (.var 4) (.int 1)) (.lc false (.ix (.var 6) (.int 0)) (.nm 6) .seq [(.var 1)] [] [6]))))) [(.ret .non)] []), (.set 2 (.lc false (.call fg [(.var 5)]) (.nm 5) .seq [(.slf false (.var 4) (.int 2))] [] [5])), (.iff (.or (.cmp .inn .non (.var 2)) (.or (.cmp .gt (.blt .maxl [(.var 2)]) (.int 99)) (.and (.cmp .ne (.var 1) (.tup [])) (.cmp .ne (.bin false .sub (.blt .len [(.var 2)]) (.int 2)) (.blt .len [(.ix (.ix (.var 1) (.int 0)) (.int 3))]))))) [(.ret .non)] []), (.ret (.tup [(.ix (.var 4) (.int 1)), (.var 3), (.ix (.var 2) (.int 0)), (.blt .tup [(.slf false (.var 2) (.int 2))]), (.ix (.var 2) (.int 1))]))] [some a, some (encT t), none, some (encP par), some (.lst (ws.map .str)), none, none] h).wp (Ps.ret Q) := by
  have xt := ex_dat (encT_dat t)
  have lcn : ∀ c d e : Option W, ev P false (cal P (n + 1) false) false (.lc false (.ix (.var 6) (.int 0)) (.nm 6) .seq [(.var 1)] [] [6]) [some a, some (encT t), c, some (encP par), some (.lst (ws.map .str)), d, e] h = .ok (.lst (t.map fun d => .str d.nm)) h := fun c d e => by
    rw [ev_lc_mapA (ys := t) (enc := encN) (iv := .q (encT t)) (ws := [encT t]) rfl (by simp_arith [xt]) rfl itm_tup ht (fun d => .str d.nm) (fun d hd => ?_)]
    · rfl
    · unfold encN
      simp_arith []
  have short : ws.length < 5 → (encO (lawWd ws par t) = .non) := fun hs => by
    match ws, hs with
    | [], _ => rfl
    | [_], _ => rfl
    | [_, _], _ => rfl
    | [_, _, _], _ => rfl
    | [_, _, _, _], _ =>
      unfold lawWd
      dsimp only
      rw [if_neg (fun z => absurd z.1.1 (by simp))]
      rfl
  by_cases q1 : (4 : Int) < ws.length
  · match ws, q1, hl, hx, k, lcn with
    | w0 :: w1 :: w2 :: w3 :: rs, q1, hl, hx, k, lcn =>
      have hrl : rs.length ≤ 100001 := by simp at hl; omega
      simp only [sv_mapS] at lcn
      have q1' : (4 : Int) < ((rs.length + 1 + 1 + 1 + 1 : Nat) : Int) := by simpa using q1
      by_cases q2 : ((rs.length + 1 + 1 + 1 + 1 : Nat) : Int) < 9
      · have r14 : 1 ≤ rs.length ∧ rs.length ≤ 4 := by omega
        by_cases q3 : w0 = NODE
        · refine ofPP ?_; subst q3; refine toPP ?_
          unfold NODE at *
          have lnm := lname_ok (n := n) (h := h) el (hx w1 (by simp))
          have inn : cmpO .inn (.str w1) (.lst (t.map fun d => .str d.nm)) h = some (hasNm t w1) := by
            rw [in_lst rfl (by rw [List.all_map]; exact List.all_eq_true.mpr fun _ _ => rfl), any_nm]
          have no : ∀ z : ¬ (nameT w1 = true ∧ hasNm t w1 = false ∧ ((w2 :: w3 :: rs).all fun x => figT x && decide (digVal x ≤ 99)) = true ∧ (t = [] ∨ firstLen t = some rs.length)), lawWd ([110, 111, 100, 101] :: w1 :: w2 :: w3 :: rs) par t = none := fun z => by
            unfold lawWd
            dsimp only
            rw [if_neg (fun y => z y.2.2)]
          have yes : ∀ z : (nameT w1 = true ∧ hasNm t w1 = false ∧ ((w2 :: w3 :: rs).all fun x => figT x && decide (digVal x ≤ 99)) = true ∧ (t = [] ∨ firstLen t = some rs.length)), lawWd ([110, 111, 100, 101] :: w1 :: w2 :: w3 :: rs) par t = some ⟨w1, par, digVal w2, rs.map digVal, digVal w3⟩ := fun z => by
            unfold lawWd
            dsimp only
            rw [if_pos ⟨r14, rfl, z⟩]
          by_cases q4 : nameT w1 = true
          · by_cases q5 : hasNm t w1 = true
            · simp_arith [List.length_map, q1', q2, ne_eq, not_true, lnm, q4, lcn, inn, q5]
              rw [no (fun z => by rw [z.2.1] at q5; cases q5)] at k
              exact k
            · have q5' := Bool.eq_false_iff.mpr q5
              have m1 := mkL_ok (h := h) (xs := (w2 :: w3 :: rs).map W.str) (lt_big (m := 10) (by simp; omega) (by decide))
              have lcf : ev P false (cal P (n + 1) false) false (.lc false (.call fg [(.var 5)]) (.nm 5) .seq [(.slf false (.var 4) (.int 2))] [] [5]) [some a, some (encT t), none, some (encP par), some (.lst (([110, 111, 100, 101] :: w1 :: w2 :: w3 :: rs).map .str)), none, none] h = .ok (.lst ((w2 :: w3 :: rs).map numF)) h := by
                rw [ev_lc_mapA (ys := w2 :: w3 :: rs) (enc := W.str) (iv := .q (.lst ((w2 :: w3 :: rs).map .str))) (ws := [.lst ((w2 :: w3 :: rs).map .str)]) rfl (by simp_arith []; simp_arith [] at m1; rw [m1]; simp_arith []) rfl itm_lst (lt_big (m := 10) (by simp; omega) (by decide)) numF (fun x hx' => ?_)]
                · rfl
                · have := figures_ok (n := n) (h := h) ef (hx x (by simp at hx' ⊢; rcases hx' with z | z | z <;> simp [z]))
                  simp_arith [this]
              simp only [sv_mapS] at lcf
              refine exs_c_eq (h' := h) (ρ' := [some a, some (encT t), none, some (encP par), some (.lst (([110, 111, 100, 101] :: w1 :: w2 :: w3 :: rs).map .str)), none, none]) (by simp_arith [List.length_map, q1', q2, ne_eq, not_true, lnm, q4, lcn, inn, q5]) ?_
              refine exs_c_eq (h' := h) (ρ' := [some a, some (encT t), some (.lst ((w2 :: w3 :: rs).map numF)), some (encP par), some (.lst (([110, 111, 100, 101] :: w1 :: w2 :: w3 :: rs).map .str)), none, none]) (by simp_arith [lcf]) ?_
              have nin : cmpO .inn .non (.lst ((w2 :: w3 :: rs).map numF)) h = some (!((w2 :: w3 :: rs).all figT)) := by rw [in_lst rfl (numF_flat _), non_in]
              have neT : cmpO .ne (encT t) (.tup []) h = some (!(decide (t = []))) := by
                show (eqO h (encT t) (.tup [])).map (!·) = _
                unfold eqO
                rw [show plainly h (encT t) = encT t from rfl, show plainly h (.tup []) = .tup [] from rfl, encT_dat t, decide_eq_true (show min (dep (encT t)) (dep (.tup [])) ≤ 60 from Nat.le_trans (Nat.min_le_right _ _) (by decide))]
                show some (!(eqBs (t.map encN) [])) = _
                cases t <;> simp [eqBs]
              by_cases q6 : (w2 :: w3 :: rs).all figT = true
              · have mx := bi_maxl (h := h) q6
                by_cases q7 : maxI (nv w2) ((w3 :: rs).map fun y => ((nv y : Nat) : Int)) ≤ 99
                · have q7' : ¬ (99 < maxI (nv w2) ((w3 :: rs).map fun y => ((nv y : Nat) : Int))) := by omega
                  simp only [sv_mapS] at q7'
                  have all99 : ((w2 :: w3 :: rs).all fun x => figT x && decide (digVal x ≤ 99)) = true := by
                    rw [maxI_le] at q7
                    refine List.all_eq_true.mpr fun x hx' => ?_
                    have fx := List.all_eq_true.mp q6 x hx'
                    rw [fx, Bool.true_and, decide_eq_true_eq, ← nv_le fx]
                    rcases List.mem_cons.mp hx' with rfl | hx'
                    · have := q7.1; omega
                    · have := q7.2 _ (List.mem_map.mpr ⟨x, hx', rfl⟩); omega
                  have d99 : ∀ x ∈ w2 :: w3 :: rs, numF x = .int (digVal x : Nat) := fun x hx' => by
                    have := List.all_eq_true.mp all99 x hx'
                    rw [Bool.and_eq_true, decide_eq_true_eq] at this
                    rw [numF_fig this.1, nv_eq this.1 this.2]
                  have mrs : rs.map numF = encI (rs.map digVal) := by
                    unfold encI
                    rw [List.map_map]
                    exact List.map_congr_left fun x hx' => d99 x (by simp [hx'])
                  have m2 := mkL_ok (h := h) (xs := encI (rs.map digVal)) (lt_big (m := 10) (by unfold encI; simp; omega) (by decide))
                  have fine : t = [] ∨ firstLen t = some rs.length → Q (.tup [.str w1, encP par, .int (digVal w2 : Nat), .tup (encI (rs.map digVal)), .int (digVal w3 : Nat)]) h := fun z => by
                    rw [yes ⟨q4, q5', all99, z⟩] at k
                    exact k
                  have eL : (w2 :: w3 :: rs).map numF = .int (digVal w2 : Nat) :: .int (digVal w3 : Nat) :: encI (rs.map digVal) := by
                    rw [List.map_cons, List.map_cons, d99 w2 (by simp), d99 w3 (by simp), mrs]
                  rw [eL] at nin mx ⊢
                  have xp := ex_dat (show dat (encP par) = true by cases par <;> rfl)
                  have lenI : (encI (rs.map digVal)).length = rs.length := by unfold encI; simp
                  cases t with
                  | nil =>
                    have fine := fine (.inl rfl)
                    simp_arith [nin, q6, mx, q7', neT, xt, m2, xp]
                    exact fine
                  | cons d0 t' =>
                    have ix0 : ixO h (encT (d0 :: t')) (.int 0) = some (encN d0) := by
                      unfold encT
                      simp_arith []
                    have ix3 : ixO h (encN d0) (.int 3) = some (.tup (encI d0.re)) := by
                      unfold encN
                      simp_arith []
                    have fl : firstLen (d0 :: t') = some d0.re.length := rfl
                    have lenI0 : (encI d0.re).length = d0.re.length := by unfold encI; simp
                    by_cases q8 : d0.re.length = rs.length
                    · have fine := fine (.inr (by rw [fl, q8]))
                      have q8' : ((rs.length + 1 + 1 : Nat) : Int) - 2 = d0.re.length := by omega
                      simp_arith [nin, q6, mx, q7', neT, xt, m2, xp, ix0, ix3, lenI, lenI0, q8', ne_eq, not_true, reduceCtorEq]
                      exact fine
                    · have q8' : ¬ (((rs.length + 1 + 1 : Nat) : Int) - 2 = d0.re.length) := by omega
                      rw [no (fun z => by
                        rcases z.2.2.2 with z | z
                        · cases z
                        · rw [fl] at z
                          exact q8 (Option.some.inj z))] at k
                      simp_arith [nin, q6, mx, q7', neT, xt, m2, xp, ix0, ix3, lenI, lenI0, q8', ne_eq, not_false_eq_true, reduceCtorEq]
                      exact k
                · have q7' : 99 < maxI (nv w2) ((w3 :: rs).map fun y => ((nv y : Nat) : Int)) := by omega
                  simp only [sv_mapS] at q7'
                  rw [no (fun z => q7 (by
                    rw [maxI_le]
                    have z := List.all_eq_true.mp z.2.2.1
                    have z' : ∀ x ∈ w2 :: w3 :: rs, nv x ≤ 99 := fun x hx' => by
                      have := z x hx'
                      rw [Bool.and_eq_true, decide_eq_true_eq] at this
                      exact (nv_le this.1).mpr this.2
                    refine ⟨by have := z' w2 (by simp); omega, fun a ha => ?_⟩
                    obtain ⟨x, hx', rfl⟩ := List.mem_map.mp ha
                    have := z' x (List.mem_cons_of_mem _ hx')
                    omega))] at k
                  generalize (w2 :: w3 :: rs).map numF = L at nin mx ⊢
                  simp_arith [nin, q6, mx, q7']
                  exact k
              · rw [no (fun z => q6 (List.all_eq_true.mpr fun x hx' => by
                  have := List.all_eq_true.mp z.2.2.1 x hx'
                  rw [Bool.and_eq_true] at this
                  exact this.1))] at k
                generalize (w2 :: w3 :: rs).map numF = L at nin ⊢
                simp_arith [nin, q6]
                exact k
          · have lnm' := Bool.eq_false_iff.mpr q4
            simp_arith [List.length_map, q1', q2, ne_eq, not_true, lnm, lnm']
            rw [no (fun z => q4 z.1)] at k
            exact k
        · have no : lawWd (w0 :: w1 :: w2 :: w3 :: rs) par t = none := by
            unfold lawWd
            dsimp only
            rw [if_neg (fun z => q3 z.2.1)]
          rw [no] at k
          unfold NODE at q3
          simp_arith [List.length_map, q1', q2, q3, ne_eq, not_false_eq_true]
          exact k
      · have no : lawWd (w0 :: w1 :: w2 :: w3 :: rs) par t = none := by
          unfold lawWd
          dsimp only
          rw [if_neg (fun z => by have := z.1; omega)]
        rw [no] at k
        simp_arith [List.length_map, q1', q2]
        exact k
    | [], q1, _, _, _, _ => exact absurd q1 (by simp)
    | [_], q1, _, _, _, _ => exact absurd q1 (by simp)
    | [_, _], q1, _, _, _, _ => exact absurd q1 (by simp)
    | [_, _, _], q1, _, _, _, _ => exact absurd q1 (by simp)
  · rw [short (by omega)] at k
    simp_arith [List.length_map, q1]
    exact k
theorem lawNode_ok (e : P.defs[f]? = some (bLNode ln fg)) (el : P.defs[ln]? = some bLName) (ef : P.defs[fg]? = some bFigures) {ws : List Tx} {t : List Nd} (hne : ws ≠ []) (hl : ws.length ≤ 100001) (hx : ∀ x ∈ ws, x.length ≤ big) (ht : t.length ≤ big) : cal P (n + 2) false f [.lst (ws.map .str), encT t] h = .ok (encO (lawNd ws t)) h := by
  refine wp_val (wp_callf e rfl rfl (fun w h' => w = encO (lawNd ws t) ∧ h' = h) ?_ fun v h' hv => hv)
  show (exs P (cal P (n + 1)) false (bLNode ln fg).body [some (.lst (ws.map .str)), some (encT t), none, none, none, none, none] h).wp _
  unfold bLNode
  have xt := ex_dat (encT_dat t)
  have neT : cmpO .ne (encT t) (.tup []) h = some (!(decide (t = []))) := by
    show (eqO h (encT t) (.tup [])).map (!·) = _
    unfold eqO
    rw [show plainly h (encT t) = encT t from rfl, show plainly h (.tup []) = .tup [] from rfl, encT_dat t, decide_eq_true (show min (dep (encT t)) (dep (.tup [])) ≤ 60 from Nat.le_trans (Nat.min_le_right _ _) (by decide))]
    show some (!(eqBs (t.map encN) [])) = _
    cases t <;> simp [eqBs]
  refine exs_c_eq (h' := h) (ρ' := [some (.lst (ws.map .str)), some (encT t), none, some .non, some (.lst (ws.map .str)), none, none]) (by simp_arith []) ?_
  by_cases q0 : t = []
  · refine exs_c_eq (h' := h) (ρ' := [some (.lst (ws.map .str)), some (encT t), none, some .non, some (.lst (ws.map .str)), none, none]) (by simp_arith [xt, neT, decide_eq_true q0]) ?_
    refine lawWd_end (par := none) el ef hl hx ht ⟨?_, rfl⟩
    unfold lawNd
    rw [if_pos q0]
  · have n2 : -(2 : Int) = -2 := rfl
    have hlb : ws.length ≤ big := lt_big hl (by decide)
    by_cases q1 : ws.length < 2
    · have q1' : ((ws.length : Nat) : Int) < 2 := by omega
      simp_arith [xt, neT, decide_eq_false q0, List.length_map, q1']
      unfold lawNd
      rw [if_neg q0, if_pos (.inl q1)]
      rfl
    · have q1' : ¬ ((ws.length : Nat) : Int) < 2 := by omega
      have e2 : atW (ws.map W.str) (-2) = (ws[ws.length - 2]?).map .str := by
        have := atW_neg (xs := ws.map W.str) (k := 2) (by decide) (by rw [List.length_map]; omega)
        rw [show (-((2 : Nat) : Int)) = -2 from rfl] at this
        rw [this, List.length_map, List.getElem?_map]
      have hi : ws.length - 2 < ws.length := by omega
      rw [List.getElem?_eq_getElem hi] at e2
      by_cases q2 : ws[ws.length - 2] = INS
      · have lcn : ev P false (cal P (n + 1) false) false (.lc false (.ix (.var 6) (.int 0)) (.nm 6) .seq [(.var 1)] [] [6]) [some (.lst (ws.map .str)), some (encT t), none, some .non, some (.lst (ws.map .str)), none, none] h = .ok (.lst (t.map fun d => .str d.nm)) h := by
          rw [ev_lc_mapA (ys := t) (enc := encN) (iv := .q (encT t)) (ws := [encT t]) rfl (by simp_arith [xt]) rfl itm_tup ht (fun d => .str d.nm) (fun d hd => ?_)]
          · rfl
          · unfold encN
            simp_arith []
        have inn : cmpO .inn (.str (lastT ws)) (.lst (t.map fun d => .str d.nm)) h = some (hasNm t (lastT ws)) := by
          rw [in_lst rfl (by rw [List.all_map]; exact List.all_eq_true.mpr fun _ _ => rfl), any_nm]
        have q2' : ¬ (ws[ws.length - 2]? ≠ some INS) := by rw [List.getElem?_eq_getElem hi, q2]; simp
        rw [q2] at e2
        unfold INS at e2
        by_cases q3 : hasNm t (lastT ws) = true
        · have t2 : ((ws.take (ws.length - 2)).map W.str).length ≤ big := by
            rw [List.length_map, List.length_take]
            exact Nat.le_trans (Nat.min_le_right _ _) hlb
          refine exs_c_eq (h' := h) (ρ' := [some (.lst (ws.map .str)), some (encT t), none, some (.str (lastT ws)), some (.lst ((ws.take (ws.length - 2)).map .str)), none, none]) (by simp_arith [xt, neT, decide_eq_false q0, q1', List.length_map, n2, e2, ne_eq, not_true, neg1, at_last hne, lcn, inn, q3, cut_m2, mkL_ok t2]) ?_
          have sub : ∀ x ∈ ws.take (ws.length - 2), x ∈ ws := fun x hx' => List.mem_of_mem_take hx'
          refine lawWd_end (par := some (lastT ws)) el ef (by rw [List.length_take]; omega) (fun x hx' => hx x (sub x hx')) ht ⟨?_, rfl⟩
          unfold lawNd
          rw [if_neg q0, if_neg]
          rintro (z | z | z)
          · exact q1 z
          · exact q2' z
          · rw [z] at q3; cases q3
        · simp_arith [xt, neT, decide_eq_false q0, q1', List.length_map, n2, e2, ne_eq, not_true, neg1, at_last hne, lcn, inn, q3]
          unfold lawNd
          rw [if_neg q0, if_pos (.inr (.inr (Bool.eq_false_iff.mpr q3)))]
          rfl
      · have q2' : ws[ws.length - 2]? ≠ some INS := by
          rw [List.getElem?_eq_getElem hi]
          exact fun z => q2 (Option.some.inj z)
        unfold INS at q2
        simp_arith [xt, neT, decide_eq_false q0, q1', List.length_map, n2, e2, ne_eq, q2, not_false_eq_true]
        unfold lawNd
        rw [if_neg q0, if_pos (.inr (.inl q2'))]
        rfl
end
end LP
/-! LP, plain: the law's reading and the program's tell the same. -/
namespace LP
def bTreeOf (nd : Nat) : Df := ⟨1, 5, false, [(.par [2, 3] [(.mth (.split false) (.var 0) [(.str [10])]), (.tup [])]), (.fo (.nm 1) .r1 [(.bin false .sub (.blt .len [(.var 2)]) (.int 1))] [(.set 4 (.ite (.cmp .lt (.var 1) (.int 6)) (.call nd [(.mth (.split false) (.ix (.var 2) (.var 1)) [(.str [32])]), (.var 3)]) .non)), (.iff (.cmp .is (.var 4) .non) [(.ret (.tup [.non, (.var 1)]))] []), (.set 3 (.bin false .add (.var 3) (.tup [(.var 4)])))]), (.ret (.ite (.or (.cmp .ne (.ix (.var 2) (.neg (.int 1))) (.str [])) (.cmp .eq (.var 3) (.tup []))) (.tup [.non, (.blt .len [(.var 3)])]) (.tup [(.var 3), .non])))]⟩
example : K88.dfs[28]? = some (bTreeOf 27) := rfl
def lawGo : List Tx → Nat → List Nd → Except Nat (List Nd)
  | [], _, t => .ok t
  | r :: rs, i, t => if i < 6 then (match lawNd (splT 32 r) t with
    | none => .error i
    | some d => lawGo rs (i + 1) (t ++ [d])) else .error i
theorem lawGo_cons {r : Tx} {rs : List Tx} {i : Nat} {t : List Nd} : lawGo (r :: rs) i t = if i < 6 then (match lawNd (splT 32 r) t with
    | none => .error i
    | some d => lawGo rs (i + 1) (t ++ [d])) else .error i := rfl
def lawT (x : Tx) : Except Nat (List Nd) := match lawGo (rowsT x) 0 [] with
  | .error i => .error i
  | .ok t => if lastT (splT 10 x) ≠ [] ∨ t = [] then .error t.length else .ok t
def encR : Except Nat (List Nd) → W
  | .error i => .tup [.non, .int (i : Nat)]
  | .ok t => .tup [encT t, .non]
section
variable {P : Pg} {f n nd ln fg : Nat} {h : Hh}
theorem eqT_nil (t : List Nd) : cmpO .eq (encT t) (.tup []) h = some (decide (t = [])) := by
  show eqO h (encT t) (.tup []) = _
  unfold eqO
  rw [show plainly h (encT t) = encT t from rfl, show plainly h (.tup []) = .tup [] from rfl, encT_dat t, decide_eq_true (show min (dep (encT t)) (dep (.tup [])) ≤ 60 from Nat.le_trans (Nat.min_le_right _ _) (by decide))]
  show some (eqBs (t.map encN) []) = _
  cases t <;> simp [eqBs]
theorem treeOf_ok (e : P.defs[f]? = some (bTreeOf nd)) (en : P.defs[nd]? = some (bLNode ln fg)) (el : P.defs[ln]? = some bLName) (ef : P.defs[fg]? = some bFigures) {x : Tx} (hs : Sm x) : cal P (n + 3) false f [.str x] h = .ok (encR (lawT x)) h := by
  refine wp_val (wp_callf e rfl rfl (fun w h' => w = encR (lawT x) ∧ h' = h) ?_ fun v h' hv => hv)
  show (exs P (cal P (n + 2)) false (bTreeOf nd).body [some (.str x), none, none, none, none] h).wp _
  unfold bTreeOf
  have hne := spT_ne 10 x
  have h0 : 0 < (splT 10 x).length := List.length_pos_iff.mpr hne
  have hrl : (rowsT x).length = (splT 10 x).length - 1 := by unfold rowsT; rw [List.length_take]; omega
  have hlen : (splT 10 x).length ≤ 100001 := Nat.le_trans (spT_len 10 x) (Nat.succ_le_succ hs)
  have sp := split_ok (h := h) (show 10 < 256 by decide) hs
  refine exs_c_eq (h' := h) (ρ' := [some (.str x), none, some (.lst ((splT 10 x).map .str)), some (.tup []), none]) (by simp_arith [sp]) ?_
  refine exs_c_wp (ex_fo_wp ?_)
  simp_arith [List.length_map]
  have iv : ivC h .r1 [.int (((splT 10 x).length : Int) - 1)] = some (.rg 0 1 (rowsT x).length) := by
    have e1 : ((splT 10 x).length : Int) - 1 = ((rowsT x).length : Int) := by omega
    rw [e1]
    show (if rgOk ((rowsT x).length : Int) then some (Iv.rg 0 1 (((rowsT x).length : Int)).toNat) else none) = _
    have : rgOk ((rowsT x).length : Int) = true := by
      unfold rgOk
      rw [Bool.and_eq_true, decide_eq_true_eq, decide_eq_true_eq]
      omega
    rw [this]
    rfl
  refine ⟨_, (List.range (rowsT x).length).map fun (i : Nat) => W.int (i : Nat), fun i ρ h' => h' = h ∧ ∃ a b t, ρ = [some (.str x), a, some (.lst ((splT 10 x).map .str)), some (encT t), b] ∧ t.length = i ∧ lawGo (rowsT x) 0 [] = lawGo ((rowsT x).drop i) i t, iv, itm_rg.1, ⟨rfl, none, none, [], rfl, rfl, rfl⟩, fun i ρ h' _ => itm_rg.2 i, fun i y ρ h' hy J => ?_, fun ρ h' J => ?_⟩
  · refine ofPP ?_; obtain ⟨rfl, a, b, t, rfl, htl, hg⟩ := J; refine toPP ?_
    have hi : i < (rowsT x).length := by have := (List.getElem?_eq_some_iff.mp hy).1; simpa using this
    obtain rfl : W.int (i : Nat) = y := by
      rw [List.getElem?_map, List.getElem?_range hi] at hy
      exact Option.some.inj hy
    have hi2 : i < (splT 10 x).length := by omega
    have hat : atW ((splT 10 x).map W.str) (i : Int) = some (.str (rowsT x)[i]) := by
      have e3 : (rowsT x)[i]? = some (splT 10 x)[i] := by
        unfold rowsT
        rw [List.getElem?_take, if_pos (by omega), List.getElem?_eq_getElem hi2]
      rw [List.getElem?_eq_getElem hi] at e3
      rw [Option.some.inj e3, atW_nat (by rw [List.length_map]; exact hi2), List.getElem_map]
    rw [List.drop_eq_getElem_cons hi, lawGo_cons] at hg
    have hm : (rowsT x)[i] ∈ splT 10 x := List.mem_of_mem_take (List.getElem_mem hi)
    generalize hr : (rowsT x)[i] = r at *
    have sr := hs.part hm
    have sp2 := split_ok (h := h') (show 32 < 256 by decide) sr
    have xt := ex_dat (encT_dat t)
    have ht6 : t.length ≤ 100001 := by omega
    have ln := lawNode_ok (n := n) (h := h') en el ef (ws := splT 32 r) (t := t) (spT_ne 32 r) (Nat.le_trans (spT_len 32 r) (Nat.succ_le_succ sr)) (fun z hz => (sr.part hz).bg) (lt_big ht6 (by decide))
    unfold foTu
    by_cases q1 : i < 6
    · have q1' : (i : Int) < 6 := by omega
      rw [if_pos q1] at hg
      cases q : lawNd (splT 32 r) t with
      | none =>
        rw [q] at ln hg
        simp_arith [q1', hat, sp2, xt, ln, encO]
        unfold lawT
        rw [hg]
        rfl
      | some d =>
        rw [q] at ln hg
        have m1 := mkT_ok (h := h') (xs := t.map encN ++ [encN d]) (lt_big (m := 100002) (by simp; omega) (by decide))
        have xd := ex_dat (encN_dat d)
        have isn : cmpO .is (encN d) .non h' = some false := rfl
        have add : binO false .add (encT t) (.tup [encN d]) h' = mkT (t.map encN ++ [encN d]) h' := rfl
        simp_arith [q1', hat, sp2, xt, ln, encO, xd, isn, add, m1]
        exact ⟨_, _, t ++ [d], by unfold encT; rw [List.map_append]; rfl, by rw [List.length_append, htl]; rfl, hg⟩
    · have q1' : ¬ (i : Int) < 6 := by omega
      rw [if_neg q1] at hg
      simp_arith [q1']
      unfold lawT
      rw [hg]
      rfl
  · refine ofPP ?_; obtain ⟨rfl, a, b, t, rfl, htl, hg⟩ := J; refine toPP ?_
    rw [List.length_map, List.length_range] at htl hg
    rw [List.drop_length] at hg
    have hg : lawGo (rowsT x) 0 [] = .ok t := hg
    have xt := ex_dat (encT_dat t)
    have bl : biO .len [encT t] h' = .ok (.int (t.length : Nat)) h' := by
      show Rs.ok (W.int ((t.map encN).length : Nat)) h' = _
      rw [List.length_map]
    by_cases q1 : lastT (splT 10 x) = []
    · by_cases q2 : t = []
      · have er : lawT x = .error t.length := by
          unfold lawT
          rw [hg]
          exact if_pos (.inr q2)
        rw [er]
        simp_arith [neg1, at_last hne, q1, ne_eq, not_true, xt, eqT_nil, decide_eq_true q2, bl]
        rfl
      · have er : lawT x = .ok t := by
          unfold lawT
          rw [hg]
          exact if_neg fun z => z.elim (fun z => z q1) q2
        rw [er]
        simp_arith [neg1, at_last hne, q1, ne_eq, not_true, xt, eqT_nil, decide_eq_false q2, bl]
        rfl
    · have er : lawT x = .error t.length := by
        unfold lawT
        rw [hg]
        exact if_pos (.inl q1)
      rw [er]
      simp_arith [neg1, at_last hne, q1, ne_eq, not_false_eq_true, xt, bl]
      rfl
end
/-! ### both readings are one -/
def nodeB (d : Nd) : Bool := nameT d.nm && (decide (d.bu ≤ 99) && (((decide (1 ≤ d.re.length) && decide (d.re.length ≤ 4)) && d.re.all fun r => decide (r ≤ 99)) && decide (d.bo ≤ 99)))
theorem upTo_nat (m k : Nat) : upToW (m : Int) (.int (k : Nat)) = decide (k ≤ m) := by
  show (decide ((0 : Int) ≤ (k : Int)) && decide ((k : Int) ≤ (m : Int))) = _
  rw [decide_eq_true (by omega), Bool.true_and]
  exact decide_eq_decide.mpr (by omega)
theorem upTo_99 (k : Nat) : upToW 99 (.int (k : Nat)) = decide (k ≤ 99) := upTo_nat 99 k
theorem nodeW_enc (d : Nd) : nodeW (encN d) = nodeB d := by
  show (nameT d.nm && (upToW 99 (.int (d.bu : Nat)) && (refW 99 (.tup (encI d.re)) && upToW 99 (.int (d.bo : Nat))))) = _
  have e : refW 99 (.tup (encI d.re)) = ((decide (1 ≤ d.re.length) && decide (d.re.length ≤ 4)) && d.re.all fun r => decide (r ≤ 99)) := by
    show ((decide (1 ≤ (encI d.re).length) && decide ((encI d.re).length ≤ 4)) && (encI d.re).all (upToW 99)) = _
    have e1 : (encI d.re).length = d.re.length := by unfold encI; simp
    have e2 : (encI d.re).all (upToW 99) = d.re.all fun r => decide (r ≤ 99) := by
      unfold encI
      rw [List.all_map]
      congr 1
      funext r
      exact upTo_99 r
    rw [e1, e2]
  rw [upTo_99, upTo_99, e]
  rfl
/-- the last node behind others -/
def lastB (k : Nat) (d : Nd) (ns : List W) : Bool := !((ns.any fun y => eqB y (.str d.nm)) || (!(parW (encP d.par) ns) || !(d.re.length == k)))
theorem treeGo_enc {k : Nat} {d : Nd} {ws ns : List W} : treeGo k (encN d :: ws) ns = (lastB k d ns && treeGo k ws (ns ++ [.str d.nm])) := by
  have e1 : (encI d.re).length = d.re.length := by unfold encI; simp
  show (if ((ns.any fun y => eqB y (.str d.nm)) || (!(parW (encP d.par) ns) || !((encI d.re).length == k))) = true then false else treeGo k ws (ns ++ [.str d.nm])) = _
  rw [e1]
  unfold lastB
  cases ((ns.any fun y => eqB y (.str d.nm)) || (!(parW (encP d.par) ns) || !(d.re.length == k))) <;> rfl
theorem treeGo_app {k : Nat} {d : Nd} : ∀ {t : List Nd} {ns : List W}, treeGo k ((t ++ [d]).map encN) ns = (treeGo k (t.map encN) ns && lastB k d (ns ++ t.map fun d => .str d.nm))
  | [], ns => by
    show treeGo k [encN d] ns = (true && lastB k d (ns ++ []))
    rw [treeGo_enc, List.append_nil, Bool.true_and]
    show (lastB k d ns && true) = _
    rw [Bool.and_true]
  | c :: t, ns => by
    show treeGo k (encN c :: (t ++ [d]).map encN) ns = (treeGo k (encN c :: t.map encN) ns && _)
    rw [treeGo_enc, treeGo_enc, treeGo_app, Bool.and_assoc]
    congr 3
    simp
theorem treeW_enc (t : List Nd) : treeW (encT t) = ((decide (1 ≤ t.length) && decide (t.length ≤ 6)) && (t.all nodeB && treeGo ((firstLen t).getD 0) (t.map encN) [])) := by
  show ((decide (1 ≤ (t.map encN).length) && decide ((t.map encN).length ≤ 6)) && ((t.map encN).all nodeW && treeGo (match t.map encN with
    | .tup [_, _, _, r, _] :: _ => lenW r
    | _ => 0) (t.map encN) [])) = _
  have e1 : (t.map encN).all nodeW = t.all nodeB := by
    rw [List.all_map]
    congr 1
    funext d
    exact nodeW_enc d
  have e2 : (match t.map encN with
    | .tup [_, _, _, r, _] :: _ => lenW r
    | _ => 0) = (firstLen t).getD 0 := by
    cases t with
    | nil => rfl
    | cons d t =>
      show (encI d.re).length = d.re.length
      unfold encI
      simp
  rw [e1, e2, List.length_map]
theorem par_names (t : List Nd) (p : Option Tx) : parW (encP p) (t.map fun d => .str d.nm) = if t = [] then p.isNone else (match p with
    | none => false
    | some x => hasNm t x) := by
  cases t with
  | nil => cases p <;> rfl
  | cons d t =>
    rw [if_neg (by simp)]
    unfold parW
    rw [if_neg (by simp)]
    cases p with
    | none => rfl
    | some x => exact any_nm (d :: t) x
theorem treeW_snoc {t : List Nd} {d : Nd} (ht : t = [] ∨ treeW (encT t) = true) (hl : t.length < 6) : treeW (encT (t ++ [d])) = (nodeB d && (!(hasNm t d.nm) && (parW (encP d.par) (t.map fun d => .str d.nm) && decide (t = [] ∨ firstLen t = some d.re.length)))) := by
  rw [treeW_enc, treeGo_app, List.nil_append]
  have e1 : decide (1 ≤ (t ++ [d]).length) = true := decide_eq_true (by simp)
  have e2 : decide ((t ++ [d]).length ≤ 6) = true := decide_eq_true (by simp; omega)
  rw [e1, e2, List.all_append]
  have e3 : [d].all nodeB = nodeB d := by simp
  rw [e3]
  unfold lastB
  rw [any_nm]
  rcases ht with rfl | ht
  · have e4 : (firstLen ([] ++ [d])).getD 0 = d.re.length := rfl
    rw [e4, decide_eq_true (Or.inl rfl)]
    show (true && true && (true && nodeB d && (treeGo d.re.length [] [] && _))) = _
    have e5 : treeGo d.re.length [] [] = true := rfl
    rw [e5, beq_self_eq_true]
    cases nodeB d <;> cases hasNm [] d.nm <;> cases parW (encP d.par) ([].map fun d : Nd => W.str d.nm) <;> rfl
  · rw [treeW_enc] at ht
    simp only [Bool.and_eq_true, decide_eq_true_eq] at ht
    obtain ⟨⟨h1, h2⟩, h3, h4⟩ := ht
    cases t with
    | nil => simp at h1
    | cons c t =>
      have e4 : (firstLen (c :: t ++ [d])).getD 0 = (firstLen (c :: t)).getD 0 := rfl
      rw [e4, h3, h4]
      have e5 : (d.re.length == (firstLen (c :: t)).getD 0) = decide (c :: t = [] ∨ firstLen (c :: t) = some d.re.length) := by
        rw [Bool.eq_iff_iff, beq_iff_eq, decide_eq_true_eq]
        show d.re.length = c.re.length ↔ (c :: t = [] ∨ some c.re.length = some d.re.length)
        constructor
        · intro z
          exact .inr (by rw [z])
        · rintro (z | z)
          · cases z
          · exact (Option.some.inj z).symm
      rw [e5]
      cases nodeB d <;> cases hasNm (c :: t) d.nm <;> cases parW (encP d.par) ((c :: t).map fun d : Nd => W.str d.nm) <;> cases decide (c :: t = [] ∨ firstLen (c :: t) = some d.re.length) <;> rfl
theorem ite_iff {α : Type} {p q : Prop} [Decidable p] [Decidable q] (h : p ↔ q) {x y : α} : (if p then x else y) = if q then x else y := by
  by_cases z : p
  · rw [if_pos z, if_pos (h.mp z)]
  · rw [if_neg z, if_neg (fun w => z (h.mpr w))]
theorem wd_eq {ws : List Tx} {par : Option Tx} {t : List Nd} (ht : t = [] ∨ treeW (encT t) = true) (hl : t.length < 6) (hp : parW (encP par) (t.map fun d => .str d.nm) = true) : (match nodeWd ws par with
    | none => none
    | some d => if treeW (encT (t ++ [d])) = true then some d else none) = lawWd ws par t := by
  match ws with
  | w0 :: w1 :: w2 :: w3 :: rs =>
    unfold nodeWd lawWd
    dsimp only
    have e4 : 4 ≤ (w0 :: w1 :: w2 :: w3 :: rs).length := by simp
    by_cases c1 : w0 = NODE
    · by_cases c2 : (w2 :: w3 :: rs).all figT = true
      · rw [if_pos ⟨c2, by rw [c1]; rfl, e4⟩]
        show (if treeW (encT (t ++ [(⟨w1, par, digVal w2, rs.map digVal, digVal w3⟩ : Nd)])) = true then some (⟨w1, par, digVal w2, rs.map digVal, digVal w3⟩ : Nd) else none) = _
        rw [treeW_snoc ht hl]
        have fx := List.all_eq_true.mp c2
        have e5 : ((w2 :: w3 :: rs).all fun x => figT x && decide (digVal x ≤ 99)) = (decide (digVal w2 ≤ 99) && (decide (digVal w3 ≤ 99) && (rs.map digVal).all fun r => decide (r ≤ 99))) := by
          rw [List.all_cons, List.all_cons, fx w2 (by simp), fx w3 (by simp), List.all_map, Bool.true_and, Bool.true_and]
          congr 2
          have : ∀ l : List Tx, (∀ x ∈ l, figT x = true) → (l.all fun x => figT x && decide (digVal x ≤ 99)) = l.all ((fun r => decide (r ≤ 99)) ∘ digVal) := by
            intro l
            induction l with
            | nil => intro _; rfl
            | cons x l ih =>
              intro h
              rw [List.all_cons, List.all_cons, h x (by simp), ih fun y hy => h y (by simp [hy])]
              rfl
          exact this rs fun x hx => fx x (by simp [hx])
        rw [e5]
        refine ite_iff ?_
        unfold nodeB
        simp only [hp, Bool.and_eq_true, decide_eq_true_eq, Bool.not_eq_true', List.length_map, c1, true_and]
        constructor
        · rintro ⟨⟨a1, a2, ⟨⟨a3, a4⟩, a5⟩, a6⟩, a7, a8⟩
          exact ⟨⟨a3, a4⟩, a1, a7, ⟨a2, a6, a5⟩, a8⟩
        · rintro ⟨⟨a3, a4⟩, a1, a7, ⟨a2, a6, a5⟩, a8⟩
          exact ⟨⟨a1, a2, ⟨⟨a3, a4⟩, a5⟩, a6⟩, a7, a8⟩
      · rw [if_neg (fun z => c2 z.1), if_neg]
        rintro ⟨_, _, _, _, z, _⟩
        exact c2 (List.all_eq_true.mpr fun x hx => by
          have := List.all_eq_true.mp z x hx
          rw [Bool.and_eq_true] at this
          exact this.1)
    · rw [if_neg (fun z => c1 (Option.some.inj z.2.1)), if_neg (fun z => c1 z.2.1)]
  | [] => rfl
  | [_] =>
    unfold nodeWd
    rw [if_neg (fun z => absurd z.2.2 (by simp))]
    rfl
  | [_, _] =>
    unfold nodeWd
    rw [if_neg (fun z => absurd z.2.2 (by simp))]
    rfl
  | [_, _, _] =>
    unfold nodeWd
    rw [if_neg (fun z => absurd z.2.2 (by simp))]
    rfl
theorem step_eq {r : Tx} {t : List Nd} (ht : t = [] ∨ treeW (encT t) = true) (hl : t.length < 6) : (match nodeRow r (decide (t.length = 0)) with
    | none => none
    | some d => if treeW (encT (t ++ [d])) = true then some d else none) = lawNd (splT 32 r) t := by
  unfold nodeRow lawNd
  cases t with
  | nil =>
    rw [if_pos (show decide (([] : List Nd).length = 0) = true from rfl), if_pos rfl]
    exact wd_eq (.inl rfl) (by decide) rfl
  | cons c t =>
    rw [if_neg (show ¬ (decide ((c :: t).length = 0) = true) by simp), if_neg (show ¬ (c :: t = []) by simp)]
    generalize hw : splT 32 r = ws
    by_cases q1 : ws.length < 3
    · rw [if_pos (.inl q1)]
      by_cases q2 : ws.length < 2
      · rw [if_pos (.inl q2)]
      · by_cases q3 : ws[ws.length - 2]? ≠ some INS ∨ hasNm (c :: t) (lastT ws) = false
        · rw [if_pos (.inr q3)]
        · rw [if_neg (fun z => z.elim q2 q3), show ws.length - 2 = 0 by omega]
          rfl
    · by_cases q3 : ws[ws.length - 2]? ≠ some INS
      · rw [if_pos (.inr q3), if_pos (.inr (.inl q3))]
      · rw [if_neg (fun z => z.elim q1 q3)]
        by_cases q4 : hasNm (c :: t) (lastT ws) = false
        · rw [if_pos (.inr (.inr q4))]
          cases q5 : nodeWd (ws.take (ws.length - 2)) (some (lastT ws)) with
          | none => rfl
          | some d =>
            have hd : d.par = some (lastT ws) := by
              unfold nodeWd at q5
              split at q5
              · cases q5; rfl
              · cases q5
            dsimp only
            have pf : parW (encP d.par) ((c :: t).map fun d => .str d.nm) = false := by
              rw [par_names, if_neg (show ¬ (c :: t = []) by simp), hd]
              exact q4
            rw [treeW_snoc ht hl, pf]
            simp
        · rw [if_neg (fun z => by
            rcases z with z | z | z
            · omega
            · exact q3 z
            · exact q4 z)]
          refine wd_eq ht hl ?_
          rw [par_names, if_neg (show ¬ (c :: t = []) by simp)]
          simpa using q4
theorem go_eq : ∀ (rs : List Tx) (t : List Nd), (t = [] ∨ treeW (encT t) = true) → readGo rs t.length t = lawGo rs t.length t ∧ ∀ s, lawGo rs t.length t = .ok s → s.length = t.length + rs.length
  | [], t, _ => ⟨rfl, fun s h => by cases h; simp⟩
  | r :: rs, t, ht => by
    rw [readGo_cons, lawGo_cons]
    by_cases hl : t.length < 6
    · rw [if_pos hl]
      have st := step_eq (r := r) ht hl
      cases q1 : nodeRow r (decide (t.length = 0)) with
      | none =>
        rw [q1] at st
        rw [← st]
        exact ⟨rfl, fun s h => by cases h⟩
      | some d =>
        rw [q1] at st
        dsimp only at st ⊢
        by_cases q2 : treeW (encT (t ++ [d])) = true
        · rw [if_pos q2] at st
          rw [if_pos q2, ← st]
          have ih := go_eq rs (t ++ [d]) (.inr q2)
          have e : (t ++ [d]).length = t.length + 1 := by simp
          rw [e] at ih
          exact ⟨ih.1, fun s h => by have := ih.2 s h; rw [List.length_cons]; omega⟩
        · rw [if_neg q2] at st
          rw [if_neg q2, ← st]
          exact ⟨rfl, fun s h => by cases h⟩
    · rw [if_neg hl]
      refine ⟨?_, fun s h => by cases h⟩
      cases q1 : nodeRow r (decide (t.length = 0)) with
      | none => rfl
      | some d =>
        dsimp only
        have : treeW (encT (t ++ [d])) = false := by
          rw [treeW_enc, decide_eq_false (show ¬ (t ++ [d]).length ≤ 6 by simp; omega)]
          simp
        rw [if_neg (by rw [this]; simp)]
theorem read_eq (x : Tx) : readT x = lawT x := by
  have h := go_eq (rowsT x) [] (.inl rfl)
  unfold readT lawT
  rw [show readGo (rowsT x) 0 [] = lawGo (rowsT x) 0 [] from h.1]
  cases q : lawGo (rowsT x) 0 [] with
  | error i => rfl
  | ok t =>
    have := h.2 t q
    dsimp only
    rw [show t.length = (rowsT x).length by simpa using this]
end LP
/-! LP, plain: what was written is read back. -/
namespace LP
theorem splT_no {c : Nat} : ∀ {x : Tx}, c ∉ x → splT c x = [x]
  | [], _ => rfl
  | d :: r, h => by
    have h1 : ¬ (d = c) := fun z => h (by simp [z])
    unfold splT
    rw [if_neg h1, splT_no (fun z => h (by simp [z]))]
theorem splT_at {c : Nat} : ∀ {x y : Tx}, c ∉ x → splT c (x ++ c :: y) = x :: splT c y
  | [], y, _ => by
    show splT c (c :: y) = _
    conv => lhs; unfold splT
    rw [if_pos rfl]
  | d :: r, y, h => by
    have h1 : ¬ (d = c) := fun z => h (by simp [z])
    show splT c (d :: (r ++ c :: y)) = _
    conv => lhs; unfold splT
    rw [if_neg h1, splT_at (fun z => h (by simp [z]))]
theorem splT_join {c : Nat} : ∀ {l : List Tx}, l ≠ [] → (∀ x ∈ l, c ∉ x) → splT c (joinT [c] l) = l
  | [], h, _ => absurd rfl h
  | [p], _, h => splT_no (h p (by simp))
  | p :: q :: r, _, h => by
    show splT c (p ++ ([c] ++ joinT [c] (q :: r))) = _
    rw [List.singleton_append, splT_at (h p (by simp)), splT_join (by simp) fun x hx => h x (by simp [hx])]
theorem joinT_nil : ∀ l : List Tx, joinT [] l = l.flatten
  | [] => rfl
  | [p] => by simp [joinT]
  | p :: q :: r => by
    show p ++ ([] ++ joinT [] (q :: r)) = _
    rw [List.nil_append, joinT_nil (q :: r)]
    rfl
theorem splT_rows {c : Nat} : ∀ {l : List Tx}, (∀ x ∈ l, c ∉ x) → splT c (l.map fun x => x ++ [c]).flatten = l ++ [[]]
  | [], _ => rfl
  | p :: r, h => by
    rw [List.map_cons, List.flatten_cons, List.append_assoc, List.singleton_append, splT_at (h p (by simp)), splT_rows fun x hx => h x (by simp [hx])]
    rfl
theorem digits_ok {k : Nat} (h : k ≤ 99) : figT (digits k) = true ∧ digVal (digits k) = k ∧ (digits k).all (fun c => decide (48 ≤ c) && decide (c ≤ 57)) = true := by
  have : ∀ k : Fin 100, figT (digits k.val) = true ∧ digVal (digits k.val) = k.val ∧ (digits k.val).all (fun c => decide (48 ≤ c) && decide (c ≤ 57)) = true := by decide +kernel
  exact this ⟨k, by omega⟩
theorem name_signs {x : Tx} (h : nameT x = true) : ∀ c ∈ x, 97 ≤ c ∧ c ≤ 122 := by
  unfold nameT at h
  rw [Bool.and_eq_true] at h
  intro c hc
  have := of_decide_eq_true (List.all_eq_true.mp h.2 c hc)
  have h : c ∈ [97, 98, 99, 100, 101, 102, 103, 104, 105, 106, 107, 108, 109, 110, 111, 112, 113, 114, 115, 116, 117, 118, 119, 120, 121, 122] := this
  simp only [List.mem_cons, List.not_mem_nil, or_false] at h
  omega
/-- the signs of a node's words -/
theorem words_signs {d : Nd} (o : NdOk d) : ∀ x ∈ wordsN d, ∀ c ∈ x, 48 ≤ c := by
  intro x hx
  have dg : ∀ k, k ≤ 99 → ∀ c ∈ digits k, 48 ≤ c := fun k hk c hc => by
    have := List.all_eq_true.mp (digits_ok hk).2.2 c hc
    rw [Bool.and_eq_true, decide_eq_true_eq] at this
    exact this.1
  unfold wordsN at hx
  rw [List.mem_append, List.mem_append] at hx
  rcases hx with (hx | hx) | hx
  · simp only [List.mem_cons, List.not_mem_nil, or_false] at hx
    rcases hx with rfl | rfl | rfl | rfl
    · decide
    · exact fun c hc => Nat.le_trans (by decide) (name_signs o.nm c hc).1
    · exact dg _ o.bu
    · exact dg _ o.bo
  · obtain ⟨r, hr, rfl⟩ := List.mem_map.mp hx
    exact dg r (o.re r hr)
  · cases q : d.par with
    | none => rw [q] at hx; cases hx
    | some p =>
      rw [q] at hx
      simp only [List.mem_cons, List.not_mem_nil, or_false] at hx
      rcases hx with rfl | rfl
      · decide
      · exact fun c hc => Nat.le_trans (by decide) (name_signs (o.par _ q) c hc).1
def rowN (d : Nd) : Tx := joinT [32] (wordsN d)
theorem join_mem {s : Tx} : ∀ {l : List Tx} {c : Nat}, c ∈ joinT s l → c ∈ s ∨ ∃ x ∈ l, c ∈ x
  | [], c, h => by cases h
  | [p], c, h => .inr ⟨p, by simp, h⟩
  | p :: q :: r, c, h => by
    have h : c ∈ p ++ (s ++ joinT s (q :: r)) := h
    rw [List.mem_append, List.mem_append] at h
    rcases h with h | h | h
    · exact .inr ⟨p, by simp, h⟩
    · exact .inl h
    · rcases join_mem h with h | ⟨x, hx, h⟩
      · exact .inl h
      · exact .inr ⟨x, by simp [hx], h⟩
theorem wordsN_ne (d : Nd) : wordsN d ≠ [] := by
  unfold wordsN
  simp
theorem row_split {d : Nd} (o : NdOk d) : splT 32 (rowN d) = wordsN d := splT_join (wordsN_ne d) fun x hx h => by
  have := words_signs o x hx 32 h
  omega
theorem row_no10 {d : Nd} (o : NdOk d) : 10 ∉ rowN d := fun h => by
  rcases join_mem h with h | ⟨x, hx, h⟩
  · simp at h
  · have := words_signs o x hx 10 h
    omega
theorem treeT_split {t : List Nd} (o : ∀ d ∈ t, NdOk d) : splT 10 (treeT t) = t.map rowN ++ [[]] := by
  unfold treeT
  rw [joinT_nil]
  have : t.map nodeT = (t.map rowN).map fun x => x ++ [10] := by
    rw [List.map_map]
    rfl
  rw [this]
  refine splT_rows fun x hx => ?_
  obtain ⟨d, hd, rfl⟩ := List.mem_map.mp hx
  exact row_no10 (o d hd)
/-- a tree grows node by node -/
inductive Grow : List Nd → Prop
  | nil : Grow []
  | snoc {t : List Nd} {d : Nd} (g : Grow t) (l : t.length < 6) (o : NdOk d) (n : hasNm t d.nm = false) (p : parW (encP d.par) (t.map fun d => .str d.nm) = true) (f : t = [] ∨ firstLen t = some d.re.length) : Grow (t ++ [d])
theorem Grow.ok {t : List Nd} (g : Grow t) : (∀ d ∈ t, NdOk d) ∧ t.length ≤ 6 ∧ (t = [] ∨ treeW (encT t) = true) := by
  induction g with
  | nil => exact ⟨fun d h => (nomatch h), by decide, Or.inl rfl⟩
  | @snoc t d g l o n p f ih =>
    obtain ⟨h1, h2, h3⟩ := ih
    refine ⟨fun c hd => ?_, by simp; omega, .inr ?_⟩
    · rcases List.mem_append.mp hd with hd | hd
      · exact h1 c hd
      · rw [show c = d by simpa using hd]
        exact o
    · rw [treeW_snoc h3 l, n, p, decide_eq_true f]
      have : nodeB d = true := by
        unfold nodeB
        rw [o.nm, decide_eq_true o.bu, decide_eq_true o.bo, decide_eq_true o.len.1, decide_eq_true o.len.2, List.all_eq_true.mpr fun r hr => decide_eq_true (o.re r hr)]
        rfl
      rw [this]
      rfl
theorem lawNd_row {t : List Nd} {d : Nd} (o : NdOk d) (n : hasNm t d.nm = false) (p : parW (encP d.par) (t.map fun d => .str d.nm) = true) (f : t = [] ∨ firstLen t = some d.re.length) : lawNd (wordsN d) t = some d := by
  have wd : ∀ par, par = d.par → lawWd (NODE :: d.nm :: digits d.bu :: digits d.bo :: d.re.map digits) par t = some d := fun par hp => by
    refine ofPP ?_; subst hp; refine toPP ?_
    unfold lawWd
    dsimp only
    have dr : (d.re.map digits).map digVal = d.re := by
      rw [List.map_map]
      have : d.re.map (digVal ∘ digits) = d.re.map id := List.map_congr_left fun r hr => (digits_ok (o.re r hr)).2.1
      rw [this, List.map_id]
    have al : ((digits d.bu :: digits d.bo :: d.re.map digits).all fun x => figT x && decide (digVal x ≤ 99)) = true := by
      refine List.all_eq_true.mpr fun x hx => ?_
      have key : ∀ k, k ≤ 99 → (figT (digits k) && decide (digVal (digits k) ≤ 99)) = true := fun k hk => by
        rw [(digits_ok hk).1, (digits_ok hk).2.1, decide_eq_true hk]
        rfl
      simp only [List.mem_cons, List.mem_map] at hx
      rcases hx with rfl | rfl | ⟨r, hr, rfl⟩
      · exact key _ o.bu
      · exact key _ o.bo
      · exact key r (o.re r hr)
    rw [if_pos ⟨by rw [List.length_map]; exact o.len, rfl, o.nm, n, al, by rw [List.length_map]; exact f⟩, dr, (digits_ok o.bu).2.1, (digits_ok o.bo).2.1]
  unfold lawNd
  by_cases ht : t = []
  · rw [if_pos ht]
    have hp : d.par = none := by
      rw [par_names, if_pos ht] at p
      cases q : d.par with
      | none => rfl
      | some x => rw [q] at p; cases p
    have e : wordsN d = NODE :: d.nm :: digits d.bu :: digits d.bo :: d.re.map digits := by
      unfold wordsN
      rw [hp]
      simp
    rw [e]
    exact wd none hp.symm
  · rw [if_neg ht]
    rw [par_names, if_neg ht] at p
    cases q : d.par with
    | none => rw [q] at p; cases p
    | some x =>
      rw [q] at p
      have e : wordsN d = (NODE :: d.nm :: digits d.bu :: digits d.bo :: d.re.map digits) ++ [INS, x] := by
        unfold wordsN
        rw [q]
        simp
      generalize hw : (NODE :: d.nm :: digits d.bu :: digits d.bo :: d.re.map digits) = ws at *
      have l1 : (ws ++ [INS, x]).length = ws.length + 2 := by simp
      have e2 : (ws ++ [INS, x])[(ws ++ [INS, x]).length - 2]? = some INS := by
        rw [l1, List.getElem?_append_right (by omega)]
        simp
      have e3 : lastT (ws ++ [INS, x]) = x := by
        unfold lastT
        rw [l1, List.getElem?_append_right (by omega), show ws.length + 2 - 1 - ws.length = 1 by omega]
        rfl
      rw [e, e3, if_neg, show (ws ++ [INS, x]).take ((ws ++ [INS, x]).length - 2) = ws by rw [l1]; simp]
      · exact wd (some x) q.symm
      · rintro (z | z | z)
        · omega
        · exact z e2
        · have p : hasNm t x = true := p
          rw [p] at z; cases z
theorem lawGo_app {r : Tx} {i : Nat} : ∀ {rs : List Tx} {t s : List Nd}, lawGo rs i t = .ok s → lawGo (rs ++ [r]) i t = lawGo [r] (i + rs.length) s := by
  intro rs
  induction rs generalizing i with
  | nil => intro t s h; cases h; rfl
  | cons x rs ih =>
    intro t s h
    rw [lawGo_cons] at h
    show lawGo (x :: (rs ++ [r])) i t = _
    rw [lawGo_cons]
    by_cases hi : i < 6
    · rw [if_pos hi] at h ⊢
      cases q : lawNd (splT 32 x) t with
      | none => rw [q] at h; cases h
      | some d =>
        rw [q] at h
        dsimp only at h ⊢
        rw [ih h, List.length_cons, show i + 1 + rs.length = i + (rs.length + 1) by omega]
    · rw [if_neg hi] at h
      cases h
theorem Grow.go {t : List Nd} (g : Grow t) : lawGo (t.map rowN) 0 [] = .ok t := by
  induction g with
  | nil => rfl
  | @snoc t d g l o n p f ih =>
    rw [List.map_append, List.map_cons, List.map_nil, lawGo_app ih, lawGo_cons, List.length_map, if_pos (by omega), row_split o, lawNd_row o n p f]
    rfl
theorem Grow.read {t : List Nd} (g : Grow t) (h : t ≠ []) : readT (treeT t) = .ok t := by
  rw [read_eq]
  unfold lawT rowsT
  have sp := treeT_split g.ok.1
  have e1 : (splT 10 (treeT t)).take ((splT 10 (treeT t)).length - 1) = t.map rowN := by
    rw [sp]
    simp
  have e2 : lastT (splT 10 (treeT t)) = [] := by
    rw [sp]
    unfold lastT
    rw [List.length_append, List.getElem?_append_right (by simp)]
    simp
  rw [e1, g.go]
  dsimp only
  rw [e2, if_neg]
  rintro (z | z)
  · exact z rfl
  · exact h z
end LP
/-! LP, plain: drawn names and trees. -/
namespace LP
/-- a heap by what the urn's cell holds -/
structure UrC (H : O → Hh) (u : Nat) : Prop where
  get : ∀ o, (H o)[u]? = some o
  set : ∀ o o', (H o).set u o' = H o'
  len : ∀ o o', (H o).length = (H o').length
section
variable {P : Pg} {f g n u : Nat} {H : O → Hh} {Q : W → Hh → Prop} {X : Nat → W → Hh → Prop} {o : O}
theorem nip_c (C : UrC H u) (e : P.defs[f]? = some bNip) (ho : Ur o) {m : Int} (h0 : 0 < m) (h1 : m < 1073741824) (k : ∀ r o', 0 ≤ r → r < m → Ur o' → Q (.int r) (H o')) : (cal P (n + 1) false f [.ref u, .int m] (H o)).wp Q X :=
  nip_wp e (C.get o) ho h0 h1 fun r o' r0 r1 ho' => by rw [C.set]; exact k r o' r0 r1 ho'
theorem anyT_c (C : UrC H u) (e : P.defs[f]? = some (bAny g)) (e0 : P.defs[g]? = some bNip) (ho : Ur o) {xs : List W} (h0 : 0 < xs.length) (h1 : xs.length < 1073741824) (k : ∀ v ∈ xs, ∀ o', Ur o' → Q v (H o')) : (cal P (n + 2) false f [.ref u, .tup xs] (H o)).wp Q X :=
  any_tup e e0 (C.get o) ho h0 h1 fun v hv o' ho' => by rw [C.set]; exact k v hv o' ho'
theorem anyS_c (C : UrC H u) (e : P.defs[f]? = some (bAny g)) (e0 : P.defs[g]? = some bNip) (ho : Ur o) {x : Tx} (h0 : 0 < x.length) (h1 : x.length < 1073741824) (k : ∀ c ∈ x, ∀ o', Ur o' → Q (.str [c]) (H o')) : (cal P (n + 2) false f [.ref u, .str x] (H o)).wp Q X :=
  any_str e e0 (C.get o) ho h0 h1 fun v hv o' ho' => by rw [C.set]; exact k v hv o' ho'
theorem anyR_c (C : UrC H u) (e : P.defs[f]? = some (bAny g)) (e0 : P.defs[g]? = some bNip) (ho : Ur o) {m : Nat} {xs : List W} (hm : (H o)[m]? = some (.lst xs)) (hmu : m ≠ u) (h0 : 0 < xs.length) (h1 : xs.length < 1073741824) (k : ∀ v ∈ xs, ∀ o', Ur o' → Q v (H o')) : (cal P (n + 2) false f [.ref u, .ref m] (H o)).wp Q X :=
  any_ref e e0 (C.get o) ho hm hmu h0 h1 fun v hv o' ho' => by rw [C.set]; exact k v hv o' ho'
end
theorem anyN_c {P : Pg} {f g n u : Nat} {H : O → Hh} {Q : W → Hh → Prop} {X : Nat → W → Hh → Prop} {o : O} (C : UrC H u) (e : P.defs[f]? = some (bAny g)) (e0 : P.defs[g]? = some bNip) (ho : Ur o) {xs : List W} (h0 : 0 < xs.length) (h1 : xs.length < 1073741824) (lo hi : Nat) (hx : ∀ v ∈ xs, ∃ k : Nat, v = .int (k : Nat) ∧ lo ≤ k ∧ k ≤ hi) (k : ∀ (b : Nat) o', lo ≤ b → b ≤ hi → Ur o' → Q (.int (b : Nat)) (H o')) : (cal P (n + 2) false f [.ref u, .tup xs] (H o)).wp Q X :=
  anyT_c C e e0 ho h0 h1 fun v hv o' ho' => by
    obtain ⟨b, rfl, b1, b2⟩ := hx v hv
    exact k b o' b1 b2 ho'
theorem nat_in {r : Int} {m : Nat} (h0 : 0 ≤ r) (h1 : r < m) : ∃ k : Nat, W.int r = .int (k : Nat) ∧ 0 ≤ k ∧ k ≤ m - 1 := ⟨r.toNat, by congr 1; omega, Nat.zero_le _, by omega⟩
theorem wp_fun {p : Prop} (h : p) : p := h
theorem nodup_len : ∀ {a b : List Tx}, a.Nodup → (∀ x ∈ a, x ∈ b) → a.length ≤ b.length
  | [], b, _, _ => Nat.zero_le _
  | x :: a, b, hn, hs => by
    have hx := hs x List.mem_cons_self
    rw [List.nodup_cons] at hn
    have ih := nodup_len (a := a) (b := b.erase x) hn.2 fun y hy => (List.mem_erase_of_ne (fun z => hn.1 (by rw [← z]; exact hy))).mpr (hs y (List.mem_cons_of_mem _ hy))
    rw [List.length_erase_of_mem hx] at ih
    have : 0 < b.length := List.length_pos_of_mem hx
    rw [List.length_cons]
    omega
def bLawName (nip any : Nat) : Df := ⟨2, 5, false, [(.set 2 (.str [])), (.fo (.nm 3) .r1 [(.bin false .add (.int 1) (.call nip [(.var 0), (.call any [(.var 0), (.tup [(.int 2), (.int 4), (.int 8)])])]))] [(.set 2 (.bin false .add (.var 2) (.call any [(.var 0), (.str letters)])))]), (.fo (.nm 4) .seq [(.str letters)] [(.iff (.cmp .nin (.var 2) (.var 1)) [(.ret (.var 2))] []), (.set 2 (.bin false .add (.slt false (.var 2) (.int 7)) (.var 4)))]), (.ret (.var 2))]⟩
example : K88.dfs[20]? = some (bLawName 17 18) := rfl
theorem nameT_of {x : Tx} (h1 : 1 ≤ x.length) (h2 : x.length ≤ 8) (h3 : ∀ c ∈ x, c ∈ letters) : nameT x = true := by
  unfold nameT
  rw [decide_eq_true h1, decide_eq_true h2, List.all_eq_true.mpr fun c hc => decide_eq_true (h3 c hc)]
  rfl
theorem rgOk_small {i : Int} (h0 : 0 ≤ i) (h1 : i ≤ 1000000) : rgOk i = true := by
  unfold rgOk
  rw [Bool.and_eq_true, decide_eq_true_eq, decide_eq_true_eq]
  omega
theorem iv_r1n {h : Hh} {i : Int} (h0 : 0 ≤ i) (h1 : i ≤ 1000000) : ivC h .r1 [.int i] = some (.rg 0 1 i.toNat) := by
  show (if rgOk i then some (Iv.rg 0 1 i.toNat) else none) = _
  rw [rgOk_small h0 h1]
  rfl
section
variable {P : Pg} {f nip any n u m : Nat} {H : O → Hh} {Q : W → Hh → Prop} {X : Nat → W → Hh → Prop} {o : O}
theorem lawName_wp (C : UrC H u) (e : P.defs[f]? = some (bLawName nip any)) (en : P.defs[nip]? = some bNip) (ea : P.defs[any]? = some (bAny nip)) (ho : Ur o) {ns : List Tx} (hm : ∀ o, (H o)[m]? = some (.lst (ns.map .str))) (hl : ns.length ≤ 20) (k : ∀ x o', Ur o' → nameT x = true → x ∉ ns → Q (.str x) (H o')) : (cal P (n + 3) false f [.ref u, .ref m] (H o)).wp Q X := by
  refine wp_callf e rfl rfl (fun w h' => ∃ x o', Ur o' ∧ nameT x = true ∧ x ∉ ns ∧ w = .str x ∧ h' = H o') ?_ fun w h' ⟨x, o', a1, a2, a3, a4, a5⟩ => by rw [a4, a5]; exact k x o' a1 a2 a3
  show (exs P (cal P (n + 2)) false (bLawName nip any).body [some (.ref u), some (.ref m), none, none, none] (H o)).wp _
  unfold bLawName
  refine exs_c_eq (h' := H o) (ρ' := [some (.ref u), some (.ref m), some (.str []), none, none]) (by simp_arith []) ?_
  refine exs_c_wp (ex_fo_wp ?_)
  simp_arith []
  refine anyT_c C ea en ho (by simp) (by simp) fun v hv o1 ho1 => ?_
  obtain ⟨j, rfl, j1, j8⟩ : ∃ j : Int, v = .int j ∧ 1 ≤ j ∧ j ≤ 8 := by
    simp only [List.mem_cons, List.not_mem_nil, or_false] at hv
    rcases hv with rfl | rfl | rfl
    · exact ⟨2, rfl, by decide, by decide⟩
    · exact ⟨4, rfl, by decide, by decide⟩
    · exact ⟨8, rfl, by decide, by decide⟩
  simp_arith []
  refine nip_c C en ho1 (by omega) (by omega) fun r o2 r0 r1 ho2 => ?_
  simp_arith []
  refine ⟨_, (List.range (1 + r).toNat).map fun (i : Nat) => W.int (i : Nat), fun i ρ h' => ∃ o x a b, Ur o ∧ h' = H o ∧ ρ = [some (.ref u), some (.ref m), some (.str x), a, b] ∧ x.length = i ∧ ∀ c ∈ x, c ∈ letters, iv_r1n (by omega) (by omega), itm_rg.1, ⟨o2, [], none, none, ho2, rfl, rfl, rfl, fun c hc => nomatch hc⟩, fun i ρ h' _ => itm_rg.2 i, fun i y ρ h' hy J => ?_, fun ρ h' J => ?_⟩
  · refine ofPP ?_; obtain ⟨o3, x, a, b, ho3, rfl, rfl, hx, hc⟩ := J; refine toPP ?_
    have hi : i < (1 + r).toNat := by have := (List.getElem?_eq_some_iff.mp hy).1; simpa using this
    unfold foTu
    simp_arith []
    refine anyS_c C ea en ho3 (by decide) (by decide) fun c hc' o4 ho4 => ?_
    have mx := mkX_ok (h := H o4) (x := x ++ [c]) (lt_big (m := 20) (by simp; omega) (by decide))
    simp_arith [mx]
    refine ⟨o4, x ++ [c], _, _, ho4, rfl, rfl, by simp [hx], fun d hd => ?_⟩
    rcases List.mem_append.mp hd with hd | hd
    · exact hc d hd
    · rw [show d = c by simpa using hd]
      exact hc'
  · refine ofPP ?_; obtain ⟨o3, x, a, b, ho3, rfl, rfl, hx, hc⟩ := J; refine toPP ?_
    rw [List.length_map, List.length_range] at hx
    refine ex_fo_wp ?_
    simp_arith []
    refine ⟨_, letters.map fun c => .str [c], fun i ρ h' => h' = H o3 ∧ ∃ y a b Cs, ρ = [some (.ref u), some (.ref m), some (.str y), a, b] ∧ nameT y = true ∧ (1 ≤ i → y[y.length - 1]? = letters[i - 1]?) ∧ Cs.Nodup ∧ (∀ x ∈ Cs, x ∈ ns) ∧ Cs.length + 1 = max i 1 ∧ ∀ x ∈ Cs, ∃ j, j + 1 < i ∧ x[x.length - 1]? = letters[j]?, rfl, itm_str.1, ⟨rfl, x, _, _, [], rfl, nameT_of (by omega) (by omega) hc, fun z => absurd z (by decide), List.nodup_nil, fun x hx => (nomatch hx), rfl, fun x hx => (nomatch hx)⟩, fun i ρ h' _ => itm_str.2 i, fun i z ρ h' hz J => ?_, fun ρ h' J => ?_⟩
    · refine ofPP ?_; obtain ⟨rfl, y, a, b, Cs, rfl, hy, hlast, hnd, hsub, hlen, hcs⟩ := J; refine toPP ?_
      have hi : i < letters.length := by have := (List.getElem?_eq_some_iff.mp hz).1; simpa using this
      obtain rfl : W.str [letters[i]] = z := by
        rw [List.getElem?_map, List.getElem?_eq_getElem hi] at hz
        exact Option.some.inj hz
      have inr := in_ref (a := .str y) (hm o3) rfl (by rw [List.all_map]; exact List.all_eq_true.mpr fun _ _ => rfl)
      have anyE : ((ns.map W.str).any fun z => eqB z (.str y)) = decide (y ∈ ns) := by
        rw [List.any_map, Bool.eq_iff_iff, List.any_eq_true, decide_eq_true_eq]
        constructor
        · rintro ⟨z, hz, e⟩
          have e : (z == y) = true := e
          rw [← eq_of_beq e]
          exact hz
        · intro hz
          exact ⟨y, hz, beq_self_eq_true y⟩
      rw [anyE] at inr
      unfold foTu
      by_cases q : y ∈ ns
      · have hyl := nameT_len hy
        have t7 : cutW y none (some 7) = y.take 7 := by rw [show (7 : Int) = ((7 : Nat) : Int) from rfl, cut_to]
        have mx := mkX_ok (h := H o3) (x := y.take 7 ++ [letters[i]]) (lt_big (m := 20) (by simp; omega) (by decide))
        simp_arith [inr, decide_eq_true q, t7, mx]
        have hnew : nameT (y.take 7 ++ [letters[i]]) = true := by
          refine nameT_of (by simp) (by simp; omega) fun c hc => ?_
          rcases List.mem_append.mp hc with hc | hc
          · unfold nameT at hy
            rw [Bool.and_eq_true] at hy
            exact of_decide_eq_true (List.all_eq_true.mp hy.2 c (List.mem_of_mem_take hc))
          · rw [show c = letters[i] by simpa using hc]
            exact List.getElem_mem hi
        have hlast2 : (y.take 7 ++ [letters[i]])[(y.take 7 ++ [letters[i]]).length - 1]? = letters[i]? := by
          rw [List.getElem?_eq_getElem hi]
          simp
        by_cases hi0 : i = 0
        · refine ofPP ?_; subst hi0; refine toPP ?_
          exact ⟨_, _, _, [], rfl, hnew, hlast2, List.nodup_nil, fun x hx => (nomatch hx), rfl, fun x hx => (nomatch hx)⟩
        · refine ⟨_, _, _, y :: Cs, rfl, hnew, hlast2, ?_, ?_, ?_, ?_⟩
          · rw [List.nodup_cons]
            refine ⟨fun hy' => ?_, hnd⟩
            obtain ⟨j, hj, e⟩ := hcs y hy'
            rw [hlast (by omega)] at e
            have : ∀ a b : Fin 26, letters[a.val]? = letters[b.val]? → a = b := by decide
            have := this ⟨i - 1, by have : letters.length = 26 := rfl; omega⟩ ⟨j, by have : letters.length = 26 := rfl; omega⟩ e
            have := congrArg Fin.val this
            simp at this
            omega
          · intro z hz
            rcases List.mem_cons.mp hz with rfl | hz
            · exact q
            · exact hsub z hz
          · rw [List.length_cons]
            omega
          · intro z hz
            rcases List.mem_cons.mp hz with rfl | hz
            · exact ⟨i - 1, by omega, hlast (by omega)⟩
            · obtain ⟨j, hj, e⟩ := hcs z hz
              exact ⟨j, by omega, e⟩
      · simp_arith [inr, decide_eq_false q]
        exact ⟨y, o3, ho3, hy, q, rfl, rfl⟩
    · refine ofPP ?_; obtain ⟨rfl, y, a, b, Cs, rfl, hy, hlast, hnd, hsub, hlen, hcs⟩ := J; refine toPP ?_
      have := nodup_len hnd hsub
      have e26 : (letters.map fun c => W.str [c]).length = 26 := rfl
      rw [e26] at hlen
      omega
end
def bLawTree (nip any name : Nat) : Df := ⟨3, 12, false, [(.par [4, 5, 6] [(.call any [(.var 0), (.tup [(.int 1), (.int 1), (.int 2), (.int 3), (.int 4)])]), (.tup []), (.lst true [])]), (.fo (.nm 3) .r1 [(.call any [(.var 0), (.tup [(.int 1), (.int 2), (.int 3), (.int 3), (.var 1), (.var 1)])])] [(.set 7 (.call name [(.var 0), (.var 6)])), (.par [9, 10] [(.call any [(.var 0), (.tup [(.int 1), (.int 2), (.int 3), (.int 4), (.int 5), (.call nip [(.var 0), (.bin false .add (.ix (.var 2) (.int 0)) (.int 1))])])]), (.call any [(.var 0), (.tup [(.int 0), (.int 0), (.int 0), (.int 1), (.call nip [(.var 0), (.bin false .add (.ix (.var 2) (.int 1)) (.int 1))])])])]), (.set 8 (.blt .tup [(.lc false (.call any [(.var 0), (.tup [(.int 0), (.int 0), (.int 1), (.int 1), (.int 2), (.call nip [(.var 0), (.bin false .add (.ix (.var 2) (.int 0)) (.int 1))])])]) (.nm 11) .r1 [(.var 4)] [] [11])])), (.set 5 (.bin false .add (.var 5) (.tup [(.tup [(.var 7), (.ite (.cmp .gt (.var 3) (.int 0)) (.call any [(.var 0), (.var 6)]) .non), (.bin false .add (.var 9) (.ite (.and (.cmp .eq (.var 3) (.int 0)) (.cmp .lt (.var 9) (.int 6))) (.int 3) (.int 0))), (.var 8), (.var 10)])]))), (.exp (.mth .append (.var 6) [(.var 7)]))]), (.ret (.var 5))]⟩
example : K88.dfs[21]? = some (bLawTree 17 18 20) := rfl
/-- the urn's heap and a list of names behind -/
theorem urc_names {h : Hh} {u : Nat} (hu : u < h.length) (c : O) : UrC (fun o => h.set u o ++ [c]) u := by
  refine ⟨fun o => ?_, fun o o' => ?_, fun o o' => by simp⟩
  · rw [List.getElem?_append_left (by simpa using hu), List.getElem?_set_self hu]
  · rw [List.set_append_left _ _ (by simpa using hu), List.set_set]
theorem urc_self {h : Hh} {u : Nat} (hu : u < h.length) : UrC (fun o => h.set u o) u := ⟨fun o => List.getElem?_set_self hu, fun o o' => List.set_set .., fun o o' => by simp⟩
theorem nat_of {j : Int} (h0 : 0 ≤ j) : ∃ k : Nat, j = k ∧ k = j.toNat := ⟨j.toNat, by omega, rfl⟩
section
variable {P : Pg} {f nip any name n u : Nat} {h : Hh} {H : O → Hh} {Q : W → Hh → Prop} {X : Nat → W → Hh → Prop} {o : O}
/-- the refills of a node -/
theorem refill_wp (C : UrC H u) (en : P.defs[nip]? = some bNip) (ea : P.defs[any]? = some (bAny nip)) (ho : Ur o) {ρ : Env} {p : Nat} (hp : 1 ≤ p ∧ p ≤ 4) (h0 : ρ[0]? = some (some (.ref u))) (h2 : ρ[2]? = some (some (.tup [.int 99, .int 99]))) (h4 : ρ[4]? = some (some (.int (p : Nat)))) (hl : ρ.length = 12)
    (k : ∀ l o', Ur o' → l.length = p → (∀ r ∈ l, r ≤ 99) → Q (.lst (encI l)) (H o')) : (ev P false (cal P (n + 2) false) false (.lc false (.call any [(.var 0), (.tup [(.int 0), (.int 0), (.int 1), (.int 1), (.int 2), (.call nip [(.var 0), (.bin false .add (.ix (.var 2) (.int 0)) (.int 1))])])]) (.nm 11) .r1 [(.var 4)] [] [11]) ρ (H o)).wp Q X := by
  refine ev_lc_wp rfl ?_
  simp_arith [h4]
  refine ⟨_, (List.range p).map fun (i : Nat) => W.int (i : Nat), fun i acc h' => ∃ o l, Ur o ∧ h' = H o ∧ acc = encI l ∧ l.length = i ∧ ∀ r ∈ l, r ≤ 99, iv_r1n (by omega) (by omega), itm_rg.1, ⟨o, [], ho, rfl, rfl, rfl, fun r hr => nomatch hr⟩, fun i acc h' _ => itm_rg.2 i, fun j y acc h' hy J => ?_, fun acc h' J => ?_⟩
  · refine ofPP ?_; obtain ⟨o3, l, ho3, rfl, rfl, hll, hl9⟩ := J; refine toPP ?_
    have hi : j < p := by have := (List.getElem?_eq_some_iff.mp hy).1; simpa using this
    have g0 : ((ρ.set 11 none).set 11 (some y))[0]? = some (some (.ref u)) := by rw [List.getElem?_set_ne (by decide), List.getElem?_set_ne (by decide), h0]
    have g2 : ((ρ.set 11 none).set 11 (some y))[2]? = some (some (.tup [.int 99, .int 99])) := by rw [List.getElem?_set_ne (by decide), List.getElem?_set_ne (by decide), h2]
    unfold lcTu
    simp_arith [g0, g2]
    refine nip_c C en ho3 (by decide) (by decide) fun r1 o4 r10 r11 ho4 => ?_
    try simp_arith []
    refine anyN_c C ea en ho4 (by simp) (by simp) 0 99 (fun v hv => ?_) fun b o5 _ b9 ho5 => ?_
    · simp only [List.mem_cons, List.not_mem_nil, or_false] at hv
      rcases hv with rfl | rfl | rfl | rfl | rfl | rfl
      · exact ⟨0, rfl, by decide, by decide⟩
      · exact ⟨0, rfl, by decide, by decide⟩
      · exact ⟨1, rfl, by decide, by decide⟩
      · exact ⟨1, rfl, by decide, by decide⟩
      · exact ⟨2, rfl, by decide, by decide⟩
      · exact nat_in (m := 100) r10 (by omega)
    have lb : (encI l).length < big := by unfold encI big; rw [List.length_map]; omega
    simp_arith [lb]
    refine ⟨o5, l ++ [b], ho5, rfl, by unfold encI; rw [List.map_append]; rfl, by simp [hll], fun r hr => ?_⟩
    rcases List.mem_append.mp hr with hr | hr
    · exact hl9 r hr
    · rw [show r = b by simpa using hr]
      exact b9
  · refine ofPP ?_; obtain ⟨o3, l, ho3, rfl, rfl, hll, hl9⟩ := J; refine toPP ?_
    rw [List.length_map, List.length_range] at hll
    rw [lcEnd_f, wp_ok]
    exact k l o3 ho3 hll hl9
/-- the state between two nodes -/
def TSt (h : Hh) (u p i : Nat) (ρ : Env) (h' : Hh) : Prop := ∃ o t a b c d e f, Ur o ∧ h' = h.set u o ++ [O.lst (t.map fun d => .str d.nm)] ∧ ρ = [some (.ref u), some (.int 6), some (.tup [.int 99, .int 99]), a, some (.int (p : Nat)), some (encT t), some (.ref h.length), b, c, d, e, f] ∧ Grow t ∧ t.length = i ∧ (t = [] ∨ firstLen t = some p)
/-- the end of a turn: the node is put in -/
theorem turn_end (hu : u < h.length) (en : P.defs[nip]? = some bNip) (ea : P.defs[any]? = some (bAny nip)) (ho : Ur o) {i p bu bo : Nat} {x : Tx} {re : List Nat} {t : List Nd} {f11 : Option W} {D : Ps} (hi : i < 6) (hp : 1 ≤ p ∧ p ≤ 4) (hx : nameT x = true) (hn : hasNm t x = false) (hbu : bu ≤ 99) (hbo : bo ≤ 99) (hrl : re.length = p) (hr9 : ∀ r ∈ re, r ≤ 99) (gt : Grow t) (tl : t.length = i) (tp : t = [] ∨ firstLen t = some p) (k : ∀ ρ' h', TSt h u p (i + 1) ρ' h' → D.nx ρ' h') :
    (exs P (cal P (n + 3)) false [(.set 5 (.bin false .add (.var 5) (.tup [(.tup [(.var 7), (.ite (.cmp .gt (.var 3) (.int 0)) (.call any [(.var 0), (.var 6)]) .non), (.bin false .add (.var 9) (.ite (.and (.cmp .eq (.var 3) (.int 0)) (.cmp .lt (.var 9) (.int 6))) (.int 3) (.int 0))), (.var 8), (.var 10)])]))), (.exp (.mth .append (.var 6) [(.var 7)]))] [some (.ref u), some (.int 6), some (.tup [.int 99, .int 99]), some (.int (i : Nat)), some (.int (p : Nat)), some (encT t), some (.ref h.length), some (.str x), some (.tup (encI re)), some (.int (bu : Nat)), some (.int (bo : Nat)), f11] (h.set u o ++ [O.lst (t.map fun d => W.str d.nm)])).wp D := by
  have C := urc_names (h := h) hu (O.lst (t.map fun d => W.str d.nm))
  have hcell : ∀ o : O, (h.set u o ++ [O.lst (t.map fun d => W.str d.nm)])[h.length]? = some (.lst (t.map fun d => .str d.nm)) := fun o => by
    rw [List.getElem?_append_right (by simp)]
    simp
  have xt := ex_dat (encT_dat t)
  have xr : isExn (.tup (encI re)) = false := rfl
  have add : ∀ (pw : W) (bi : Int) (o : O), binO false .add (encT t) (.tup [.tup [.str x, pw, .int bi, .tup (encI re), .int (bo : Nat)]]) (h.set u o ++ [O.lst (t.map fun d => W.str d.nm)]) = .ok (.tup (t.map encN ++ [.tup [.str x, pw, .int bi, .tup (encI re), .int (bo : Nat)]])) (h.set u o ++ [O.lst (t.map fun d => W.str d.nm)]) := fun pw bi o => by
    show mkT (t.map encN ++ [_]) _ = _
    rw [mkT_ok (lt_big (m := 10) (by simp; omega) (by decide))]
  have ma := fun o => (meL_append (a := .str x) (hcell o) (by unfold big; rw [List.length_map]; omega)).1
  have mb := fun o => (meL_append (a := .str x) (hcell o) (by unfold big; rw [List.length_map]; omega)).2
  -- behind the parent and the burst
  have fin : ∀ (par : Option Tx) (bu' : Nat) (o : O) (a3 : Option W) (a9 : Option W), Ur o → bu' ≤ 99 → parW (encP par) (t.map fun d => .str d.nm) = true → (∀ q, par = some q → nameT q = true) →
      D.nx [some (.ref u), some (.int 6), some (.tup [.int 99, .int 99]), a3, some (.int (p : Nat)), some (.tup (t.map encN ++ [.tup [.str x, encP par, .int (bu' : Nat), .tup (encI re), .int (bo : Nat)]])), some (.ref h.length), some (.str x), some (.tup (encI re)), a9, some (.int (bo : Nat)), f11] ((h.set u o ++ [O.lst (t.map fun d => W.str d.nm)]).set h.length (O.lst (t.map (fun d => W.str d.nm) ++ [.str x]))) := by
    intro par bu' o a3 a9 ho hb' hpar hparn
    have okd : NdOk ⟨x, par, bu', re, bo⟩ := ⟨hx, hparn, hb', hbo, hr9, by rw [hrl]; exact hp⟩
    refine k _ _ ⟨o, t ++ [⟨x, par, bu', re, bo⟩], _, _, _, _, _, _, ho, ?_, by unfold encT; rw [List.map_append]; rfl, .snoc gt (by omega) okd hn hpar (tp.imp_right fun z => by rw [z, ← hrl]), by simp [tl], ?_⟩
    · rw [List.map_append, List.set_append_right _ _ (by simp)]
      simp
    · refine .inr ?_
      rcases tp with rfl | tp
      · show some re.length = _
        rw [hrl]
      · cases t with
        | nil => cases tp
        | cons c t => exact tp
  by_cases hi0 : i = 0
  · have i0 : ¬ ((0 : Int) < (i : Nat)) := by omega
    have i0' : ((i : Nat) : Int) = 0 := by omega
    have t0 : t = [] := List.length_eq_zero_iff.mp (by omega)
    have pn : parW (encP none) (t.map fun d => .str d.nm) = true := by rw [t0]; rfl
    by_cases hb6 : bu < 6
    · have hb6' : ((bu : Nat) : Int) < 6 := by omega
      have f1 := fun a3 a9 => fin none (bu + 3) o a3 a9 ho (by omega) pn (fun q z => by cases z)
      rw [show (((bu + 3 : Nat)) : Int) = (bu : Int) + 3 by omega] at f1
      simp_arith [i0, i0', hb6', xt, add, ma, mb]
      exact f1 _ _
    · have hb6' : ¬ ((bu : Nat) : Int) < 6 := by omega
      have f1 := fun a3 a9 => fin none bu o a3 a9 ho hbu pn (fun q z => by cases z)
      simp_arith [i0, i0', hb6', xt, add, ma, mb, Int.add_zero]
      exact f1 _ _
  · have i0 : (0 : Int) < (i : Nat) := by omega
    have i0' : ¬ ((i : Nat) : Int) = 0 := by omega
    have tne : t ≠ [] := fun z => by rw [z] at tl; exact hi0 tl.symm
    simp_arith [i0, i0', xt, Int.add_zero]
    refine anyR_c (H := fun o => h.set u o ++ [O.lst (t.map fun d => .str d.nm)]) C ea en ho (hcell o) (by omega) (by rw [List.length_map]; omega) (by rw [List.length_map]; omega) fun v hv o2 ho2 => ?_
    obtain ⟨d, hd, rfl⟩ := List.mem_map.mp hv
    have f1 := fun a3 a9 => fin (some d.nm) bu o2 a3 a9 ho2 hbu (by
      rw [par_names, if_neg tne]
      exact List.any_eq_true.mpr ⟨d, hd, decide_eq_true rfl⟩) (fun q z => by
      cases z
      exact (gt.ok.1 d hd).nm)
    simp_arith [add, ma, mb, i0, i0', xt, Int.add_zero]
    exact f1 _ _
theorem turn_wp (hu : u < h.length) (en : P.defs[nip]? = some bNip) (ea : P.defs[any]? = some (bAny nip)) (em : P.defs[name]? = some (bLawName nip any)) {i p : Nat} {D : Ps} {ρ : Env} {h' : Hh} (hi : i < 6) (hp : 1 ≤ p ∧ p ≤ 4) (J : TSt h u p i ρ h') (k : ∀ ρ' h', TSt h u p (i + 1) ρ' h' → D.nx ρ' h') :
    (foTu P (cal P (n + 3)) false (.nm 3) [(.set 7 (.call name [(.var 0), (.var 6)])), (.par [9, 10] [(.call any [(.var 0), (.tup [(.int 1), (.int 2), (.int 3), (.int 4), (.int 5), (.call nip [(.var 0), (.bin false .add (.ix (.var 2) (.int 0)) (.int 1))])])]), (.call any [(.var 0), (.tup [(.int 0), (.int 0), (.int 0), (.int 1), (.call nip [(.var 0), (.bin false .add (.ix (.var 2) (.int 1)) (.int 1))])])])]), (.set 8 (.blt .tup [(.lc false (.call any [(.var 0), (.tup [(.int 0), (.int 0), (.int 1), (.int 1), (.int 2), (.call nip [(.var 0), (.bin false .add (.ix (.var 2) (.int 0)) (.int 1))])])]) (.nm 11) .r1 [(.var 4)] [] [11])])), (.set 5 (.bin false .add (.var 5) (.tup [(.tup [(.var 7), (.ite (.cmp .gt (.var 3) (.int 0)) (.call any [(.var 0), (.var 6)]) .non), (.bin false .add (.var 9) (.ite (.and (.cmp .eq (.var 3) (.int 0)) (.cmp .lt (.var 9) (.int 6))) (.int 3) (.int 0))), (.var 8), (.var 10)])]))), (.exp (.mth .append (.var 6) [(.var 7)]))] (.int (i : Nat)) ρ h').wp D := by
  refine ofPP ?_; obtain ⟨o3, t, a, b, c, d, e', f', ho3, rfl, rfl, gt, tl, tp⟩ := J; refine toPP ?_
  have C := urc_names (h := h) hu (O.lst (t.map fun d => .str d.nm))
  have hcell : ∀ o : O, (h.set u o ++ [O.lst (t.map fun d => W.str d.nm)])[h.length]? = some (.lst (t.map fun d => .str d.nm)) := fun o => by
    rw [List.getElem?_append_right (by simp)]
    simp
  have mnm : (t.map fun d => W.str d.nm) = (t.map fun d => d.nm).map .str := by rw [List.map_map]; rfl
  unfold foTu
  rw [asgN_nm, onO_s]
  simp only [sv_set0, sv_setS]
  refine exs_c_wp ?_
  simp only [ex_set, wp_rf, ev_call, evs_c, evs_n, ev_var, sv_get0, sv_getS, sv_joinS, outV_s, isExn_ref, sv_ft, sv_false, fin_f, bnd_ok', wp_bnd, wp_ok]
  refine lawName_wp (H := fun o => h.set u o ++ [O.lst (t.map fun d => .str d.nm)]) C em en ea ho3 (ns := t.map fun d => d.nm) (fun o => by rw [← mnm]; exact hcell o) (by rw [List.length_map]; omega) fun x o4 ho4 hx hxn => ?_
  rw [wf_nx]
  show (exs P (cal P (n + 3)) false _ _ _).wp D
  have hn : hasNm t x = false := by
    cases q : hasNm t x with
    | false => rfl
    | true =>
      obtain ⟨d, hd, e⟩ := List.any_eq_true.mp q
      exact absurd (List.mem_map.mpr ⟨d, hd, of_decide_eq_true e⟩) hxn
  refine exs_c_wp ?_
  simp_arith []
  refine nip_c (H := fun o => h.set u o ++ [O.lst (t.map fun d => .str d.nm)]) C en ho4 (by decide) (by decide) fun r1 o5 r10 r11 ho5 => ?_
  try simp_arith []
  refine anyN_c (H := fun o => h.set u o ++ [O.lst (t.map fun d => .str d.nm)]) C ea en ho5 (by simp) (by simp) 0 99 (fun v hv => ?_) fun bu o6 _ bu9 ho6 => ?_
  · simp only [List.mem_cons, List.not_mem_nil, or_false] at hv
    rcases hv with rfl | rfl | rfl | rfl | rfl | rfl
    · exact ⟨1, rfl, by decide, by decide⟩
    · exact ⟨2, rfl, by decide, by decide⟩
    · exact ⟨3, rfl, by decide, by decide⟩
    · exact ⟨4, rfl, by decide, by decide⟩
    · exact ⟨5, rfl, by decide, by decide⟩
    · exact nat_in (m := 100) r10 (by omega)
  try simp_arith []
  refine nip_c (H := fun o => h.set u o ++ [O.lst (t.map fun d => .str d.nm)]) C en ho6 (by decide) (by decide) fun r2 o7 r20 r21 ho7 => ?_
  try simp_arith []
  refine anyN_c (H := fun o => h.set u o ++ [O.lst (t.map fun d => .str d.nm)]) C ea en ho7 (by simp) (by simp) 0 99 (fun v hv => ?_) fun bo o8 _ bo9 ho8 => ?_
  · simp only [List.mem_cons, List.not_mem_nil, or_false] at hv
    rcases hv with rfl | rfl | rfl | rfl | rfl
    · exact ⟨0, rfl, by decide, by decide⟩
    · exact ⟨0, rfl, by decide, by decide⟩
    · exact ⟨0, rfl, by decide, by decide⟩
    · exact ⟨1, rfl, by decide, by decide⟩
    · exact nat_in (m := 100) r20 (by omega)
  try simp_arith []
  refine refill_wp (H := fun o => h.set u o ++ [O.lst (t.map fun d => .str d.nm)]) C en ea ho8 hp rfl rfl rfl rfl fun l o9 ho9 hl hl9 => ?_
  simp_arith []
  have := turn_end (D := D) (n := n) (f11 := f') hu en ea ho9 hi hp hx hn bu9 bo9 hl hl9 gt tl tp k
  simp_arith [] at this
  exact this
theorem lawTree_wp (hu : u < h.length) (e : P.defs[f]? = some (bLawTree nip any name)) (en : P.defs[nip]? = some bNip) (ea : P.defs[any]? = some (bAny nip)) (em : P.defs[name]? = some (bLawName nip any)) (ho : Ur o) (k : ∀ t o' ns, Ur o' → Grow t → t ≠ [] → ns.all flat = true → Q (encT t) (h.set u o' ++ [O.lst ns])) : (cal P (n + 4) false f [.ref u, .int 6, .tup [.int 99, .int 99]] (h.set u o)).wp Q X := by
  refine wp_callf e rfl rfl (fun w h' => ∃ t o' ns, Ur o' ∧ Grow t ∧ t ≠ [] ∧ ns.all flat = true ∧ w = encT t ∧ h' = h.set u o' ++ [O.lst ns]) ?_ fun w h' ⟨t, o', ns, a1, a2, a3, a4, a5, a6⟩ => by rw [a5, a6]; exact k t o' ns a1 a2 a3 a4
  show (exs P (cal P (n + 3)) false (bLawTree nip any name).body [some (.ref u), some (.int 6), some (.tup [.int 99, .int 99]), none, none, none, none, none, none, none, none, none] (h.set u o)).wp _
  unfold bLawTree
  have C0 := urc_self hu
  refine exs_c_wp ?_
  simp only [ex_par, evs_c, evs_n, ev_call, ev_var, ev_tup, ev_int, ev_lst, sv_get0, sv_getS, sv_joinS, outV_s, isExn_ref, sv_ft, sv_false, fin_f, bnd_ok', wp_bnd, wp_ok, wp_rfs, mkT_ok, sv_len0, sv_lenS, bg0, bg1, bg2, bg3, bg4, bg5, bg6, Nat.zero_add, Nat.reduceAdd]
  refine anyN_c (H := fun o => h.set u o) C0 ea en ho (by simp) (by simp) 1 4 (fun v hv => ?_) fun p o1 p1 p4 ho1 => ?_
  · simp only [List.mem_cons, List.not_mem_nil, or_false] at hv
    rcases hv with rfl | rfl | rfl | rfl | rfl
    · exact ⟨1, rfl, by decide, by decide⟩
    · exact ⟨1, rfl, by decide, by decide⟩
    · exact ⟨2, rfl, by decide, by decide⟩
    · exact ⟨3, rfl, by decide, by decide⟩
    · exact ⟨4, rfl, by decide, by decide⟩
  have lh : ∀ o : O, (h.set u o).length = h.length := fun o => by simp
  simp only [evs_c, evs_n, ev_call, ev_var, ev_tup, ev_int, ev_lst, sv_get0, sv_getS, sv_joinS, outV_s, isExn_ref, isExn_int, sv_ft, sv_false, fin_f, bnd_ok', wp_bnd, wp_ok, wp_rfs, mkT_ok, sv_lenS, mkL_r, sv_len0, bg0, onO_s, setAll_c, setAll_n, sv_set0, sv_setS, wf_nx, lh]
  refine exs_c_wp (ex_fo_wp ?_)
  simp only [evs_c, evs_n, ev_call, ev_var, ev_tup, ev_int, ev_lst, sv_get0, sv_getS, sv_joinS, outV_s, isExn_ref, isExn_int, sv_ft, sv_false, fin_f, bnd_ok', wp_bnd, wp_ok, wp_rfs, mkT_ok, sv_len0, sv_lenS, bg0, bg1, bg2, bg3, bg4, bg5, bg6, Nat.zero_add, Nat.reduceAdd]
  refine anyN_c (H := fun o => h.set u o ++ [O.lst []]) (urc_names hu _) ea en ho1 (by simp) (by simp) 1 6 (fun v hv => ?_) fun N o2 N1 N6 ho2 => ?_
  · simp only [List.mem_cons, List.not_mem_nil, or_false] at hv
    rcases hv with rfl | rfl | rfl | rfl | rfl | rfl
    · exact ⟨1, rfl, by decide, by decide⟩
    · exact ⟨2, rfl, by decide, by decide⟩
    · exact ⟨3, rfl, by decide, by decide⟩
    · exact ⟨3, rfl, by decide, by decide⟩
    · exact ⟨6, rfl, by decide, by decide⟩
    · exact ⟨6, rfl, by decide, by decide⟩
  simp only [evs_n, bnd_ok', wp_bnd, wp_ok]
  refine ⟨_, (List.range N).map fun (i : Nat) => W.int (i : Nat), TSt h u p, iv_r1n (by omega) (by omega), itm_rg.1, ⟨o2, [], none, none, none, none, none, none, ho2, rfl, rfl, .nil, rfl, .inl rfl⟩, fun i ρ h' _ => itm_rg.2 i, fun i y ρ h' hy J => ?_, fun ρ h' J => ?_⟩
  · have hi : i < N := by have := (List.getElem?_eq_some_iff.mp hy).1; simpa using this
    obtain rfl : W.int (i : Nat) = y := by
      rw [List.getElem?_map, List.getElem?_range hi] at hy
      exact Option.some.inj hy
    exact turn_wp hu en ea em (by omega) ⟨p1, p4⟩ J fun ρ' h' z => z
  · refine ofPP ?_; obtain ⟨o3, t, a, b, c, d, e', f', ho3, rfl, rfl, gt, tl, tp⟩ := J; refine toPP ?_
    have xt := ex_dat (encT_dat t)
    rw [List.length_map, List.length_range] at tl
    simp_arith [xt]
    refine ⟨t, o3, _, ho3, gt, ?_, ?_, rfl, rfl⟩
    · intro z
      rw [z] at tl
      simp at tl
      omega
    · rw [List.all_map]
      exact List.all_eq_true.mpr fun _ _ => rfl
end
end LP
/-! LP, plain: changed texts. -/
namespace LP
/-- how many signs of a kind -/
def cn (p : Nat → Bool) (x : Tx) : Nat := (x.filter p).length
theorem cn_app (p : Nat → Bool) (x y : Tx) : cn p (x ++ y) = cn p x + cn p y := by unfold cn; rw [List.filter_append, List.length_append]
theorem cn_le (p : Nat → Bool) (x : Tx) : cn p x ≤ x.length := List.length_filter_le ..
theorem cn_take (p : Nat → Bool) (x : Tx) (k : Nat) : cn p (x.take k) ≤ cn p x := by
  have := cn_app p (x.take k) (x.drop k)
  rw [List.take_append_drop] at this
  omega
theorem cn_drop (p : Nat → Bool) (x : Tx) (k : Nat) : cn p (x.drop k) ≤ cn p x := by
  have := cn_app p (x.take k) (x.drop k)
  rw [List.take_append_drop] at this
  omega
theorem cn_cut (p : Nat → Bool) (x : Tx) (a b j : Nat) (h : a ≤ b) : cn p (x.take a ++ x.drop b) ≤ cn p x := by
  have h1 := cn_app p (x.take a) (x.drop a)
  rw [List.take_append_drop] at h1
  have h2 : x.drop b = (x.drop a).drop (b - a) := by rw [List.drop_drop]; congr 1; omega
  have h3 := cn_drop p (x.drop a) (b - a)
  rw [cn_app, h2]
  omega
theorem cn_nil (p : Nat → Bool) : cn p [] = 0 := rfl
theorem cn_cons (p : Nat → Bool) (c : Nat) (x : Tx) : cn p (c :: x) = (if p c = true then 1 else 0) + cn p x := by
  have := cn_app p [c] x
  rw [List.singleton_append] at this
  rw [this]
  congr 1
  unfold cn
  rw [List.filter_cons]
  split <;> rfl
section
variable (p : Nat → Bool) (c : Nat)
def wt : Nat := if p c = true then 1 else 0
theorem wt_le : wt p c ≤ 1 := by unfold wt; split <;> omega
/-- parts, with the signs between -/
def sS (l : List Tx) : Nat := (l.map fun x => cn p x + wt p c).sum
theorem sS_app (a b : List Tx) : sS p c (a ++ b) = sS p c a + sS p c b := by unfold sS; rw [List.map_append, List.sum_append]
theorem sS_one (x : Tx) : sS p c [x] = cn p x + wt p c := by simp [sS]
theorem sS_split : ∀ x : Tx, sS p c (splT c x) = cn p x + wt p c
  | [] => by simp [splT, sS_one]
  | d :: r => by
    have ih := sS_split r
    rw [cn_cons]
    unfold splT
    by_cases h : d = c
    · rw [if_pos h, h]
      show sS p c ([[]] ++ splT c r) = _
      rw [sS_app, sS_one, ih, cn_nil]
      show 0 + wt p c + (cn p r + wt p c) = wt p c + cn p r + wt p c
      omega
    · rw [if_neg h]
      cases q : splT c r with
      | nil => exact absurd q (spT_ne c r)
      | cons y ys =>
        rw [q] at ih
        show sS p c ([d :: y] ++ ys) = _
        have ih : sS p c ([y] ++ ys) = cn p r + wt p c := ih
        rw [sS_app, sS_one] at ih ⊢
        rw [cn_cons]
        omega
theorem cn_join : ∀ l : List Tx, cn p (joinT [c] l) ≤ sS p c l
  | [] => Nat.zero_le _
  | [x] => by rw [sS_one]; exact Nat.le_add_right _ _
  | x :: y :: r => by
    have ih := cn_join (y :: r)
    show cn p (x ++ ([c] ++ joinT [c] (y :: r))) ≤ sS p c ([x] ++ (y :: r))
    rw [cn_app, cn_app, sS_app, sS_one]
    have : cn p [c] = wt p c := by rw [cn_cons, cn_nil]; rfl
    omega
theorem sS_take (l : List Tx) (k : Nat) : sS p c (l.take k) ≤ sS p c l := by
  have := sS_app p c (l.take k) (l.drop k)
  rw [List.take_append_drop] at this
  omega
theorem sS_cut (l : List Tx) (a b : Nat) (h : a ≤ b) : sS p c (l.take a) + sS p c (l.drop b) ≤ sS p c l := by
  have h1 := sS_app p c (l.take a) (l.drop a)
  rw [List.take_append_drop] at h1
  have h2 := sS_app p c ((l.drop a).take (b - a)) ((l.drop a).drop (b - a))
  rw [List.take_append_drop, List.drop_drop, show a + (b - a) = b by omega] at h2
  omega
theorem sS_mem {l : List Tx} {x : Tx} (h : x ∈ l) : cn p x + wt p c ≤ sS p c l := by
  obtain ⟨a, b, rfl⟩ := List.append_of_mem h
  show _ ≤ sS p c (a ++ ([x] ++ b))
  rw [sS_app, sS_app, sS_one]
  omega
/-- one part is exchanged -/
theorem sS_put {l : List Tx} {k : Nat} (hk : k < l.length) (y : Tx) : sS p c (l.take k ++ [y] ++ l.drop (k + 1)) + cn p l[k] = sS p c l + cn p y := by
  have h1 := sS_app p c (l.take k) (l.drop k)
  rw [List.take_append_drop, List.drop_eq_getElem_cons hk] at h1
  have h1 : sS p c l = sS p c (l.take k) + sS p c ([l[k]] ++ l.drop (k + 1)) := h1
  rw [sS_app, sS_one] at h1
  rw [sS_app, sS_app, sS_one]
  omega
end
theorem cn_part (p : Nat → Bool) (c : Nat) {x y : Tx} (h : y ∈ splT c x) : cn p y ≤ cn p x := by
  have h1 := sS_mem p c h
  rw [sS_split] at h1
  omega
theorem len_cn (x : Tx) : x.length = cn (fun _ => true) x := by unfold cn; rw [List.filter_eq_self.mpr (fun _ _ => rfl)]
theorem cut_from1 {α : Type} {l : List α} {k : Nat} : cutW l (some ((k : Int) + 1)) none = l.drop (k + 1) := by
  rw [show (k : Int) + 1 = ((k + 1 : Nat) : Int) by omega, cut_from]
def bTurned (nip any : Nat) : Df := ⟨3, 9, false, [(.par [5, 6] [(.call nip [(.var 0), (.bin false .add (.blt .len [(.var 1)]) (.int 1))]), (.call nip [(.var 0), (.int 8)])]), (.set 3 (.call any [(.var 0), (.var 2)])), (.iff (.cmp .eq (.var 6) (.int 0)) [(.ret (.bin false .add (.bin false .add (.slt false (.var 1) (.var 5)) (.var 3)) (.slf false (.var 1) (.var 5))))] []), (.iff (.cmp .eq (.var 6) (.int 1)) [(.ret (.bin false .add (.slt false (.var 1) (.var 5)) (.slf false (.var 1) (.bin false .add (.var 5) (.int 1)))))] []), (.iff (.cmp .eq (.var 6) (.int 2)) [(.ret (.slt false (.var 1) (.var 5)))] []), (.iff (.cmp .eq (.var 6) (.int 3)) [(.ret (.bin false .add (.var 1) (.var 3)))] []), (.set 4 (.mth (.split false) (.var 1) [(.str [32])])), (.par [7, 8] [(.call nip [(.var 0), (.blt .len [(.var 4)])]), (.call nip [(.var 0), (.blt .len [(.var 4)])])]), (.iff (.cmp .eq (.var 6) (.int 4)) [(.ret (.mth .join (.str [32]) [(.bin false .add (.slt false (.var 4) (.var 7)) (.slf false (.var 4) (.bin false .add (.var 7) (.int 1))))]))] []), (.iff (.cmp .eq (.var 6) (.int 5)) [(.ret (.mth .join (.str [32]) [(.bin false .add (.bin false .add (.slt false (.var 4) (.var 7)) (.lst false [(.ix (.var 4) (.var 8))])) (.slf false (.var 4) (.var 7)))]))] []), (.iff (.cmp .eq (.var 6) (.int 6)) [(.ret (.mth .join (.str [32]) [(.bin false .add (.bin false .add (.slt false (.var 4) (.var 7)) (.lst false [(.call any [(.var 0), (.tup [(.str [48]), (.str [49]), (.str [50]), (.str [49, 48]), (.str [49, 48, 48]), (.str [117, 112]), (.str [99, 117, 116]), (.str [118, 111, 105, 100]), (.str [106, 117, 115, 116]), (.str [105, 110]), (.str [110, 111, 100, 101]), (.str [97, 115, 107]), (.str [48, 48]), (.str [45, 49])])])])) (.slf false (.var 4) (.bin false .add (.var 7) (.int 1))))]))] []), (.ret (.bin false .add (.bin false .add (.slt false (.var 1) (.var 5)) (.var 3)) (.slf false (.var 1) (.bin false .add (.var 5) (.int 1)))))]⟩
example : K88.dfs[23]? = some (bTurned 17 18) := rfl
/-- the texts of parts, joined -/
theorem join_ok {h : Hh} {c : Nat} {l : List Tx} (hl : sS (fun _ => true) c l ≤ 1000000) : meO .join (.str [c]) [.lst (l.map .str)] h = .ok (.str (joinT [c] l)) h := by
  refine meL_join ?_
  have : (l.map List.length).sum + l.length * ([c] : Tx).length = sS (fun _ => true) c l := by
    clear hl
    induction l with
    | nil => rfl
    | cons x l ih =>
      show _ = sS (fun _ => true) c ([x] ++ l)
      rw [sS_app, sS_one, ← ih, List.map_cons, List.sum_cons, List.length_cons, ← len_cn]
      have : wt (fun _ => true) c = 1 := rfl
      have e1 : ([c] : Tx).length = 1 := rfl
      rw [e1] at *
      omega
  rw [this]
  exact lt_big hl (by decide)
theorem sS_len {c : Nat} {l : List Tx} : l.length ≤ sS (fun _ => true) c l := by
  induction l with
  | nil => exact Nat.zero_le _
  | cons x l ih =>
    show _ ≤ sS (fun _ => true) c ([x] ++ l)
    rw [sS_app, sS_one]
    have : wt (fun _ => true) c = 1 := rfl
    rw [List.length_cons]
    omega
section
variable {P : Pg} {f nip any n u : Nat} {H : O → Hh} {Q : W → Hh → Prop} {X : Nat → W → Hh → Prop} {o : O}
theorem turned_wp (C : UrC H u) (e : P.defs[f]? = some (bTurned nip any)) (en : P.defs[nip]? = some bNip) (ea : P.defs[any]? = some (bAny nip)) (ho : Ur o) {x sg : Tx} (hx : x.length ≤ 20000) (hs : 0 < sg.length ∧ sg.length ≤ 100) (k : ∀ y o', Ur o' → (∀ p, cn p y ≤ 2 * cn p x + 6) → Q (.str y) (H o')) : (cal P (n + 3) false f [.ref u, .str x, .str sg] (H o)).wp Q X := by
  refine wp_callf e rfl rfl (fun w h' => ∃ y o', Ur o' ∧ (∀ p, cn p y ≤ 2 * cn p x + 6) ∧ w = .str y ∧ h' = H o') ?_ fun w h' ⟨y, o', a1, a2, a3, a4⟩ => by rw [a3, a4]; exact k y o' a1 a2
  show (exs P (cal P (n + 2)) false (bTurned nip any).body [some (.ref u), some (.str x), some (.str sg), none, none, none, none, none, none] (H o)).wp _
  unfold bTurned
  have done : ∀ (y : Tx) (o' : O), Ur o' → (∀ p, cn p y ≤ 2 * cn p x + 6) → ∃ y' o'', Ur o'' ∧ (∀ p, cn p y' ≤ 2 * cn p x + 6) ∧ W.str y = .str y' ∧ H o' = H o'' := fun y o' h1 h2 => ⟨y, o', h1, h2, rfl, rfl⟩
  refine exs_c_wp ?_
  simp_arith []
  refine nip_c C en ho (by omega) (by omega) fun r1 o1 r10 r11 ho1 => ?_
  obtain ⟨a, rfl, _⟩ := nat_of r10
  try simp_arith []
  refine nip_c C en ho1 (by decide) (by decide) fun r2 o2 r20 r21 ho2 => ?_
  simp_arith []
  refine anyS_c C ea en ho2 hs.1 (by omega) fun c hc o3 ho3 => ?_
  have one : ∀ p, cn p [c] ≤ 1 := fun p => cn_le p [c]
  have ha : a ≤ x.length := by omega
  have mx : ∀ (y : Tx) (o : O), y.length ≤ 100000 → mkX y (H o) = .ok (.str y) (H o) := fun y o hy => mkX_ok (lt_big hy (by decide))
  have l1 : ∀ b, (x.take a ++ [c] ++ x.drop b).length ≤ 100000 := fun b => by simp; omega
  have l1' : (x.take a ++ [c]).length ≤ 100000 := by simp; omega
  have l2 : (x.take a ++ x.drop (a + 1)).length ≤ 100000 := by simp; omega
  have l3 : (x ++ [c]).length ≤ 100000 := by simp; omega
  by_cases q0 : r2 = 0
  · simp_arith [q0, cut_to, cut_from, cut_from1, mx _ _ (l1 a), mx _ _ l1']
    refine ⟨_, o3, ho3, fun p => ?_, rfl, rfl⟩
    have h1 := cn_cut p x a a 0 (Nat.le_refl _)
    have := one p
    rw [cn_app] at h1
    rw [cn_app, cn_app]
    omega
  by_cases q1 : r2 = 1
  · simp_arith [q1, cut_to, cut_from, cut_from1, mx _ _ l2]
    refine ⟨_, o3, ho3, fun p => ?_, rfl, rfl⟩
    have h1 := cn_cut p x a (a + 1) 0 (Nat.le_succ _)
    omega
  by_cases q2 : r2 = 2
  · simp_arith [q2, cut_to, cut_from, cut_from1]
    refine ⟨_, o3, ho3, fun p => ?_, rfl, rfl⟩
    have h1 := cn_take p x a
    omega
  by_cases q3 : r2 = 3
  · simp_arith [q3, cut_to, cut_from, cut_from1, mx _ _ l3]
    refine ⟨_, o3, ho3, fun p => ?_, rfl, rfl⟩
    have := one p
    rw [cn_app]
    omega
  have sp := fun o => split_ok (h := H o) (x := x) (show 32 < 256 by decide) (show x.length ≤ 100000 by omega)
  have hne := spT_ne 32 x
  have hl0 : 0 < (splT 32 x).length := List.length_pos_iff.mpr hne
  have hl1 := spT_len 32 x
  have s0 : ∀ p, sS p 32 (splT 32 x) = cn p x + wt p 32 := fun p => sS_split p 32 x
  have w32 := fun p => wt_le p 32
  have st : sS (fun _ => true) 32 (splT 32 x) ≤ 20001 := by rw [s0, ← len_cn]; have := w32 (fun _ => true); omega
  simp_arith [q0, q1, q2, q3, sp, List.length_map]
  refine nip_c C en ho3 (by omega) (by omega) fun r4 o4 r40 r41 ho4 => ?_
  obtain ⟨k1, rfl, _⟩ := nat_of r40
  first | simp_arith [q0, q1, q2, q3, sp, List.length_map] | simp_arith [] | skip
  refine nip_c C en ho4 (by omega) (by omega) fun r5 o5 r50 r51 ho5 => ?_
  obtain ⟨j1, rfl, _⟩ := nat_of r50
  have hk1 : k1 < (splT 32 x).length := by omega
  have hj1 : j1 < (splT 32 x).length := by omega
  have ml : ∀ (l : List Tx) (o : O), l.length ≤ 100000 → mkL false (l.map W.str) (H o) = .ok (.lst (l.map .str)) (H o) := fun l o hy => mkL_ok (by rw [List.length_map]; exact lt_big hy (by decide))
  have tk : ∀ b, ((splT 32 x).take b).length ≤ 100000 := fun b => by rw [List.length_take]; omega
  have dp : ∀ b, ((splT 32 x).drop b).length ≤ 100000 := fun b => by rw [List.length_drop]; omega
  by_cases q4 : r2 = 4
  · have hS := fun p => sS_cut p 32 (splT 32 x) k1 (k1 + 1) (Nat.le_succ _)
    have e1 : ((splT 32 x).take k1).map W.str ++ ((splT 32 x).drop (k1 + 1)).map W.str = ((splT 32 x).take k1 ++ (splT 32 x).drop (k1 + 1)).map .str := by rw [List.map_append]
    have jn := fun o => join_ok (h := H o) (c := 32) (l := (splT 32 x).take k1 ++ (splT 32 x).drop (k1 + 1)) (by rw [sS_app]; have := hS (fun _ => true); omega)
    have m2 := fun o => ml ((splT 32 x).take k1 ++ (splT 32 x).drop (k1 + 1)) o (by rw [List.length_append]; simp; omega)
    simp_arith [q4, cut_to, cut_from1, ← List.map_take, ← List.map_drop, ml _ _ (tk _), ml _ _ (dp _), e1, m2, jn]
    refine ⟨_, o5, ho5, fun p => ?_, rfl, rfl⟩
    have := cn_join p 32 ((splT 32 x).take k1 ++ (splT 32 x).drop (k1 + 1))
    rw [sS_app] at this
    have := hS p
    rw [s0] at this
    have := w32 p
    omega
  by_cases q5 : r2 = 5
  · have hS := fun p => sS_cut p 32 (splT 32 x) k1 k1 (Nat.le_refl _)
    have hJ := fun p => sS_mem p 32 (List.getElem_mem hj1)
    have aj : atW ((splT 32 x).map W.str) (j1 : Int) = some (.str (splT 32 x)[j1]) := by
      rw [atW_nat (by rw [List.length_map]; exact hj1), List.getElem_map]
    have e0 : ((splT 32 x).take k1).map W.str ++ [W.str (splT 32 x)[j1]] = ((splT 32 x).take k1 ++ [(splT 32 x)[j1]]).map .str := by rw [List.map_append]; rfl
    have e1 : ((splT 32 x).take k1 ++ [(splT 32 x)[j1]]).map W.str ++ ((splT 32 x).drop k1).map W.str = ((splT 32 x).take k1 ++ [(splT 32 x)[j1]] ++ (splT 32 x).drop k1).map .str := by rw [← List.map_append]
    have bound : ∀ p, sS p 32 ((splT 32 x).take k1 ++ [(splT 32 x)[j1]] ++ (splT 32 x).drop k1) ≤ 2 * (cn p x + wt p 32) := fun p => by
      rw [sS_app, sS_app, sS_one]
      have h1 := hS p
      have h2 := hJ p
      rw [s0] at h1 h2
      omega
    have jn := fun o => join_ok (h := H o) (c := 32) (l := (splT 32 x).take k1 ++ [(splT 32 x)[j1]] ++ (splT 32 x).drop k1) (by have := bound (fun _ => true); rw [← len_cn] at this; have := w32 (fun _ => true); omega)
    have m1 := fun o => ml ((splT 32 x).take k1 ++ [(splT 32 x)[j1]]) o (by rw [List.length_append]; simp; omega)
    have m2 := fun o => ml ((splT 32 x).take k1 ++ [(splT 32 x)[j1]] ++ (splT 32 x).drop k1) o (by rw [List.length_append, List.length_append]; simp; omega)
    simp_arith [q5, cut_to, cut_from, ← List.map_take, ← List.map_drop, ml _ _ (tk _), ml _ _ (dp _), aj, e0, m1, e1, m2, jn]
    refine ⟨_, o5, ho5, fun p => ?_, rfl, rfl⟩
    have := cn_join p 32 ((splT 32 x).take k1 ++ [(splT 32 x)[j1]] ++ (splT 32 x).drop k1)
    have := bound p
    have := w32 p
    omega
  by_cases q6 : r2 = 6
  · simp_arith [q6, cut_to, cut_from1, ← List.map_take, ← List.map_drop, ml _ _ (tk _)]
    refine anyT_c C ea en ho5 (by simp) (by simp) fun v hv o6 ho6 => ?_
    have hv : ∃ y : Tx, v = .str y ∧ y.length ≤ 4 := by
      simp only [List.mem_cons, List.not_mem_nil, or_false] at hv
      rcases hv with rfl | rfl | rfl | rfl | rfl | rfl | rfl | rfl | rfl | rfl | rfl | rfl | rfl | rfl <;> exact ⟨_, rfl, by decide⟩
    refine ofPP ?_; obtain ⟨y, rfl, hy⟩ := hv; refine toPP ?_
    have e0 : ((splT 32 x).take k1).map W.str ++ [W.str y] = ((splT 32 x).take k1 ++ [y]).map .str := by rw [List.map_append]; rfl
    have e1 : ((splT 32 x).take k1 ++ [y]).map W.str ++ ((splT 32 x).drop (k1 + 1)).map W.str = ((splT 32 x).take k1 ++ [y] ++ (splT 32 x).drop (k1 + 1)).map .str := by rw [← List.map_append]
    have bound : ∀ p, sS p 32 ((splT 32 x).take k1 ++ [y] ++ (splT 32 x).drop (k1 + 1)) ≤ cn p x + wt p 32 + 4 := fun p => by
      have h1 := sS_put p 32 hk1 y
      rw [s0] at h1
      have := cn_le p y
      omega
    have jn := fun o => join_ok (h := H o) (c := 32) (l := (splT 32 x).take k1 ++ [y] ++ (splT 32 x).drop (k1 + 1)) (by have := bound (fun _ => true); rw [← len_cn] at this; have := w32 (fun _ => true); omega)
    have m1 := fun o => ml ((splT 32 x).take k1 ++ [y]) o (by rw [List.length_append]; simp; omega)
    have m2 := fun o => ml ((splT 32 x).take k1 ++ [y] ++ (splT 32 x).drop (k1 + 1)) o (by rw [List.length_append, List.length_append]; simp; omega)
    simp_arith [cut_from1, ← List.map_drop, ml _ _ (dp _), e0, m1, e1, m2, jn]
    refine ⟨_, o6, ho6, fun p => ?_, rfl, rfl⟩
    have := cn_join p 32 ((splT 32 x).take k1 ++ [y] ++ (splT 32 x).drop (k1 + 1))
    have := bound p
    have := w32 p
    omega
  simp_arith [q4, q5, q6, cut_to, cut_from1, mx _ _ (l1 _), mx _ _ l1']
  refine ⟨_, o5, ho5, fun p => ?_, rfl, rfl⟩
  have h1 := cn_cut p x a (a + 1) 0 (Nat.le_succ _)
  have := one p
  rw [cn_app] at h1
  rw [cn_app, cn_app]
  omega
end
theorem spT_cons (c d : Nat) (r : Tx) : splT c (d :: r) = if d = c then [] :: splT c r else (match splT c r with
    | p :: ps => (d :: p) :: ps
    | [] => [[d]]) := rfl
theorem splT_glue {c : Nat} {y : Tx} : ∀ x : Tx, splT c (x ++ c :: y) = splT c x ++ splT c y
  | [] => by
    show splT c (c :: y) = [[]] ++ splT c y
    conv => lhs; unfold splT
    rw [if_pos rfl]
    rfl
  | d :: r => by
    have ih := splT_glue (c := c) (y := y) r
    show splT c (d :: (r ++ c :: y)) = _
    rw [spT_cons c d (r ++ c :: y), spT_cons c d r]
    by_cases h : d = c
    · rw [if_pos h, if_pos h, ih]
      rfl
    · rw [if_neg h, if_neg h, ih]
      cases q : splT c r with
      | nil => exact absurd q (spT_ne c r)
      | cons a as => rfl
def bChanged (nip any tr : Nat) : Df := ⟨2, 7, false, [(.set 2 (.mth (.split false) (.var 1) [(.str [10])])), (.par [3, 4, 5] [(.call nip [(.var 0), (.blt .len [(.var 2)])]), (.call nip [(.var 0), (.blt .len [(.var 2)])]), (.call nip [(.var 0), (.int 9)])]), (.iff (.cmp .lt (.var 5) (.int 4)) [(.set 6 (.call tr [(.var 0), (.ix (.var 2) (.var 3)), (.str [32, 48, 57, 97, 10, 45, 90])])), (.ret (.mth .join (.str [10]) [(.bin false .add (.bin false .add (.slt false (.var 2) (.var 3)) (.lst false [(.var 6)])) (.slf false (.var 2) (.bin false .add (.var 3) (.int 1))))]))] []), (.iff (.cmp .eq (.var 5) (.int 4)) [(.ret (.mth .join (.str [10]) [(.bin false .add (.slt false (.var 2) (.var 3)) (.slf false (.var 2) (.bin false .add (.var 3) (.int 1))))]))] []), (.iff (.cmp .eq (.var 5) (.int 5)) [(.ret (.mth .join (.str [10]) [(.bin false .add (.bin false .add (.slt false (.var 2) (.var 3)) (.lst false [(.ix (.var 2) (.var 4))])) (.slf false (.var 2) (.var 3)))]))] []), (.iff (.cmp .eq (.var 5) (.int 6)) [(.ret (.slt false (.var 1) (.bin false .sub (.bin false .sub (.blt .len [(.var 1)]) (.int 1)) (.call nip [(.var 0), (.int 4)]))))] []), (.iff (.cmp .eq (.var 5) (.int 7)) [(.ret (.bin false .add (.var 1) (.call any [(.var 0), (.tup [(.str [10]), (.str [32]), (.str [110, 111, 100, 101]), (.var 1), (.bin false .add (.bin false .add (.str [110, 111, 100, 101, 32, 122, 32, 49, 32, 48, 32, 49, 32, 105, 110, 32]) (.ix (.mth (.split false) (.bin false .add (.ix (.var 2) (.int 0)) (.str [32, 97])) [(.str [32])]) (.int 1))) (.str [10]))])])))] []), (.ret (.call any [(.var 0), (.tup [(.str []), (.str [10]), (.str [110, 111, 100, 101, 10]), (.str [110, 111, 100, 101, 32, 97, 32, 49, 32, 48, 32, 49]), (.str [110, 111, 100, 101, 32, 97, 32, 49, 32, 48, 32, 49, 10]), (.str [110, 111, 100, 101, 32, 97, 32, 49, 32, 48, 32, 49, 32, 105, 110, 32, 97, 10]), (.str [110, 111, 100, 101, 32, 97, 32, 49, 32, 48, 32, 49, 32, 50, 32, 51, 32, 52, 32, 53, 10]), (.str [110, 111, 100, 101, 32, 97, 32, 49, 48, 48, 32, 48, 32, 49, 10])])]))]⟩
example : K88.dfs[30]? = some (bChanged 17 18 23) := rfl
section
variable {P : Pg} {f nip any tr n u : Nat} {H : O → Hh} {Q : W → Hh → Prop} {X : Nat → W → Hh → Prop} {o : O}
theorem cut_take {x : Tx} {i : Option Int} : ∃ k, cutW x none i = x.take k := ⟨bound1 x.length x.length i - 0, by unfold cutW; rw [bd_n0]; rfl⟩
theorem changed_wp (C : UrC H u) (e : P.defs[f]? = some (bChanged nip any tr)) (en : P.defs[nip]? = some bNip) (ea : P.defs[any]? = some (bAny nip)) (et : P.defs[tr]? = some (bTurned nip any)) (ho : Ur o) {x : Tx} (hx : x.length ≤ 20000) (k : ∀ y o', Ur o' → (∀ p, cn p y ≤ 2 * cn p x + 30) → Q (.str y) (H o')) : (cal P (n + 4) false f [.ref u, .str x] (H o)).wp Q X := by
  refine wp_callf e rfl rfl (fun w h' => ∃ y o', Ur o' ∧ (∀ p, cn p y ≤ 2 * cn p x + 30) ∧ w = .str y ∧ h' = H o') ?_ fun w h' ⟨y, o', a1, a2, a3, a4⟩ => by rw [a3, a4]; exact k y o' a1 a2
  show (exs P (cal P (n + 3)) false (bChanged nip any tr).body [some (.ref u), some (.str x), none, none, none, none, none] (H o)).wp _
  unfold bChanged
  have sp := fun o => split_ok (h := H o) (x := x) (show 10 < 256 by decide) (show x.length ≤ 100000 by omega)
  have hne := spT_ne 10 x
  have hl0 : 0 < (splT 10 x).length := List.length_pos_iff.mpr hne
  have hl1 := spT_len 10 x
  have s0 : ∀ p, sS p 10 (splT 10 x) = cn p x + wt p 10 := fun p => sS_split p 10 x
  have w10 := fun p => wt_le p 10
  have ml : ∀ (l : List Tx) (o : O), l.length ≤ 100000 → mkL false (l.map W.str) (H o) = .ok (.lst (l.map .str)) (H o) := fun l o hy => mkL_ok (by rw [List.length_map]; exact lt_big hy (by decide))
  have mx : ∀ (y : Tx) (o : O), y.length ≤ 100000 → mkX y (H o) = .ok (.str y) (H o) := fun y o hy => mkX_ok (lt_big hy (by decide))
  refine exs_c_eq (h' := H o) (ρ' := [some (.ref u), some (.str x), some (.lst ((splT 10 x).map .str)), none, none, none, none]) (by simp_arith [sp]) ?_
  refine exs_c_wp ?_
  simp_arith [List.length_map]
  refine nip_c C en ho (by omega) (by omega) fun r1 o1 r10 r11 ho1 => ?_
  obtain ⟨k1, rfl, _⟩ := nat_of r10
  first | simp_arith [List.length_map] | simp_arith [] | skip
  refine nip_c C en ho1 (by omega) (by omega) fun r2 o2 r20 r21 ho2 => ?_
  obtain ⟨j1, rfl, _⟩ := nat_of r20
  first | simp_arith [List.length_map] | simp_arith [] | skip
  refine nip_c C en ho2 (by decide) (by decide) fun r3 o3 r30 r31 ho3 => ?_
  have hk1 : k1 < (splT 10 x).length := by omega
  have hj1 : j1 < (splT 10 x).length := by omega
  have tk : ∀ b, ((splT 10 x).take b).length ≤ 100000 := fun b => by rw [List.length_take]; omega
  have dp : ∀ b, ((splT 10 x).drop b).length ≤ 100000 := fun b => by rw [List.length_drop]; omega
  have ak : ∀ {k} (h : k < (splT 10 x).length), atW ((splT 10 x).map W.str) (k : Int) = some (.str (splT 10 x)[k]) := fun {k} h => by
    rw [atW_nat (by rw [List.length_map]; exact h), List.getElem_map]
  have rl : ∀ {y : Tx}, y ∈ splT 10 x → y.length ≤ x.length := fun {y} h => splT_part 10 x y h
  by_cases q0 : r3 < 4
  · have hrow := rl (List.getElem_mem hk1)
    simp_arith [q0, ak hk1]
    refine turned_wp (n := n) C et en ea ho3 (by omega) ⟨by decide, by decide⟩ fun y o4 ho4 hy => ?_
    have hyl : y.length ≤ 40006 := by have := hy (fun _ => true); rw [← len_cn, ← len_cn] at this; omega
    have e0 : ((splT 10 x).take k1).map W.str ++ [W.str y] = ((splT 10 x).take k1 ++ [y]).map .str := by rw [List.map_append]; rfl
    have e1 : ((splT 10 x).take k1 ++ [y]).map W.str ++ ((splT 10 x).drop (k1 + 1)).map W.str = ((splT 10 x).take k1 ++ [y] ++ (splT 10 x).drop (k1 + 1)).map .str := by rw [← List.map_append]
    have bound : ∀ p, sS p 10 ((splT 10 x).take k1 ++ [y] ++ (splT 10 x).drop (k1 + 1)) ≤ 2 * cn p x + wt p 10 + 6 := fun p => by
      have h1 := sS_put p 10 hk1 y
      rw [s0] at h1
      have h2 := hy p
      have h3 := cn_part p 10 (List.getElem_mem hk1)
      omega
    have jn := fun o => join_ok (h := H o) (c := 10) (l := (splT 10 x).take k1 ++ [y] ++ (splT 10 x).drop (k1 + 1)) (by have := bound (fun _ => true); rw [← len_cn] at this; have := w10 (fun _ => true); omega)
    have m1 := fun o => ml ((splT 10 x).take k1 ++ [y]) o (by rw [List.length_append]; simp; omega)
    have m2 := fun o => ml ((splT 10 x).take k1 ++ [y] ++ (splT 10 x).drop (k1 + 1)) o (by rw [List.length_append, List.length_append]; simp; omega)
    simp_arith [cut_to, cut_from1, ← List.map_take, ← List.map_drop, ml _ _ (tk _), ml _ _ (dp _), e0, m1, e1, m2, jn]
    refine ⟨_, o4, ho4, fun p => ?_, rfl, rfl⟩
    have := cn_join p 10 ((splT 10 x).take k1 ++ [y] ++ (splT 10 x).drop (k1 + 1))
    have := bound p
    have := w10 p
    omega
  by_cases q4 : r3 = 4
  · have hS := fun p => sS_cut p 10 (splT 10 x) k1 (k1 + 1) (Nat.le_succ _)
    have e1 : ((splT 10 x).take k1).map W.str ++ ((splT 10 x).drop (k1 + 1)).map W.str = ((splT 10 x).take k1 ++ (splT 10 x).drop (k1 + 1)).map .str := by rw [List.map_append]
    have jn := fun o => join_ok (h := H o) (c := 10) (l := (splT 10 x).take k1 ++ (splT 10 x).drop (k1 + 1)) (by rw [sS_app]; have := hS (fun _ => true); rw [s0, ← len_cn] at this; have := w10 (fun _ => true); omega)
    have m2 := fun o => ml ((splT 10 x).take k1 ++ (splT 10 x).drop (k1 + 1)) o (by rw [List.length_append]; simp; omega)
    refine ofPP ?_; subst q4; refine toPP ?_
    simp_arith [cut_to, cut_from1, ← List.map_take, ← List.map_drop, ml _ _ (tk _), ml _ _ (dp _), e1, m2, jn]
    refine ⟨_, o3, ho3, fun p => ?_, rfl, rfl⟩
    have := cn_join p 10 ((splT 10 x).take k1 ++ (splT 10 x).drop (k1 + 1))
    rw [sS_app] at this
    have := hS p
    rw [s0] at this
    have := w10 p
    omega
  by_cases q5 : r3 = 5
  · have hS := fun p => sS_cut p 10 (splT 10 x) k1 k1 (Nat.le_refl _)
    have hJ := fun p => sS_mem p 10 (List.getElem_mem hj1)
    have e0 : ((splT 10 x).take k1).map W.str ++ [W.str (splT 10 x)[j1]] = ((splT 10 x).take k1 ++ [(splT 10 x)[j1]]).map .str := by rw [List.map_append]; rfl
    have e1 : ((splT 10 x).take k1 ++ [(splT 10 x)[j1]]).map W.str ++ ((splT 10 x).drop k1).map W.str = ((splT 10 x).take k1 ++ [(splT 10 x)[j1]] ++ (splT 10 x).drop k1).map .str := by rw [← List.map_append]
    have bound : ∀ p, sS p 10 ((splT 10 x).take k1 ++ [(splT 10 x)[j1]] ++ (splT 10 x).drop k1) ≤ 2 * (cn p x + wt p 10) := fun p => by
      rw [sS_app, sS_app, sS_one]
      have h1 := hS p
      have h2 := hJ p
      rw [s0] at h1 h2
      omega
    have jn := fun o => join_ok (h := H o) (c := 10) (l := (splT 10 x).take k1 ++ [(splT 10 x)[j1]] ++ (splT 10 x).drop k1) (by have := bound (fun _ => true); rw [← len_cn] at this; have := w10 (fun _ => true); omega)
    have m1 := fun o => ml ((splT 10 x).take k1 ++ [(splT 10 x)[j1]]) o (by rw [List.length_append]; simp; omega)
    have m2 := fun o => ml ((splT 10 x).take k1 ++ [(splT 10 x)[j1]] ++ (splT 10 x).drop k1) o (by rw [List.length_append, List.length_append]; simp; omega)
    refine ofPP ?_; subst q5; refine toPP ?_
    simp_arith [cut_to, cut_from, ← List.map_take, ← List.map_drop, ml _ _ (tk _), ml _ _ (dp _), ak hj1, e0, m1, e1, m2, jn]
    refine ⟨_, o3, ho3, fun p => ?_, rfl, rfl⟩
    have := cn_join p 10 ((splT 10 x).take k1 ++ [(splT 10 x)[j1]] ++ (splT 10 x).drop k1)
    have := bound p
    have := w10 p
    omega
  by_cases q6 : r3 = 6
  · refine ofPP ?_; subst q6; refine toPP ?_
    simp_arith []
    refine nip_c C en ho3 (by decide) (by decide) fun r4 o4 _ _ ho4 => ?_
    simp_arith []
    obtain ⟨kk, ek⟩ := cut_take (x := x) (i := some ((x.length : Int) - 1 - r4))
    rw [ek]
    refine ⟨_, o4, ho4, fun p => ?_, rfl, rfl⟩
    have := cn_take p x kk
    omega
  by_cases q7 : r3 = 7
  · refine ofPP ?_; subst q7; refine toPP ?_
    have h00 : (0 : Nat) < (splT 10 x).length := hl0
    have a0 := ak h00
    have hrow := rl (List.getElem_mem h00)
    generalize hr0 : (splT 10 x)[0] = r0 at a0 hrow
    have a0 : atW ((splT 10 x).map W.str) 0 = some (.str r0) := a0
    have s2 : r0 ++ [32, 97] = r0 ++ 32 :: [97] := rfl
    have sp2 := fun o => split_ok (h := H o) (x := r0 ++ [32, 97]) (show 32 < 256 by decide) (by show _ ≤ 100000; simp; omega)
    have eg : splT 32 (r0 ++ [32, 97]) = splT 32 r0 ++ [[97]] := by rw [s2, splT_glue]; rfl
    have hl2 : 1 < (splT 32 (r0 ++ [32, 97])).length := by
      have := List.length_pos_iff.mpr (spT_ne 32 r0)
      rw [eg, List.length_append]
      simp
      omega
    have hw1 := List.getElem_mem hl2
    have a1 : atW ((splT 32 (r0 ++ [32, 97])).map W.str) 1 = some (.str (splT 32 (r0 ++ [32, 97]))[1]) := by
      have := atW_nat (xs := (splT 32 (r0 ++ [32, 97])).map W.str) (n := 1) (by rw [List.length_map]; exact hl2)
      rw [List.getElem_map] at this
      exact this
    generalize hw : (splT 32 (r0 ++ [32, 97]))[1] = w1 at a1 hw1
    have cw : ∀ p, cn p w1 ≤ cn p x + 2 := fun p => by
      have h1 := cn_part p 32 hw1
      rw [cn_app] at h1
      have h2 := cn_le p [32, 97]
      have h3 := cn_part p 10 (List.getElem_mem h00)
      rw [hr0] at h3
      simp at h2
      omega
    have wl : w1.length ≤ 20002 := by have := cw (fun _ => true); rw [← len_cn, ← len_cn] at this; omega
    have m0 := mx (r0 ++ [32, 97]) o3 (by simp; omega)
    have m1 := mx ([110, 111, 100, 101, 32, 122, 32, 49, 32, 48, 32, 49, 32, 105, 110, 32] ++ w1) o3 (by simp; omega)
    have m2 := mx ([110, 111, 100, 101, 32, 122, 32, 49, 32, 48, 32, 49, 32, 105, 110, 32] ++ w1 ++ [10]) o3 (by simp; omega)
    simp_arith [] at m1 m2
    simp_arith [a0, m0, sp2, a1, m1, m2]
    refine anyT_c C ea en ho3 (by simp) (by simp) fun v hv o4 ho4 => ?_
    have hv : ∃ y : Tx, v = .str y ∧ ∀ p, cn p y ≤ cn p x + 30 := by
      simp only [List.mem_cons, List.not_mem_nil, or_false] at hv
      rcases hv with rfl | rfl | rfl | rfl | rfl
      · exact ⟨_, rfl, fun p => by have := cn_le p [10]; simp at this; omega⟩
      · exact ⟨_, rfl, fun p => by have := cn_le p [32]; simp at this; omega⟩
      · exact ⟨_, rfl, fun p => by have := cn_le p [110, 111, 100, 101]; simp at this; omega⟩
      · exact ⟨_, rfl, fun p => by omega⟩
      · refine ⟨_, rfl, fun p => ?_⟩
        have h1 := cw p
        have h2 := cn_le p [110, 111, 100, 101, 32, 122, 32, 49, 32, 48, 32, 49, 32, 105, 110, 32]
        have h3 := cn_le p [10]
        have h4 := cn_app p ([110, 111, 100, 101, 32, 122, 32, 49, 32, 48, 32, 49, 32, 105, 110, 32] ++ w1) [10]
        have h5 := cn_app p [110, 111, 100, 101, 32, 122, 32, 49, 32, 48, 32, 49, 32, 105, 110, 32] w1
        have e : ([110, 111, 100, 101, 32, 122, 32, 49, 32, 48, 32, 49, 32, 105, 110, 32] ++ w1) ++ [10] = 110 :: 111 :: 100 :: 101 :: 32 :: 122 :: 32 :: 49 :: 32 :: 48 :: 32 :: 49 :: 32 :: 105 :: 110 :: 32 :: (w1 ++ [10]) := rfl
        rw [e] at h4
        simp at h2 h3
        omega
    refine ofPP ?_; obtain ⟨y, rfl, hy⟩ := hv; refine toPP ?_
    have hyl : y.length ≤ 20030 := by have := hy (fun _ => true); rw [← len_cn, ← len_cn] at this; omega
    have m3 := mx (x ++ y) o4 (by simp; omega)
    simp_arith [m3]
    refine ⟨_, o4, ho4, fun p => ?_, rfl, rfl⟩
    have := hy p
    rw [cn_app]
    omega
  simp_arith [q0, q4, q5, q6, q7]
  refine anyT_c C ea en ho3 (by simp) (by simp) fun v hv o4 ho4 => ?_
  have hv : ∃ y : Tx, v = .str y ∧ y.length ≤ 30 := by
    simp only [List.mem_cons, List.not_mem_nil, or_false] at hv
    rcases hv with rfl | rfl | rfl | rfl | rfl | rfl | rfl | rfl <;> exact ⟨_, rfl, by decide⟩
  refine ofPP ?_; obtain ⟨y, rfl, hy⟩ := hv; refine toPP ?_
  simp_arith []
  refine ⟨_, o4, ho4, fun p => ?_, rfl, rfl⟩
  have := cn_le p y
  omega
end
end LP
/-! LP, plain: what is told of a text, what is refused. -/
namespace LP
def bTold (rd c f : Nat) : Df := ⟨2, 3, false, [(.tra [(.ret (.lst false [(.ite (.var 1) (.call rd [(.var 0)]) (.call rd [(.var 0)]))]))] c 2 [(.ret (.ite (.and (.xis 2 [0]) (.not (.xis 2 [1, 2]))) (.tup [(.xfl 2 f)]) (.tup [(.str [111, 100, 100])])))])]⟩
def bRefused (tt same : Nat) : Df := ⟨1, 2, false, [(.tra [(.exp (.call tt [(.var 0)]))] 1 1 [(.ret (.and (.xis 1 [0]) (.and (.not (.xis 1 [3])) (.call same [(.xfl 1 0), (.var 0)]))))]), (.ret (.tt false))]⟩
example : K88.dfs[29]? = some (bTold 14 3 1) ∧ K88.dfs[31]? = some (bRefused 12 19) := ⟨rfl, rfl⟩
/-- what is told of a text -/
def toldW : Except Nat (List Nd) → W
  | .ok t => .lst [encT t]
  | .error i => .tup [.int (i : Nat)]
section
variable {n : Nat} {h : Hh}
theorem told_ok {x : Tx} {b : Bool} (hs : Sm x) (rdok : cal K88.PG (n + 7) false 14 [.str x] h = match readT x with
    | .ok t => .ok (encT t) h
    | .error i => .exc 3 (.int i) h) : cal K88.PG (n + 8) false 29 [.str x, .bl b] h = .ok (toldW (readT x)) h := by
  rw [cal_def' (D := bTold 14 3 1) rfl _ _ rfl]
  unfold bTold
  cases q : readT x with
  | ok t =>
    rw [q] at rdok
    have xt := ex_dat (encT_dat t)
    cases b <;> simp_arith [rdok] <;> rfl
  | error i =>
    rw [q] at rdok
    have e1 : K88.PG.sub 3 3 = true := by decide
    have e2 : [0].any (K88.PG.sub 3) = true := by decide
    have e3 : [1, 2].any (K88.PG.sub 3) = false := by decide
    have e4 : K88.PG.pay 3 = some 1 := rfl
    have e5 : (3 < K88.PG.nx) = True := eq_true (by decide)
    cases b <;> simp_arith [rdok, e1, e2, e3, e4, e5] <;> rfl
theorem told_no {w : W} (d : dat w = true) (hw : isStrW w = false) (hf : Hf h) {b : Bool} : cal K88.PG (n + 2) false 29 [w, .bl b] h = .ok (.tup [.non]) h := by
  have rd := read_no (P := K88.PG) (n := n) (h := h) ⟨0, 1, 2, 3, 4, 5, 6, 7, 1, 0, 3, 2, 4, rfl, rfl, rfl, rfl, rfl, rfl, rfl, rfl, rfl, rfl, rfl, rfl, rfl⟩ (f := 14) (rw := 10) (no := 13) (c := 3) rfl hf d hw
  rw [cal_def' (D := bTold 14 3 1) rfl _ _ rfl]
  unfold bTold
  have e1 : K88.PG.sub 3 3 = true := by decide
  have e2 : [0].any (K88.PG.sub 3) = true := by decide
  have e3 : [1, 2].any (K88.PG.sub 3) = false := by decide
  have e4 : K88.PG.pay 3 = some 1 := rfl
  have e5 : (3 < K88.PG.nx) = True := eq_true (by decide)
  cases b <;> simp_arith [ex_dat d, rd, e1, e2, e3, e4, e5]
theorem refused_ok {w : W} {k m : Nat} (hm : n + 8 = m + k + 1) (d : fitW k w = true) (hw : treeW w = false) (hf : Hf h) : cal K88.PG (n + 9) false 31 [w] h = .ok (.bl true) h := by
  have dw := fit_dat k w d
  have tt := treeText_bad (P := K88.PG) (n := n) (h := h) ⟨0, 1, 2, 3, 4, 5, 6, 7, 1, 0, 3, 2, 4, rfl, rfl, rfl, rfl, rfl, rfl, rfl, rfl, rfl, rfl, rfl, rfl, rfl⟩ (f := 12) (k := 8) (nt := 11) (c := 1) rfl rfl hf dw hw
  have sm := same_ok (P := K88.PG) (f := 19) (h := h) (hot := true) rfl rfl k m w w d dw
  rw [← hm, sameW_refl w dw] at sm
  rw [cal_def' (D := bRefused 12 19) rfl _ _ rfl]
  unfold bRefused
  have e1 : K88.PG.sub 1 1 = true := by decide
  have e2 : [0].any (K88.PG.sub 1) = true := by decide
  have e3 : [3].any (K88.PG.sub 1) = false := by decide
  have e4 : K88.PG.pay 1 = some 0 := rfl
  have e5 : (1 < K88.PG.nx) = True := eq_true (by decide)
  simp_arith [ex_dat dw, tt, e1, e2, e3, e4, e5, sm]
end
/-- how deep and wide trees are -/
theorem fit_ints {l : List Nat} (h : l.length ≤ big) : fitW 1 (.tup (encI l)) = true := by
  show (decide ((encI l).length ≤ big) && (encI l).all (fitW 0)) = true
  rw [decide_eq_true (by unfold encI; rw [List.length_map]; exact h), List.all_eq_true.mpr fun w hw => ?_]
  · rfl
  · obtain ⟨i, _, rfl⟩ := List.mem_map.mp hw
    rfl
theorem fit_tupl {k : Nat} {xs : List W} (h : xs.length ≤ big) (hx : ∀ w ∈ xs, fitW k w = true) : fitW (k + 1) (.tup xs) = true := by
  show (decide (xs.length ≤ big) && xs.all (fitW k)) = true
  rw [decide_eq_true h, List.all_eq_true.mpr hx]
  rfl
theorem fit_lstl {k : Nat} {xs : List W} (h : xs.length ≤ big) (hx : ∀ w ∈ xs, fitW k w = true) : fitW (k + 1) (.lst xs) = true := by
  show (decide (xs.length ≤ big) && xs.all (fitW k)) = true
  rw [decide_eq_true h, List.all_eq_true.mpr hx]
  rfl
theorem fit_parts {nm : Tx} {par bu bo : W} {re : List Nat} (hp : flat par = true) (hb : flat bu = true) (hc : flat bo = true) (hr : re.length ≤ 100) : fitW 2 (.tup [.str nm, par, bu, .tup (encI re), bo]) = true := by
  refine fit_tupl (lt_big (m := 5) (by simp) (by decide)) fun w hw => ?_
  simp only [List.mem_cons, List.not_mem_nil, or_false] at hw
  rcases hw with rfl | rfl | rfl | rfl | rfl
  · exact fit_flat rfl
  · exact fit_flat hp
  · exact fit_flat hb
  · exact fit_ints (lt_big hr (by decide))
  · exact fit_flat hc
theorem flatP (p : Option Tx) : flat (encP p) = true := by cases p <;> rfl
theorem fit_node {d : Nd} (h : d.re.length ≤ 100) : fitW 2 (encN d) = true := fit_parts (flatP _) rfl rfl h
theorem fit_tree {t : List Nd} (hl : t.length ≤ 6) (h : ∀ d ∈ t, d.re.length ≤ 100) : fitW 3 (encT t) = true := by
  refine fit_tupl (by rw [List.length_map]; exact lt_big hl (by decide)) fun w hw => ?_
  obtain ⟨d, hd, rfl⟩ := List.mem_map.mp hw
  exact fit_node (h d hd)
theorem treeW_fit {t : List Nd} (h : treeW (encT t) = true) : fitW 3 (encT t) = true := by
  rw [treeW_enc] at h
  simp only [Bool.and_eq_true, decide_eq_true_eq] at h
  refine fit_tree h.1.2 fun d hd => ?_
  have := List.all_eq_true.mp h.2.1 d hd
  unfold nodeB at this
  simp only [Bool.and_eq_true, decide_eq_true_eq] at this
  omega
theorem readGo_ok : ∀ (rs : List Tx) (i : Nat) (t s : List Nd), (t = [] ∨ treeW (encT t) = true) → readGo rs i t = .ok s → s = [] ∨ treeW (encT s) = true
  | [], _, t, s, h, e => by cases e; exact h
  | r :: rs, i, t, s, h, e => by
    rw [readGo_cons] at e
    cases q : nodeRow r (decide (i = 0)) with
    | none => rw [q] at e; cases e
    | some d =>
      rw [q] at e
      dsimp only at e
      by_cases z : treeW (encT (t ++ [d])) = true
      · rw [if_pos z] at e
        exact readGo_ok rs (i + 1) (t ++ [d]) s (.inr z) e
      · rw [if_neg z] at e
        cases e
theorem readT_ok {x : Tx} {t : List Nd} (h : readT x = .ok t) : treeW (encT t) = true := by
  unfold readT at h
  cases q : readGo (rowsT x) 0 [] with
  | error i => rw [q] at h; cases h
  | ok s =>
    rw [q] at h
    dsimp only at h
    split at h
    · cases h
    · rename_i z
      cases h
      rcases readGo_ok _ _ _ _ (.inl rfl) q with rfl | y
      · exact absurd (.inr rfl) z
      · exact y
theorem toldW_fit (x : Tx) : fitW 4 (toldW (readT x)) = true := by
  cases q : readT x with
  | error i =>
    refine fit_up 3 _ (fit_up 2 _ (fit_up 1 _ (fit_tupl (lt_big (m := 1) (by simp) (by decide)) fun w hw => ?_)))
    rw [show w = .int (i : Nat) by simpa using hw]
    rfl
  | ok t =>
    refine fit_lstl (lt_big (m := 1) (by simp) (by decide)) fun w hw => ?_
    rw [show w = encT t by simpa using hw]
    exact treeW_fit (readT_ok q)
end LP
/-! LP, plain: the law of the texts of trees. -/
namespace LP
def dig (c : Nat) : Bool := decide (c ∈ digitsT)
theorem cn_all {p : Nat → Bool} {y : Tx} (h : y.all p = true) : cn p y = y.length := by
  unfold cn
  rw [List.filter_eq_self.mpr (List.all_eq_true.mp h)]
theorem few_digits {x : Tx} (h : cn dig x ≤ 640) : ∀ r ∈ splT 10 x, ∀ y ∈ splT 32 r, figT y = true → y.length ≤ 640 := fun r hr y hy hf => by
  have h1 := cn_part dig 10 hr
  have h2 := cn_part dig 32 hy
  unfold figT at hf
  simp only [Bool.and_eq_true] at hf
  have h3 : cn dig y = y.length := cn_all hf.2.1
  omega
theorem cn_flat (p : Nat → Bool) : ∀ l : List Tx, cn p l.flatten = (l.map (cn p)).sum
  | [] => rfl
  | x :: l => by rw [List.flatten_cons, cn_app, cn_flat p l]; rfl
theorem cn_zero {p : Nat → Bool} {x : Tx} (h : ∀ c ∈ x, p c = false) : cn p x = 0 := by
  unfold cn
  rw [List.filter_eq_nil_iff.mpr fun c hc => by rw [h c hc]; decide]
  rfl
theorem name_nodig {x : Tx} (h : nameT x = true) : cn dig x = 0 := cn_zero fun c hc => by
  have h1 := name_signs h c hc
  have : ∀ c, c ∈ digitsT → c ≤ 57 := by decide
  exact decide_eq_false fun z => by have := this c z; omega
theorem node_digits {d : Nd} (o : NdOk d) : cn dig (nodeT d) ≤ 12 := by
  have h1 := cn_join dig 32 (wordsN d)
  have w0 : wt dig 32 = 0 := by decide
  have h2 : cn dig [10] = 0 := by decide
  have dd : ∀ k, k ≤ 99 → cn dig (digits k) ≤ 2 := fun k hk => Nat.le_trans (cn_le _ _) (digits2 hk)
  have h3 : sS dig 32 (d.re.map digits) ≤ 8 := by
    have key : ∀ l : List Nat, (∀ r ∈ l, r ≤ 99) → sS dig 32 (l.map digits) ≤ 2 * l.length := by
      intro l
      induction l with
      | nil => intro _; exact Nat.le_refl _
      | cons r l ih =>
        intro h
        have e : sS dig 32 ((r :: l).map digits) = sS dig 32 ([digits r] ++ l.map digits) := rfl
        have := dd r (h r (by simp))
        have := ih fun y hy => h y (by simp [hy])
        rw [e, sS_app, sS_one, List.length_cons, w0]
        omega
    have := key d.re o.re
    have := o.len
    omega
  have h4 : sS dig 32 [NODE, d.nm, digits d.bu, digits d.bo] ≤ 4 := by
    have e : sS dig 32 [NODE, d.nm, digits d.bu, digits d.bo] = sS dig 32 ([NODE] ++ ([d.nm] ++ ([digits d.bu] ++ [digits d.bo]))) := rfl
    have := dd _ o.bu
    have := dd _ o.bo
    have := name_nodig o.nm
    have n0 : cn dig NODE = 0 := by decide
    rw [e, sS_app, sS_app, sS_app, sS_one, sS_one, sS_one, sS_one, w0]
    omega
  have h6 : sS dig 32 (wordsN d) ≤ 12 := by
    unfold wordsN
    rw [sS_app, sS_app]
    cases q : d.par with
    | none =>
      show _ + _ + sS dig 32 [] ≤ 12
      have : sS dig 32 [] = 0 := rfl
      omega
    | some p =>
      have e : sS dig 32 [INS, p] = sS dig 32 ([INS] ++ [p]) := rfl
      have := name_nodig (o.par p q)
      have n0 : cn dig INS = 0 := by decide
      show _ + _ + sS dig 32 [INS, p] ≤ 12
      rw [e, sS_app, sS_one, sS_one, w0]
      omega
  unfold nodeT
  rw [cn_app]
  omega
theorem tree_cn {t : List Nd} (g : Grow t) : cn dig (treeT t) ≤ 72 ∧ (treeT t).length ≤ 600 := by
  obtain ⟨o, hl, _⟩ := g.ok
  unfold treeT
  rw [joinT_nil]
  constructor
  · rw [cn_flat]
    have key : ∀ l : List Nd, (∀ d ∈ l, NdOk d) → ((l.map nodeT).map (cn dig)).sum ≤ 12 * l.length := by
      intro l
      induction l with
      | nil => intro _; exact Nat.le_refl _
      | cons d l ih =>
        intro h
        have := node_digits (h d (by simp))
        have := ih fun y hy => h y (by simp [hy])
        simp only [List.map_cons, List.sum_cons, List.length_cons]
        omega
    have := key t o
    omega
  · have := treeT_len o hl
    rw [List.length_flatten]
    exact this
/-! ### the facts at one depth -/
def TF : TreeFn K88.PG := ⟨0, 1, 2, 3, 4, 5, 6, 7, 1, 0, 3, 2, 4, rfl, rfl, rfl, rfl, rfl, rfl, rfl, rfl, rfl, rfl, rfl, rfl, rfl⟩
section
variable {N u : Nat} {h : Hh} {o : O} {Q : W → Hh → Prop} {X : Nat → W → Hh → Prop}
theorem q_nip {H : O → Hh} (C : UrC H u) (ho : Ur o) {m : Int} (h0 : 0 < m) (h1 : m < 1073741824) (k : ∀ r o', 0 ≤ r → r < m → Ur o' → Q (.int r) (H o')) : (cal K88.PG (N + 29) false 17 [.ref u, .int m] (H o)).wp Q X := nip_c (n := N + 28) C rfl ho h0 h1 k
theorem q_any {H : O → Hh} (C : UrC H u) (ho : Ur o) {xs : List W} (h0 : 0 < xs.length) (h1 : xs.length < 1073741824) (k : ∀ v ∈ xs, ∀ o', Ur o' → Q v (H o')) : (cal K88.PG (N + 29) false 18 [.ref u, .tup xs] (H o)).wp Q X := anyT_c (n := N + 27) (g := 17) C rfl rfl ho h0 h1 k
theorem q_changed {H : O → Hh} (C : UrC H u) (ho : Ur o) {x : Tx} (hx : x.length ≤ 20000) (k : ∀ y o', Ur o' → (∀ p, cn p y ≤ 2 * cn p x + 30) → Q (.str y) (H o')) : (cal K88.PG (N + 29) false 30 [.ref u, .str x] (H o)).wp Q X := changed_wp (n := N + 25) (nip := 17) (any := 18) (tr := 23) C rfl rfl rfl rfl ho hx k
theorem q_treeOf {x : Tx} (hs : Sm x) : cal K88.PG (N + 29) false 28 [.str x] h = .ok (encR (lawT x)) h := treeOf_ok (n := N + 26) (nd := 27) (ln := 26) (fg := 22) rfl rfl rfl rfl hs
theorem q_told (hf : Hf h) {x : Tx} {b : Bool} (hs : Sm x) (hd : cn dig x ≤ 640) : cal K88.PG (N + 29) false 29 [.str x, .bl b] h = .ok (toldW (readT x)) h := told_ok (n := N + 21) hs (read_ok (n := N + 21) TF (f := 14) (c := 3) (gN := 6) (gI := 7) (gD := 5) (rw := 10) (no := 13) (nu := 9) rfl rfl rfl rfl rfl rfl rfl hf hs (few_digits hd))
theorem q_toldno (hf : Hf h) {w : W} (d : dat w = true) (hw : isStrW w = false) {b : Bool} : cal K88.PG (N + 29) false 29 [w, .bl b] h = .ok (.tup [.non]) h := told_no (n := N + 27) d hw hf
theorem q_same {k : Nat} (hk : k ≤ 10) {a b : W} (fa : fitW k a = true) (db : dat b = true) : cal K88.PG (N + 29) false 19 [a, b] h = .ok (.bl (sameW a b)) h := by
  have := same_ok (P := K88.PG) (f := 19) (h := h) (hot := false) rfl rfl k (N + 28 - k) a b fa db
  rw [show N + 28 - k + k + 1 = N + 29 by omega] at this
  exact this
theorem q_written {t : List Nd} (g : Grow t) : cal K88.PG (N + 29) false 25 [encT t] h = .ok (.str (treeT t)) h := written_ok (n := N + 27) (g := 24) rfl rfl g.ok.1 g.ok.2.1
theorem q_text {t : List Nd} (hf : Hf h) (g : Grow t) (ht : t ≠ []) : cal K88.PG (N + 29) false 12 [encT t] h = .ok (.str (treeT t)) h := treeText_ok (n := N + 21) TF (k := 8) (c := 1) (nt := 11) (gN := 6) (gI := 7) rfl rfl rfl rfl rfl hf g.ok.1 g.ok.2.1 (g.ok.2.2.resolve_left ht)
theorem q_isTree (hf : Hf h) {w : W} (d : dat w = true) : cal K88.PG (N + 29) false 15 [w] h = .ok (.bl (treeW w)) h := isTree_ok (n := N + 22) TF rfl hf d
theorem q_refused (hf : Hf h) {w : W} {k : Nat} (hk : k ≤ 10) (d : fitW k w = true) (hw : treeW w = false) : cal K88.PG (N + 29) false 31 [w] h = .ok (.bl true) h := refused_ok (n := N + 20) (k := k) (m := N + 27 - k) (by omega) d hw hf
theorem q_tree (hu : u < h.length) (ho : Ur o) (k : ∀ t o' ns, Ur o' → Grow t → t ≠ [] → ns.all flat = true → Q (encT t) (h.set u o' ++ [O.lst ns])) : (cal K88.PG (N + 29) false 21 [.ref u, .int 6, .tup [.int 99, .int 99]] (h.set u o)).wp Q X := lawTree_wp (n := N + 25) (nip := 17) (any := 18) (name := 20) hu rfl rfl rfl rfl ho k
/-! ### one changed text -/
theorem lo_flat : ∀ {ns : List W}, ns.all flat = true → wlos 0 ns = true
  | [], _ => rfl
  | w :: ns, h => by
    rw [List.all_cons, Bool.and_eq_true] at h
    show (wlo 0 w && wlos 0 ns) = true
    rw [lo_flat h.2]
    cases w <;> first | rfl | cases h.1
theorem Ur.lo {o : O} (h : Ur o) : O.lo 0 o = true := by
  refine ofPP ?_; obtain ⟨a, b, c, rfl⟩ := h; refine toPP ?_
  rfl
theorem hf_mid {h cs : Hh} (a : Hf h) (b : Hf cs) (c : Ur o) : Hf (h ++ o :: cs) := fun x hx => by
  rcases List.mem_append.mp hx with hx | hx
  · exact a x hx
  · rcases List.mem_cons.mp hx with rfl | hx
    · exact c.lo
    · exact b x hx
theorem urc_mid (h cs : Hh) : UrC (fun o => h ++ o :: cs) h.length := by
  refine ⟨fun o => ?_, fun o o' => ?_, fun o o' => by simp⟩
  · rw [List.getElem?_append_right (Nat.le_refl _)]
    simp
  · rw [List.set_append_right _ _ (Nat.le_refl _)]
    simp
/-- a text and what is told of it -/
theorem due_eq (x : Tx) : encR (readT x) = (match readT x with
    | .error i => .tup [.non, .int (i : Nat)]
    | .ok t => .tup [encT t, .non]) := by
  cases readT x <;> rfl
theorem same_told (x : Tx) : sameW (toldW (readT x)) (toldW (readT x)) = true := sameW_refl _ (fit_dat _ _ (toldW_fit x))
/-- a turn of the inner loop, behind the changes -/
theorem inner_end {cs : Hh} (hf : Hf h) (hc : Hf cs) (ho : Ur o) {y : Tx} (hy : y.length ≤ 3000) (hd : cn dig y ≤ 640) {D : Ps} {a1 a2 a3 a4 a5 a6 a7 a8 a10 : Option W} (k : ∀ o' a10, Ur o' → D.nx [some (.ref h.length), a1, a2, a3, a4, a5, a6, a7, a8, some (.str y), a10] (h ++ o' :: cs)) :
    (exs K88.PG (cal K88.PG (N + 29)) false [(.set 10 (.call 28 [(.var 9)])), (.set 10 (.ite (.cmp .isn (.ix (.var 10) (.int 0)) .non) (.lst false [(.ix (.var 10) (.int 0))]) (.tup [(.ix (.var 10) (.int 1))]))), (.iff (.and (.cmp .lt (.blt .len [(.var 9)]) (.int 2000)) (.not (.call 19 [(.call 29 [(.var 9), (.cmp .eq (.call 17 [(.var 0), (.int 2)]) (.int 0))]), (.var 10)]))) [(.ret (.tt false))] [])] [some (.ref h.length), a1, a2, a3, a4, a5, a6, a7, a8, some (.str y), a10] (h ++ o :: cs)).wp D := by
  have hs : Sm y := by show _ ≤ 100000; omega
  have C := urc_mid h cs
  have hfo : ∀ {o : O}, Ur o → Hf (h ++ o :: cs) := fun z => hf_mid hf hc z
  have xr : ∀ e, isExn (encR e) = false := fun e => by cases e <;> rfl
  have xd : ∀ e, isExn (toldW e) = false := fun e => by cases e <;> rfl
  refine exs_c_eq (h' := h ++ o :: cs) (ρ' := [some (.ref h.length), a1, a2, a3, a4, a5, a6, a7, a8, some (.str y), some (encR (lawT y))]) (by simp_arith [q_treeOf hs]) ?_
  rw [← read_eq]
  refine exs_c_eq (h' := h ++ o :: cs) (ρ' := [some (.ref h.length), a1, a2, a3, a4, a5, a6, a7, a8, some (.str y), some (toldW (readT y))]) ?_ ?_
  · cases q : readT y with
    | error i =>
      unfold encR toldW
      simp_arith []
    | ok t =>
      have xt := ex_dat (encT_dat t)
      have isn : ∀ h, cmpO .is (encT t) .non h = some false := fun h => rfl
      unfold encR toldW
      simp_arith [isn]
  · by_cases q : (y.length : Int) < 2000
    · simp_arith [q]
      refine q_nip C ho (by decide) (by decide) fun r o2 _ _ ho2 => ?_
      have sm := q_same (N := N) (h := h ++ o2 :: cs) (k := 4) (by decide) (toldW_fit y) (fit_dat _ _ (toldW_fit y))
      simp_arith [q_told (N := N) (hfo ho2) hs hd, xd, sm, same_told]
      exact k o2 _ ho2
    · simp_arith [q]
      exact k o _ ho
/-- the state of the outer loop -/
def OSt (h : Hh) (i : Nat) (ρ : Env) (h' : Hh) : Prop := ∃ o cs a1 a2 a3 a4 a5 a6 a7 a8 a9 a10, Ur o ∧ Hf cs ∧ h' = h ++ o :: cs ∧ ρ = [some (.ref h.length), a1, a2, a3, a4, a5, a6, a7, a8, a9, a10] ∧ (i ≠ 0 → ∃ t, Grow t ∧ t ≠ [] ∧ a5 = some (encT t) ∧ a6 = some (.str (treeT t)))
/-- the inner loop -/
theorem inner_wp {cs : Hh} (hf : Hf h) (hc : Hf cs) (ho : Ur o) {t : List Nd} (g : Grow t) {D : Ps} {a1 a2 a3 a4 a5 a7 a8 a9 a10 : Option W} (k : ∀ o' a8 a9 a10, Ur o' → D.nx [some (.ref h.length), a1, a2, a3, a4, a5, some (.str (treeT t)), a7, a8, a9, a10] (h ++ o' :: cs)) :
    (ex K88.PG (cal K88.PG (N + 29)) false (.fo (.nm 8) .r1 [(.int 8)] [(.set 9 (.call 30 [(.var 0), (.var 6)])), (.set 9 (.ite (.cmp .eq (.call 17 [(.var 0), (.int 4)]) (.int 0)) (.call 30 [(.var 0), (.var 9)]) (.var 9))), (.set 10 (.call 28 [(.var 9)])), (.set 10 (.ite (.cmp .isn (.ix (.var 10) (.int 0)) .non) (.lst false [(.ix (.var 10) (.int 0))]) (.tup [(.ix (.var 10) (.int 1))]))), (.iff (.and (.cmp .lt (.blt .len [(.var 9)]) (.int 2000)) (.not (.call 19 [(.call 29 [(.var 9), (.cmp .eq (.call 17 [(.var 0), (.int 2)]) (.int 0))]), (.var 10)]))) [(.ret (.tt false))] [])]) [some (.ref h.length), a1, a2, a3, a4, a5, some (.str (treeT t)), a7, a8, a9, a10] (h ++ o :: cs)).wp D := by
  have C := urc_mid h cs
  obtain ⟨td, tl⟩ := tree_cn g
  refine ex_fo_wp ?_
  simp_arith []
  refine ⟨_, (List.range 8).map fun (i : Nat) => W.int (i : Nat), fun i ρ h' => ∃ o a8 a9 a10, Ur o ∧ h' = h ++ o :: cs ∧ ρ = [some (.ref h.length), a1, a2, a3, a4, a5, some (.str (treeT t)), a7, a8, a9, a10], iv_r1n (by decide) (by decide), itm_rg.1, ⟨o, a8, a9, a10, ho, rfl, rfl⟩, fun i ρ h' _ => itm_rg.2 i, fun i y ρ h' hy J => ?_, fun ρ h' J => ?_⟩
  · refine ofPP ?_; obtain ⟨o1, b8, b9, b10, ho1, rfl, rfl⟩ := J; refine toPP ?_
    unfold foTu
    rw [asgN_nm, onO_s]
    simp only [sv_set0, sv_setS]
    refine exs_c_wp ?_
    simp only [ex_set, wp_rf, ev_call, evs_c, evs_n, ev_var, sv_get0, sv_getS, sv_joinS, outV_s, isExn_ref, isExn_str, sv_ft, sv_false, fin_f, bnd_ok', wp_bnd, wp_ok]
    refine q_changed C ho1 (by omega) fun z o2 ho2 hz => ?_
    rw [wf_nx]
    have z1 := hz dig
    have z2 := hz (fun _ => true)
    rw [← len_cn, ← len_cn] at z2
    refine exs_c_wp ?_
    simp only [ex_set, wp_rf, ev_ite, ev_cmp, ev_int, ev_call, evs_c, evs_n, ev_var, sv_set0, sv_setS, sv_get0, sv_getS, sv_joinS, outV_s, isExn_ref, isExn_str, sv_ft, sv_false, fin_f, fin_t, bnd_ok', wp_bnd, wp_ok]
    refine q_nip C ho2 (by decide) (by decide) fun r o3 _ _ ho3 => ?_
    by_cases q : r = 0
    · simp only [q, cmp_eqI, outB_s, tru_bl, onB_t, decide_true, ev_ite, ev_cmp, ev_int, ev_call, evs_c, evs_n, ev_var, sv_set0, sv_setS, sv_get0, sv_getS, sv_joinS, outV_s, isExn_ref, isExn_str, sv_ft, sv_false, fin_f, fin_t, bnd_ok', wp_bnd, wp_ok]
      refine q_changed C ho3 (by omega) fun z' o4 ho4 hz' => ?_
      have z1' := hz' dig
      have z2' := hz' (fun _ => true)
      rw [← len_cn, ← len_cn] at z2'
      rw [wf_nx]
      exact inner_end hf hc ho4 (by omega) (by omega) fun o5 b ho5 => ⟨o5, _, _, _, ho5, rfl, rfl⟩
    · simp only [decide_eq_false q, cmp_eqI, outB_s, tru_bl, onB_f, ev_ite, ev_cmp, ev_int, ev_call, evs_c, evs_n, ev_var, sv_set0, sv_setS, sv_get0, sv_getS, sv_joinS, outV_s, isExn_ref, isExn_str, sv_ft, sv_false, fin_f, fin_t, bnd_ok', wp_bnd, wp_ok]
      rw [wf_nx]
      exact inner_end hf hc ho3 (by omega) (by omega) fun o5 b ho5 => ⟨o5, _, _, _, ho5, rfl, rfl⟩
  · refine ofPP ?_; obtain ⟨o1, b8, b9, b10, ho1, rfl, rfl⟩ := J; refine toPP ?_
    exact k o1 b8 b9 b10 ho1
theorem outer_turn (hf : Hf h) {i : Nat} {w : W} {D : Ps} {ρ : Env} {h' : Hh} (J : OSt h i ρ h') (k : ∀ ρ' h', OSt h (i + 1) ρ' h' → D.nx ρ' h') :
    (foTu K88.PG (cal K88.PG (N + 29)) false (.nm 1) [(.set 5 (.call 21 [(.var 0), (.int 6), (.tup [(.int 99), (.int 99)])])), (.set 6 (.call 25 [(.var 5)])), (.set 7 (.ite (.cmp .eq (.call 17 [(.var 0), (.int 2)]) (.int 0)) (.call 12 [(.var 5)]) (.call 12 [(.var 5)]))), (.iff (.or (.cmp .isn (.call 15 [(.var 5)]) (.tt true)) (.or (.not (.call 19 [(.var 7), (.var 6)])) (.not (.call 19 [(.call 29 [(.var 6), (.cmp .eq (.call 17 [(.var 0), (.int 2)]) (.int 0))]), (.lst false [(.var 5)])])))) [(.ret (.tt false))] []), (.fo (.nm 8) .r1 [(.int 8)] [(.set 9 (.call 30 [(.var 0), (.var 6)])), (.set 9 (.ite (.cmp .eq (.call 17 [(.var 0), (.int 4)]) (.int 0)) (.call 30 [(.var 0), (.var 9)]) (.var 9))), (.set 10 (.call 28 [(.var 9)])), (.set 10 (.ite (.cmp .isn (.ix (.var 10) (.int 0)) .non) (.lst false [(.ix (.var 10) (.int 0))]) (.tup [(.ix (.var 10) (.int 1))]))), (.iff (.and (.cmp .lt (.blt .len [(.var 9)]) (.int 2000)) (.not (.call 19 [(.call 29 [(.var 9), (.cmp .eq (.call 17 [(.var 0), (.int 2)]) (.int 0))]), (.var 10)]))) [(.ret (.tt false))] [])])] w ρ h').wp D := by
  refine ofPP ?_; obtain ⟨o, cs, a1, a2, a3, a4, a5, a6, a7, a8, a9, a10, ho, hc, rfl, rfl, _⟩ := J; refine toPP ?_
  have hu : h.length < (h ++ o :: cs).length := by simp
  have C0 := urc_mid h cs
  unfold foTu
  rw [asgN_nm, onO_s]
  simp only [sv_set0, sv_setS]
  refine exs_c_wp ?_
  simp only [ex_set, wp_rf, ev_call, ev_tup, ev_int, evs_c, evs_n, ev_var, sv_get0, sv_getS, sv_joinS, outV_s, isExn_ref, sv_ft, sv_false, fin_f, bnd_ok', wp_bnd, wp_ok, mkT_ok, sv_len0, sv_lenS, bg0, bg1, bg2, Nat.zero_add, Nat.reduceAdd]
  have es : (h ++ o :: cs).set h.length o = h ++ o :: cs := C0.set o o
  rw [← es]
  refine q_tree hu ho fun t o1 ns ho1 g ht hns => ?_
  have eh : (h ++ o :: cs).set h.length o1 ++ [O.lst ns] = h ++ o1 :: (cs ++ [O.lst ns]) := by
    rw [show (h ++ o :: cs).set h.length o1 = h ++ o1 :: cs from C0.set o o1]
    simp
  rw [eh, wf_nx]
  have hc1 : Hf (cs ++ [O.lst ns]) := hc.app (lo_flat hns)
  generalize cs ++ [O.lst ns] = ds at hc1
  have C := urc_mid h ds
  have hfo : ∀ {o : O}, Ur o → Hf (h ++ o :: ds) := fun z => hf_mid hf hc1 z
  have xt := ex_dat (encT_dat t)
  obtain ⟨td, tl⟩ := tree_cn g
  have tv := g.ok.2.2.resolve_left ht
  have hs : Sm (treeT t) := by show _ ≤ 100000; omega
  have rd := g.read ht
  refine exs_c_eq (h' := h ++ o1 :: ds) (ρ' := [some (.ref h.length), some w, a2, a3, a4, some (encT t), some (.str (treeT t)), a7, a8, a9, a10]) (by simp_arith [xt, q_written g]) ?_
  refine exs_c_wp ?_
  simp only [ex_set, wp_rf, ev_ite, ev_cmp, ev_int, ev_call, evs_c, evs_n, ev_var, sv_set0, sv_setS, sv_get0, sv_getS, sv_joinS, outV_s, isExn_ref, xt, sv_ft, sv_false, fin_f, fin_t, bnd_ok', wp_bnd, wp_ok]
  refine q_nip C ho1 (by decide) (by decide) fun r o2 _ _ ho2 => ?_
  have txe : ev K88.PG false (cal K88.PG (N + 29) false) false (.call 12 [.var 5]) [some (.ref h.length), some w, a2, a3, a4, some (encT t), some (.str (treeT t)), a7, a8, a9, a10] (h ++ o2 :: ds) = .ok (.str (treeT t)) (h ++ o2 :: ds) := by
    simp only [ev_ite, ev_cmp, ev_int, ev_call, evs_c, evs_n, ev_var, sv_set0, sv_setS, sv_get0, sv_getS, sv_joinS, outV_s, isExn_ref, isExn_str, sv_ft, sv_false, fin_f, fin_t, bnd_ok', wp_bnd, wp_ok, xt, q_text (hfo ho2) g ht]
  have txt : (onB (.bl (decide (r = 0))) (ev K88.PG false (cal K88.PG (N + 29) false) false (.call 12 [.var 5]) [some (.ref h.length), some w, a2, a3, a4, some (encT t), some (.str (treeT t)), a7, a8, a9, a10] (h ++ o2 :: ds)) (ev K88.PG false (cal K88.PG (N + 29) false) false (.call 12 [.var 5]) [some (.ref h.length), some w, a2, a3, a4, some (encT t), some (.str (treeT t)), a7, a8, a9, a10] (h ++ o2 :: ds)) .bad : Rs W) = .ok (.str (treeT t)) (h ++ o2 :: ds) := by
    rw [txe]
    cases decide (r = 0) <;> rfl
  simp only [ev_ite, ev_cmp, ev_int, ev_call, evs_c, evs_n, ev_var, sv_set0, sv_setS, sv_get0, sv_getS, sv_joinS, outV_s, isExn_ref, isExn_str, sv_ft, sv_false, fin_f, fin_t, bnd_ok', wp_bnd, wp_ok, cmp_eqI, outB_s, tru_bl, txt]
  rw [wf_nx]
  refine exs_c_wp ?_
  have sm1 := q_same (N := N) (h := h ++ o2 :: ds) (k := 0) (by decide) (a := .str (treeT t)) (b := .str (treeT t)) rfl rfl
  rw [sameW_refl _ rfl] at sm1
  have tl4 : fitW 4 (toldW (readT (treeT t))) = true := toldW_fit _
  simp_arith [xt, q_isTree (hfo ho2) (encT_dat t), tv, sm1]
  refine q_nip C ho2 (by decide) (by decide) fun r3 o3 _ _ ho3 => ?_
  have sm2 := q_same (N := N) (h := h ++ o3 :: ds) (k := 4) (by decide) (toldW_fit (treeT t)) (fit_dat _ _ (toldW_fit (treeT t)))
  rw [same_told, rd] at sm2
  have tld := fun b => q_told (N := N) (b := b) (hfo ho3) hs (show cn dig (treeT t) ≤ 640 by omega)
  rw [rd] at tld
  unfold toldW at sm2 tld
  simp_arith [tld, sm2, xt]
  refine inner_wp hf hc1 ho3 g fun o4 b8 b9 b10 ho4 => ?_
  simp_arith []
  exact k _ _ ⟨o4, ds, _, _, _, _, _, _, _, _, _, _, ho4, hc1, rfl, rfl, fun _ => ⟨t, g, ht, rfl, rfl⟩⟩
end
end LP
/-! LP, plain: the law of the texts of trees, its end. -/
namespace LP
theorem Grow.first {t : List Nd} (g : Grow t) : ∀ d s, t = d :: s → d.par = none := by
  induction g with
  | nil => intro d s h; cases h
  | @snoc t c g l o n p f ih =>
    intro d s h
    cases t with
    | nil =>
      cases h
      cases q : c.par with
      | none => rfl
      | some x => rw [q] at p; cases p
    | cons a t' =>
      have h : a :: (t' ++ [c]) = d :: s := h
      cases h
      exact ih _ _ rfl
theorem Grow.last {t : List Nd} (g : Grow t) (h : 1 < t.length) : ∃ c s p, t = s ++ [c] ∧ c.par = some p := by
  cases g with
  | nil => simp at h
  | @snoc s c g l o n p f =>
    refine ⟨c, s, ?_⟩
    rw [par_names, if_neg (by intro z; rw [z] at h; simp at h)] at p
    cases q : c.par with
    | none => rw [q] at p; cases p
    | some x => exact ⟨x, rfl, rfl⟩
/-- no trees -/
theorem no_two (w : W) (h : nodeW w = false) (s : List W) : treeW (.tup (w :: s)) = false := by
  show ((decide (1 ≤ (w :: s).length) && decide ((w :: s).length ≤ 6)) && ((w :: s).all nodeW && _)) = false
  rw [List.all_cons, h]
  simp
theorem no_parent {x p : Tx} {a r b : W} {s : List W} : treeW (.tup (.tup [.str x, .str p, a, r, b] :: s)) = false := by
  show ((decide (1 ≤ _) && decide (_ ≤ 6)) && (_ && treeGo (lenW r) (.tup [.str x, .str p, a, r, b] :: s) [])) = false
  rw [treeGo_cons]
  show (_ && (_ && (if ((([] : List W).any fun y => eqB y (.str x)) || (!(parW (.str p) []) || !(lenW r == lenW r))) = true then false else _))) = false
  have : parW (.str p) [] = false := rfl
  rw [this]
  simp
theorem treeW_rev {t : List Nd} (g : Grow t) (h : 1 < t.length) : treeW (.tup (t.map encN).reverse) = false := by
  obtain ⟨c, s, p, rfl, hp⟩ := g.last h
  rw [List.map_append, List.reverse_append]
  show treeW (.tup (encN c :: (s.map encN).reverse)) = false
  unfold encN
  rw [hp]
  exact no_parent
/-- what is no tree, of a tree's first node -/
def oddL (t : List Nd) (d : Nd) : List W :=
  [.non, .tup [], if 1 < t.length then .tup (t.map encN).reverse else .int 0, .lst (t.map encN), .str (treeT t),
    .tup [.tup [.str d.nm, .non, .int 100, .tup (encI d.re), .int d.bo]], .tup [.tup [.str d.nm, .str d.nm, .int d.bu, .tup (encI d.re), .int d.bo]], .tup [.tup [.str d.nm, .non, .int d.bu, .tup (encI d.re), .int d.bo], .tup [.str d.nm, .non, .int d.bu, .tup (encI d.re), .int d.bo]],
    .tup [.tup [.str d.nm, .non, .int d.bu, .tup [], .int d.bo]], .tup [.tup [.str d.nm, .non, .int d.bu, .tup [.int 1, .int 1, .int 1, .int 1, .int 1], .int d.bo]], .tup [.tup [.str (d.nm ++ [90]), .non, .int d.bu, .tup (encI d.re), .int d.bo]],
    .tup [.tup [.str d.nm, .non, .int d.bu, .tup (encI d.re), .int d.bo, .int 0]], .tup [.tup [.str d.nm, .non, .int d.bu, .tup (encI d.re), .bl true]]]
theorem upToW_100 : upToW 99 (.int 100) = false := by decide
theorem odd_no {t : List Nd} {d : Nd} {s : List Nd} (g : Grow t) (e : t = d :: s) : ∀ w ∈ oddL t d, treeW w = false ∧ fitW 4 w = true := by
  have hok := g.ok
  have hl := hok.2.1
  have od := hok.1 d (by rw [e]; simp)
  have hr : d.re.length ≤ 100 := by have := od.len; omega
  have node : ∀ {nm : Tx} {par bu bo : W} {re : List Nat}, flat par = true → flat bu = true → flat bo = true → re.length ≤ 100 → fitW 4 (.tup [.tup [.str nm, par, bu, .tup (encI re), bo]]) = true := fun hp hb hc hr => by
    refine fit_up 3 _ (fit_tupl (lt_big (m := 1) (by simp) (by decide)) fun w hw => ?_)
    rw [show w = _ by simpa using hw]
    exact fit_parts hp hb hc hr
  intro w hw
  unfold oddL at hw
  simp only [List.mem_cons, List.not_mem_nil, or_false] at hw
  rcases hw with rfl | rfl | rfl | rfl | rfl | rfl | rfl | rfl | rfl | rfl | rfl | rfl | rfl
  · exact ⟨rfl, rfl⟩
  · exact ⟨rfl, fit_up 3 _ (fit_up 2 _ (fit_up 1 _ (fit_ints (l := []) (Nat.zero_le _))))⟩
  · by_cases q : 1 < t.length
    · rw [if_pos q]
      refine ⟨treeW_rev g q, fit_up 3 _ (fit_tupl (by rw [List.length_reverse, List.length_map]; exact lt_big hl (by decide)) fun w hw => ?_)⟩
      obtain ⟨c, hc, rfl⟩ := List.mem_map.mp (List.mem_reverse.mp hw)
      have := (hok.1 c hc).len
      exact fit_node (by omega)
    · rw [if_neg q]
      exact ⟨rfl, rfl⟩
  · refine ⟨rfl, fit_up 3 _ (fit_lstl (by rw [List.length_map]; exact lt_big hl (by decide)) fun w hw => ?_)⟩
    obtain ⟨c, hc, rfl⟩ := List.mem_map.mp hw
    have := (hok.1 c hc).len
    exact fit_node (by omega)
  · exact ⟨rfl, rfl⟩
  · refine ⟨no_two _ ?_ [], node rfl rfl rfl hr⟩
    show (nameT d.nm && (upToW 99 (.int 100) && _)) = false
    rw [upToW_100]
    simp
  · exact ⟨no_parent, node rfl rfl rfl hr⟩
  · constructor
    · show ((decide (1 ≤ 2) && decide (2 ≤ 6)) && (_ && treeGo (encI d.re).length [.tup [.str d.nm, .non, .int d.bu, .tup (encI d.re), .int d.bo], .tup [.str d.nm, .non, .int d.bu, .tup (encI d.re), .int d.bo]] [])) = false
      rw [treeGo_cons, treeGo_cons]
      have : (([] ++ [W.str d.nm]).any fun y => eqB y (.str d.nm)) = true := by
        show ((d.nm == d.nm) || false) = true
        rw [beq_self_eq_true]
        rfl
      rw [this]
      simp
    · refine fit_up 3 _ (fit_tupl (lt_big (m := 2) (by simp) (by decide)) fun w hw => ?_)
      have hw : w = .tup [.str d.nm, .non, .int d.bu, .tup (encI d.re), .int d.bo] := by simpa using hw
      rw [hw]
      exact fit_parts rfl rfl rfl hr
  · refine ⟨no_two _ ?_ [], node (re := []) rfl rfl rfl (by simp)⟩
    show (nameT d.nm && (upToW 99 (.int d.bu) && (refW 99 (.tup []) && _))) = false
    rw [show refW 99 (.tup []) = false from rfl]
    simp
  · refine ⟨no_two _ ?_ [], node (re := [1, 1, 1, 1, 1]) rfl rfl rfl (by simp)⟩
    show (nameT d.nm && (upToW 99 (.int d.bu) && (refW 99 (.tup [.int 1, .int 1, .int 1, .int 1, .int 1]) && _))) = false
    rw [show refW 99 (.tup [.int 1, .int 1, .int 1, .int 1, .int 1]) = false by decide]
    simp
  · refine ⟨no_two _ ?_ [], node rfl rfl rfl hr⟩
    show (nameT (d.nm ++ [90]) && _) = false
    have : nameT (d.nm ++ [90]) = false := by
      cases q : nameT (d.nm ++ [90]) with
      | false => rfl
      | true => have := name_signs q 90 (by simp); omega
    rw [this]
    rfl
  · refine ⟨no_two _ rfl [], ?_⟩
    refine fit_up 3 _ (fit_tupl (lt_big (m := 1) (by simp) (by decide)) fun w hw => ?_)
    rw [show w = _ by simpa using hw]
    refine fit_tupl (lt_big (m := 6) (by simp) (by decide)) fun w hw => ?_
    simp only [List.mem_cons, List.not_mem_nil, or_false] at hw
    rcases hw with rfl | rfl | rfl | rfl | rfl | rfl
    · rfl
    · rfl
    · rfl
    · exact fit_ints (lt_big hr (by decide))
    · rfl
    · rfl
  · refine ⟨no_two _ ?_ [], node rfl rfl rfl hr⟩
    show (nameT d.nm && (upToW 99 (.int d.bu) && (refW 99 (.tup (encI d.re)) && upToW 99 (.bl true)))) = false
    rw [show upToW 99 (.bl true) = false from rfl]
    simp
section
variable {N u : Nat} {h : Hh} {o : O}
theorem right_end {cs : Hh} (hf : Hf h) (hc : Hf cs) (ho : Ur o) {t : List Nd} (g : Grow t) (ht : t ≠ []) {a1 a2 a3 a4 a7 a8 a9 a10 : Option W} :
    (exs K88.PG (cal K88.PG (N + 29)) false [(.set 2 (.ix (.var 5) (.int 0))), (.set 3 (.tup [.non, (.tup []), (.ite (.cmp .gt (.blt .len [(.var 5)]) (.int 1)) (.rev (.var 5)) (.int 0)), (.blt (.lst false) [(.var 5)]), (.var 6), (.tup [(.bin false .add (.bin false .add (.slt false (.var 2) (.int 2)) (.tup [(.int 100)])) (.slf false (.var 2) (.int 3)))]), (.tup [(.bin false .add (.bin false .add (.slt false (.var 2) (.int 1)) (.tup [(.ix (.var 2) (.int 0))])) (.slf false (.var 2) (.int 2)))]), (.tup [(.var 2), (.var 2)])])), (.set 3 (.bin false .add (.var 3) (.tup [(.tup [(.bin false .add (.bin false .add (.slt false (.var 2) (.int 3)) (.tup [(.tup [])])) (.slf false (.var 2) (.int 4)))]), (.tup [(.bin false .add (.bin false .add (.slt false (.var 2) (.int 3)) (.tup [(.bin false .mul (.tup [(.int 1)]) (.int 5))])) (.slf false (.var 2) (.int 4)))]), (.tup [(.bin false .add (.tup [(.bin false .add (.ix (.var 2) (.int 0)) (.str [90]))]) (.slf false (.var 2) (.int 1)))]), (.tup [(.bin false .add (.var 2) (.tup [(.int 0)]))]), (.tup [(.bin false .add (.slt false (.var 2) (.int 4)) (.tup [(.tt true)]))])]))), (.set 4 (.call 18 [(.var 0), (.tup [.non, (.int 0), (.tt true), (.tup [(.str [110, 111, 100, 101])]), (.lst false [(.str [110, 111, 100, 101])]), (.var 5), (.tup [])])])), (.ret (.and (.call 31 [(.call 18 [(.var 0), (.var 3)])]) (.call 19 [(.call 29 [(.var 4), (.tt false)]), (.tup [.non])])))] [some (.ref h.length), a1, a2, a3, a4, some (encT t), some (.str (treeT t)), a7, a8, a9, a10] (h ++ o :: cs)).wp (Ps.ret fun w h' => w = .bl true ∧ ∃ o' cs, Ur o' ∧ h' = h ++ o' :: cs) := by
  have C := urc_mid h cs
  have hfo : ∀ {o : O}, Ur o → Hf (h ++ o :: cs) := fun z => hf_mid hf hc z
  obtain ⟨d, s, e⟩ : ∃ d s, t = d :: s := by
    cases t with
    | nil => exact absurd rfl ht
    | cons d s => exact ⟨d, s, rfl⟩
  have hp := g.first d s e
  have odd := odd_no g e
  have od := g.ok.1 d (by rw [e]; simp)
  have xt := ex_dat (encT_dat t)
  have hl := g.ok.2.1
  have tv := g.ok.2.2.resolve_left ht
  have ix0 : ixO (h ++ o :: cs) (encT t) (.int 0) = some (.tup [.str d.nm, .non, .int d.bu, .tup (encI d.re), .int d.bo]) := by
    rw [e]
    unfold encT
    rw [List.map_cons]
    unfold encN
    rw [hp]
    simp_arith []
    rfl
  refine exs_c_eq (h' := h ++ o :: cs) (ρ' := [some (.ref h.length), a1, some (.tup [.str d.nm, .non, .int d.bu, .tup (encI d.re), .int d.bo]), a3, a4, some (encT t), some (.str (treeT t)), a7, a8, a9, a10]) (by simp_arith [xt, ix0]) ?_
  have mb : ((t.map encN)).length ≤ big := lt_big (m := 6) (by rw [List.length_map]; exact hl) (by decide)
  have ml := mkL_ok (h := h ++ o :: cs) mb
  have le : biO .len [encT t] (h ++ o :: cs) = .ok (.int (t.length : Nat)) (h ++ o :: cs) := by
    show Rs.ok (W.int ((t.map encN).length : Nat)) _ = _
    rw [List.length_map]
  have li : biO (.lst false) [encT t] (h ++ o :: cs) = .ok (.lst (t.map encN)) (h ++ o :: cs) := by
    show mkL false (t.map encN) _ = _
    exact ml
  have rv : revO (encT t) (h ++ o :: cs) = .ok (.tup (t.map encN).reverse) (h ++ o :: cs) := rfl
  refine exs_c_eq (h' := h ++ o :: cs) (ρ' := [some (.ref h.length), a1, some (.tup [.str d.nm, .non, .int d.bu, .tup (encI d.re), .int d.bo]), some (.tup ((oddL t d).take 8)), a4, some (encT t), some (.str (treeT t)), a7, a8, a9, a10]) ?_ ?_
  · unfold oddL
    by_cases q : 1 < t.length
    · have q' : (1 : Int) < (t.length : Nat) := by omega
      simp_arith [xt, le, li, rv, q, q']
    · have q' : ¬ (1 : Int) < (t.length : Nat) := by omega
      simp_arith [xt, le, li, rv, q, q']
  have mul5 : binO false .mul (.tup [.int 1]) (.int 5) (h ++ o :: cs) = .ok (.tup [.int 1, .int 1, .int 1, .int 1, .int 1]) (h ++ o :: cs) := rfl
  have mz := mkX_ok (h := h ++ o :: cs) (x := d.nm ++ [90]) (lt_big (m := 9) (by have := (nameT_len od.nm).2; simp; omega) (by decide))
  refine exs_c_eq (h' := h ++ o :: cs) (ρ' := [some (.ref h.length), a1, some (.tup [.str d.nm, .non, .int d.bu, .tup (encI d.re), .int d.bo]), some (.tup (oddL t d)), a4, some (encT t), some (.str (treeT t)), a7, a8, a9, a10]) (by unfold oddL; simp_arith [mul5, mz]) ?_
  refine exs_c_wp ?_
  simp only [ex_set, wp_rf, ev_call, ev_tup, ev_lst, ev_str, ev_int, ev_tt, ev_non, evs_c, evs_n, ev_var, sv_get0, sv_getS, sv_joinS, outV_s, isExn_ref, xt, sv_ft, sv_false, fin_f, bnd_ok', wp_bnd, wp_ok, mkT_ok, mkL_ok, sv_len0, sv_lenS, bg0, bg1, bg2, bg3, bg4, bg5, bg6, bg7, Nat.zero_add, Nat.reduceAdd]
  refine q_any C ho (by simp) (by simp) fun v hv o1 ho1 => ?_
  have hv : dat v = true ∧ isStrW v = false := by
    simp only [List.mem_cons, List.not_mem_nil, or_false] at hv
    rcases hv with rfl | rfl | rfl | rfl | rfl | rfl | rfl
    · exact ⟨rfl, rfl⟩
    · exact ⟨rfl, rfl⟩
    · exact ⟨rfl, rfl⟩
    · exact ⟨rfl, rfl⟩
    · exact ⟨rfl, rfl⟩
    · exact ⟨encT_dat t, rfl⟩
    · exact ⟨rfl, rfl⟩
  rw [wf_nx]
  simp only [sv_set0, sv_setS, exs_c, exs_n, ex_ret, ev_and, ev_call, evs_c, evs_n, ev_var, sv_get0, sv_getS, sv_joinS, outV_s, isExn_ref, isExn_tup, sv_ft, sv_false, fin_f, bnd_ok', wp_bnd, wp_ok, wf_nxt, wp_rf]
  refine q_any C ho1 (by unfold oddL; simp) (by unfold oddL; simp) fun w hw o2 ho2 => ?_
  have ow := odd w hw
  have sm := q_same (N := N) (h := h ++ o2 :: cs) (k := 1) (by decide) (a := .tup [.non]) (b := .tup [.non]) rfl rfl
  rw [sameW_refl _ rfl] at sm
  simp_arith [q_refused (N := N) (hfo ho2) (by decide) ow.2 ow.1, q_toldno (N := N) (hfo ho2) hv.1 hv.2, ex_dat hv.1, sm]
  exact ⟨o2, cs, ho2, rfl⟩
theorem right_wp (hf : Hf h) (ho : Ur o) {Q : W → Hh → Prop} {X : Nat → W → Hh → Prop} (k : ∀ o', Ur o' → Q (.bl true) (h ++ [o'])) : (cal K88.PG (N + 30) false 32 [.ref h.length] (h ++ [o])).wp Q X := by
  refine wp_call (D := K88.d32) rfl rfl (fun w h' => w = .bl true ∧ ∃ o' cs, Ur o' ∧ h' = h ++ o' :: cs) ?_ fun w h' ⟨hw, o', cs, ho', hh⟩ => ?_
  · show (exs K88.PG (cal K88.PG (N + 29)) false K88.d32.body [some (.ref h.length), none, none, none, none, none, none, none, none, none, none] (h ++ [o])).wp _
    unfold K88.d32
    refine exs_c_wp (ex_fo_wp ?_)
    simp only [evs_c, evs_n, ev_int, fin_f, bnd_ok', wp_ok]
    refine ⟨_, (List.range 3).map fun (i : Nat) => W.int (i : Nat), OSt h, iv_r1n (by decide) (by decide), itm_rg.1, ⟨o, [], none, none, none, none, none, none, none, none, none, none, ho, Hf.nil, rfl, rfl, fun z => absurd rfl z⟩, fun i ρ h' _ => itm_rg.2 i, fun i y ρ h' hy J => ?_, fun ρ h' J => ?_⟩
    · exact outer_turn hf J fun ρ' h' z => z
    · refine ofPP ?_; obtain ⟨o1, cs, a1, a2, a3, a4, a5, a6, a7, a8, a9, a10, ho1, hc, rfl, rfl, z⟩ := J; refine toPP ?_
      obtain ⟨t, g, ht, rfl, rfl⟩ := z (by decide)
      exact right_end hf hc ho1 g ht
  · refine ofPP ?_; subst hw hh; refine toPP ?_
    have et : (h ++ o' :: cs).take (h ++ [o]).length = h ++ [o'] := by
      have e1 : h ++ o' :: cs = (h ++ [o']) ++ cs := by simp
      have e2 : (h ++ [o]).length = (h ++ [o']).length := by simp
      rw [e1, e2, List.take_left]
    have e : exitD K88.d32 (h ++ [o]).length (.bl true) (h ++ o' :: cs) = .ok (.bl true) (h ++ [o']) := by
      show (if (wlo _ (W.bl true) && ((h ++ o' :: cs).take (h ++ [o]).length).all (O.lo (h ++ [o]).length)) = true then Rs.ok (W.bl true) ((h ++ o' :: cs).take (h ++ [o]).length) else .bad) = _
      rw [et]
      have hh : Hf (h ++ [o']) := hf.app ho'.lo
      have := hh.take (h ++ [o']).length (h ++ [o]).length
      rw [List.take_length] at this
      rw [this]
      rfl
    rw [e, wp_ok]
    exact k o' ho'
theorem law_plain {is : List Int} (hl : is.length ≤ 63) : cal K88.PG (N + 31) false 33 [.frz (is.map .int)] [] = .ok (.bl true) [] := by
  refine wp_val (wp_call (D := K88.d33) rfl rfl (fun w h' => w = .bl true) ?_ fun w h' hw => ?_)
  · show (exs K88.PG (cal K88.PG (N + 30)) false K88.d33.body [some (.frz (is.map .int)), none] []).wp _
    unfold K88.d33
    refine exs_c_wp ?_
    simp only [ex_ret, wp_rf, ev_blt, evs_c, evs_n, fin_f, wp_bnd]
    refine ev_lc_wp rfl ?_
    simp only [evs_c, evs_n, ev_int, fin_f, bnd_ok', wp_ok]
    refine ⟨_, (List.range 2).map fun (i : Nat) => W.int (i : Nat), fun i acc h' => Hf h' ∧ acc = List.replicate i (.bl true), iv_r1n (by decide) (by decide), itm_rg.1, ⟨Hf.nil, rfl⟩, fun i acc h' _ => itm_rg.2 i, fun i y acc h' hy J => ?_, fun acc h' J => ?_⟩
    · refine ofPP ?_; obtain ⟨hf, rfl⟩ := J; refine toPP ?_
      have hi : i < 2 := by have := (List.getElem?_eq_some_iff.mp hy).1; simpa using this
      obtain rfl : W.int (i : Nat) = y := by
        rw [List.getElem?_map, List.getElem?_range hi] at hy
        exact Option.some.inj hy
      unfold lcTu
      simp_arith []
      refine urn_wp (n := N + 29) (P := K88.PG) rfl hl (by omega) fun o ho => ?_
      simp_arith []
      refine right_wp hf ho fun o' ho' => ?_
      have : (List.replicate i (W.bl true)).length < big := by rw [List.length_replicate]; unfold big; omega
      rw [if_pos this, wp_ok]
      refine ⟨hf.app ho'.lo, ?_⟩
      rw [← List.replicate_succ']
    · refine ofPP ?_; obtain ⟨hf, rfl⟩ := J; refine toPP ?_
      rw [lcEnd_f, wp_ok]
      have b2 : biO .all [.lst (List.replicate 2 (W.bl true))] h' = .ok (.bl true) h' := rfl
      simp only [evs_n, bnd_ok', wp_ok]
      show (if (false && coldB Bi.all) = true then Rs.bad else biO Bi.all [W.lst (List.replicate 2 (W.bl true))] h').wp _ _
      rw [if_neg (by decide), b2, wp_ok, wf_rt]
      rfl
  · refine ofPP ?_; subst hw; refine toPP ?_
    have e : exitD K88.d33 ([] : Hh).length (.bl true) h' = .ok (.bl true) [] := by
      show (if (wlo 0 (W.bl true) && (h'.take 0).all (O.lo 0)) = true then Rs.ok (W.bl true) (h'.take 0) else .bad) = _
      rw [List.take_zero]
      rfl
    rw [e, wp_ok]
    exact ⟨rfl, rfl⟩
end
end LP
/-! LP, the glue of k88. -/
namespace LP
open L2 PySem PySem.Spec PyProof.Rows
namespace K88
theorem ob_eq (s : PySem.W.SharedT) : ob s = hk.obs s.abs := tellG_eq (HandSHeadRun.getT_eq s)
theorem cAll : ∀ i, i < 34 → chk1 i = true
  | 0, _ => c0
  | 1, _ => c1
  | 2, _ => c2
  | 3, _ => c3
  | 4, _ => c4
  | 5, _ => c5
  | 6, _ => c6
  | 7, _ => c7
  | 8, _ => c8
  | 9, _ => c9
  | 10, _ => c10
  | 11, _ => c11
  | 12, _ => c12
  | 13, _ => c13
  | 14, _ => c14
  | 15, _ => c15
  | 16, _ => c16
  | 17, _ => c17
  | 18, _ => c18
  | 19, _ => c19
  | 20, _ => c20
  | 21, _ => c21
  | 22, _ => c22
  | 23, _ => c23
  | 24, _ => c24
  | 25, _ => c25
  | 26, _ => c26
  | 27, _ => c27
  | 28, _ => c28
  | 29, _ => c29
  | 30, _ => c30
  | 31, _ => c31
  | 32, _ => c32
  | 33, _ => c33
  | n + 34, h => absurd h (by omega)
def okL (i : Nat) : Bool := match fnT[i]?, dfs[i]?, nms[i]?, tops[i]? with
  | some p, some D, some n, some _ => decide (D.n = p.2.length) && decide (D.sl = n.length)
  | _, _, _, _ => false
theorem okAll : ((List.range 34).all okL) = true := by kernel_rfl
theorem bAll {K : PySem.W.Frag} : ∀ (f : Nat) (x : Str) (ps : List Str) (k : Nat), fnT[f]? = some (x, ps) → tops[f]? = some k → bdT K k ps
  | 0, _, _, _, h, g => by
    obtain ⟨_, rfl⟩ := Prod.mk.inj (Option.some.inj h)
    obtain rfl := Option.some.inj g
    exact b0
  | 1, _, _, _, h, g => by
    obtain ⟨_, rfl⟩ := Prod.mk.inj (Option.some.inj h)
    obtain rfl := Option.some.inj g
    exact b1
  | 2, _, _, _, h, g => by
    obtain ⟨_, rfl⟩ := Prod.mk.inj (Option.some.inj h)
    obtain rfl := Option.some.inj g
    exact b2
  | 3, _, _, _, h, g => by
    obtain ⟨_, rfl⟩ := Prod.mk.inj (Option.some.inj h)
    obtain rfl := Option.some.inj g
    exact b3
  | 4, _, _, _, h, g => by
    obtain ⟨_, rfl⟩ := Prod.mk.inj (Option.some.inj h)
    obtain rfl := Option.some.inj g
    exact b4
  | 5, _, _, _, h, g => by
    obtain ⟨_, rfl⟩ := Prod.mk.inj (Option.some.inj h)
    obtain rfl := Option.some.inj g
    exact b5
  | 6, _, _, _, h, g => by
    obtain ⟨_, rfl⟩ := Prod.mk.inj (Option.some.inj h)
    obtain rfl := Option.some.inj g
    exact b6
  | 7, _, _, _, h, g => by
    obtain ⟨_, rfl⟩ := Prod.mk.inj (Option.some.inj h)
    obtain rfl := Option.some.inj g
    exact b7
  | 8, _, _, _, h, g => by
    obtain ⟨_, rfl⟩ := Prod.mk.inj (Option.some.inj h)
    obtain rfl := Option.some.inj g
    exact b8
  | 9, _, _, _, h, g => by
    obtain ⟨_, rfl⟩ := Prod.mk.inj (Option.some.inj h)
    obtain rfl := Option.some.inj g
    exact b9
  | 10, _, _, _, h, g => by
    obtain ⟨_, rfl⟩ := Prod.mk.inj (Option.some.inj h)
    obtain rfl := Option.some.inj g
    exact b10
  | 11, _, _, _, h, g => by
    obtain ⟨_, rfl⟩ := Prod.mk.inj (Option.some.inj h)
    obtain rfl := Option.some.inj g
    exact b11
  | 12, _, _, _, h, g => by
    obtain ⟨_, rfl⟩ := Prod.mk.inj (Option.some.inj h)
    obtain rfl := Option.some.inj g
    exact b12
  | 13, _, _, _, h, g => by
    obtain ⟨_, rfl⟩ := Prod.mk.inj (Option.some.inj h)
    obtain rfl := Option.some.inj g
    exact b13
  | 14, _, _, _, h, g => by
    obtain ⟨_, rfl⟩ := Prod.mk.inj (Option.some.inj h)
    obtain rfl := Option.some.inj g
    exact b14
  | 15, _, _, _, h, g => by
    obtain ⟨_, rfl⟩ := Prod.mk.inj (Option.some.inj h)
    obtain rfl := Option.some.inj g
    exact b15
  | 16, _, _, _, h, g => by
    obtain ⟨_, rfl⟩ := Prod.mk.inj (Option.some.inj h)
    obtain rfl := Option.some.inj g
    exact b16
  | 17, _, _, _, h, g => by
    obtain ⟨_, rfl⟩ := Prod.mk.inj (Option.some.inj h)
    obtain rfl := Option.some.inj g
    exact b17
  | 18, _, _, _, h, g => by
    obtain ⟨_, rfl⟩ := Prod.mk.inj (Option.some.inj h)
    obtain rfl := Option.some.inj g
    exact b18
  | 19, _, _, _, h, g => by
    obtain ⟨_, rfl⟩ := Prod.mk.inj (Option.some.inj h)
    obtain rfl := Option.some.inj g
    exact b19
  | 20, _, _, _, h, g => by
    obtain ⟨_, rfl⟩ := Prod.mk.inj (Option.some.inj h)
    obtain rfl := Option.some.inj g
    exact b20
  | 21, _, _, _, h, g => by
    obtain ⟨_, rfl⟩ := Prod.mk.inj (Option.some.inj h)
    obtain rfl := Option.some.inj g
    exact b21
  | 22, _, _, _, h, g => by
    obtain ⟨_, rfl⟩ := Prod.mk.inj (Option.some.inj h)
    obtain rfl := Option.some.inj g
    exact b22
  | 23, _, _, _, h, g => by
    obtain ⟨_, rfl⟩ := Prod.mk.inj (Option.some.inj h)
    obtain rfl := Option.some.inj g
    exact b23
  | 24, _, _, _, h, g => by
    obtain ⟨_, rfl⟩ := Prod.mk.inj (Option.some.inj h)
    obtain rfl := Option.some.inj g
    exact b24
  | 25, _, _, _, h, g => by
    obtain ⟨_, rfl⟩ := Prod.mk.inj (Option.some.inj h)
    obtain rfl := Option.some.inj g
    exact b25
  | 26, _, _, _, h, g => by
    obtain ⟨_, rfl⟩ := Prod.mk.inj (Option.some.inj h)
    obtain rfl := Option.some.inj g
    exact b26
  | 27, _, _, _, h, g => by
    obtain ⟨_, rfl⟩ := Prod.mk.inj (Option.some.inj h)
    obtain rfl := Option.some.inj g
    exact b27
  | 28, _, _, _, h, g => by
    obtain ⟨_, rfl⟩ := Prod.mk.inj (Option.some.inj h)
    obtain rfl := Option.some.inj g
    exact b28
  | 29, _, _, _, h, g => by
    obtain ⟨_, rfl⟩ := Prod.mk.inj (Option.some.inj h)
    obtain rfl := Option.some.inj g
    exact b29
  | 30, _, _, _, h, g => by
    obtain ⟨_, rfl⟩ := Prod.mk.inj (Option.some.inj h)
    obtain rfl := Option.some.inj g
    exact b30
  | 31, _, _, _, h, g => by
    obtain ⟨_, rfl⟩ := Prod.mk.inj (Option.some.inj h)
    obtain rfl := Option.some.inj g
    exact b31
  | 32, _, _, _, h, g => by
    obtain ⟨_, rfl⟩ := Prod.mk.inj (Option.some.inj h)
    obtain rfl := Option.some.inj g
    exact b32
  | 33, _, _, _, h, g => by
    obtain ⟨_, rfl⟩ := Prod.mk.inj (Option.some.inj h)
    obtain rfl := Option.some.inj g
    exact b33
  | n + 34, _, _, _, h, _ => by
    have := (List.getElem?_eq_some_iff.mp h).1
    rw [len_fn] at this
    omega
def dsX : List DefI := (dI.zip fnT).map fun p => { p.1 with qual := p.2.1 }
theorem df_ok {K : PySem.W.Frag} {h : Heap} {mg : Str → Option Value} (X : K.In h) (G : h.Ns mainGlobals mg) (c : He.SaysD faL fnL K) (f : Nat) (x : Str) (ps : List Str) (hf : fnT[f]? = some (x, ps)) :
    ∃ d D fa fd, dsX[f]? = some d ∧ PG.defs[f]? = some D ∧ DefF K mg x ps d fa fd ∧ D.n = ps.length ∧ D.sl = d.N.length ∧ chkSs PG (gm GT d) D.body d.body = true := by
  have hl : f < 34 := by
    rw [← len_fn]
    exact (List.getElem?_eq_some_iff.mp hf).1
  have ok := List.all_eq_true.mp okAll f (List.mem_range.mpr hl)
  have sc := List.all_eq_true.mp fsAll f (List.mem_range.mpr hl)
  have ch := cAll f hl
  unfold okL at ok
  unfold fs1 at sc
  unfold chk1 at ch
  rw [hf] at ok sc
  cases e1 : dfs[f]? with
  | none => rw [e1] at ok; cases ok
  | some D =>
  cases e2 : nms[f]? with
  | none => rw [e1, e2] at ok; cases ok
  | some n =>
  cases e3 : tops[f]? with
  | none => rw [e1, e2, e3] at ok; cases ok
  | some k =>
  rw [e1, e2, e3] at ok
  obtain ⟨o1, o2⟩ := and2 ok
  have ez : (nms.zip tops)[f]? = some (n, k) := List.getElem?_zip_eq_some.mpr ⟨e2, e3⟩
  have ed : dI[f]? = some ⟨n, "", defArgs (top k), defBody (top k), defScope (top k)⟩ := by
    unfold dI
    rw [List.getElem?_map, ez]
    rfl
  rw [ed, e1] at ch
  rw [ed] at sc
  have ex : dsX[f]? = some ⟨n, x, defArgs (top k), defBody (top k), defScope (top k)⟩ := by
    have ez2 : (dI.zip fnT)[f]? = some (⟨n, "", defArgs (top k), defBody (top k), defScope (top k)⟩, (x, ps)) := List.getElem?_zip_eq_some.mpr ⟨ed, hf⟩
    unfold dsX
    rw [List.getElem?_map, ez2]
    rfl
  have eF : fnL[f]? = some (defD ((x, ps), k)) := by
    have ez3 : (fnT.zip tops)[f]? = some ((x, ps), k) := List.getElem?_zip_eq_some.mpr ⟨hf, e3⟩
    unfold fnL
    rw [List.getElem?_map, ez3]
    rfl
  obtain ⟨fd, F⟩ := c.def_ f eF
  have eg : faL[f]? = some (.glo x) := by
    unfold faL
    rw [List.getElem?_append_left (by rw [List.length_map, len_fn]; exact hl), List.getElem?_map, hf]
    rfl
  exact ⟨_, D, _, fd, ex, e1, ⟨He.glo_ok X G (c.fact f eg), F, fsB_ok sc, bAll f x ps k hf e3 x x _ _ _ fd F⟩, of_decide_eq_true o1, of_decide_eq_true o2, ch⟩

end K88
end LP
/-! LP, the glue of k88: what the head tells. -/
namespace LP
open L2 PySem PySem.Spec PyProof.Rows
namespace K88
/-- the row's text of an error's __init__ -/
def ClsT (i : Nat) (p f : Str) : Prop := ∃ p1 p2 q1 q2 q3 q4 q5 r1 r2 r3 r4 : Pos, defArgs (clsS i) = eA p p1 p2 ∧ defBody (clsS i) = eB p f q1 q2 q3 q4 q5 r1 r2 r3 r4 ∧
  ((∀ x ∈ (defScope (clsS i)).names, x.2 ≠ .cell) ∧ (defScope (clsS i)).names.lookup ("self" : Str) = some .local ∧ (defScope (clsS i)).names.lookup p = some .local ∧ (defScope (clsS i)).names.lookup ("super" : Str) = some .globalImplicit ∧ (defScope (clsS i)).names.lookup ("__class__" : Str) = some .free ∧ (defScope (clsS i)).kind = .function ∧ (defScope (clsS i)).isCoroutine = false ∧ (defScope (clsS i)).isGenerator = false ∧ (q3.endLine == q4.line) = true)
def ncB (sc : Scope) : Bool := sc.names.all fun x => match x.2 with
  | .cell => false
  | _ => true
theorem ncB_ok {sc : Scope} (h : ncB sc = true) : ∀ x ∈ sc.names, x.2 ≠ .cell := fun x hx e => by
  have := List.all_eq_true.mp h x hx
  rw [e] at this
  cases this

theorem clsT2 : ClsT 2 "given" "given" := ⟨_, _, _, _, _, _, _, _, _, _, _, rfl, rfl, ncB_ok rfl, rfl, rfl, rfl, rfl, rfl, rfl, rfl, rfl⟩
theorem clsT3 : ClsT 3 "index" "index" := ⟨_, _, _, _, _, _, _, _, _, _, _, rfl, rfl, ncB_ok rfl, rfl, rfl, rfl, rfl, rfl, rfl, rfl, rfl⟩
theorem clsT4 : ClsT 4 "index" "index" := ⟨_, _, _, _, _, _, _, _, _, _, _, rfl, rfl, ncB_ok rfl, rfl, rfl, rfl, rfl, rfl, rfl, rfl, rfl⟩
end K88
end LP
/-! LP, the glue of k88: the law's facts. -/
namespace LP
open L2 PySem PySem.Spec PyProof.Rows
namespace K88
def TB (K : PySem.W.Frag) : Tb := { K := K, cA := cA K, fN := fN, pay := PG.pay }
section
variable {K : PySem.W.Frag} {h : Heap} {mg : Str → Option Value}
theorem fx_of (c : SaysX faL fnL oxL (true, initV) K) : fxL K = true := congrArg (fun z : Bool × List FnI => z.1) c.both.2
theorem ini_of (c : SaysX faL fnL oxL (true, initV) K) : [fnI K (iA K 1), fnI K (iA K 2), fnI K (iA K 3)] = initV := congrArg (fun z : Bool × List FnI => z.2) c.both.2
theorem sub_of (c : SaysX faL fnL oxL (true, initV) K) {a b : Nat} (ha : a < 4) (hb : b < 4) : PySem.W.kitOne K (.ref (cA K a)) (.ref (cA K b)) = some (subF a b) ∧ PySem.W.exmOne K (.ref (cA K a)) (.ref (cA K b)) = some (subF a b) := subB_ok (and2 (fx_of c)).1 ha hb
theorem fact_mem (c : SaysX faL fnL oxL (true, initV) K) {f : He.Fa} (hf : f ∈ faL) : f.ok K = true := by
  obtain ⟨i, e⟩ := List.getElem?_of_mem hf
  exact c.both.1.fact i e
theorem ex_of (c : SaysX faL fnL oxL (true, initV) K) {i : Nat} (hi : i < 4) : ExCl K (cA K i) := exclB_ok (List.all_eq_true.mp (and2 (and2 (fx_of c)).2).1 i (List.mem_range.mpr hi))
theorem er_of (c : SaysX faL fnL oxL (true, initV) K) {i f : Nat} (hi : i < 4) (hp : payT[i]?.getD none = some f) : (PySem.W.findIn K (.ref (cA K i)) (fN f) = some none ∧ ErrK K file (cA K i) (iA K i) (iC K i).1 (iC K i).2 (fN f)) ∧ ccB K (iA K i) (iC K i).1 (iC K i).2 (qT[i]?.getD Str.empty) = true := by
  have z := List.all_eq_true.mp (and2 (and2 (fx_of c)).2).2 i (List.mem_range.mpr hi)
  simp only [hp] at z
  obtain ⟨z1, z2⟩ := and2 z
  obtain ⟨z1, z3⟩ := and2 z1
  exact ⟨⟨of_decide_eq_true z1, errB_ok z3⟩, z2⟩
theorem pay_lt {i f : Nat} (hp : payT[i]?.getD none = some f) : i < 4 := by
  rcases Nat.lt_or_ge i 4 with q | q
  · exact q
  · rw [List.getElem?_eq_none (show payT.length ≤ i from q)] at hp
    cases hp
theorem er1 (c : SaysX faL fnL oxL (true, initV) K) : ErrTxt K file (cA K 1) (iA K 1) (iC K 1).1 (iC K 1).2 "given" (fN 0) "InvalidTree.__init__" := by
  obtain ⟨p1, p2, q1, q2, q3, q4, q5, r1, r2, r3, r4, e1, e2, hs⟩ := clsT2
  obtain ⟨⟨_, hE⟩, hc⟩ := er_of c (i := 1) (f := 0) (by decide) rfl
  have hf : fnI K (iA K 1) = (some (("__init__" : Str), ("InvalidTree.__init__" : Str), defArgs (clsS 2), FuncBody.stmts (defBody (clsS 2)), defScope (clsS 2), mainGlobals, [("__class__" : Str)], Value.none, Value.none, builtinsNs) : FnI) := Option.some.inj (congrArg (fun l : List FnI => l[0]?) (ini_of c))
  rw [e1, e2] at hf
  exact errTxt_of hE hc hf hs (fun _ _ _ _ _ _ _ _ _ _ _ _ => by with_unfolding_all rfl) rfl rfl
theorem er2 (c : SaysX faL fnL oxL (true, initV) K) : ErrTxt K file (cA K 2) (iA K 2) (iC K 2).1 (iC K 2).2 "index" (fN 1) "InvalidDeed.__init__" := by
  obtain ⟨p1, p2, q1, q2, q3, q4, q5, r1, r2, r3, r4, e1, e2, hs⟩ := clsT3
  obtain ⟨⟨_, hE⟩, hc⟩ := er_of c (i := 2) (f := 1) (by decide) rfl
  have hf : fnI K (iA K 2) = (some (("__init__" : Str), ("InvalidDeed.__init__" : Str), defArgs (clsS 3), FuncBody.stmts (defBody (clsS 3)), defScope (clsS 3), mainGlobals, [("__class__" : Str)], Value.none, Value.none, builtinsNs) : FnI) := Option.some.inj (congrArg (fun l : List FnI => l[1]?) (ini_of c))
  rw [e1, e2] at hf
  exact errTxt_of hE hc hf hs (fun _ _ _ _ _ _ _ _ _ _ _ _ => by with_unfolding_all rfl) rfl rfl
theorem er3 (c : SaysX faL fnL oxL (true, initV) K) : ErrTxt K file (cA K 3) (iA K 3) (iC K 3).1 (iC K 3).2 "index" (fN 1) "InvalidText.__init__" := by
  obtain ⟨p1, p2, q1, q2, q3, q4, q5, r1, r2, r3, r4, e1, e2, hs⟩ := clsT4
  obtain ⟨⟨_, hE⟩, hc⟩ := er_of c (i := 3) (f := 1) (by decide) rfl
  have hf : fnI K (iA K 3) = (some (("__init__" : Str), ("InvalidText.__init__" : Str), defArgs (clsS 4), FuncBody.stmts (defBody (clsS 4)), defScope (clsS 4), mainGlobals, [("__class__" : Str)], Value.none, Value.none, builtinsNs) : FnI) := Option.some.inj (congrArg (fun l : List FnI => l[2]?) (ini_of c))
  rw [e1, e2] at hf
  exact errTxt_of hE hc hf hs (fun _ _ _ _ _ _ _ _ _ _ _ _ => by with_unfolding_all rfl) rfl rfl
theorem gl_str {T : Tb} (X : K.In h) (G : h.Ns mainGlobals mg) {x z : Str} {y : Tx} (q : (He.Fa.str x z).ok K = true) (e : z = mkS y) (ho : okT y) : ∃ (w : W) (u : Value) (v : V), some (W.str y) = some w ∧ mg x = some u ∧ RelV v u ∧ ∀ L H, RV T L H w v := by
  obtain ⟨t, q⟩ := He.str_ok X G q
  refine ⟨_, _, .str z, rfl, q, ⟨t, rfl⟩, fun L H => ?_⟩
  rw [e]
  exact ⟨rfl, ho⟩
theorem gl_int {T : Tb} (X : K.In h) (G : h.Ns mainGlobals mg) {x : Str} {i : Int} (q : (He.Fa.int x i).ok K = true) : ∃ (w : W) (u : Value) (v : V), some (W.int i) = some w ∧ mg x = some u ∧ RelV v u ∧ ∀ L H, RV T L H w v := by
  obtain ⟨t, q⟩ := He.int_ok X G q
  exact ⟨_, _, .int i, rfl, q, ⟨t, rfl⟩, fun L H => rfl⟩
theorem okT_of {y : Tx} (h : ((y.all fun c => decide (c < 1114112)) && decide (y.length ≤ 100)) = true) : okT y := by
  obtain ⟨a, b⟩ := and2 h
  refine ⟨fun c hc => of_decide_eq_true (List.all_eq_true.mp a c hc), Nat.le_trans (of_decide_eq_true b) ?_⟩
  unfold big
  omega
theorem gl_of {T : Tb} (X : K.In h) (G : h.Ns mainGlobals mg) (c : He.SaysD faL fnL K) : ∀ (k : Nat) (x : Str), glT[k]? = some x → ∃ (w : W) (u : Value) (v : V), PG.gl[k]? = some w ∧ mg x = some u ∧ RelV v u ∧ ∀ L H, RV T L H w v
  | 0, _, g => by
    obtain rfl := Option.some.inj g
    exact gl_str X G (c.fact 53 (f := .str "LETTERS" "abcdefghijklmnopqrstuvwxyz") rfl) rfl (okT_of rfl)
  | 1, _, g => by
    obtain rfl := Option.some.inj g
    exact gl_int X G (c.fact 54 (f := .int "MOST_LETTERS" 8) rfl)
  | 2, _, g => by
    obtain rfl := Option.some.inj g
    exact gl_int X G (c.fact 55 (f := .int "MOST" 99) rfl)
  | 3, _, g => by
    obtain rfl := Option.some.inj g
    exact gl_int X G (c.fact 56 (f := .int "MOST_PERIOD" 4) rfl)
  | 4, _, g => by
    obtain rfl := Option.some.inj g
    exact gl_int X G (c.fact 57 (f := .int "MOST_NODES" 6) rfl)
  | 5, _, g => by
    obtain rfl := Option.some.inj g
    exact gl_str X G (c.fact 58 (f := .str "DIGITS" "0123456789") rfl) rfl (okT_of rfl)
  | 6, _, g => by
    obtain rfl := Option.some.inj g
    exact gl_str X G (c.fact 59 (f := .str "NODE" "node") rfl) rfl (okT_of rfl)
  | 7, _, g => by
    obtain rfl := Option.some.inj g
    exact gl_str X G (c.fact 60 (f := .str "INSIDE" "in") rfl) rfl (okT_of rfl)
  | n + 8, _, g => by cases g
theorem law_ok (X : K.In h) (G : h.Ns mainGlobals mg) (c : SaysX faL fnL oxL (true, initV) K) : LawF (PySem.Challenge.rw_lentlimits_k88_whole_texts_of_trees).prog K mg (TB K) PG GT where
  hK := rfl
  free := fun x hx => He.free_ok X G (fact_mem c (List.mem_append_right _ (List.mem_append_right _ (List.mem_append_left _ (List.mem_map_of_mem hx)))))
  gl := gl_of X G c.both.1
  cl := fun i x e => by
    have q := He.glo_ok X G (fact_mem c (f := .glo x) (List.mem_append_right _ (List.mem_append_left _ (List.mem_map_of_mem (List.mem_of_getElem? e)))))
    rw [q]
    show _ = some (Value.ref (He.ga K (clT[i]?.getD Str.empty)))
    rw [show clT[i]? = some x from e]
    rfl
  fld := fun f n e => by
    show fldT[f]?.getD Str.empty = n
    rw [show fldT[f]? = some n from e]
    rfl
  xt := fun i hi => ⟨ex_of c hi, fun d hd => (sub_of c hi hd).1⟩
  pay := rfl
  xf := fun i f hp => ⟨(ex_of c (pay_lt hp)).toXfC, (er_of c (pay_lt hp) hp).1.1⟩
  xm := fun d i hd hi => (sub_of c hd hi).2
  er := fun i f hp => by
    have hi : i < 4 := pay_lt hp
    match i, hi, hp with
    | 0, _, hp => cases hp
    | 1, _, hp => cases hp; exact ⟨_, _, _, _, _, er1 c⟩
    | 2, _, hp => cases hp; exact ⟨_, _, _, _, _, er2 c⟩
    | 3, _, hp => cases hp; exact ⟨_, _, _, _, _, er3 c⟩
  top := by kernel_rfl
theorem prog_facts (X : K.In h) (G : h.Ns mainGlobals mg) (c : SaysX faL fnL oxL (true, initV) K) : ProgF (PySem.Challenge.rw_lentlimits_k88_whole_texts_of_trees).prog K mg (TB K) PG GT dsX := ⟨law_ok X G c, df_ok X G c.both.1⟩
end
section
variable {K : PySem.W.Frag} {H : Hp}
theorem rv_intsK {T : Tb} {L : LL} : ∀ ns : List Int, RVs T L H (ns.map W.int) (ns.map V.int)
  | [] => rfl
  | n :: ns => ⟨.int n, ns.map V.int, rfl, rfl, rv_intsK ns⟩
theorem law_sp (a : Addr) (ns : List Int) (hn : ns.length ≤ 63) (hS : SqL K H a (ns.map V.int)) : spF (TB K) (cal PG 31 false 33) [.ref a] H (fun v _ => v = .bl true) fun _ _ _ => False := by
  refine ⟨⟨[], []⟩, [], [.frz (ns.map .int)], ⟨rfl, fun n b z => (by cases z), fun n z => (by cases z), fun n m b z => (by cases z), fun b hb => (by cases hb)⟩, ⟨.ref a, [], rfl, ⟨a, ns.map V.int, rfl, ?_, rv_intsK ns⟩, rfl⟩, ?_⟩
  · rcases hS with r | q
    · exact .inl ⟨r, fun z => by rcases z with z | z <;> cases z⟩
    · exact .inr fun G => .inr q
  · have e : cal PG 31 false 33 [.frz (ns.map .int)] [] = .ok (.bl true) [] := law_plain (N := 0) hn
    rw [e]
    exact fun b L' H' _ _ r => r
end

end K88
end LP
/-! LP, the end of k88. -/
namespace LP
open L2 PySem PySem.Spec PyProof.Rows
namespace K88
theorem law_bind {K : PySem.W.Frag} {x qual : Str} {body : List Stmt} {scope : Scope} {f : Addr} {fd : FuncData} (F : L2.FunD K x qual (defArgs (top 54)) body scope [] [] f fd) (s : Shared) (u : Value) : BindsTo s fd ⟨[u], []⟩ [("script", u)] :=
  F.bindsA (ps := ["script"]) (fun _ _ _ _ _ _ us hl => match us, hl with
    | [_], _ => by with_unfolding_all rfl) s [u] rfl
theorem law_at {w : World} {K : PySem.W.Frag} {mg : Str → Option Value} {fa : Addr} {h : Heap} (X : K.In h) (G : h.Ns mainGlobals mg) (c : SaysX faL fnL oxL (true, initV) K) (hmg : mg ("law" : Str) = some (.ref fa)) :
    LamX.LawAtS PySem.Challenge.rw_lentlimits_k88_whole_texts_of_trees w K (L2N.CX PySem.Challenge.rw_lentlimits_k88_whole_texts_of_trees.prog w) 31 63 "script" mg fa h := by
  have e1 : fnT[33]? = some (("law" : Str), (["script"] : List Str)) := rfl
  have e2 : (fnT.zip tops)[33]? = some ((("law" : Str), (["script"] : List Str)), 54) := rfl
  have eF : fnL[33]? = some (defD ((("law" : Str), (["script"] : List Str)), 54)) := by
    unfold fnL
    rw [List.getElem?_map, e2]
    rfl
  obtain ⟨d, D, fa', fd, hd, hD, q, _⟩ := df_ok X G c.both.1 33 "law" ["script"] e1
  obtain rfl : fa = fa' := by
    have z := hmg.symm.trans q.mgx
    cases z
    rfl
  have hdx : d = ⟨n33, "law", defArgs (top 54), defBody (top 54), defScope (top 54)⟩ := (Option.some.inj (hd.symm.trans rfl))
  subst hdx
  exact ⟨fd, [], spF (TB K) (cal PG 31 false 33), (fun _ z => nomatch z), (fun _ z => nomatch z), (fun _ z => nomatch z), law_bind q.ex, (fun H a ns hn _ _ hS => law_sp a ns hn hS),
    fun base _ _ _ => (prog_ok (base := base) (prog_facts X G c) 31 33 "law" ["script"] e1 _ fa fd hd q).1⟩
end K88
end LP
open PySem PySem.W PySem.Calls PyProof.Rows
theorem PySem.Challenge.cw_lentlimits_k88_whole_texts_of_trees_holds : PySem.Challenge.rw_lentlimits_k88_whole_texts_of_trees.Holds := by
  w_on; o_law
  refine HandSHeadRun.head_any (r := OpenLaw.row PySem.Challenge.rw_lentlimits_k88_whole_texts_of_trees) (q := LP.K88.qv) (H := LP.K88.hk) (ob := LP.K88.ob) (M := 3000) (loose := LP.K88.names) (d := HandSHeadRun.topDef (OpenLaw.row PySem.Challenge.rw_lentlimits_k88_whole_texts_of_trees).prog 54) (kwd := []) LP.K88.ob_eq
    (by kernel_rfl) (fun s => by kernel_rfl) LP.K88.run (by kernel_rfl) (by kernel_rfl) (by kernel_rfl) (by rfl) (by first | assumption | decide +kernel) (by decide +kernel) ⟨rfl, rfl, rfl, rfl, rfl, by decide +kernel⟩ ?hw ?hc
  case hw => w_witness2
  case hc =>
    refine LamX.walk_ofTsE (l := PySem.Challenge.rw_lentlimits_k88_whole_texts_of_trees) (n := 63) (k := 31) (x := "script") (CX := fun w => L2N.CX PySem.Challenge.rw_lentlimits_k88_whole_texts_of_trees.prog w) rfl (by decide) (by kernel_rfl) ⟨rfl, by decide, by decide⟩ ?F (fun _ _ _ _ _ ⟨_, _, _, _, _, _, _, _, _, _, _, _, z⟩ => z)
    intro w mg fa h Y G hmg0
    obtain ⟨K, KX, c⟩ := Y
    have hmg : mg ("law" : PySem.Str) = some (.ref fa) := by
      have e : (HandSHeadRun.topDef (OpenLaw.row PySem.Challenge.rw_lentlimits_k88_whole_texts_of_trees).prog 54).name = ("law" : PySem.Str) := by kernel_rfl
      rw [← e]
      exact hmg0
    exact ⟨K, KX, LP.K88.law_at KX G c hmg⟩
