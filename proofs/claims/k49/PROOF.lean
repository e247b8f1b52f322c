import PyProof.Rows.All
import Wide.All
import OpenK.AllK
import Wide.FinOn
import HandS.ForMost
import HandS.ForExc
import KE.SortData
import HandS.TupMul
import HandS.TupAny
import HandS.IsInst
import HandS.Deep
import HandS.Wide
import HandS.TupLe
import HandS.More
import HandS.Style
import HandS.Steps
import KE.KDictSum
import PyProof.TupleOfSeq
import HandS.SortKw
import HandS.Codes
import HandS.Conv
import HandS.Flow
import KE.GoesEnum
import HandS.ExcOwn
import HandS.ExcInit
import KE.KExcSuper
import KE.KSuper
import HandS.ExcField
import KE.DatumIndex
import HandS.DictSubView
import HandS.SetFor
import HandS.SetKeys
import HandS.Iter
import HandS.HeadEnd
import HandS.Defaults
import HandS.HeadHook2
import HandS.EndBits
import HandS.Head0
import HandS.Head1
import HandS.Head2
import HandS.HeadHook1
import HandS.Words
import HandS.Text
import KE.KStateDown
import PySem.Challenge.RW_staysdeep_k49_whole_a_further_stack
set_option Elab.async false
set_option linter.all false
set_option maxRecDepth 100000
/-! Mx: a small machine over plain data. Values D, objects that change O, results R, syntax E (expressions), T (targets), S (statements). -/
namespace Mx
open PySem
open Classical

/-- values: tup a tuple, fls a list that nobody changes any more, fdc a dict that nobody changes any more (tk: its keys are tuples), obj an instance that nobody changes any more, ref an object of the machine's heap -/
inductive D where
  | non | bl (b : Bool) | int (i : Int) | str (x : Str) | tup (xs : List D) | fls (xs : List D) | scr (xs : List D) | obj (c : Nat) (fs : List D) | fdc (tk : Bool) (ks vs : List D) | ref (r : Nat)
inductive O where
  | lst (xs : List D) | ins (c : Nat) (fs : List D) | dct (tk lk : Bool) (ks vs : List D)
abbrev Hh := List O
inductive R (α : Type) where
  | ok (a : α) (h : Hh) | exc (c : Nat) (v : D) (h : Hh) | bad
def R.bind {α β : Type} : R α → (α → Hh → R β) → R β
  | .ok a h, k => k a h
  | .exc c v h, _ => .exc c v h
  | .bad, _ => .bad
abbrev En := List (Option D)
def LINE : Nat := 16777216

/-- targets: names, tuples of targets -/
inductive T where
  | nm (i : Nat) | nil | cons (a r : T) | tp (a : T)
inductive Bo where
  | add | sub | mul | fdiv | mod | pow
  deriving DecidableEq
inductive Co where
  | eq | ne | lt | le | gt | ge | is_ | isn | in_ | nin
  deriving DecidableEq
inductive Bi where
  | len | sum | max1 | min1 | max2 | min2 | abs | int | all | any | tuple | divmod | repr | isInt | isBool | isSeq | isTup | isStr | isCls (c : Nat)
  deriving DecidableEq
inductive Mt where
  | append | pop0 | pop1 | index | insert
  deriving DecidableEq
/-- methods of dicts -/
inductive Dm where
  | get1 | get2 | pop1
  deriving DecidableEq
/-- what of a dict is walked -/
inductive Dw where
  | keys | vals | items
  deriving DecidableEq
inductive E where
  | nil | cons (a r : E)
  | k (d : D) | v (i : Nat) | g (x : Str) (d : D)
  | bin (o : Bo) (a b : E) | neg (a : E)
  | cmp (o : Co) (a b : E) | ch (o p : Co) (a b c : E)
  | and_ (a b : E) | or_ (a b : E) | not_ (a : E) | ite (c a b : E)
  | tup (es : E) | nl (m : Bool) (e : E)
  | dis (es : E) | lcat (a b : E) | lrep (a b : E) | lof (a : E) | lsl (a lo hi : E) | lrv (a : E) | comp (ws : List Nat) (t : T) (it c e : E)
  | ix (a i : E) | sl (a lo hi : E) | fld (cs : List Nat) (a : E) (f : Nat)
  | call (s : Nat) (fr : Bool) (es : E) | mk (s : Nat) (es : E)
  | bi (b : Bi) (es : E) | mt (m : Mt) (o es : E)
  | nd (tk : Bool) | dm (m : Dm) (o a b : E) | join (a b : E)
  | srt (rev : Bool) (a : E) | srtV (a : E) | srtS (a : E) | compD (w : Dw) (ws : List Nat) (t : T) (i : Nat) (c e : E)
  | iSeq (a : E) | iRg1 (a : E) | iRg2 (a b : E) | iEnum (a : E)
/-- what an except suite hands back: the exception's field, a constant, a tuple of such -/
inductive HE where
  | fld | k (d : D) | nil | cons (a r : HE) | tp (a : HE)
inductive S where
  | nop | seq (a b : S) | ex (e : E) | set (t : T) (e : E) | aug (i : Nat) (o : Bo) (e : E) | setIx (o i e : E) | augIx (p : Bo) (o i e : E) | setFld (c : Nat) (o : E) (f : Nat) (e : E)
  | ret (e : E) | ite (c : E) (a b : S) | for_ (t : T) (it : E) (b : S) | forD (w : Dw) (t : T) (i : Nat) (b : S) | while_ (c : E) (b : S) | brk | cont | raise_ (c : Nat) (e : E) | try_ (b : S) (hs : List (Nat × HE))

/-! ### data -/
def look (σ : En) (i : Nat) : Option D := (σ[i]?).join
def put (σ : En) (i : Nat) (d : D) : En := σ.set i (some d)
def wipe (σ : En) : List Nat → En
  | [] => σ
  | v :: vs => (wipe σ vs).set v none
mutual
def setT : T → D → En → Option En
  | .nm i, d, σ => some (put σ i d)
  | .tp ts, d, σ => match d with
    | .tup xs => setTs ts xs σ
    | _ => none
  | _, _, _ => none
def setTs : T → List D → En → Option En
  | .nil, [], σ => some σ
  | .cons t r, x :: xs, σ => (setT t x σ).bind (setTs r xs)
  | _, _, _ => none
end
/-- the items of a sequence; the object that holds them if it may change -/
def seqOf (h : Hh) : D → Option (List D)
  | .tup xs => some xs
  | .fls xs => some xs
  | .scr xs => some xs
  | .ref r => match h[r]? with
    | some (.lst xs) => some xs
    | _ => none
  | _ => none
/-- .. of a list alone -/
def lstOf (h : Hh) : D → Option (List D)
  | .fls xs => some xs
  | .ref r => match h[r]? with
    | some (.lst xs) => some xs
    | _ => none
  | _ => none
/-- what a dict holds -/
def dctOf (h : Hh) : D → Option (Bool × List D × List D)
  | .fdc tk ks vs => some (tk, ks, vs)
  | .ref r => match h[r]? with
    | some (.dct tk _ ks vs) => some (tk, ks, vs)
    | _ => none
  | _ => none
def dwL : Dw → List D → List D → List D
  | .keys, ks, _ => ks
  | .vals, _, vs => vs
  | .items, ks, vs => List.zipWith (fun k v => .tup [k, v]) ks vs
/-- the dict that is walked, locked: its keys and values, the heap meanwhile, the object that is to be let go -/
def lkD (h : Hh) : D → Option (List D × List D × Hh × Option Nat)
  | .fdc false ks vs => some (ks, vs, h, none)
  | .ref r => match h[r]? with
    | some (.dct false false ks vs) => some (ks, vs, h.set r (.dct false true ks vs), some r)
    | some (.dct false true ks vs) => some (ks, vs, h, none)
    | _ => none
  | _ => none
def unl (h : Hh) : Option Nat → Hh
  | none => h
  | some r => match h[r]? with
    | some (.dct tk _ ks vs) => h.set r (.dct tk false ks vs)
    | _ => h
/-- a dict's key: a number or a text -/
def keyOk : D → Bool
  | .int _ => true
  | .str _ => true
  | _ => false
noncomputable def getK (ks vs : List D) (k : D) : Option D := ((ks.zip vs).find? fun p => decide (p.1 = k)).map (·.2)
noncomputable def putKs (ks : List D) (k : D) : List D := if k ∈ ks then ks else ks ++ [k]
noncomputable def putVs (ks vs : List D) (k v : D) : List D := if k ∈ ks then (ks.zip vs).map (fun p => if p.1 = k then v else p.2) else vs ++ [v]
noncomputable def dropKs (ks : List D) (k : D) : List D := ks.filter fun x => decide (x ≠ k)
noncomputable def dropVs (ks vs : List D) (k : D) : List D := ((ks.zip vs).filter fun p => decide (p.1 ≠ k)).map (·.2)
def chars (x : Str) : List D := x.cps.toList.map fun c => .str ⟨#[c]⟩
def iterOf (h : Hh) : D → Option (List D × Option (Nat × List D))
  | .tup xs => some (xs, none)
  | .fls xs => some (xs, none)
  | .scr xs => some (xs, none)
  | .str x => some (chars x, none)
  | .ref r => match h[r]? with
    | some (.lst xs) => some (xs, some (r, xs))
    | _ => none
  | _ => none
def gok (h : Hh) : Option (Nat × List D) → Prop
  | none => True
  | some p => h[p.1]? = some (.lst p.2)
/-- as the model's data, for == and repr -/
def pdF : Nat → Hh → D → Option PyData
  | 0, _, _ => none
  | n + 1, h, d => match d with
    | .non => some .none
    | .bl b => some (.bool b)
    | .int i => some (.int i)
    | .str x => some (.str x)
    | .tup xs => (xs.mapM (pdF n h)).map PyData.tuple
    | .fls xs => (xs.mapM (pdF n h)).map PyData.list
    | .ref r => match h[r]? with
      | some (.lst xs) => (xs.mapM (pdF n h)).map PyData.list
      | _ => none
    | .obj _ _ => none
    | .fdc _ _ _ => none
    | .scr _ => none
def pd (h : Hh) (d : D) : Option PyData := pdF 12 h d
noncomputable def eqD (h : Hh) (x y : D) : Option Bool :=
  match x, y with
  | .int i, .int j => some (decide (i = j))
  | .str a, .str b => some (decide (a = b))
  | .non, .non => some true
  | x, y => match pd h x, pd h y with
    | some a, some b => if SeqAt.shaped a = true ∧ SeqAt.shaped b = true then some (PyData.eqv a b) else none
    | _, _ => none
def truth (h : Hh) : D → Option Bool
  | .non => some false
  | .bl b => some b
  | .int i => some (i != 0)
  | .str x => if x.length ≤ LINE then some (x.length != 0) else none
  | .tup xs => some (!xs.isEmpty)
  | .fls xs => some (!xs.isEmpty)
  | .ref r => match h[r]? with
    | some (.lst xs) => some (!xs.isEmpty)
    | _ => none
  | .obj _ _ => none
  | .fdc _ _ _ => none
  | .scr _ => none
def asI : List D → Option (List Int)
  | [] => some []
  | .int i :: r => (asI r).map (i :: ·)
  | _ => none
def asB : List D → Option (List Bool)
  | [] => some []
  | .bl i :: r => (asB r).map (i :: ·)
  | _ => none
def rOpt {α : Type} (o : Option α) (h : Hh) : R α := match o with
  | some a => .ok a h
  | none => .bad
noncomputable def rIf {α : Type} (c : Prop) (r : R α) : R α := if c then r else .bad
def mulOk (i j : Int) : Prop := (-(2 ^ 64) < i ∧ i < 2 ^ 64) ∨ (-(2 ^ 64) < j ∧ j < 2 ^ 64)
noncomputable def binD (h : Hh) : Bo → D → D → R D
  | .add, .int i, .int j => .ok (.int (i + j)) h
  | .add, .str a, .str b => rIf (a.length + b.length ≤ LINE) (.ok (.str (a ++ b)) h)
  | .add, .tup a, .tup b => rIf (a.length + b.length ≤ LINE) (.ok (.tup (a ++ b)) h)
  | .sub, .int i, .int j => .ok (.int (i - j)) h
  | .mul, .int i, .int j => rIf (mulOk i j) (.ok (.int (i * j)) h)
  | .mul, .tup a, .int k => rIf (-(2 ^ 63) ≤ k ∧ k ≤ 1000 ∧ a.length ≤ 1000) (.ok (.tup (List.replicate k.toNat a).flatten) h)
  | .fdiv, .int i, .int j => rIf (0 < j ∧ j < 1073741824) (.ok (.int (i / j)) h)
  | .mod, .int i, .int j => rIf (0 < j) (.ok (.int (i % j)) h)
  | .pow, .int i, .int j => rIf (0 ≤ j ∧ j ≤ 1000000 ∧ i.natAbs < 2 ^ 64) (.ok (.int (i ^ j.toNat)) h)
  | _, _, _ => .bad
noncomputable def augD (h : Hh) : Bo → D → D → R D
  | .add, .int i, .int j => .ok (.int (i + j)) h
  | .add, .str a, .str b => rIf (a.length + b.length ≤ LINE) (.ok (.str (a ++ b)) h)
  | .sub, .int i, .int j => .ok (.int (i - j)) h
  | .mul, .int i, .int j => rIf (mulOk i j) (.ok (.int (i * j)) h)
  | .fdiv, .int i, .int j => rIf (0 < j ∧ j < 1073741824) (.ok (.int (i / j)) h)
  | .mod, .int i, .int j => rIf (0 < j) (.ok (.int (i % j)) h)
  | _, _, _ => .bad
/-- items that are compared as they are: numbers alone, texts alone -/
def plainI : D → Bool
  | .int _ => true
  | _ => false
def plainS : D → Bool
  | .str _ => true
  | _ => false
/-- is x in y: a sign in a text, a key of a dict, an item of a sequence -/
noncomputable def inD (h : Hh) (x y : D) : Option Bool := match y with
  | .str z => (match x with
    | .str c => (match c.cps.toList with
      | [k] => some (decide (k ∈ z.cps.toList))
      | _ => none)
    | _ => none)
  | y => match seqOf h y with
    | some ys => if (plainI x = true ∧ ys.all plainI = true) ∨ (plainS x = true ∧ ys.all plainS = true) then some (decide (x ∈ ys)) else none
    | none => match dctOf h y with
      | some (false, ks, _) => if keyOk x = true then some (decide (x ∈ ks)) else none
      | _ => none
noncomputable def cmpD (h : Hh) : Co → D → D → Option Bool
  | .eq, x, y => eqD h x y
  | .ne, x, y => (eqD h x y).map (!·)
  | .lt, .int i, .int j => some (decide (i < j))
  | .le, .int i, .int j => some (decide (i ≤ j))
  | .gt, .int i, .int j => some (decide (j < i))
  | .ge, .int i, .int j => some (decide (j ≤ i))
  | .is_, .non, .non => some true
  | .is_, .bl a, .bl b => some (decide (a = b))
  | .is_, .bl _, .non => some false
  | .is_, .int _, .non => some false
  | .is_, .str _, .non => some false
  | .is_, .tup _, .non => some false
  | .is_, .fls _, .non => some false
  | .is_, .obj _ _, .non => some false
  | .is_, .fdc _ _ _, .non => some false
  | .is_, .ref _, .non => some false
  | .isn, .non, .non => some false
  | .isn, .bl a, .bl b => some (!decide (a = b))
  | .isn, .bl _, .non => some true
  | .isn, .int _, .non => some true
  | .isn, .str _, .non => some true
  | .isn, .tup _, .non => some true
  | .isn, .fls _, .non => some true
  | .isn, .obj _ _, .non => some true
  | .isn, .fdc _ _ _, .non => some true
  | .isn, .ref _, .non => some true
  | .in_, x, y => inD h x y
  | .nin, x, y => (inD h x y).map (!·)
  | _, _, _ => none
/-- a greatest one -/
def isMax (ns : List Int) (m : Int) : Prop := m ∈ ns ∧ ∀ y, y ∈ ns → y ≤ m
def isMin (ns : List Int) (m : Int) : Prop := m ∈ ns ∧ ∀ y, y ∈ ns → m ≤ y
def maxL : List Int → Int
  | [] => 0
  | [x] => x
  | x :: y :: r => max x (maxL (y :: r))
def minL : List Int → Int
  | [] => 0
  | [x] => x
  | x :: y :: r => min x (minL (y :: r))
noncomputable def biLen (h : Hh) : List D → R D
  | [.str x] => rIf (x.length ≤ LINE) (.ok (.int x.length) h)
  | [d] => match dctOf h d with
    | some (false, ks, _) => .ok (.int ks.length) h
    | _ => (rOpt (seqOf h d) h).bind fun xs h => .ok (.int xs.length) h
  | _ => .bad
noncomputable def biSum (h : Hh) : List D → R D
  | [d] => (rOpt ((seqOf h d).bind asI) h).bind fun ns h => .ok (.int ns.sum) h
  | _ => .bad
noncomputable def biMax1 (h : Hh) : List D → R D
  | [d] => (rOpt ((seqOf h d).bind asI) h).bind fun ns h => rIf (0 < ns.length) (.ok (.int (maxL ns)) h)
  | _ => .bad
noncomputable def biMin1 (h : Hh) : List D → R D
  | [d] => (rOpt ((seqOf h d).bind asI) h).bind fun ns h => rIf (0 < ns.length) (.ok (.int (minL ns)) h)
  | _ => .bad
def biMax2 (h : Hh) : List D → R D
  | [.int i, .int j] => .ok (.int (if j > i then j else i)) h
  | _ => .bad
def biMin2 (h : Hh) : List D → R D
  | [.int i, .int j] => .ok (.int (if j < i then j else i)) h
  | _ => .bad
def biAbs (h : Hh) : List D → R D
  | [.int i] => .ok (.int (if i < 0 then -i else i)) h
  | _ => .bad
def biInt (h : Hh) : List D → R D
  | [.int i] => .ok (.int i) h
  | _ => .bad
noncomputable def biAll (h : Hh) : List D → R D
  | [d] => (rOpt ((lstOf h d).bind asB) h).bind fun ns h => .ok (.bl (ns.all id)) h
  | _ => .bad
noncomputable def biAny (h : Hh) : List D → R D
  | [d] => (rOpt ((lstOf h d).bind asB) h).bind fun ns h => .ok (.bl (ns.any id)) h
  | _ => .bad
noncomputable def biTuple (h : Hh) : List D → R D
  | [d] => (rOpt (seqOf h d) h).bind fun xs h => .ok (.tup xs) h
  | _ => .bad
noncomputable def biDivmod (h : Hh) : List D → R D
  | [.int i, .int j] => rIf (0 < j ∧ j < 1073741824) (.ok (.tup [.int (i / j), .int (i % j)]) h)
  | _ => .bad
noncomputable def biRepr (h : Hh) : List D → R D
  | [d] => (rOpt (pd h d) h).bind fun p h => rIf (p.showable = true ∧ p.hasDict = false ∧ p.depth ≤ 40 ∧ p.shown.length ≤ LINE) (.ok (.str p.shown) h)
  | _ => .bad
/-- a value's kind, where isinstance asks for it -/
inductive Kd where
  | non | bl | int | str | tup | lst | obj (c : Nat)
  deriving DecidableEq
def kdOf (h : Hh) : D → Option Kd
  | .non => some .non
  | .bl _ => some .bl
  | .int _ => some .int
  | .str _ => some .str
  | .tup _ => some .tup
  | .fls _ => some .lst
  | .obj c _ => some (.obj c)
  | .ref r => match h[r]? with
    | some (.lst _) => some .lst
    | some (.ins c _) => some (.obj c)
    | _ => none
  | _ => none
def isaK : Bi → Kd → Option Bool
  | .isInt, k => some (decide (k = .int ∨ k = .bl))
  | .isBool, k => some (decide (k = .bl))
  | .isStr, k => some (decide (k = .str))
  | .isTup, k => some (decide (k = .tup))
  | .isSeq, k => some (decide (k = .tup ∨ k = .lst))
  | .isCls c, .obj c' => if c = c' then some true else none
  | .isCls _, _ => some false
  | _, _ => none
def biIsa (b : Bi) (h : Hh) : List D → R D
  | [d] => (rOpt ((kdOf h d).bind (isaK b)) h).bind fun c h => .ok (.bl c) h
  | _ => .bad
noncomputable def biD (h : Hh) (b : Bi) (ds : List D) : R D := match b with
  | .len => biLen h ds
  | .sum => biSum h ds
  | .max1 => biMax1 h ds
  | .min1 => biMin1 h ds
  | .max2 => biMax2 h ds
  | .min2 => biMin2 h ds
  | .abs => biAbs h ds
  | .int => biInt h ds
  | .all => biAll h ds
  | .any => biAny h ds
  | .tuple => biTuple h ds
  | .divmod => biDivmod h ds
  | .repr => biRepr h ds
  | b => biIsa b h ds
noncomputable def ixD (h : Hh) : D → D → Option D
  | .str x, .int i => if x.length ≤ LINE then (L2.atI x.cps.toList i).map fun c => .str ⟨#[c]⟩ else none
  | d, k => match dctOf h d with
    | some (false, ks, vs) => if keyOk k = true then getK ks vs k else none
    | some (true, _, _) => none
    | none => match k with
      | .int i => (seqOf h d).bind fun xs => L2.atI xs i
      | _ => none
def flatD : D → Bool
  | .non => true | .bl _ => true | .int _ => true | .str _ => true
  | _ => false
def cutD (xs : List D) (lo hi : Option Int) : List D := (xs.drop (HT.sIx xs.length 0 lo)).take (HT.sIx xs.length xs.length hi - HT.sIx xs.length 0 lo)
noncomputable def ixR (h : Hh) (x y : D) : R D := rOpt (ixD h x y) h
/-- x[lo:hi] of a tuple, of a list that is hidden -/
def slR (h : Hh) (x : D) (lo hi : Option Int) : R D := match x with
  | .tup xs => .ok (.tup (cutD xs lo hi)) h
  | .fls xs => .ok (.fls (cutD xs lo hi)) h
  | _ => .bad
noncomputable def lcatR (h : Hh) (x y : D) : R (List D) := match x, y with
  | .fls xs, .fls ys => rIf (xs.length + ys.length ≤ LINE) (.ok (xs ++ ys) h)
  | _, _ => .bad
noncomputable def lrepR (h : Hh) (x y : D) : R (List D) := match x, y with
  | .fls xs, .int k => rIf (-(2 ^ 63) ≤ k ∧ k < 2 ^ 63 ∧ xs.length * k.toNat ≤ LINE) (.ok (List.replicate k.toNat xs).flatten h)
  | _, _ => .bad
def asS : List D → Option (List Str)
  | [] => some []
  | .str i :: r => (asS r).map (i :: ·)
  | _ => none
/-- list(x): of a dict its keys -/
noncomputable def lofR (h : Hh) (x : D) : R (List D) := match dctOf h x with
  | some (false, ks, _) => rIf (ks.length ≤ LINE) (.ok ks h)
  | _ => rOpt (seqOf h x) h
/-- sorted(x), sorted(x, reverse=True), of a list or a tuple; sorted(d.values()) -/
noncomputable def srtL (h : Hh) (rev : Bool) (xs : List D) : R (List D) := (rOpt (xs.mapM (pd h)) h).bind fun ps h =>
  rIf (xs.length ≤ LINE ∧ PySem.W.AllAlike ps ∧ PySem.W.Sortable ps ∧ ∀ p ∈ ps, p.depth ≤ 40) (.ok (((xs.zip ps).mergeSort (PySem.W.dataLe rev (·.2))).map (·.1)) h)
noncomputable def srtR (h : Hh) (rev : Bool) (x : D) : R (List D) := (rOpt (seqOf h x) h).bind fun xs h => srtL h rev xs
/-- each once -/
def nub {α : Type} [DecidableEq α] : List α → List α
  | [] => []
  | x :: r => x :: (nub r).filter fun y => decide (y ≠ x)
def leS (a b : Str) : Bool := decide (a.cps.toList ≤ b.cps.toList)
def leI (a b : Int) : Bool := decide (a ≤ b)
/-- sorted(set(x)), x a list of texts, or of numbers -/
noncomputable def srtSL (h : Hh) (xs : List D) : R (List D) := rIf (xs.length + 1 < 4096) (match asS xs with
  | some ss => .ok (((nub ss).mergeSort leS).map D.str) h
  | none => match asI xs with
    | some ns => .ok (((nub ns).mergeSort leI).map D.int) h
    | none => .bad)
noncomputable def srtSR (h : Hh) (x : D) : R (List D) := (rOpt (lstOf h x) h).bind fun xs h => srtSL h xs
noncomputable def srtVR (h : Hh) (x : D) : R (List D) := match dctOf h x with
  | some (false, _, vs) => srtL h false vs
  | _ => .bad
/-- the items of a list, hidden or not -/
def lstS (h : Hh) : D → Option (List D)
  | .scr xs => some xs
  | d => lstOf h d
def lslR (h : Hh) (x : D) (lo hi : Option Int) : R (List D) := (rOpt (lstS h x) h).bind fun xs h => .ok (cutD xs lo hi) h
noncomputable def mtAppend (h : Hh) : D → List D → R D
  | .ref r, [d] => match h[r]? with
    | some (.lst xs) => rIf (xs.length < LINE) (.ok .non (h.set r (.lst (xs ++ [d]))))
    | _ => .bad
  | _, _ => .bad
noncomputable def mtPop0 (h : Hh) : D → List D → R D
  | .ref r, [] => match h[r]? with
    | some (.lst xs) => (rOpt (xs[xs.length - 1]?) h).bind fun y _ => .ok y (h.set r (.lst xs.dropLast))
    | _ => .bad
  | _, _ => .bad
noncomputable def mtPop1 (h : Hh) : D → List D → R D
  | .ref r, [.int i] => match h[r]? with
    | some (.lst xs) => rIf (-(2 ^ 63) ≤ i ∧ i < 2 ^ 63) ((rOpt (seqIndex? i xs.length) h).bind fun k _ => (rOpt (xs[k]?) h).bind fun y _ => .ok y (h.set r (.lst (xs.eraseIdx k))))
    | _ => .bad
  | _, _ => .bad
noncomputable def mtInsert (h : Hh) : D → List D → R D
  | .ref r, [.int i, d] => match h[r]? with
    | some (.lst xs) => rIf (xs.length < LINE ∧ 0 ≤ i ∧ i < 2 ^ 63) (.ok .non (h.set r (.lst (xs.take i.toNat ++ [d] ++ xs.drop i.toNat))))
    | _ => .bad
  | _, _ => .bad
noncomputable def mtIndex (h : Hh) : D → List D → R D
  | d, [.int i] => (rOpt ((lstOf h d).bind asI) h).bind fun ns h => rIf (i ∈ ns) (.ok (.int (ns.idxOf i : Nat)) h)
  | _, _ => .bad
/-- methods of dicts -/
noncomputable def dmGet (h : Hh) (x k : D) (o : D) : R D := match dctOf h x with
  | some (false, ks, vs) => rIf (keyOk k = true) (.ok ((getK ks vs k).getD o) h)
  | _ => .bad
noncomputable def dmPop (h : Hh) (x k : D) : R D := match x with
  | .ref r => match h[r]? with
    | some (.dct false false ks vs) => rIf (keyOk k = true) ((rOpt (getK ks vs k) h).bind fun v h => .ok v (h.set r (.dct false false (dropKs ks k) (dropVs ks vs k))))
    | _ => .bad
  | _ => .bad
noncomputable def dmD (h : Hh) (m : Dm) (x k : D) : R D := match m with
  | .get1 => dmGet h x k .non
  | .pop1 => dmPop h x k
  | .get2 => .bad
noncomputable def joinR (h : Hh) (x y : D) : R D := match x with
  | .str a => (rOpt ((seqOf h y).bind asS) h).bind fun ys h => rIf ((ys.map (·.length)).sum + ys.length * a.length ≤ LINE) (.ok (.str (Txt.join a ys)) h)
  | _ => .bad
noncomputable def mtD (h : Hh) (m : Mt) (x : D) (ds : List D) : R D := match m with
  | .append => mtAppend h x ds
  | .pop0 => mtPop0 h x ds
  | .pop1 => mtPop1 h x ds
  | .insert => mtInsert h x ds
  | .index => mtIndex h x ds
/-- the first object with an own reference that is not told below -/
def below (n : Nat) : D → Bool
  | .ref r => decide (r < n)
  | .tup xs => xs.attach.all fun ⟨x, _⟩ => below n x
  | .fls xs => xs.attach.all fun ⟨x, _⟩ => below n x
  | .scr xs => xs.attach.all fun ⟨x, _⟩ => below n x
  | .obj _ xs => xs.attach.all fun ⟨x, _⟩ => below n x
  | .fdc _ _ xs => xs.attach.all fun ⟨x, _⟩ => below n x
  | _ => true
def belowO (n : Nat) : O → Bool
  | .lst xs => xs.all (below n)
  | .ins _ xs => xs.all (below n)
  | .dct _ _ _ xs => xs.all (below n)
/-- a value that leaves a call: its new lists are hidden -/
def frz : Nat → Hh → Nat → D → Option D
  | 0, _, _, _ => none
  | k + 1, h, n, d => match d with
    | .ref r => if r < n then some (.ref r) else match h[r]? with
      | some (.lst xs) => (xs.mapM (frz k h n)).map D.fls
      | some (.ins c xs) => (xs.mapM (frz k h n)).map (D.obj c)
      | some (.dct tk _ ks xs) => (xs.mapM (frz k h n)).map (D.fdc tk ks)
      | none => none
    | .tup xs => (xs.mapM (frz k h n)).map D.tup
    | .fls xs => (xs.mapM (frz k h n)).map D.fls
    | .scr xs => (xs.mapM (frz k h n)).map D.scr
    | .obj c xs => (xs.mapM (frz k h n)).map (D.obj c)
    | .fdc tk ks xs => (xs.mapM (frz k h n)).map (D.fdc tk ks)
    | d => some d
/-- the old objects hold nothing new -/
def settled (h h' : Hh) : Prop := ∀ i o, i < h.length → h'[i]? = some o → h[i]? = some o ∨ belowO h.length o = true
noncomputable def settle (h : Hh) : R D → R D
  | .ok d h' => match frz 8 h' h.length d with
    | some d' => rIf (h.length ≤ h'.length ∧ settled h h') (.ok d' (h'.take h.length))
    | none => .bad
  | .exc c d h' => match frz 8 h' h.length d with
    | some d' => rIf (h.length ≤ h'.length ∧ settled h h') (.exc c d' (h'.take h.length))
    | none => .bad
  | .bad => .bad
/-! ### the program -/
structure Sg where
  f : Nat
  n : Nat
  ks : List Str
  pm : List Nat
structure Fn where
  np : Nat
  nn : Nat
  body : S
structure Pg where
  fns : Nat → Option Fn
  sgs : Nat → Option Sg
  /-- classes that are made: the class, its __init__ (the signature counts self) -/
  mks : Nat → Option (Nat × Sg)
  /-- is the one class the other one, or below it -/
  sub : Nat → Nat → Bool
def perm (pm : List Nat) (vs : List D) : Option (List D) := pm.mapM fun i => vs[i]?
abbrev Ph := Nat → List D → Hh → R D
noncomputable def cloop (f : D → Hh → R (Option D)) (g : Hh → Prop) : List D → List D → Hh → R (List D)
  | [], acc, h => rIf (g h) (.ok acc h)
  | x :: r, acc, h => rIf (g h) ((f x h).bind fun o h' => cloop f g r (match o with | some y => acc ++ [y] | none => acc) h')
/-- a new instance's end -/
def mkEnd (r : Nat) (d : D) (h : Hh) : R D := match d with
  | .non => .ok (.ref r) h
  | _ => .bad
/-- no exception leaves a comprehension -/
def R.quiet {α : Type} : R α → R α
  | .exc _ _ _ => .bad
  | r => r
mutual
noncomputable def ev (P : Pg) (F : Ph) : E → En → Hh → R D
  | .k d, _, h => .ok d h
  | .g _ d, _, h => .ok d h
  | .v i, σ, h => rOpt (look σ i) h
  | .bin o a b, σ, h => (ev P F a σ h).bind fun x h => (ev P F b σ h).bind fun y h => binD h o x y
  | .neg a, σ, h => (ev P F a σ h).bind fun x h => match x with
    | .int i => .ok (.int (-i)) h
    | _ => .bad
  | .cmp o a b, σ, h => (ev P F a σ h).bind fun x h => (ev P F b σ h).bind fun y h => (rOpt (cmpD h o x y) h).bind fun c h => .ok (.bl c) h
  | .ch o p a b c, σ, h => (ev P F a σ h).bind fun x h => (ev P F b σ h).bind fun y h => (rOpt (cmpD h o x y) h).bind fun t h =>
      if t = true then (ev P F c σ h).bind fun z h => (rOpt (cmpD h p y z) h).bind fun u h => .ok (.bl u) h else .ok (.bl false) h
  | .and_ a b, σ, h => (ev P F a σ h).bind fun x h => (rOpt (truth h x) h).bind fun t h => if t = true then ev P F b σ h else .ok x h
  | .or_ a b, σ, h => (ev P F a σ h).bind fun x h => (rOpt (truth h x) h).bind fun t h => if t = true then .ok x h else ev P F b σ h
  | .not_ a, σ, h => (ev P F a σ h).bind fun x h => (rOpt (truth h x) h).bind fun t h => .ok (.bl (!t)) h
  | .ite c a b, σ, h => (ev P F c σ h).bind fun x h => (rOpt (truth h x) h).bind fun t h => if t = true then ev P F a σ h else ev P F b σ h
  | .tup es, σ, h => (evs P F es σ h).bind fun xs h => rIf (xs.length ≤ LINE) (.ok (.tup xs) h)
  | .nl m e, σ, h => (evN P F e σ h).bind fun xs h => if m = true then .ok (.ref h.length) (h ++ [.lst xs]) else .ok (.fls xs) h
  | .ix a i, σ, h => (ev P F a σ h).bind fun x h => (ev P F i σ h).bind fun y h => ixR h x y
  | .sl a lo hi, σ, h => (ev P F a σ h).bind fun x h => (evO P F lo σ h).bind fun l h => (evO P F hi σ h).bind fun u h => slR h x l u
  | .fld cs a f, σ, h => (ev P F a σ h).bind fun x h => match x with
    | .obj c fs => rIf (c ∈ cs) (rOpt (fs[f]?) h)
    | .ref r => match h[r]? with
      | some (.ins c fs) => rIf (c ∈ cs) (rOpt (fs[f]?) h)
      | _ => .bad
    | _ => .bad
  | .call s fr es, σ, h => match P.sgs s with
    | some g => (evs P F es σ h).bind fun xs h => (rOpt (perm g.pm xs) h).bind fun ys h => if fr = true then settle h (F g.f ys h) else F g.f ys h
    | none => .bad
  | .mk s es, σ, h => match P.mks s with
    | some (c, g) => (evs P F es σ h).bind fun xs h => (rOpt (perm g.pm (.ref h.length :: xs)) h).bind fun ys h =>
        settle h ((F g.f ys (h ++ [.ins c []])).bind fun d h' => mkEnd h.length d h')
    | none => .bad
  | .bi b es, σ, h => (evs P F es σ h).bind fun xs h => biD h b xs
  | .mt m o es, σ, h => (ev P F o σ h).bind fun x h => rIf ((lstOf h x).isSome = true) ((evs P F es σ h).bind fun ys h => mtD h m x ys)
  | .nd tk, _, h => .ok (.ref h.length) (h ++ [.dct tk false [] []])
  | .dm m o a b, σ, h => (ev P F o σ h).bind fun x h => rIf ((dctOf h x).isSome = true) ((ev P F a σ h).bind fun k h => if m = .get2 then (ev P F b σ h).bind fun d h => dmGet h x k d else dmD h m x k)
  | .join a b, σ, h => (ev P F a σ h).bind fun x h => rIf (plainS x = true) ((ev P F b σ h).bind fun y h => joinR h x y)
  | _, _, _ => .bad
noncomputable def evO (P : Pg) (F : Ph) : E → En → Hh → R (Option Int)
  | .nil, _, h => .ok none h
  | .cons a _, σ, h => (ev P F a σ h).bind fun x h => match x with
    | .int i => .ok (some i) h
    | _ => .bad
  | _, _, _ => .bad
noncomputable def evs (P : Pg) (F : Ph) : E → En → Hh → R (List D)
  | .nil, _, h => .ok [] h
  | .cons a r, σ, h => (ev P F a σ h).bind fun x h => (evs P F r σ h).bind fun xs h => .ok (x :: xs) h
  | _, _, _ => .bad
/-- the items of a new list -/
noncomputable def evN (P : Pg) (F : Ph) : E → En → Hh → R (List D)
  | .dis es, σ, h => (evs P F es σ h).bind fun xs h => rIf (xs.length ≤ LINE) (.ok xs h)
  | .lcat a b, σ, h => (ev P F a σ h).bind fun x h => (ev P F b σ h).bind fun y h => lcatR h x y
  | .lrep a b, σ, h => (ev P F a σ h).bind fun x h => (ev P F b σ h).bind fun y h => lrepR h x y
  | .lof a, σ, h => (ev P F a σ h).bind fun x h => lofR h x
  | .lsl a lo hi, σ, h => (ev P F a σ h).bind fun x h => (evO P F lo σ h).bind fun l h => (evO P F hi σ h).bind fun u h => lslR h x l u
  | .lrv a, σ, h => (ev P F a σ h).bind fun x h => (rOpt (lstS h x) h).bind fun xs h => .ok xs.reverse h
  | .srt rev a, σ, h => (ev P F a σ h).bind fun x h => srtR h rev x
  | .srtV a, σ, h => (ev P F a σ h).bind fun x h => srtVR h x
  | .srtS a, σ, h => (ev P F a σ h).bind fun x h => srtSR h x
  | .compD w ws t i c e, σ, h => (rOpt ((look σ i).bind (lkD h)) h).bind fun q _ => (rIf ((dwL w q.1 q.2.1).length ≤ LINE) (cloop (fun x h => match setT t x (wipe σ ws) with
      | some σ' => match c with
        | .nil => ((ev P F e σ' h).bind fun y h => .ok (some y) h).quiet
        | .cons c _ => ((ev P F c σ' h).bind fun t h => (rOpt (truth h t) h).bind fun t h => if t = true then (ev P F e σ' h).bind fun y h => .ok (some y) h else .ok none h).quiet
        | _ => .bad
      | none => .bad) (fun h => gok h none) (dwL w q.1 q.2.1) [] q.2.2.1)).bind fun xs h' => .ok xs (unl h' q.2.2.2)
  | .comp ws t it c e, σ, h => (evI P F it σ h).bind fun xg h => rIf (xg.1.length ≤ LINE) (cloop (fun x h => match setT t x (wipe σ ws) with
      | some σ' => match c with
        | .nil => ((ev P F e σ' h).bind fun y h => .ok (some y) h).quiet
        | .cons c _ => ((ev P F c σ' h).bind fun t h => (rOpt (truth h t) h).bind fun t h => if t = true then (ev P F e σ' h).bind fun y h => .ok (some y) h else .ok none h).quiet
        | _ => .bad
      | none => .bad) (fun h => gok h xg.2) xg.1 [] h)
  | _, _, _ => .bad
/-- what is walked: the items, the object that holds them if it may change -/
noncomputable def evI (P : Pg) (F : Ph) : E → En → Hh → R (List D × Option (Nat × List D))
  | .iSeq a, σ, h => (ev P F a σ h).bind fun x h => rOpt (iterOf h x) h
  | .iRg1 a, σ, h => (ev P F a σ h).bind fun x h => match x with
    | .int n => rIf (-(2 ^ 62) ≤ n ∧ n < 16777216) (.ok ((List.range n.toNat).map fun i : Nat => D.int i, none) h)
    | _ => .bad
  | .iRg2 a b, σ, h => (ev P F a σ h).bind fun x h => (ev P F b σ h).bind fun y h => match x, y with
    | .int m, .int n => rIf (-(2 ^ 62) ≤ m ∧ m < 2 ^ 62 ∧ -(2 ^ 62) ≤ n ∧ n < 2 ^ 62 ∧ n - m ≤ 16777216) (.ok ((List.range (n - m).toNat).map fun i : Nat => D.int (m + i), none) h)
    | _, _ => .bad
  | .iEnum a, σ, h => (ev P F a σ h).bind fun x h => match x with
    | .fls xs => .ok ((List.range xs.length).zipWith (fun (i : Nat) x => D.tup [.int i, x]) xs, none) h
    | .tup xs => .ok ((List.range xs.length).zipWith (fun (i : Nat) x => D.tup [.int i, x]) xs, none) h
    | .ref r => (match h[r]? with
      | some (.lst xs) => .ok ((List.range xs.length).zipWith (fun (i : Nat) x => D.tup [.int i, x]) xs, some (r, xs)) h
      | _ => .bad)
    | _ => .bad
  | _, _, _ => .bad
end
inductive Fl where
  | nx (σ : En) | rt (d : D) | bk (σ : En) | ct (σ : En)
noncomputable def floop (f : D → En → Hh → R Fl) (g : Hh → Prop) : List D → En → Hh → R Fl
  | [], σ, h => rIf (g h) (.ok (.nx σ) h)
  | x :: r, σ, h => rIf (g h) ((f x σ h).bind fun fl h' => match fl with
    | .nx σ' => floop f g r σ' h'
    | .ct σ' => floop f g r σ' h'
    | .bk σ' => .ok (.nx σ') h'
    | .rt d => .ok (.rt d) h')
def wloop (c : En → Hh → R Bool) (f : En → Hh → R Fl) : Nat → En → Hh → R Fl
  | 0, _, _ => .bad
  | n + 1, σ, h => (c σ h).bind fun b h => if b = true then (f σ h).bind fun fl h' => match fl with
    | .nx σ' => wloop c f n σ' h'
    | .ct σ' => wloop c f n σ' h'
    | .bk σ' => .ok (.nx σ') h'
    | .rt d => .ok (.rt d) h'
    else .ok (.nx σ) h
def FUEL : Nat := 1000000
/-- o[i] = x -/
noncomputable def setItemD (h : Hh) (o i x : D) : R Unit := match o with
  | .ref r => match h[r]? with
    | some (.lst xs) => (match i with
      | .int j => (rOpt (L2.ixN xs.length j) h).bind fun k h => .ok () (h.set r (.lst (xs.set k x)))
      | _ => .bad)
    | some (.dct false false ks vs) => rIf (keyOk i = true ∧ ks.length < LINE) (.ok () (h.set r (.dct false false (putKs ks i) (putVs ks vs i x))))
    | _ => .bad
  | _ => .bad
/-- o[i] of what may change -/
noncomputable def itemD (h : Hh) (o i : D) : R D := match o with
  | .ref r => match h[r]? with
    | some (.lst xs) => (match i with
      | .int j => rOpt (L2.atI xs j) h
      | _ => .bad)
    | some (.dct false false ks vs) => rIf (keyOk i = true) (rOpt (getK ks vs i) h)
    | _ => .bad
  | _ => .bad
/-- o.f = x -/
noncomputable def setFldD (h : Hh) (c' f : Nat) (o x : D) : R Unit := match o with
  | .ref r => match h[r]? with
    | some (.ins c fs) => rIf (c = c') (if f < fs.length then .ok () (h.set r (.ins c (fs.set f x))) else if f = fs.length then .ok () (h.set r (.ins c (fs ++ [x]))) else .bad)
    | _ => .bad
  | _ => .bad
def bindT {α : Type} (o : Option En) (k : En → R α) : R α := match o with
  | some σ => k σ
  | none => .bad
mutual
def heD (v : D) : HE → D
  | .fld => v
  | .k d => d
  | .tp r => .tup (heL v r)
  | _ => .non
def heL (v : D) : HE → List D
  | .cons a r => heD v a :: heL v r
  | _ => []
end
/-- the first clause that catches -/
def hand (P : Pg) (c : Nat) (v : D) (h : Hh) : List (Nat × HE) → R Fl
  | [] => .exc c v h
  | p :: r => if P.sub c p.1 = true then .ok (.rt (heD v p.2)) h else hand P c v h r
def R.catch_ : R Fl → (Nat → D → Hh → R Fl) → R Fl
  | .ok a h, _ => .ok a h
  | .exc c v h, k => k c v h
  | .bad, _ => .bad
noncomputable def evS (P : Pg) (F : Ph) : S → En → Hh → R Fl
  | .nop, σ, h => .ok (.nx σ) h
  | .seq a b, σ, h => (evS P F a σ h).bind fun fl h => match fl with
    | .nx σ => evS P F b σ h
    | fl => .ok fl h
  | .ex e, σ, h => (ev P F e σ h).bind fun _ h => .ok (.nx σ) h
  | .set t e, σ, h => (ev P F e σ h).bind fun x h => (rOpt (setT t x σ) h).bind fun σ h => .ok (.nx σ) h
  | .aug i o e, σ, h => (rOpt (look σ i) h).bind fun x h => (ev P F e σ h).bind fun y h => (augD h o x y).bind fun z h => .ok (.nx (put σ i z)) h
  | .setIx o i e, σ, h => (ev P F e σ h).bind fun x h => (ev P F o σ h).bind fun l h => (ev P F i σ h).bind fun j h => (setItemD h l j x).bind fun _ h => .ok (.nx σ) h
  | .augIx p o i e, σ, h => (ev P F o σ h).bind fun l h => (ev P F i σ h).bind fun j h => (itemD h l j).bind fun x h => (ev P F e σ h).bind fun y h => (augD h p x y).bind fun z h => (setItemD h l j z).bind fun _ h => .ok (.nx σ) h
  | .setFld c' o f e, σ, h => (ev P F e σ h).bind fun x h => (ev P F o σ h).bind fun l h => (setFldD h c' f l x).bind fun _ h => .ok (.nx σ) h
  | .ret e, σ, h => (ev P F e σ h).bind fun x h => .ok (.rt x) h
  | .ite c a b, σ, h => (ev P F c σ h).bind fun x h => (rOpt (truth h x) h).bind fun t h => if t = true then evS P F a σ h else evS P F b σ h
  | .for_ t it b, σ, h => (evI P F it σ h).bind fun xg h => rIf (xg.1.length ≤ LINE) (floop (fun x σ h => bindT (setT t x σ) fun σ' => evS P F b σ' h) (fun h => gok h xg.2) xg.1 σ h)
  | .forD w t i b, σ, h => (rOpt ((look σ i).bind (lkD h)) h).bind fun q _ => (rIf ((dwL w q.1 q.2.1).length ≤ LINE) (floop (fun x σ h => bindT (setT t x σ) fun σ' => evS P F b σ' h) (fun h => gok h none) (dwL w q.1 q.2.1) σ q.2.2.1)).bind fun fl h' => .ok fl (unl h' q.2.2.2)
  | .while_ c b, σ, h => wloop (fun σ h => (ev P F c σ h).bind fun x h => rOpt (truth h x) h) (fun σ h => evS P F b σ h) FUEL σ h
  | .brk, σ, h => .ok (.bk σ) h
  | .cont, σ, h => .ok (.ct σ) h
  | .raise_ c e, σ, h => (ev P F e σ h).bind fun x h => .exc c x h
  | .try_ b hs, σ, h => (evS P F b σ h).catch_ fun c v h => hand P c v h hs
noncomputable def callN (P : Pg) : Nat → Ph
  | 0 => fun _ _ _ => .bad
  | k + 1 => fun f xs h => match P.fns f with
    | some fn => if xs.length = fn.np then (evS P (callN P k) fn.body (xs.map some ++ List.replicate (fn.nn - xs.length) none) h).bind fun fl h' => match fl with
      | .nx _ => .ok .non h'
      | .rt d => .ok d h'
      | _ => .bad
      else .bad
    | none => .bad
end Mx
set_option Elab.async false
set_option linter.all false
set_option maxRecDepth 100000
set_option maxHeartbeats 1000000
namespace Mx
open PySem L2

/-- where the program's things stand: the written part, the classes' addresses, their fields -/
structure Rl where
  K : PySem.W.Frag
  cl : Nat → Addr
  fl : Nat → List Str
  ok : Nat → Prop
  /-- the exceptions that are raised -/
  xk : Nat → Prop
  /-- objects that a rule is making: nothing of the machine's stands there -/
  ex : List Addr
/-- a key of a dict -/
def keyD : Key → D
  | .inl i => .int i
  | .inr x => .str x
def tkeyD (k : List Key) : D := .tup (k.map keyD)
/-- what a dict holds, locked or not -/
def dkOf : HO → Option (List (Key × V) ⊕ List (List Key × V))
  | .dK k => some (.inl k)
  | .dT k => some (.inr k)
  | .frz _ (.dK k) => some (.inl k)
  | .frz _ (.dT k) => some (.inr k)
  | _ => none

/-- a list that nobody ever changes: the script -/
def Sc (K : PySem.W.Frag) (H : Hp) (a : Addr) (vs : List V) : Prop := (∃ o, H a = some (.frz o (.lst vs))) ∨ ∃ (o : Obj) (its : Array Value) (n : Nat), K.lookup a = some o ∧ o.cls = .type "list" ∧ o.dict = none ∧ o.data = .seq its n ∧ its.size ≤ sizeLine ∧ Vals vs its.toList
theorem Sc.sq {K : PySem.W.Frag} {H : Hp} {a : Addr} {vs : List V} (s : Sc K H a vs) : SqL K H a vs := by
  rcases s with s | s
  · exact .inl (.inr s)
  · exact .inr s
mutual
/-- a machine's value as a value of the layer -/
inductive Rp (M : Rl) (ι : List Addr) (H : Hp) : D → V → Prop
  | non : Rp M ι H .non .non
  | bl (b) : Rp M ι H (.bl b) (.bl b)
  | int (i) : Rp M ι H (.int i) (.int i)
  | str (x) : Rp M ι H (.str x) (.str x)
  | tup {a vs ds} : SqT M.K H a vs → RpL M ι H ds vs → Rp M ι H (.tup ds) (.ref a)
  | fls {a vs ds} : a ∉ ι → a ∉ M.ex → H a = some (.lst vs) → RpL M ι H ds vs → Rp M ι H (.fls ds) (.ref a)
  | scr {a vs ds} : Sc M.K H a vs → RpL M ι H ds vs → Rp M ι H (.scr ds) (.ref a)
  | obj {a dx c vs ds} : M.ok c → a ∉ ι → a ∉ M.ex → H a = some (.ins (M.cl c) dx ((M.fl c).zip vs)) → ds.length ≤ (M.fl c).length → RpL M ι H ds vs → Rp M ι H (.obj c ds) (.ref a)
  | fdk {a u kvs ks ds} : a ∉ ι → a ∉ M.ex → H a = some u → dkOf u = some (.inl kvs) → ks = kvs.map (fun p => keyD p.1) → RpL M ι H ds (kvs.map (·.2)) → Rp M ι H (.fdc false ks ds) (.ref a)
  | fdt {a u kvs ks ds} : a ∉ ι → a ∉ M.ex → H a = some u → dkOf u = some (.inr kvs) → ks = kvs.map (fun p => tkeyD p.1) → RpL M ι H ds (kvs.map (·.2)) → Rp M ι H (.fdc true ks ds) (.ref a)
  | ref {r a} : ι[r]? = some a → Rp M ι H (.ref r) (.ref a)
inductive RpL (M : Rl) (ι : List Addr) (H : Hp) : List D → List V → Prop
  | nil : RpL M ι H [] []
  | cons {d v ds vs} : Rp M ι H d v → RpL M ι H ds vs → RpL M ι H (d :: ds) (v :: vs)
end

section
variable {M : Rl} {ι ι' ι'' : List Addr} {H H' H'' : Hp} {d : D} {v : V} {ds es : List D} {vs ws : List V} {h h' : Hh} {m : En} {σ : St}

theorem RpL.length : ∀ {ds : List D} {vs : List V}, RpL M ι H ds vs → ds.length = vs.length
  | _, _, .nil => rfl
  | _, _, .cons _ t => by rw [List.length_cons, List.length_cons, RpL.length t]
theorem RpL.append : ∀ {ds es : List D} {vs ws : List V}, RpL M ι H ds vs → RpL M ι H es ws → RpL M ι H (ds ++ es) (vs ++ ws)
  | _, _, _, _, .nil, s => s
  | _, _, _, _, .cons r t, s => .cons r (RpL.append t s)
theorem RpL.get : ∀ {ds : List D} {vs : List V} {i : Nat} {d : D}, RpL M ι H ds vs → ds[i]? = some d → ∃ v, vs[i]? = some v ∧ Rp M ι H d v
  | _, _, _, _, .nil, e => by simp at e
  | _, _, 0, _, .cons r _, e => by simp at e; subst e; exact ⟨_, by simp, r⟩
  | _, _, i + 1, _, .cons _ t, e => by
    obtain ⟨v, h1, h2⟩ := RpL.get (i := i) t (by simpa using e)
    exact ⟨v, by simpa using h1, h2⟩
theorem RpL.set {d : D} {v : V} (r : Rp M ι H d v) : ∀ {ds : List D} {vs : List V} (i : Nat), RpL M ι H ds vs → RpL M ι H (ds.set i d) (vs.set i v)
  | _, _, _, .nil => .nil
  | _, _, 0, .cons _ t => .cons r t
  | _, _, i + 1, .cons q t => .cons q (RpL.set r i t)
theorem RpL.take : ∀ {ds : List D} {vs : List V} (n : Nat), RpL M ι H ds vs → RpL M ι H (ds.take n) (vs.take n)
  | _, _, 0, _ => .nil
  | _, _, _ + 1, .nil => .nil
  | _, _, n + 1, .cons r t => .cons r (RpL.take n t)
theorem RpL.drop : ∀ {ds : List D} {vs : List V} (n : Nat), RpL M ι H ds vs → RpL M ι H (ds.drop n) (vs.drop n)
  | _, _, 0, r => r
  | _, _, _ + 1, .nil => .nil
  | _, _, n + 1, .cons _ t => RpL.drop n t
theorem RpL.eraseIdx : ∀ {ds : List D} {vs : List V} (i : Nat), RpL M ι H ds vs → RpL M ι H (ds.eraseIdx i) (vs.eraseIdx i)
  | _, _, _, .nil => .nil
  | _, _, 0, .cons _ t => t
  | _, _, i + 1, .cons q t => .cons q (RpL.eraseIdx i t)
theorem RpL.dropLast (r : RpL M ι H ds vs) : RpL M ι H ds.dropLast vs.dropLast := by
  rw [List.dropLast_eq_take, List.dropLast_eq_take, r.length]
  exact r.take _
theorem RpL.reverse : ∀ {ds : List D} {vs : List V}, RpL M ι H ds vs → RpL M ι H ds.reverse vs.reverse
  | _, _, .nil => .nil
  | _, _, .cons r t => by
    rw [List.reverse_cons, List.reverse_cons]
    exact (RpL.reverse t).append (.cons r .nil)
theorem RpL.rep (r : RpL M ι H ds vs) : ∀ k : Nat, RpL M ι H (List.replicate k ds).flatten (List.replicate k vs).flatten
  | 0 => .nil
  | k + 1 => by
    rw [List.replicate_succ, List.replicate_succ, List.flatten_cons, List.flatten_cons]
    exact r.append (RpL.rep r k)
theorem RpL.intsD : ∀ {ns : List Int} {vs : List V}, RpL M ι H (ns.map D.int) vs → vs = ns.map V.int
  | [], _, .nil => rfl
  | _ :: _, _, .cons r t => by
    cases r
    rw [RpL.intsD t, List.map_cons]
theorem RpL.ofInts : ∀ ns : List Int, RpL M ι H (ns.map D.int) (ns.map V.int)
  | [] => .nil
  | _ :: r => .cons (.int _) (RpL.ofInts r)
theorem asI_eq : ∀ {ds : List D} {ns : List Int}, asI ds = some ns → ds = ns.map D.int
  | [], ns, e => by simp [asI] at e; subst e; rfl
  | .int i :: r, ns, e => by
    simp only [asI, Option.map_eq_some_iff] at e
    obtain ⟨ms, e1, rfl⟩ := e
    rw [asI_eq e1]; rfl
  | .non :: _, _, e => by simp [asI] at e
  | .bl _ :: _, _, e => by simp [asI] at e
  | .str _ :: _, _, e => by simp [asI] at e
  | .tup _ :: _, _, e => by simp [asI] at e
  | .fls _ :: _, _, e => by simp [asI] at e
  | .scr _ :: _, _, e => by simp [asI] at e
  | .obj _ _ :: _, _, e => by simp [asI] at e
  | .fdc _ _ _ :: _, _, e => by simp [asI] at e
  | .ref _ :: _, _, e => by simp [asI] at e
theorem asB_eq : ∀ {ds : List D} {ns : List Bool}, asB ds = some ns → ds = ns.map D.bl
  | [], ns, e => by simp [asB] at e; subst e; rfl
  | .bl i :: r, ns, e => by
    simp only [asB, Option.map_eq_some_iff] at e
    obtain ⟨ms, e1, rfl⟩ := e
    rw [asB_eq e1]; rfl
  | .non :: _, _, e => by simp [asB] at e
  | .int _ :: _, _, e => by simp [asB] at e
  | .str _ :: _, _, e => by simp [asB] at e
  | .tup _ :: _, _, e => by simp [asB] at e
  | .fls _ :: _, _, e => by simp [asB] at e
  | .scr _ :: _, _, e => by simp [asB] at e
  | .obj _ _ :: _, _, e => by simp [asB] at e
  | .fdc _ _ _ :: _, _, e => by simp [asB] at e
  | .ref _ :: _, _, e => by simp [asB] at e
theorem RpL.boolsD : ∀ {ns : List Bool} {vs : List V}, RpL M ι H (ns.map D.bl) vs → vs = ns.map V.bl
  | [], _, .nil => rfl
  | _ :: _, _, .cons r t => by
    cases r
    rw [RpL.boolsD t, List.map_cons]

/-- what may stand at the machine's own objects -/
def Own (H : Hp) (a : Addr) : Prop := (∃ vs, H a = some (.lst vs)) ∨ (∃ C dx fs, H a = some (.ins C dx fs)) ∨ ∃ u k, H a = some u ∧ dkOf u = some k
theorem Own.noTup {a : Addr} (w : Own H a) {vs : List V} : H a ≠ some (.tup vs) := fun e => by
  rcases w with ⟨_, q⟩ | ⟨_, _, _, q⟩ | ⟨u, k, q, z⟩
  · rw [e] at q; cases q
  · rw [e] at q; cases q
  · rw [e] at q; cases q; cases z
theorem Own.noFrz {a : Addr} (w : Own H a) {o : Obj} {u : HO} (n : dkOf (.frz o u) = none) : H a ≠ some (.frz o u) := fun e => by
  rcases w with ⟨_, q⟩ | ⟨_, _, _, q⟩ | ⟨u, k, q, z⟩
  · rw [e] at q; cases q
  · rw [e] at q; cases q
  · rw [e] at q; cases q; rw [n] at z; cases z
/-- locked -/
def isFrz : HO → Prop
  | .frz _ _ => True
  | _ => False
/-- what stood stays; a dict may be locked from now on -/
def Stay (u : HO) (o : Option HO) : Prop := o = some u ∨ (¬ isFrz u ∧ (dkOf u).isSome = true ∧ ∃ od, o = some (.frz od u))
theorem dkOf_frz {u : HO} {od : Obj} (n : ¬ isFrz u) : dkOf (.frz od u) = dkOf u := by
  cases u <;> first | rfl | exact absurd True.intro n
theorem Stay.nd {u : HO} {o : Option HO} (s : Stay u o) (n : dkOf u = none) : o = some u := by
  rcases s with s | ⟨_, z, _⟩
  · exact s
  · rw [n] at z; cases z
theorem Stay.fz {u : HO} {o : Option HO} (s : Stay u o) (n : isFrz u) : o = some u := by
  rcases s with s | ⟨z, _⟩
  · exact s
  · exact absurd n z
theorem Stay.dk {u : HO} {o : Option HO} (s : Stay u o) : ∃ u', o = some u' ∧ dkOf u' = dkOf u := by
  rcases s with s | ⟨n, _, od, e⟩
  · exact ⟨u, s, rfl⟩
  · exact ⟨_, e, dkOf_frz n⟩
/-- from one state to a later one: new objects are appended, what the machine does not hold stays, what is locked stays -/
structure Ext (M : Rl) (ι : List Addr) (H : Hp) (ι' : List Addr) (H' : Hp) : Prop where
  own : ∀ a, a ∈ ι ∨ a ∈ M.ex → Own H a
  pre : ι <+: ι'
  keepF : ∀ a u, a ∉ ι ∨ isFrz u → H a = some u → Stay u (H' a)
  new : ∀ a, a ∈ ι' → a ∉ ι → H a = none
theorem Ext.keep (x : Ext M ι H ι' H') : ∀ a u, a ∉ ι → H a = some u → Stay u (H' a) := fun a u n e => x.keepF a u (.inl n) e
theorem Ext.refl (o : ∀ a, a ∈ ι ∨ a ∈ M.ex → Own H a) : Ext M ι H ι H := ⟨o, List.prefix_refl _, fun _ _ _ e => .inl e, fun _ h n => absurd h n⟩
theorem Ext.trans (a : Ext M ι H ι' H') (b : Ext M ι' H' ι'' H'') : Ext M ι H ι'' H'' where
  own := a.own
  pre := a.pre.trans b.pre
  keepF := fun x u n e => by
    have n2 : x ∉ ι' ∨ isFrz u := by
      rcases n with n | n
      · exact .inl fun z => by rw [a.new x z n] at e; cases e
      · exact .inr n
    rcases a.keepF x u n e with r | ⟨r1, r2, od, r⟩
    · exact b.keepF x u n2 r
    · exact .inr ⟨r1, r2, od, (b.keepF x (.frz od u) (.inr True.intro) r).fz True.intro⟩
  new := fun x hx n => by
    by_cases hx' : x ∈ ι'
    · exact a.new x hx' n
    · have q := b.new x hx hx'
      cases e : H x with
      | none => rfl
      | some u =>
        obtain ⟨u', r, _⟩ := (a.keep x u n e).dk
        rw [r] at q; cases q

theorem sqT_mono {K : PySem.W.Frag} {a : Addr} (x : Ext M ι H ι' H') (s : SqT K H a vs) : SqT K H' a vs := by
  have go : ∀ u, dkOf u = none → H a = some u → (∀ w : Own H a, H a ≠ some u) → H' a = some u := fun u n e w =>
    (x.keep a u (fun z => w (x.own a (.inl z)) e) e).nd n
  rcases s with (s | ⟨o, s⟩) | s
  · exact .inl (.inl (go _ rfl s fun w => w.noTup))
  · exact .inl (.inr ⟨o, go _ rfl s fun w => w.noFrz rfl⟩)
  · exact .inr s
theorem Ext.out {a : Addr} {u : HO} (x : Ext M ι H ι' H') (n : a ∉ ι) (e : H a = some u) : a ∉ ι' := fun z => by
  rw [x.new a z n] at e; cases e
mutual
theorem Rp.mono (x : Ext M ι H ι' H') : ∀ {d : D} {v : V}, Rp M ι H d v → Rp M ι' H' d v
  | _, _, .non => .non
  | _, _, .bl b => .bl b
  | _, _, .int b => .int b
  | _, _, .str b => .str b
  | _, _, .tup s l => .tup (sqT_mono x s) (RpL.mono x l)
  | _, _, .fls n m e l => .fls (x.out n e) m ((x.keep _ _ n e).nd rfl) (RpL.mono x l)
  | _, _, .scr e l => .scr (by
    rcases e with ⟨o, e⟩ | e
    · exact .inl ⟨o, (x.keep _ _ (fun z => (x.own _ (.inl z)).noFrz rfl e) e).nd rfl⟩
    · exact .inr e) (RpL.mono x l)
  | _, _, .obj k n m e z l => .obj k (x.out n e) m ((x.keep _ _ n e).nd rfl) z (RpL.mono x l)
  | _, _, .fdk n m e q k l => by
    obtain ⟨u', e', z⟩ := (x.keep _ _ n e).dk
    exact .fdk (x.out n e) m e' (z.trans q) k (RpL.mono x l)
  | _, _, .fdt n m e q k l => by
    obtain ⟨u', e', z⟩ := (x.keep _ _ n e).dk
    exact .fdt (x.out n e) m e' (z.trans q) k (RpL.mono x l)
  | _, _, .ref e => .ref (by
    obtain ⟨t, rfl⟩ := x.pre
    rw [List.getElem?_append_left (List.getElem?_eq_some_iff.mp e).1]; exact e)
theorem RpL.mono (x : Ext M ι H ι' H') : ∀ {ds : List D} {vs : List V}, RpL M ι H ds vs → RpL M ι' H' ds vs
  | _, _, .nil => .nil
  | _, _, .cons r t => .cons (Rp.mono x r) (RpL.mono x t)
end

/-- what was related is still so, what is locked stays -/
structure Pres (A : Rl) (ι : List Addr) (H : Hp) (B : Rl) (ι' : List Addr) (H' : Hp) : Prop where
  rel : ∀ d v, Rp A ι H d v → Rp B ι' H' d v
  frz : ∀ a u, isFrz u → H a = some u → H' a = some u
instance {A B : Rl} : CoeFun (Pres A ι H B ι' H') (fun _ => ∀ d v, Rp A ι H d v → Rp B ι' H' d v) := ⟨Pres.rel⟩
theorem Pres.all {A B : Rl} (p : Pres A ι H B ι' H') : ∀ {ds : List D} {vs : List V}, RpL A ι H ds vs → RpL B ι' H' ds vs
  | _, _, .nil => .nil
  | _, _, .cons r t => .cons (p _ _ r) (Pres.all p t)
theorem Ext.pres (x : Ext M ι H ι' H') : Pres M ι H M ι' H' := ⟨fun _ _ r => r.mono x, fun a u n e => (x.keepF a u (.inr n) e).fz n⟩
/-- an object of the machine's heap as one of the layer's -/
def ObR (M : Rl) (ι : List Addr) (H : Hp) (a : Addr) : O → Prop
  | .lst ds => ∃ vs, H a = some (.lst vs) ∧ RpL M ι H ds vs
  | .ins c ds => ∃ dx vs, M.ok c ∧ H a = some (.ins (M.cl c) dx ((M.fl c).zip vs)) ∧ ds.length ≤ (M.fl c).length ∧ RpL M ι H ds vs
  | .dct tk lk ks ds => ∃ u, H a = some u ∧ (lk = false → ∀ o w, u ≠ .frz o w) ∧ (lk = true → ∃ o w, u = .frz o w) ∧
      if tk = true then ∃ kvs, dkOf u = some (.inr kvs) ∧ ks = kvs.map (fun p => tkeyD p.1) ∧ RpL M ι H ds (kvs.map (·.2)) else ∃ kvs, dkOf u = some (.inl kvs) ∧ ks = kvs.map (fun p => keyD p.1) ∧ RpL M ι H ds (kvs.map (·.2))
structure Sim (M : Rl) (ι : List Addr) (h : Hh) (H : Hp) : Prop where
  nd : ι.Nodup
  xo : ∀ a ∈ M.ex, Own H a ∧ a ∉ ι
  len : ι.length = h.length
  ob : ∀ (i : Nat) (a : Addr) (o : O), ι[i]? = some a → h[i]? = some o → ObR M ι H a o
theorem ObR.own {a : Addr} {o : O} (r : ObR M ι H a o) : Own H a := by
  cases o with
  | lst ds => obtain ⟨vs, e, _⟩ := r; exact .inl ⟨vs, e⟩
  | ins c ds => obtain ⟨dx, vs, _, e, _⟩ := r; exact .inr (.inl ⟨_, _, _, e⟩)
  | dct tk lk ks ds =>
    obtain ⟨u, e, _, _, q⟩ := r
    cases tk with
    | true => obtain ⟨kvs, q, _⟩ := q; exact .inr (.inr ⟨u, _, e, q⟩)
    | false => obtain ⟨kvs, q, _⟩ := q; exact .inr (.inr ⟨u, _, e, q⟩)
theorem Sim.own (s : Sim M ι h H) : ∀ a, a ∈ ι ∨ a ∈ M.ex → Own H a := fun a ha => by
  rcases ha with ha | ha
  · obtain ⟨i, hi, e⟩ := List.getElem_of_mem ha
    have hi' : i < h.length := by rw [← s.len]; exact hi
    exact (s.ob i a h[i] (by rw [List.getElem?_eq_getElem hi, e]) (List.getElem?_eq_getElem hi')).own
  · exact (s.xo a ha).1
theorem Sim.refl (s : Sim M ι h H) : Ext M ι H ι H := .refl s.own
theorem Sim.at (s : Sim M ι h H) {r : Nat} {o : O} (e : h[r]? = some o) : ∃ a, ι[r]? = some a ∧ ObR M ι H a o := by
  have hr : r < ι.length := by rw [s.len]; exact (List.getElem?_eq_some_iff.mp e).1
  exact ⟨ι[r], List.getElem?_eq_getElem hr, s.ob r _ o (List.getElem?_eq_getElem hr) e⟩
theorem ObR.mono {a : Addr} {o : O} (x : Ext M ι H ι' H') (e : H' a = H a) (r : ObR M ι H a o) : ObR M ι' H' a o := by
  cases o with
  | lst ds => obtain ⟨vs, q, l⟩ := r; exact ⟨vs, e.trans q, l.mono x⟩
  | ins c ds => obtain ⟨dx, vs, k, q, z, l⟩ := r; exact ⟨dx, vs, k, e.trans q, z, l.mono x⟩
  | dct tk lk ks ds =>
    obtain ⟨u, q, l1, l2, z⟩ := r
    refine ⟨u, e.trans q, l1, l2, ?_⟩
    cases tk with
    | true => obtain ⟨kvs, q, k, l⟩ := z; exact ⟨kvs, q, k, l.mono x⟩
    | false => obtain ⟨kvs, q, k, l⟩ := z; exact ⟨kvs, q, k, l.mono x⟩
theorem Own.ne {p a : Addr} (w : Own H a) (n : H p = none) : a ≠ p := fun z => by
  rcases w with ⟨_, e⟩ | ⟨_, _, _, e⟩ | ⟨_, _, e, _⟩ <;> (rw [z, n] at e; cases e)
theorem Own.upd {p a : Addr} {o : HO} (w : Own H a) (n : a ≠ p) : Own (upd H p o) a := by
  rcases w with ⟨_, e⟩ | ⟨_, _, _, e⟩ | ⟨_, _, e, z⟩
  · exact .inl ⟨_, (upd_ne n).trans e⟩
  · exact .inr (.inl ⟨_, _, _, (upd_ne n).trans e⟩)
  · exact .inr (.inr ⟨_, _, (upd_ne n).trans e, z⟩)
/-- a hidden new object -/
theorem Ext.hid {p : Addr} {o : HO} (s : Sim M ι h H) (n : H p = none) : Ext M ι H ι (upd H p o) where
  own := s.own
  pre := List.prefix_refl _
  keepF := fun a u _ e => .inl (by rw [upd_ne (fun z => by rw [z, n] at e; cases e)]; exact e)
  new := fun _ h k => absurd h k
theorem Sim.hid {p : Addr} {o : HO} (s : Sim M ι h H) (n : H p = none) : Sim M ι h (upd H p o) where
  nd := s.nd
  xo := fun a ha => ⟨(s.xo a ha).1.upd ((s.xo a ha).1.ne n), (s.xo a ha).2⟩
  len := s.len
  ob := fun i a ob e1 e2 => (s.ob i a ob e1 e2).mono (.hid s n) (upd_ne ((s.ob i a ob e1 e2).own.ne n))
theorem nf_lst {p : Addr} {vs : List V} (e : H p = some (.lst vs)) : ∀ u, H p = some u → ¬ isFrz u := fun u q z => by rw [e] at q; cases q; exact z
theorem nf_ins {p C : Addr} {dx : Addr} {fs : List (Str × V)} (e : H p = some (.ins C dx fs)) : ∀ u, H p = some u → ¬ isFrz u := fun u q z => by rw [e] at q; cases q; exact z
theorem nf_dk {p : Addr} {k : List (Key × V)} (e : H p = some (.dK k)) : ∀ u, H p = some u → ¬ isFrz u := fun u q z => by rw [e] at q; cases q; exact z
/-- a new object of the machine's -/
theorem Ext.push {p : Addr} {o : HO} (s : Sim M ι h H) (n : H p = none) : Ext M ι H (ι ++ [p]) (upd H p o) where
  own := s.own
  pre := List.prefix_append _ _
  keepF := fun a u _ e => .inl (by rw [upd_ne (fun z => by rw [z, n] at e; cases e)]; exact e)
  new := fun a ha k => by
    rcases List.mem_append.mp ha with z | z
    · exact absurd z k
    · have : a = p := by simpa using z
      rw [this]; exact n
theorem nodup_push {p : Addr} (nd : ι.Nodup) (h : p ∉ ι) : (ι ++ [p]).Nodup := by
  rw [List.nodup_append]
  exact ⟨nd, by simp, fun a ha b hb z => h (by have : b = p := by simpa using hb
                                               rw [← this, ← z]; exact ha)⟩
theorem Sim.fresh {p : Addr} (s : Sim M ι h H) (n : H p = none) : p ∉ ι := fun z => (s.own p (.inl z)).ne n rfl
theorem Sim.freshX {p : Addr} (s : Sim M ι h H) (n : H p = none) : p ∉ M.ex := fun z => (s.own p (.inr z)).ne n rfl
theorem Sim.push {p : Addr} {o : HO} {ob : O} (s : Sim M ι h H) (n : H p = none) (r : ObR M (ι ++ [p]) (upd H p o) p ob) : Sim M (ι ++ [p]) (h ++ [ob]) (upd H p o) where
  nd := nodup_push s.nd (s.fresh n)
  xo := fun a ha => ⟨(s.xo a ha).1.upd ((s.xo a ha).1.ne n), fun z => by
    rcases List.mem_append.mp z with z | z
    · exact (s.xo a ha).2 z
    · exact (s.xo a ha).1.ne n (by simpa using z)⟩
  len := by simp [s.len]
  ob := fun i a ob' e1 e2 => by
    by_cases hi : i < ι.length
    · rw [List.getElem?_append_left hi] at e1
      rw [List.getElem?_append_left (by rw [← s.len]; exact hi)] at e2
      exact (s.ob i a ob' e1 e2).mono (.push s n) (upd_ne ((s.ob i a ob' e1 e2).own.ne n))
    · have hl : i < (ι ++ [p]).length := (List.getElem?_eq_some_iff.mp e1).1
      have : i = ι.length := by simp at hl; omega
      subst this
      rw [List.getElem?_append_right (Nat.le_refl _)] at e1
      rw [List.getElem?_append_right (by rw [s.len]; exact Nat.le_refl _)] at e2
      simp [s.len] at e1 e2
      subst e1 e2
      exact r
/-- an object of the machine's is changed -/
theorem Ext.write {r : Nat} {p : Addr} {o : HO} (s : Sim M ι h H) (e : ι[r]? = some p) (nf : ∀ u, H p = some u → ¬ isFrz u) : Ext M ι H ι (upd H p o) where
  own := s.own
  pre := List.prefix_refl _
  keepF := fun a u k q => .inl (by
    rw [upd_ne (fun z => ?_)]
    · exact q
    · rcases k with k | k
      · exact k (by rw [z]; exact List.mem_of_getElem? e)
      · exact nf u (by rw [← z]; exact q) k)
  new := fun _ h k => absurd h k
theorem Sim.write {r : Nat} {p : Addr} {o : HO} {ob : O} (s : Sim M ι h H) (e : ι[r]? = some p) (nf : ∀ u, H p = some u → ¬ isFrz u) (q : ObR M ι (upd H p o) p ob) : Sim M ι (h.set r ob) (upd H p o) where
  nd := s.nd
  xo := fun a ha => ⟨(s.xo a ha).1.upd (fun z => (s.xo a ha).2 (by rw [z]; exact List.mem_of_getElem? e)), (s.xo a ha).2⟩
  len := by rw [List.length_set]; exact s.len
  ob := fun i a ob' e1 e2 => by
    by_cases hi : r = i
    · subst hi
      rw [e] at e1; cases e1
      have hr : r < h.length := by rw [← s.len]; exact (List.getElem?_eq_some_iff.mp e).1
      rw [List.getElem?_set_self hr] at e2; cases e2
      exact q
    · rw [List.getElem?_set_ne hi] at e2
      have ne : a ≠ p := fun z => hi (by
        subst z
        obtain ⟨h1, q1⟩ := List.getElem?_eq_some_iff.mp e
        obtain ⟨h2, q2⟩ := List.getElem?_eq_some_iff.mp e1
        exact (List.getElem_inj s.nd).mp (q1.trans q2.symm))
      exact (s.ob i a ob' e1 e2).mono (.write s e nf) (upd_ne ne)

/-- the names -/
def EnR (M : Rl) (ι : List Addr) (H : Hp) (m : En) (σ : St) : Prop :=
  m.length = σ.length ∧ ∀ (i : Nat) (d : D), m[i]? = some (some d) → ∃ v, σ[i]? = some (some v) ∧ Rp M ι H d v
theorem EnR.mono (x : Ext M ι H ι' H') (e : EnR M ι H m σ) : EnR M ι' H' m σ :=
  ⟨e.1, fun i d h => let ⟨v, a, b⟩ := e.2 i d h; ⟨v, a, b.mono x⟩⟩
theorem EnR.pres {A B : Rl} (p : Pres A ι H B ι' H') (e : EnR A ι H m σ) : EnR B ι' H' m σ :=
  ⟨e.1, fun i d h => let ⟨v, a, b⟩ := e.2 i d h; ⟨v, a, p _ _ b⟩⟩
theorem EnR.put {i : Nat} (e : EnR M ι H m σ) (r : Rp M ι H d v) : EnR M ι H (put m i d) (σ.set i (some v)) := by
  refine ⟨by simp [Mx.put, e.1], fun j d' h => ?_⟩
  unfold Mx.put at h
  by_cases hj : i = j
  · subst hj
    by_cases hi : i < m.length
    · rw [List.getElem?_set_self hi] at h
      cases h
      exact ⟨v, List.getElem?_set_self (by rw [← e.1]; exact hi), r⟩
    · rw [List.getElem?_eq_none (by simpa using hi)] at h; cases h
  · rw [List.getElem?_set_ne hj] at h
    rw [List.getElem?_set_ne hj]
    exact e.2 j d' h
theorem EnR.wipe (e : EnR M ι H m σ) : ∀ ws : List Nat, EnR M ι H (Mx.wipe m ws) (L2.wipe σ ws)
  | [] => e
  | w :: ws => by
    have q := EnR.wipe e ws
    refine ⟨by simp [Mx.wipe, L2.wipe, q.1], fun j d' h => ?_⟩
    unfold Mx.wipe at h
    unfold L2.wipe
    by_cases hj : w = j
    · subst hj
      by_cases hi : w < (Mx.wipe m ws).length
      · rw [List.getElem?_set_self hi] at h; cases h
      · rw [List.getElem?_eq_none (by simpa using hi)] at h; cases h
    · rw [List.getElem?_set_ne hj] at h
      rw [List.getElem?_set_ne hj]
      exact q.2 j d' h
theorem look_some {i : Nat} (h : look m i = some d) : m[i]? = some (some d) := by
  unfold look at h
  cases e : m[i]? with
  | none => rw [e] at h; cases h
  | some o => rw [e] at h; simp at h; rw [h]

/-! ### results -/
/-- what is wanted of a result: P of a value, W of an exception -/
def Po {α : Type} (M : Rl) (W : XK) (ι : List Addr) (H : Hp) (r : R α) (P : α → Hh → List Addr → Hp → Prop) : Prop :=
  match r with
  | .ok a h => ∀ ι' H', Ext M ι H ι' H' → Sim M ι' h H' → P a h ι' H'
  | .exc c d h => ∀ ι' H' dx f v, Ext M ι H ι' H' → Sim M ι' h H' → M.xk c → M.fl c = [f] → H' dx = some (.xd [(f, v)]) → dx ∉ ι' → Rp M ι' H' d v → W (.ref (M.cl c)) (some dx) H'
  | .bad => False
variable {α β : Type} {W : XK} {P P' : α → Hh → List Addr → Hp → Prop} {P2 : β → Hh → List Addr → Hp → Prop}
theorem Po.step {r : R α} {k : α → Hh → R β} (po : Po M W ι H (r.bind k) P2)
    (go : ∀ d h1 ι1 H1, Ext M ι H ι1 H1 → Sim M ι1 h1 H1 → Po M W ι1 H1 (k d h1) P2 → P d h1 ι1 H1) : Po M W ι H r P := by
  cases r with
  | bad => exact po
  | exc c d h => exact po
  | ok a h =>
    intro ι1 H1 e1 s1
    refine go a h ι1 H1 e1 s1 ?_
    have po : Po M W ι H (k a h) P2 := po
    cases q : k a h with
    | bad => rw [q] at po; exact po
    | ok b h2 => rw [q] at po; exact fun ι2 H2 e2 s2 => po ι2 H2 (e1.trans e2) s2
    | exc c d h2 => rw [q] at po; exact fun ι2 H2 dx f v e2 s2 => po ι2 H2 dx f v (e1.trans e2) s2
theorem Po.opt {o : Option α} {k : α → Hh → R β} (po : Po M W ι H ((rOpt o h).bind k) P2) : ∃ a, o = some a ∧ Po M W ι H (k a h) P2 := by
  cases o with
  | none => exact False.elim po
  | some a => exact ⟨a, rfl, po⟩
theorem Po.if_ {c : Prop} {r : R α} (po : Po M W ι H (rIf c r) P) : c ∧ Po M W ι H r P := by
  unfold rIf at po
  split at po
  · exact ⟨by assumption, po⟩
  · exact False.elim po
theorem Po.ok {a : α} (po : Po M W ι H (.ok a h) P) (x : Ext M ι H ι' H') (s : Sim M ι' h H') : P a h ι' H' := po ι' H' x s
theorem Po.imp {r : R α} (po : Po M W ι H r P) (go : ∀ d h1 ι1 H1, Ext M ι H ι1 H1 → Sim M ι1 h1 H1 → P d h1 ι1 H1 → P' d h1 ι1 H1) : Po M W ι H r P' := by
  cases r with
  | bad => exact po
  | exc c d h => exact po
  | ok a h => exact fun ι1 H1 e1 s1 => go a h ι1 H1 e1 s1 (po ι1 H1 e1 s1)
/-- from a later state -/
theorem Po.later {r : R α} (x : Ext M ι H ι' H') (po : Po M W ι H r P) : Po M W ι' H' r P := by
  cases r with
  | bad => exact po
  | exc c d h => exact fun ι2 H2 dx f v e2 s2 => po ι2 H2 dx f v (x.trans e2) s2
  | ok a h => exact fun ι1 H1 e1 s1 => po ι1 H1 (x.trans e1) s1
end
end Mx
set_option Elab.async false
set_option linter.all false
set_option maxRecDepth 100000
set_option maxHeartbeats 1000000
namespace Mx
open PySem L2

/-! ### what leaves a call -/
section
variable {M : Rl} {ι ι' ι'' : List Addr} {H H' H'' : Hp} {d d' : D} {v : V} {ds es : List D} {vs ws : List V} {h h' : Hh}
mutual
theorem Rp.bel : ∀ {d : D} {v : V}, Rp M ι H d v → Mx.below ι.length d = true
  | _, _, .non => by simp [Mx.below]
  | _, _, .bl b => by simp [Mx.below]
  | _, _, .int b => by simp [Mx.below]
  | _, _, .str b => by simp [Mx.below]
  | _, _, .tup s l => by
    have q := RpL.bel l
    simp only [Mx.below, List.all_eq_true] at q ⊢
    exact fun x _ => q x.1 x.2
  | _, _, .fls n _ e l => by
    have q := RpL.bel l
    simp only [Mx.below, List.all_eq_true] at q ⊢
    exact fun x _ => q x.1 x.2
  | _, _, .scr e l => by
    have q := RpL.bel l
    simp only [Mx.below, List.all_eq_true] at q ⊢
    exact fun x _ => q x.1 x.2
  | _, _, .obj k n _ e z l => by
    have q := RpL.bel l
    simp only [Mx.below, List.all_eq_true] at q ⊢
    exact fun x _ => q x.1 x.2
  | _, _, .fdk n _ e z k l => by
    have q := RpL.bel l
    simp only [Mx.below, List.all_eq_true] at q ⊢
    exact fun x _ => q x.1 x.2
  | _, _, .fdt n _ e z k l => by
    have q := RpL.bel l
    simp only [Mx.below, List.all_eq_true] at q ⊢
    exact fun x _ => q x.1 x.2
  | _, _, .ref e => by
    simp only [Mx.below, decide_eq_true_eq]
    exact (List.getElem?_eq_some_iff.mp e).1
theorem RpL.bel : ∀ {ds : List D} {vs : List V}, RpL M ι H ds vs → ds.all (Mx.below ι.length) = true
  | _, _, .nil => rfl
  | _, _, .cons r t => by
    rw [List.all_cons, Rp.bel r, RpL.bel t]; rfl
end
theorem all_attach {n : Nat} {xs : List D} (q : (xs.attach.all fun ⟨x, _⟩ => Mx.below n x) = true) : xs.all (Mx.below n) = true := by
  simp only [List.all_eq_true] at q ⊢
  exact fun x hx => q ⟨x, hx⟩ (List.mem_attach _ _)
theorem out_take {a : Addr} {n : Nat} (q : a ∉ ι) : a ∉ ι.take n := fun z => q (List.mem_of_mem_take z)
mutual
theorem Rp.cut {n : Nat} : ∀ {d : D} {v : V}, Rp M ι H d v → Mx.below n d = true → Rp M (ι.take n) H d v
  | _, _, .non, _ => .non
  | _, _, .bl b, _ => .bl b
  | _, _, .int b, _ => .int b
  | _, _, .str b, _ => .str b
  | _, _, .tup s l, q => .tup s (RpL.cut l (all_attach (by simpa only [Mx.below] using q)))
  | _, _, .fls n m e l, q => .fls (out_take n) m e (RpL.cut l (all_attach (by simpa only [Mx.below] using q)))
  | _, _, .scr e l, q => .scr e (RpL.cut l (all_attach (by simpa only [Mx.below] using q)))
  | _, _, .obj k n m e z l, q => .obj k (out_take n) m e z (RpL.cut l (all_attach (by simpa only [Mx.below] using q)))
  | _, _, .fdk n m e z k l, q => .fdk (out_take n) m e z k (RpL.cut l (all_attach (by simpa only [Mx.below] using q)))
  | _, _, .fdt n m e z k l, q => .fdt (out_take n) m e z k (RpL.cut l (all_attach (by simpa only [Mx.below] using q)))
  | _, _, .ref e, q => .ref (by
    simp only [Mx.below, decide_eq_true_eq] at q
    rw [List.getElem?_take_of_lt q]; exact e)
theorem RpL.cut {n : Nat} : ∀ {ds : List D} {vs : List V}, RpL M ι H ds vs → ds.all (Mx.below n) = true → RpL M (ι.take n) H ds vs
  | _, _, .nil, _ => .nil
  | _, _, .cons r t, q => by
    rw [List.all_cons, Bool.and_eq_true] at q
    exact .cons (Rp.cut r q.1) (RpL.cut t q.2)
end
theorem nodup_take {n i : Nat} {a : Addr} (nd : ι.Nodup) (e : ι[i]? = some a) (hn : n ≤ i) : a ∉ ι.take n := fun z => by
  obtain ⟨j, hj, e2⟩ := List.getElem_of_mem z
  have hj2 : j < n := by rw [List.length_take] at hj; omega
  have hj3 : j < ι.length := by rw [List.length_take] at hj; omega
  rw [List.getElem_take] at e2
  obtain ⟨hi, e1⟩ := List.getElem?_eq_some_iff.mp e
  have := (List.getElem_inj (h₀ := hj3) (h₁ := hi) nd).mp (e2.trans e1.symm)
  omega
theorem frzL {k n : Nat} (go : ∀ d v d', Rp M ι H d v → frz k h n d = some d' → Rp M (ι.take n) H d' v) :
    ∀ {ds : List D} {vs : List V} {ds' : List D}, RpL M ι H ds vs → ds.mapM (frz k h n) = some ds' → RpL M (ι.take n) H ds' vs
  | [], _, ds', .nil, e => by simp at e; subst e; exact .nil
  | d :: ds, _, ds', .cons r t, e => by
    rw [List.mapM_cons] at e
    cases e1 : frz k h n d with
    | none => rw [e1] at e; simp at e
    | some d1 =>
      cases e2 : ds.mapM (frz k h n) with
      | none => rw [e1, e2] at e; simp at e
      | some r1 =>
        rw [e1, e2] at e
        simp at e
        subst e
        exact .cons (go _ _ _ r e1) (frzL go t e2)
theorem mapM_length {k n : Nat} : ∀ {ds ds' : List D}, ds.mapM (frz k h n) = some ds' → ds'.length = ds.length
  | [], ds', e => by simp at e; subst e; rfl
  | d :: ds, ds', e => by
    rw [List.mapM_cons] at e
    cases e1 : frz k h n d with
    | none => rw [e1] at e; simp at e
    | some d1 =>
      cases e2 : ds.mapM (frz k h n) with
      | none => rw [e1, e2] at e; simp at e
      | some r1 =>
        rw [e1, e2] at e
        simp at e
        subst e
        simp [mapM_length e2]
theorem frz_ok (s : Sim M ι h H) (n : Nat) : ∀ (k : Nat) (d : D) (v : V) (d' : D), Rp M ι H d v → frz k h n d = some d' → Rp M (ι.take n) H d' v := by
  intro k
  induction k with
  | zero => intro d v d' r e; simp [frz] at e
  | succ k ih =>
    intro d v d' r e
    have ihL := @frzL M ι H h k n ih
    cases r with
    | non => simp [frz] at e; subst e; exact .non
    | bl b => simp [frz] at e; subst e; exact .bl b
    | int b => simp [frz] at e; subst e; exact .int b
    | str b => simp [frz] at e; subst e; exact .str b
    | tup q l =>
      simp only [frz, Option.map_eq_some_iff] at e
      obtain ⟨xs, e1, rfl⟩ := e
      exact .tup q (ihL l e1)
    | fls nn mm q l =>
      simp only [frz, Option.map_eq_some_iff] at e
      obtain ⟨xs, e1, rfl⟩ := e
      exact .fls (out_take nn) mm q (ihL l e1)
    | fdk nn mm q z k l =>
      simp only [frz, Option.map_eq_some_iff] at e
      obtain ⟨xs, e1, rfl⟩ := e
      exact .fdk (out_take nn) mm q z k (ihL l e1)
    | fdt nn mm q z k l =>
      simp only [frz, Option.map_eq_some_iff] at e
      obtain ⟨xs, e1, rfl⟩ := e
      exact .fdt (out_take nn) mm q z k (ihL l e1)
    | scr q l =>
      simp only [frz, Option.map_eq_some_iff] at e
      obtain ⟨xs, e1, rfl⟩ := e
      exact .scr q (ihL l e1)
    | obj kk nn mm q z l =>
      simp only [frz, Option.map_eq_some_iff] at e
      obtain ⟨xs, e1, rfl⟩ := e
      exact .obj kk (out_take nn) mm q (by rw [mapM_length e1]; exact z) (ihL l e1)
    | @ref r a q =>
      simp only [frz] at e
      by_cases hr : r < n
      · rw [if_pos hr] at e; cases e
        exact .ref (by rw [List.getElem?_take_of_lt hr]; exact q)
      · rw [if_neg hr] at e
        cases e1 : h[r]? with
        | none => rw [e1] at e; cases e
        | some o =>
          have ob := s.ob r a o q e1
          have na := nodup_take s.nd q (Nat.le_of_not_lt hr)
          have nm : a ∉ M.ex := fun z => (s.xo a z).2 (List.mem_of_getElem? q)
          cases o with
          | lst xs =>
            rw [e1] at e
            simp only [Option.map_eq_some_iff] at e
            obtain ⟨ys, e2, rfl⟩ := e
            obtain ⟨vs, p, l⟩ := ob
            exact .fls na nm p (ihL l e2)
          | ins c xs =>
            rw [e1] at e
            simp only [Option.map_eq_some_iff] at e
            obtain ⟨ys, e2, rfl⟩ := e
            obtain ⟨dx, vs, kk, p, z, l⟩ := ob
            exact .obj kk na nm p (by rw [mapM_length e2]; exact z) (ihL l e2)
          | dct tk lk ks xs =>
            rw [e1] at e
            simp only [Option.map_eq_some_iff] at e
            obtain ⟨ys, e2, rfl⟩ := e
            obtain ⟨u, p, _, _, z⟩ := ob
            cases tk with
            | true => obtain ⟨kvs, z, k, l⟩ := z; exact .fdt na nm p z k (ihL l e2)
            | false => obtain ⟨kvs, z, k, l⟩ := z; exact .fdk na nm p z k (ihL l e2)
theorem ObR.cut {a : Addr} {o : O} {n : Nat} (r : ObR M ι H a o) (q : belowO n o = true) : ObR M (ι.take n) H a o := by
  cases o with
  | lst ds => obtain ⟨vs, e, l⟩ := r; exact ⟨vs, e, l.cut q⟩
  | ins c ds => obtain ⟨dx, vs, k, e, z, l⟩ := r; exact ⟨dx, vs, k, e, z, l.cut q⟩
  | dct tk lk ks ds =>
    obtain ⟨u, p, l1, l2, z⟩ := r
    refine ⟨u, p, l1, l2, ?_⟩
    cases tk with
    | true => obtain ⟨kvs, z, k, l⟩ := z; exact ⟨kvs, z, k, l.cut q⟩
    | false => obtain ⟨kvs, z, k, l⟩ := z; exact ⟨kvs, z, k, l.cut q⟩
theorem ObR.belowO {a : Addr} {o : O} (r : ObR M ι H a o) : Mx.belowO ι.length o = true := by
  cases o with
  | lst ds => obtain ⟨vs, e, l⟩ := r; exact l.bel
  | ins c ds => obtain ⟨dx, vs, k, e, z, l⟩ := r; exact l.bel
  | dct tk lk ks ds =>
    obtain ⟨u, p, l1, l2, z⟩ := r
    cases tk with
    | true => obtain ⟨kvs, z, k, l⟩ := z; exact l.bel
    | false => obtain ⟨kvs, z, k, l⟩ := z; exact l.bel
/-- behind a call whose new objects are let go -/
theorem settled_ok (s : Sim M ι h H) (x : Ext M ι H ι' H') (s' : Sim M ι' h' H') (hl : h.length ≤ h'.length) (st : settled h h') : Ext M ι H ι H' ∧ Sim M ι (h'.take h.length) H' := by
  have e : ι'.take h.length = ι := by
    obtain ⟨t, rfl⟩ := x.pre
    rw [← s.len, List.take_left]
  refine ⟨⟨x.own, List.prefix_refl _, x.keepF, fun a ha n => absurd ha n⟩, s.nd, fun a ha => ⟨(s'.xo a ha).1, (s.xo a ha).2⟩, by rw [List.length_take, s.len]; omega, fun i a o e1 e2 => ?_⟩
  have hi : i < h.length := by rw [← s.len]; exact (List.getElem?_eq_some_iff.mp e1).1
  rw [List.getElem?_take_of_lt hi] at e2
  have e1' : ι'[i]? = some a := by
    obtain ⟨t, rfl⟩ := x.pre
    rw [List.getElem?_append_left (by rw [s.len]; exact hi)]; exact e1
  have ob := s'.ob i a o e1' e2
  rw [← e]
  refine ob.cut ?_
  rcases st i o hi e2 with q | q
  · have := (s.ob i a o e1 q).belowO
    rw [s.len] at this
    exact this
  · exact q
theorem settle_po {W : XK} {r : R D} {P : D → Hh → List Addr → Hp → Prop} (s : Sim M ι h H) (po : Po M W ι H (settle h r) P) :
    Po M W ι H r (fun d h' ι' H' => ∃ d' hh, Ext M ι H ι H' ∧ Sim M ι hh H' ∧ (∀ v, Rp M ι' H' d v → Rp M ι H' d' v) ∧ P d' hh ι H') := by
  cases r with
  | bad => exact po
  | ok d h' =>
    intro ι' H' x s'
    have e : ι'.take h.length = ι := by
      obtain ⟨t, rfl⟩ := x.pre
      rw [← s.len, List.take_left]
    simp only [settle] at po
    cases q : frz 8 h' h.length d with
    | none => rw [q] at po; exact False.elim po
    | some d' =>
      rw [q] at po
      obtain ⟨⟨c1, c2⟩, po⟩ := Po.if_ po
      obtain ⟨x2, s2⟩ := settled_ok s x s' c1 c2
      exact ⟨d', _, x2, s2, fun v r => by rw [← e]; exact frz_ok s' _ 8 d v d' r q, po ι H' x2 s2⟩
  | exc c d h' =>
    intro ι' H' dx f v x s' ek ef ed nd rp
    have e : ι'.take h.length = ι := by
      obtain ⟨t, rfl⟩ := x.pre
      rw [← s.len, List.take_left]
    simp only [settle] at po
    cases q : frz 8 h' h.length d with
    | none => rw [q] at po; exact False.elim po
    | some d' =>
      rw [q] at po
      obtain ⟨⟨c1, c2⟩, po⟩ := Po.if_ po
      obtain ⟨x2, s2⟩ := settled_ok s x s' c1 c2
      refine po ι H' dx f v x2 s2 ek ef ed ?_ (by rw [← e]; exact frz_ok s' _ 8 d v d' rp q)
      rw [← e]
      exact out_take nd
end

/-! ### defs -/
structure FnG (P : Program) (w : World) (K : PySem.W.Frag) (mg : Str → Option Value) (base : Heap) (k : Nat) (f : Addr) (fd : FuncData) (ps : List Str) (sp : Sp) : Prop where
  len : ∀ vs H Q E, sp vs H Q E → vs.length = ps.length
  run : ∀ (A : Around) (outer : List Env) (s : Shared) (H : Hp) (args : Args) (us : List Value) (vs : List V) (Q : VK) (E : XK), Room k A → A.guards = some [] → Env0 P w K mg base A outer s H → BindsTo s fd args (ps.zip us) → Vals vs us → sp vs H Q E →
    codeAny (model P w) A (.call (.ref f) args) (CR (L2.CX P w) outer P w H s Q E) s
theorem FnG.mono {P : Program} {w : World} {K : PySem.W.Frag} {mg : Str → Option Value} {base : Heap} {j k : Nat} {f : Addr} {fd : FuncData} {ps : List Str} {sp : Sp} (F : FnG P w K mg base j f fd ps sp) (h : j ≤ k) :
    FnG P w K mg base k f fd ps sp := ⟨F.len, fun A outer s H args us vs Q E hr => F.run A outer s H args us vs Q E (hr.mono h)⟩

/-- an exception goes on -/
abbrev Tk (X : Cx) (W : XK) : Prop := Takes X (fun c d _ H => W c d H)
theorem Tk.passes {X : Cx} {W : XK} (tk : Tk X W) : Passes (L2.CX X.prog X.w) X W := passes_call tk fun _ _ _ _ h => h

/-- how a call's values, given by place and by name, come to the parameters -/
structure Bd (K : PySem.W.Frag) (fd : FuncData) (ps : List Str) (n : Nat) (ks : List Str) (pm : List Nat) : Prop where
  len : pm.length = ps.length
  to : ∀ (s : Shared) (us ws zs : List Value), K.In s.heap → us.length = n → ws.length = ks.length → pm.mapM (fun i => (us ++ ws)[i]?) = some zs → BindsTo s fd ⟨us, ks.zip ws⟩ (ps.zip zs)
theorem vals_perm {vs : List V} {us : List Value} (r : Vals vs us) : ∀ {pm : List Nat} {xs : List V}, pm.mapM (fun i => vs[i]?) = some xs → ∃ zs, pm.mapM (fun i => us[i]?) = some zs ∧ Vals xs zs
  | [], xs, e => by simp at e; subst e; exact ⟨[], by simp, .nil⟩
  | i :: pm, xs, e => by
    rw [List.mapM_cons] at e
    cases e1 : vs[i]? with
    | none => rw [e1] at e; simp at e
    | some x =>
      cases e2 : pm.mapM (fun i => vs[i]?) with
      | none => rw [e1, e2] at e; simp at e
      | some r1 =>
        rw [e1, e2] at e
        simp at e
        subst e
        obtain ⟨u, hu, ru⟩ := r.get e1
        obtain ⟨zs, hz, rz⟩ := vals_perm r e2
        exact ⟨u :: zs, by rw [List.mapM_cons, hu, hz]; rfl, .cons ru rz⟩
theorem rpl_perm {M : Rl} {ι : List Addr} {H : Hp} {ds : List D} {vs : List V} (r : RpL M ι H ds vs) : ∀ {pm : List Nat} {xs : List D}, perm pm ds = some xs → ∃ zs, pm.mapM (fun i => vs[i]?) = some zs ∧ RpL M ι H xs zs
  | [], xs, e => by simp [perm] at e; subst e; exact ⟨[], by simp, .nil⟩
  | i :: pm, xs, e => by
    unfold perm at e
    rw [List.mapM_cons] at e
    cases e1 : ds[i]? with
    | none => rw [e1] at e; simp at e
    | some x =>
      cases e2 : pm.mapM (fun i => ds[i]?) with
      | none => rw [e1, e2] at e; simp at e
      | some r1 =>
        rw [e1, e2] at e
        simp at e
        subst e
        obtain ⟨u, hu, ru⟩ := r.get e1
        obtain ⟨zs, hz, rz⟩ := rpl_perm r (pm := pm) e2
        exact ⟨u :: zs, by rw [List.mapM_cons, hu, hz]; rfl, .cons ru rz⟩
theorem mapM_len {α β : Type} {f : α → Option β} : ∀ {l : List α} {r : List β}, l.mapM f = some r → r.length = l.length
  | [], r, e => by simp at e; subst e; rfl
  | a :: l, r, e => by
    rw [List.mapM_cons] at e
    cases e1 : f a with
    | none => rw [e1] at e; simp at e
    | some x =>
      cases e2 : l.mapM f with
      | none => rw [e1, e2] at e; simp at e
      | some r1 =>
        rw [e1, e2] at e
        simp at e
        subst e
        simp [mapM_len e2]

/-! ### the arguments of a call, plain ones and keywords -/
def plainE : Expr → Bool
  | .Starred _ _ => false
  | _ => true
theorem starEach_plain {e : Expr} {es : List Expr} {env : Env} (h : plainE e = true) : starEach (e :: es) env = (false, eval e env) :: starEach es env := by
  cases e <;> first | rfl | (simp [plainE] at h)
theorem star_any {env : Env} {pos : Pos} : ∀ {es : List Expr}, es.all plainE = true → (backTo pos (starEach es env)).any (·.1) = false
  | [], _ => rfl
  | e :: es, h => by
    rw [List.all_cons, Bool.and_eq_true] at h
    rw [starEach_plain h.1]
    show (false || (backTo pos (starEach es env)).any (·.1)) = false
    rw [star_any h.2]; rfl
def kwN : List Keyword → List Str
  | [] => []
  | ⟨some x, _, _⟩ :: r => x :: kwN r
  | ⟨none, _, _⟩ :: r => kwN r
def kwOk : List Keyword → Bool
  | [] => true
  | ⟨some _, _, _⟩ :: r => kwOk r
  | ⟨none, _, _⟩ :: _ => false
theorem kw_facts {env : Env} {pos : Pos} : ∀ {kws : List Keyword}, kwOk kws = true → (backToKw pos (keywordEach kws env)).all (·.1.isSome) = true ∧ (backToKw pos (keywordEach kws env)).any (·.1.isNone) = false ∧ (backToKw pos (keywordEach kws env)).filterMap (·.1) = kwN kws
  | [], _ => ⟨rfl, rfl, rfl⟩
  | ⟨some x, e, p⟩ :: r, h => by
    obtain ⟨a, b, c⟩ := kw_facts (env := env) (pos := pos) (kws := r) h
    refine ⟨?_, ?_, ?_⟩
    · show (true && (backToKw pos (keywordEach r env)).all (·.1.isSome)) = true
      rw [a]; rfl
    · show (false || (backToKw pos (keywordEach r env)).any (·.1.isNone)) = false
      rw [b]; rfl
    · show x :: (backToKw pos (keywordEach r env)).filterMap (·.1) = _
      rw [c]; rfl
  | ⟨none, e, p⟩ :: r, h => by simp [kwOk] at h
/-- a call of what stands in the written part, its arguments evaluated -/
theorem callCons {X : Cx} {f : Value} {first : List Value} {e : Expr} {es : List Expr} {kws : List Keyword} {pos : Pos} {t tk : TA} {pins : List (Addr × Obj)} {s : Shared} {σ : St} {H : Hp} {Q : VK} {R : List V → List V → Hp → Prop}
    (hk : PySem.W.keepIn X.K f = true) (pe : (e :: es).all plainE = true) (ko : kwOk kws = true) (ha : PA X (e :: es) t) (hkw : PK X kws tk) (I : Inv X pins σ H s) (h : t σ H fun vs H1 => tk σ H1 fun zs H2 => R vs zs H2)
    (go : ∀ us ws vs zs H2 s2, Inv X pins σ H2 s2 → Vals vs us → Vals zs ws → R vs zs H2 → wpAny (model X.prog X.w) X.A (call f (first ++ us) ((kwN kws).zip ws)) (EP X pins σ Q) X.xe s2) :
    wpAny (model X.prog X.w) X.A (callWith pos f first (backTo pos (starEach (e :: es) X.env)) (backToKw pos (keywordEach kws X.env))) (EP X pins σ Q) X.xe s := by
  obtain ⟨k1, k2, k3⟩ := kw_facts (env := X.env) (pos := pos) ko
  have sa := star_any (env := X.env) (pos := pos) pe
  rw [List.all_cons, Bool.and_eq_true] at pe
  have hs := starEach_plain (es := es) (env := X.env) pe.1
  refine PySem.W.callWith_KW (h₀ := X.base) I.ok.mod.kin hk k1 (thn (ha.run pos pins s σ H _ I h) fun us s1 ⟨vs, H1, I1, r, q⟩ => ?_) (by rw [sa, k2]; rfl) hs
  refine thn (hkw.run pos pins s1 σ H1 _ I1 q) fun ws s2 ⟨zs, H2, I2, rz, q2⟩ => ⟨I2.kIn, ?_⟩
  rw [k3]
  exact go us ws vs zs H2 s2 I2 r rz q2
theorem callNil {X : Cx} {f : Value} {first : List Value} {kws : List Keyword} {pos : Pos} {tk : TA} {pins : List (Addr × Obj)} {s : Shared} {σ : St} {H : Hp} {Q : VK} {R : List V → Hp → Prop}
    (hk : PySem.W.keepIn X.K f = true) (ko : kwOk kws = true) (hkw : PK X kws tk) (I : Inv X pins σ H s) (h : tk σ H fun zs H2 => R zs H2)
    (go : ∀ ws zs H2 s2, Inv X pins σ H2 s2 → Vals zs ws → R zs H2 → wpAny (model X.prog X.w) X.A (call f (first ++ []) ((kwN kws).zip ws)) (EP X pins σ Q) X.xe s2) :
    wpAny (model X.prog X.w) X.A (callWith pos f first (backTo pos (starEach [] X.env)) (backToKw pos (keywordEach kws X.env))) (EP X pins σ Q) X.xe s := by
  obtain ⟨k1, k2, k3⟩ := kw_facts (env := X.env) (pos := pos) ko
  refine PySem.W.callWith_KW0 (h₀ := X.base) I.ok.mod.kin hk k1 ?_ (by rw [k2]; rfl)
  refine thn (hkw.run pos pins s σ H _ I h) fun ws s2 ⟨zs, H2, I2, rz, q2⟩ => ⟨I2.kIn, ?_⟩
  rw [k3]
  exact go ws zs H2 s2 I2 rz q2

/-! ### the callee runs -/
section
variable {X : Cx} {k : Nat} {f C : Addr} {fd : FuncData} {ps ks : List Str} {sp : Sp} {W : XK} {n : Nat} {pm : List Nat}
theorem runG {pins : List (Addr × Obj)} {σ : St} {H : Hp} {s : Shared} {Q : VK} {us ws : List Value} {vs zs xs : List V} (F : FnG X.prog X.w X.K X.mg X.base k f fd ps sp) (hr : Room k X.A) (hgu : X.A.guards = some []) (hb : Bd X.K fd ps n ks pm) (tk : Tk X W)
    (I : Inv X pins σ H s) (r : Vals vs us) (rz : Vals zs ws) (hn : us.length = n) (hks : ws.length = ks.length) (hp : pm.mapM (fun i => (vs ++ zs)[i]?) = some xs) (h : sp xs H Q W) :
    wpAny (model X.prog X.w) X.A (call (.ref f) us (ks.zip ws)) (EP X pins σ Q) X.xe s := by
  obtain ⟨ys, hy, ry⟩ := vals_perm (r.append rz) hp
  refine wpAny_call (codeAny_mono (F.run X.A X.stack s H ⟨us, ks.zip ws⟩ ys xs Q W hr hgu I.env0 (hb.to s us ws ys I.kIn hn hks hy) ry h) fun r s' hq => ?_)
  cases r with
  | error e => exact tk.passes pins σ H s e s' I hq
  | ok fl =>
    cases fl with
    | ret u => exact I.after hq
    | next => exact False.elim hq
    | brk => exact False.elim hq
    | cont => exact False.elim hq
theorem runMkG {pins : List (Addr × Obj)} {σ : St} {H : Hp} {s : Shared} {Q : VK} {us ws : List Value} {vs zs : List V} (M : Mk X.K C f) (F : FnG X.prog X.w X.K X.mg X.base k f fd ps sp) (hr : Room (k + 1) X.A) (hgu : X.A.guards = some []) (hb : Bd X.K fd ps (n + 1) ks pm) (tk : Tk X W)
    (I : Inv X pins σ H s) (r : Vals vs us) (rz : Vals zs ws) (hn : us.length = n) (hks : ws.length = ks.length)
    (h : ∀ x dx, H x = none → H dx = none → dx ≠ x → ∃ xs, pm.mapM (fun i => ((V.ref x :: vs) ++ zs)[i]?) = some xs ∧ sp xs (upd (upd H dx (.own x)) x (.ins C dx [])) (fun v H2 => v = .non ∧ Q (.ref x) H2) W) :
    wpAny (model X.prog X.w) X.A (call (.ref C) us (ks.zip ws)) (EP X pins σ Q) X.xe s := by
  obtain ⟨xs, hp, hq⟩ := h (s.heap.objs.size + 1) s.heap.objs.size (I.hok.fresh (Nat.le_succ _)) (I.hok.fresh (Nat.le_refl _)) (Nat.ne_of_lt (Nat.lt_succ_self _))
  have I2 := Inv.made (C := C) I
  have r2 : Vals (V.ref (s.heap.objs.size + 1) :: vs ++ zs) (Value.ref (s.heap.objs.size + 1) :: us ++ ws) := .cons rfl (r.append rz)
  obtain ⟨ys, hy, ry⟩ := vals_perm r2 hp
  refine wpAny_call (make_map (f := f) I.kIn M.makes M.init (beq_iff_eq.mp M.fn) (codeAny_mono (F.run _ X.stack _ _ ⟨Value.ref (s.heap.objs.size + 1) :: us, ks.zip ws⟩ ys xs _ W (hr.make C us (ks.zip ws))
    (by first | exact hgu | (simp [Around.under, Code.guards, hgu]; done)) (I2.env0.make C us (ks.zip ws)) (hb.to _ (Value.ref (s.heap.objs.size + 1) :: us) ws ys I2.kIn (by simp [hn]) hks hy) ry hq) fun r s' hq' => ?_))
  cases r with
  | error e => exact tk.passes pins σ _ _ e s' I2 hq'
  | ok fl =>
    cases fl with
    | ret u =>
      obtain ⟨v, H', I3, rv, ev, q3⟩ := I2.after hq'
      subst ev
      exact ⟨rv, ⟨V.ref (s.heap.objs.size + 1), H', I3, rfl, q3⟩⟩
    | next => exact False.elim hq'
    | brk => exact False.elim hq'
    | cont => exact False.elim hq'
end

section
open PySem.Spec PyProof.Rows
/-- THE RULE: a def of the text, by its body -/
theorem fnG_of {P : Program} {w : World} {K : PySem.W.Frag} {mg : Str → Option Value} {base : Heap} {k : Nat} {f : Addr} {name qual : Str} {params : Arguments} {body : List Stmt} {scope : Scope} {dV kV doc pm cdv ct oc : Value} {an od : Option Addr}
    {osl : Array (Option Value)} {N ps : List Str} {sp : Sp} (lk : K.lookup f = some ⟨oc, od, .func (PySem.W.fnOf name qual params body scope dV kV doc pm an cdv ct), osl⟩) (hcd : PySem.W.codeIn K cdv qual = true) (S : FnScope N ps scope)
    (len : ∀ vs H Q E, sp vs H Q E → vs.length = ps.length)
    (hbody : ∀ (A : Around) (outer : List Env) (s : Shared) (H : Hp) (vs : List V) (Q : VK) (E : XK), Room k (A.deeper (envOfC qual scope s.heap.objs.size f cdv)) → A.guards = some [] → sp vs H Q E →
      ∃ t, PSs (cxOf (L2.CX P w) P w K mg base N qual scope f cdv A outer s H E) body t ∧ t { nx := fun _ H' => Q .non H', rt := Q } (start N vs) H) :
    FnG P w K mg base (k + 1) f (PySem.W.fnOf name qual params body scope dV kV doc pm an cdv ct) ps sp := by
  refine ⟨len, fun A outer s H args us vs Q E hr hgu e0 hb r hsp => ?_⟩
  have hl := len _ _ _ _ hsp
  have KX : K.In s.heap := e0.mod.kin.keeps fun b o e => (e0.bs b o e).1
  have lim : s.heap.NoLimit := e0.mod.nolimit.keeps fun b o e => (e0.bs b o e).1
  have hkind : ∀ y ∈ ps.zip us, scope.names.lookup y.1 = some .local ∨ (scope.names.lookup y.1 = some .cell ∧ ((cellsFrom (s.heap.objs.size + 1) scope.names []).lookup y.1).isSome = true) := fun ⟨n, v⟩ hy => by
    rcases S.par n (List.of_mem_zip hy).1 with q | q
    · exact .inl q
    · exact .inr ⟨q, PySem.W.cellsFrom_some _ _ _ (.inl q)⟩
  refine codeAny_call_function hr.depth (KX _ _ lk) rfl S.co S.gen rfl (PySem.W.codeRec_of KX hcd) (hb _ _ _ _ ?_)
  refine wpAny_newFunctionEnv_cells S.kind hkind fun env he s1 x => ?_
  subst he
  refine ⟨lim.keeps x.toInCall.keep, codeAny_func ?_⟩
  obtain ⟨t, ht, hq⟩ := hbody A outer s H vs Q E (hr.deeper _) hgu hsp
  have I : Inv (cxOf (L2.CX P w) P w K mg base N qual scope f cdv A outer s H E) [] (start N vs) H s1 := inv_start S hr.hd e0 hl r x
  refine wpAny_mono (ht.run [] s1 (start N vs) H _ I hq) (fun fl s' hs => ?_) fun e s' hs => hs
  have fin : ∀ {σ' : L2.St} {H' : Hp} {v : V} {u : Value}, Inv (cxOf (L2.CX P w) P w K mg base N qual scope f cdv A outer s H E) [] σ' H' s' → RelV v u → Q v H' → CE outer P w H s Q u s' :=
    fun {σ' H' v u} J rv q => ⟨v, H', J.os, J.bare, J.base, J.hok, rv, q⟩
  cases fl with
  | ret u =>
    obtain ⟨v, σ', H', J, rv, q⟩ := hs
    exact fin J rv q
  | next =>
    obtain ⟨σ', H', J, q⟩ := hs
    exact fin (v := V.non) (u := Value.none) J rfl q
  | brk =>
    obtain ⟨_, _, _, q⟩ := hs
    exact False.elim q
  | cont =>
    obtain ⟨_, _, _, q⟩ := hs
    exact False.elim q
end
end Mx
set_option Elab.async false
set_option linter.all false
set_option maxRecDepth 100000
set_option maxHeartbeats 2000000
namespace Mx
open PySem L2
theorem line_eq : sizeLine = LINE := by rw [sizeLine_eq]; rfl

/-- two values' operation -/
def rd2 (M : Rl) (F : Hh → D → D → R D) : R2 := fun x y H Q => ∃ (W : XK) (ι : List Addr) (h : Hh) (dx dy : D), Sim M ι h H ∧ Rp M ι H dx x ∧ Rp M ι H dy y ∧ Po M W ι H (F h dx dy) (fun d _ ι' H' => ∀ v, Rp M ι' H' d v → Q v H')
section
variable {X : Cx} {M : Rl} {ι : List Addr} {H : Hp} {h : Hh}
/-- a rule over another written part's name -/
theorem at_K {α : Prop → Prop} {f : PySem.W.Frag → Prop} (hK : X.K = M.K) (r : f X.K) : f M.K := hK ▸ r

/-! ### tuple * int, the rest -/
theorem tuple_mul_same (l : Addr) (items : Array Value) (n : Nat) (dd : Option Addr) (sl : Array (Option Value)) (x : Int) (u : Tok) (c0 : (decide (x < -(2 ^ 63)) || decide (x ≥ 2 ^ 63)) = false) (c1 : (items.isEmpty || x == 1) = true) :
    Meets (Builtin.«tuple.__mul__» ⟨[.ref l, .int x u], []⟩) (fun _ R s => s.heap.get? l = some { cls := .type "tuple", dict := dd, data := .seq items n, slots := sl } ∧ R (.ok (.ret (Value.ref l))) s) :=
  .of_wp fun prog w A R s h => by
    obtain ⟨hp, g, d, tk, os⟩ := s
    obtain ⟨hl, h⟩ := h
    have f1 := AutoSeq1.idx_int
    wp_walk using wpAny_loadPart' hl
    repeat (first
      | (refine wpAny_ite_false (decide_eq_false (by rw [c0]; exact Bool.false_ne_true)) ?_; wp_walk using wpAny_loadPart' hl)
      | (refine wpAny_ite_true (decide_eq_true (by rw [c1])) ?_; wp_walk using wpAny_loadPart' hl))
    exact ⟨_, rfl, h⟩
theorem tuple_mul_zero (l : Addr) (items : Array Value) (n : Nat) (dd : Option Addr) (sl : Array (Option Value)) (x : Int) (u : Tok) (c0 : (decide (x < -(2 ^ 63)) || decide (x ≥ 2 ^ 63)) = false) (c1 : (items.isEmpty || x == 1) = false) (c2 : (decide (x ≤ 0) || items.isEmpty) = true) :
    Meets (Builtin.«tuple.__mul__» ⟨[.ref l, .int x u], []⟩) (fun _ R s => s.heap.get? l = some { cls := .type "tuple", dict := dd, data := .seq items n, slots := sl } ∧
      R (.ok (.ret (Value.ref s.heap.objs.size))) { s with heap := s.heap.push { cls := Value.type "tuple", data := Data.seq #[] }, toks := s.toks }) :=
  .of_wp fun prog w A R s h => by
    obtain ⟨hp, g, d, tk, os⟩ := s
    obtain ⟨hl, h⟩ := h
    have f1 := AutoSeq1.idx_int
    wp_walk using wpAny_loadPart' hl
    repeat (first
      | (refine wpAny_ite_false (decide_eq_false (by rw [c0]; exact Bool.false_ne_true)) ?_; wp_walk using wpAny_loadPart' hl)
      | (refine wpAny_ite_false (decide_eq_false (by rw [c1]; exact Bool.false_ne_true)) ?_; wp_walk using wpAny_loadPart' hl)
      | (refine wpAny_ite_true (decide_eq_true (by rw [c2])) ?_; wp_walk using wpAny_loadPart' hl))
    exact ⟨_, rfl, h⟩
/-- t * k, k at most 1 or t empty -/
def rRepT2 (K : PySem.W.Frag) : R2 := fun x y H Q => ∃ l k xs, x = .ref l ∧ y = .int k ∧ SqT K H l xs ∧ -(2 ^ 63) ≤ k ∧ k ≤ 1000 ∧ (k ≤ 1 ∨ xs = []) ∧
  ((xs = [] ∨ k = 1) → Q (.ref l) H) ∧ ((xs ≠ [] ∧ k ≤ 0) → ∀ p, H p = none → Q (.ref p) (upd H p (.tup [])))
theorem op_repT2 : OpR X (binaryOp .Mult) (rRepT2 X.K) := by
  intro pins s σ H x y v u Q I rx ry h
  obtain ⟨l, k, xs, rfl, rfl, hT, h1, h2, hc, q1, q2⟩ := h
  cases rx
  obtain ⟨t, rfl⟩ := ry
  obtain ⟨its, r, ⟨⟨cls, dd, data, sl⟩, ho, hcl, n, hd⟩, hs⟩ := I.tuple hT
  simp only at hcl hd
  subst hcl hd
  have c0 : (decide (k < -(2 ^ 63)) || decide (k ≥ 2 ^ 63)) = false := by
    rw [decide_eq_false (by omega), decide_eq_false (by omega)] <;> rfl
  have hie : its.toArray.isEmpty = true ↔ xs = [] := by
    cases r <;> simp
  by_cases hsame : xs = [] ∨ k = 1
  · have c1 : (its.toArray.isEmpty || k == 1) = true := by
      rcases hsame with e | e
      · rw [hie.mpr e]; rfl
      · subst e; simp
    exact wpAny_binaryOp_repeat_ref (T := "tuple") (U := "int") (by decide) ⟨_, ho, rfl⟩ (fun s' => typeIs_int s' k t) noFill_tuple_mul F.fills_int_mul F.slot_int_rmul repeat_tuple F.slot_int_index.lookup
      (call_meets F.slot_int_rmul (typeIs_int s k t) F.entry_int_rmul (F.args_int_rmul_2 _ _) (int_rmul_tuple k t l its.toArray n dd sl)
        ⟨ho, rfl, ⟨_, ho, rfl⟩, call_meets F.slot_tuple_mul ⟨_, ho, rfl⟩ F.entry_tuple_mul (F.args_tuple_mul_2 _ _) (tuple_mul_same l its.toArray n dd sl k t c0 c1) ⟨ho, ⟨.ref l, H, I, rfl, q1 hsame⟩⟩⟩)
  · have hne : xs ≠ [] := fun z => hsame (.inl z)
    have hk1 : k ≠ 1 := fun z => hsame (.inr z)
    have hk0 : k ≤ 0 := by
      rcases hc with z | z
      · omega
      · exact absurd z hne
    have hif : its.toArray.isEmpty = false := by
      cases e : its.toArray.isEmpty with
      | false => rfl
      | true => exact absurd (hie.mp e) hne
    have c1 : (its.toArray.isEmpty || k == 1) = false := by
      rw [hif, Bool.false_or]; exact beq_eq_false_iff_ne.mpr hk1
    have c2 : (decide (k ≤ 0) || its.toArray.isEmpty) = true := by
      rw [decide_eq_true hk0]; rfl
    refine wpAny_binaryOp_repeat_ref (T := "tuple") (U := "int") (by decide) ⟨_, ho, rfl⟩ (fun s' => typeIs_int s' k t) noFill_tuple_mul F.fills_int_mul F.slot_int_rmul repeat_tuple F.slot_int_index.lookup
      (call_meets F.slot_int_rmul (typeIs_int s k t) F.entry_int_rmul (F.args_int_rmul_2 _ _) (int_rmul_tuple k t l its.toArray n dd sl)
        ⟨ho, rfl, ⟨_, ho, rfl⟩, call_meets F.slot_tuple_mul ⟨_, ho, rfl⟩ F.entry_tuple_mul (F.args_tuple_mul_2 _ _) (tuple_mul_zero l its.toArray n dd sl k t c0 c1 c2) ⟨ho, ?_⟩⟩)
    refine ⟨.ref s.heap.objs.size, _, I.laid (t' := s.toks) (o := .tup []) (fun b ob q => Heap.get?_push_of_some _ q) (Nat.le_refl _) ?_, rfl, q2 ⟨hne, hk0⟩ _ (I.hok.fresh (Nat.le_refl _))⟩
    exact ⟨Nat.zero_le _, [], .nil, PyProof.Rows.IsTup.new _ _⟩

/-! ### what the operations need -/
theorem Rp.int_inv {i : Int} {v : V} (r : Rp M ι H (.int i) v) : v = .int i := by cases r; rfl
theorem Rp.str_inv {i : Str} {v : V} (r : Rp M ι H (.str i) v) : v = .str i := by cases r; rfl
theorem Rp.bl_inv {i : Bool} {v : V} (r : Rp M ι H (.bl i) v) : v = .bl i := by cases r; rfl
theorem Rp.non_inv {v : V} (r : Rp M ι H .non v) : v = .non := by cases r; rfl
theorem Rp.tup_inv {ds : List D} {v : V} (r : Rp M ι H (.tup ds) v) : ∃ a vs, v = .ref a ∧ SqT M.K H a vs ∧ RpL M ι H ds vs := by cases r with | tup a b => exact ⟨_, _, rfl, a, b⟩
theorem Rp.fls_inv {ds : List D} {v : V} (r : Rp M ι H (.fls ds) v) : ∃ a vs, v = .ref a ∧ a ∉ ι ∧ H a = some (.lst vs) ∧ RpL M ι H ds vs := by cases r with | fls a _ b c => exact ⟨_, _, rfl, a, b, c⟩
theorem Rp.scr_inv {ds : List D} {v : V} (r : Rp M ι H (.scr ds) v) : ∃ a vs, v = .ref a ∧ Sc M.K H a vs ∧ RpL M ι H ds vs := by cases r with | scr b c => exact ⟨_, _, rfl, b, c⟩
theorem Rp.ref_inv {r : Nat} {v : V} (q : Rp M ι H (.ref r) v) : ∃ a, v = .ref a ∧ ι[r]? = some a := by cases q with | ref e => exact ⟨_, rfl, e⟩
theorem Rp.obj_inv {c : Nat} {ds : List D} {v : V} (r : Rp M ι H (.obj c ds) v) : ∃ a dx vs, v = .ref a ∧ M.ok c ∧ a ∉ ι ∧ H a = some (.ins (M.cl c) dx ((M.fl c).zip vs)) ∧ ds.length ≤ (M.fl c).length ∧ RpL M ι H ds vs := by
  cases r with | obj k a _ b c d => exact ⟨_, _, _, rfl, k, a, b, c, d⟩
theorem Sim.list {r : Nat} {xs : List D} {v : V} (s : Sim M ι h H) (q : Rp M ι H (.ref r) v) (e : h[r]? = some (.lst xs)) : ∃ a vs, v = .ref a ∧ ι[r]? = some a ∧ H a = some (.lst vs) ∧ RpL M ι H xs vs := by
  obtain ⟨a, rfl, e1⟩ := q.ref_inv
  obtain ⟨a', e2, vs, e3, l⟩ := s.at e
  rw [e1] at e2; cases e2
  exact ⟨a, vs, rfl, e1, e3, l⟩
/-- a sequence as the layer reads it -/
theorem seq_ok {d : D} {v : V} {xs : List D} (s : Sim M ι h H) (r : Rp M ι H d v) (e : seqOf h d = some xs) : ∃ a vs, v = .ref a ∧ (SqL M.K H a vs ∨ SqT M.K H a vs) ∧ RpL M ι H xs vs := by
  cases d with
  | non => simp [seqOf] at e
  | bl _ => simp [seqOf] at e
  | int _ => simp [seqOf] at e
  | str _ => simp [seqOf] at e
  | obj _ _ => simp [seqOf] at e
  | fdc _ _ _ => simp [seqOf] at e
  | tup ys =>
    simp only [seqOf, Option.some.injEq] at e; subst e
    obtain ⟨a, vs, rfl, q, l⟩ := r.tup_inv
    exact ⟨a, vs, rfl, .inr q, l⟩
  | fls ys =>
    simp only [seqOf, Option.some.injEq] at e; subst e
    obtain ⟨a, vs, rfl, _, q, l⟩ := r.fls_inv
    exact ⟨a, vs, rfl, .inl (SqL.of q), l⟩
  | scr ys =>
    simp only [seqOf, Option.some.injEq] at e; subst e
    obtain ⟨a, vs, rfl, q, l⟩ := r.scr_inv
    exact ⟨a, vs, rfl, .inl q.sq, l⟩
  | ref r' =>
    simp only [seqOf] at e
    split at e
    · rename_i ys e1
      cases e
      obtain ⟨a, vs, rfl, _, q, l⟩ := s.list r e1
      exact ⟨a, vs, rfl, .inl (SqL.of q), l⟩
    · cases e
theorem isEmpty_rp {ds : List D} {vs : List V} (l : RpL M ι H ds vs) : vs.isEmpty = ds.isEmpty := by cases l <;> rfl
theorem truth_ok {d : D} {v : V} {b : Bool} (s : Sim M ι h H) (r : Rp M ι H d v) (e : truth h d = some b) : TruV M.K v H b := by
  cases d with
  | non => simp [truth] at e; subst e; rw [r.non_inv]; rfl
  | bl _ => simp [truth] at e; subst e; rw [r.bl_inv]; rfl
  | int _ => simp only [truth, Option.some.injEq] at e; subst e; rw [r.int_inv]; rfl
  | str x =>
    simp only [truth] at e
    split at e
    · rename_i hz
      cases e
      rw [r.str_inv]
      refine ⟨by rw [line_eq]; exact hz, ?_⟩
      by_cases q : x.length = 0
      · simp [q]
      · have q2 : (x.length : Int) ≠ 0 := by omega
        rw [bne_iff_ne.mpr q, bne_iff_ne.mpr q2]
    · cases e
  | obj _ _ => simp [truth] at e
  | fdc _ _ _ => simp [truth] at e
  | scr _ => simp [truth] at e
  | tup ys =>
    simp only [truth, Option.some.injEq] at e; subst e
    obtain ⟨a, vs, rfl, q, l⟩ := r.tup_inv
    exact .inr (.inl ⟨vs, q, by rw [isEmpty_rp l]⟩)
  | fls ys =>
    simp only [truth, Option.some.injEq] at e; subst e
    obtain ⟨a, vs, rfl, _, q, l⟩ := r.fls_inv
    exact .inl ⟨vs, SqL.of q, by rw [isEmpty_rp l]⟩
  | ref r' =>
    simp only [truth] at e
    split at e
    · rename_i ys e1
      cases e
      obtain ⟨a, vs, rfl, _, q, l⟩ := s.list r e1
      exact .inl ⟨vs, SqL.of q, by rw [isEmpty_rp l]⟩
    · cases e
/-- a new tuple -/
theorem tup_new {ds : List D} {vs : List V} {p : Addr} (s : Sim M ι h H) (l : RpL M ι H ds vs) (n : H p = none) : Ext M ι H ι (upd H p (.tup vs)) ∧ Sim M ι h (upd H p (.tup vs)) ∧ Rp M ι (upd H p (.tup vs)) (.tup ds) (.ref p) :=
  ⟨.hid s n, s.hid n, .tup (SqT.of upd_same) (l.mono (.hid s n))⟩
theorem fls_new {ds : List D} {vs : List V} {p : Addr} (s : Sim M ι h H) (l : RpL M ι H ds vs) (n : H p = none) : Ext M ι H ι (upd H p (.lst vs)) ∧ Sim M ι h (upd H p (.lst vs)) ∧ Rp M ι (upd H p (.lst vs)) (.fls ds) (.ref p) :=
  ⟨.hid s n, s.hid n, .fls (s.fresh n) (s.freshX n) upd_same (l.mono (.hid s n))⟩

/-! ### + - * // % ** -/
def bop : Bo → Operator
  | .add => .Add | .sub => .Sub | .mul => .Mult | .fdiv => .FloorDiv | .mod => .Mod | .pow => .Pow
theorem RpL.nil_iff {ds : List D} {vs : List V} (l : RpL M ι H ds vs) : vs = [] ↔ ds = [] := by cases l <;> simp
theorem binD_ok (hK : X.K = M.K) (o : Bo) : OpR X (binaryOp (bop o)) (rd2 M fun h => binD h o) := by
  intro pins s σ H x y v u Q I rx ry hh
  obtain ⟨W, ι, h, dx, dy, sim, r1, r2, po⟩ := hh
  have po : Po M W ι H (binD h o dx dy) (fun d _ ι' H' => ∀ v, Rp M ι' H' d v → Q v H') := po
  unfold binD at po
  split at po
  · -- int + int
    cases r1.int_inv; cases r2.int_inv
    exact op_add pins s σ H _ _ v u Q I rx ry ⟨_, _, rfl, rfl, po ι H sim.refl sim _ (.int _)⟩
  · -- str + str
    cases r1.str_inv; cases r2.str_inv
    obtain ⟨hz, po⟩ := po.if_
    exact op_add_str pins s σ H _ _ v u Q I rx ry ⟨_, _, rfl, rfl, by rw [line_eq]; exact hz, po ι H sim.refl sim _ (.str _)⟩
  · -- tuple + tuple
    obtain ⟨hz, po⟩ := po.if_
    obtain ⟨a, vs, rfl, q1, l1⟩ := r1.tup_inv
    obtain ⟨b, ws, rfl, q2, l2⟩ := r2.tup_inv
    have q := l1.append l2
    refine op_catA pins s σ H _ _ v u Q I rx ry ⟨a, b, vs, ws, rfl, rfl, by rw [hK]; exact q1, by rw [hK]; exact q2, ?_, fun e => ?_, fun _ e => ?_, fun _ _ p n => ?_⟩
    · rw [line_eq, ← l1.length, ← l2.length]; exact hz
    · subst e
      exact po ι H sim.refl sim _ (.tup q2 (by simpa using q))
    · subst e
      exact po ι H sim.refl sim _ (.tup q1 (by simpa using q))
    · obtain ⟨x1, s1, t1⟩ := tup_new sim q n
      exact po ι _ x1 s1 _ t1
  · cases r1.int_inv; cases r2.int_inv
    exact op_sub pins s σ H _ _ v u Q I rx ry ⟨_, _, rfl, rfl, po ι H sim.refl sim _ (.int _)⟩
  · cases r1.int_inv; cases r2.int_inv
    obtain ⟨hz, po⟩ := po.if_
    exact op_mul pins s σ H _ _ v u Q I rx ry ⟨_, _, rfl, rfl, hz, po ι H sim.refl sim _ (.int _)⟩
  · -- tuple * int
    rename_i a0 k po0
    cases r2.int_inv
    obtain ⟨⟨h1, h2, h3⟩, po⟩ := po.if_
    obtain ⟨a, vs, rfl, q1, l1⟩ := r1.tup_inv
    by_cases hb : vs ≠ [] ∧ 2 ≤ k
    · refine op_repT pins s σ H _ _ v u Q I rx ry ⟨a, k, vs, rfl, rfl, by rw [hK]; exact q1, hb.1, hb.2, h2, by rw [← l1.length]; exact h3, fun p n => ?_⟩
      obtain ⟨x1, s1, t1⟩ := tup_new sim (l1.rep k.toNat) n
      exact po ι _ x1 s1 _ t1
    · refine op_repT2 pins s σ H _ _ v u Q I rx ry ⟨a, k, vs, rfl, rfl, by rw [hK]; exact q1, h1, h2, ?_, fun e => ?_, fun ⟨e1, e2⟩ p n => ?_⟩
      · by_cases e : vs = []
        · exact .inr e
        · exact .inl (by
            have : ¬ 2 ≤ k := fun z => hb ⟨e, z⟩
            omega)
      · rcases e with e | e
        · subst e
          have e2 := l1.nil_iff.mp rfl
          subst e2
          exact po ι H sim.refl sim _ (.tup q1 (by simp; exact .nil))
        · subst e
          exact po ι H sim.refl sim _ (.tup q1 (by simpa using l1))
      · have e0 : k.toNat = 0 := by omega
        have q : RpL M ι H (List.replicate k.toNat a0).flatten [] := by rw [e0]; exact .nil
        obtain ⟨x1, s1, t1⟩ := tup_new sim q n
        exact po ι _ x1 s1 _ t1
  · cases r1.int_inv; cases r2.int_inv
    obtain ⟨hz, po⟩ := po.if_
    exact op_fdiv pins s σ H _ _ v u Q I rx ry ⟨_, _, rfl, rfl, hz, po ι H sim.refl sim _ (.int _)⟩
  · cases r1.int_inv; cases r2.int_inv
    obtain ⟨hz, po⟩ := po.if_
    exact op_mod pins s σ H _ _ v u Q I rx ry ⟨_, _, rfl, rfl, hz, po ι H sim.refl sim _ (.int _)⟩
  · cases r1.int_inv; cases r2.int_inv
    obtain ⟨hz, po⟩ := po.if_
    exact op_pow pins s σ H _ _ v u Q I rx ry ⟨_, _, rfl, rfl, hz, po ι H sim.refl sim _ (.int _)⟩
  · exact False.elim po
end
end Mx
set_option Elab.async false
set_option linter.all false
set_option maxRecDepth 100000
set_option maxHeartbeats 2000000
namespace Mx
open PySem L2
open Classical
/-! ### dicts with numbers and texts for keys -/
theorem keyD_inj {a b : Key} (e : keyD a = keyD b) : a = b := by
  cases a <;> cases b <;> simp [keyD] at e <;> simp [e]
theorem keyD_iff {a b : Key} : (keyD a = keyD b) = (a = b) := propext ⟨keyD_inj, fun e => by rw [e]⟩
section
variable {M : Rl} {ι : List Addr} {H : Hp} {h : Hh}
theorem key_rp {k : D} {y : V} (hk : keyOk k = true) (r : Rp M ι H k y) : ∃ key, k = keyD key ∧ y = kV key := by
  cases k with
  | int i => exact ⟨.inl i, rfl, by cases r; rfl⟩
  | str i => exact ⟨.inr i, rfl, by cases r; rfl⟩
  | _ => simp [keyOk] at hk
theorem rd_dk {a : Addr} {u : HO} {kvs : List (Key × V)} (e : H a = some u) (z : dkOf u = some (.inl kvs)) : Rd H a (.dK kvs) := by
  cases u with
  | dK k => simp [dkOf] at z; subst z; exact .inl e
  | frz o w =>
    cases w with
    | dK k => simp [dkOf] at z; subst z; exact .inr ⟨o, e⟩
    | _ => simp [dkOf] at z
  | _ => simp [dkOf] at z
theorem dct_ok {d : D} {v : V} {ks vs : List D} (s : Sim M ι h H) (r : Rp M ι H d v) (e : dctOf h d = some (false, ks, vs)) :
    ∃ a kvs, v = .ref a ∧ Rd H a (.dK kvs) ∧ ks = kvs.map (fun p => keyD p.1) ∧ RpL M ι H vs (kvs.map (·.2)) := by
  cases r with
  | fdk nn mm q z k l =>
    simp only [dctOf, Option.some.injEq, Prod.mk.injEq] at e
    obtain ⟨_, rfl, rfl⟩ := e
    exact ⟨_, _, rfl, rd_dk q z, k, l⟩
  | fdt nn mm q z k l => simp [dctOf] at e
  | @ref r a q =>
    simp only [dctOf] at e
    split at e
    · rename_i tk lk ks' vs' e1
      simp only [Option.some.injEq, Prod.mk.injEq] at e
      obtain ⟨rfl, rfl, rfl⟩ := e
      obtain ⟨u, p, _, _, z⟩ := s.ob r a _ q e1
      obtain ⟨kvs, z, k, l⟩ := z
      exact ⟨_, _, rfl, rd_dk p z, k, l⟩
    · cases e
  | _ => simp [dctOf] at e
theorem get_rp : ∀ {kvs : List (Key × V)} {ds : List D} {key : Key}, RpL M ι H ds (kvs.map (·.2)) →
    (getK (kvs.map fun p => keyD p.1) ds (keyD key) = none ∧ valV kvs key = none) ∨ ∃ d v, getK (kvs.map fun p => keyD p.1) ds (keyD key) = some d ∧ valV kvs key = some v ∧ Rp M ι H d v
  | [], _, _, .nil => .inl ⟨rfl, rfl⟩
  | p :: kvs, _, key, .cons (d := d) (ds := ds) r t => by
    by_cases e : p.1 = key
    · refine .inr ⟨d, p.2, ?_, valV_pos e, r⟩
      simp [getK, e]
    · have e2 : ¬ keyD p.1 = keyD key := fun z => e (keyD_inj z)
      have g : getK ((p :: kvs).map fun p => keyD p.1) (d :: ds) (keyD key) = getK (kvs.map fun p => keyD p.1) ds (keyD key) := by
        simp [getK, e2]
      rw [g, valV_neg e]
      exact get_rp t
theorem mem_key {kvs : List (Key × V)} {key : Key} : keyD key ∈ kvs.map (fun p => keyD p.1) ↔ (kvs.any fun kv => decide (kv.1 = key)) = true := by
  simp only [List.mem_map, List.any_eq_true, decide_eq_true_eq]
  exact ⟨fun ⟨p, hp, e⟩ => ⟨p, hp, keyD_inj e⟩, fun ⟨p, hp, e⟩ => ⟨p, hp, by rw [e]⟩⟩
theorem mem_val {kvs : List (Key × V)} {key : Key} : decide (keyD key ∈ kvs.map (fun p => keyD p.1)) = (valV kvs key).isSome := by
  rw [← valV_any, Bool.eq_iff_iff, decide_eq_true_eq]
  exact mem_key
theorem putKs_rp {kvs : List (Key × V)} {key : Key} {v : V} : putKs (kvs.map fun p => keyD p.1) (keyD key) = (putK kvs key v).map fun p => keyD p.1 := by
  unfold putKs putK
  by_cases e : (kvs.any fun kv => decide (kv.1 = key)) = true
  · rw [if_pos (mem_key.mpr e), if_pos e, List.map_map]
    apply List.map_congr_left
    intro p _
    by_cases q : p.1 = key <;> simp [q]
  · rw [if_neg (fun z => e (mem_key.mp z)), if_neg e, List.map_append]
    rfl
theorem putMap_rp {key : Key} {d : D} {v : V} (r : Rp M ι H d v) : ∀ {kvs : List (Key × V)} {ds : List D}, RpL M ι H ds (kvs.map (·.2)) →
    RpL M ι H (((kvs.map fun p => keyD p.1).zip ds).map (fun p => if p.1 = keyD key then d else p.2)) ((kvs.map fun kv => if kv.1 = key then (kv.1, v) else kv).map (·.2))
  | [], _, .nil => .nil
  | p :: kvs, _, .cons q t => by
    have ih := putMap_rp (key := key) r t
    by_cases e : p.1 = key
    · simp only [List.map_cons, List.zip_cons_cons, e, if_true]
      exact .cons r ih
    · have e2 : ¬ keyD p.1 = keyD key := fun z => e (keyD_inj z)
      simp only [List.map_cons, List.zip_cons_cons, e, e2, if_false]
      exact .cons q ih
theorem putVs_rp {kvs : List (Key × V)} {ds : List D} {key : Key} {d : D} {v : V} (l : RpL M ι H ds (kvs.map (·.2))) (r : Rp M ι H d v) :
    RpL M ι H (putVs (kvs.map fun p => keyD p.1) ds (keyD key) d) ((putK kvs key v).map (·.2)) := by
  unfold putVs putK
  by_cases e : (kvs.any fun kv => decide (kv.1 = key)) = true
  · rw [if_pos (mem_key.mpr e), if_pos e]
    exact putMap_rp r l
  · rw [if_neg (fun z => e (mem_key.mp z)), if_neg e, List.map_append]
    exact l.append (.cons r .nil)
theorem dropKs_rp {key : Key} : ∀ {kvs : List (Key × V)}, dropKs (kvs.map fun p => keyD p.1) (keyD key) = (dropK kvs key).map fun p => keyD p.1
  | [] => rfl
  | p :: kvs => by
    have ih := dropKs_rp (key := key) (kvs := kvs)
    unfold dropKs dropK at ih ⊢
    by_cases e : p.1 = key
    · simp [List.filter_cons, e] at ih ⊢; exact ih
    · have e2 : ¬ keyD p.1 = keyD key := fun z => e (keyD_inj z)
      simp [List.filter_cons, e, e2] at ih ⊢; exact ih
theorem dropVs_rp {key : Key} : ∀ {kvs : List (Key × V)} {ds : List D}, RpL M ι H ds (kvs.map (·.2)) → RpL M ι H (dropVs (kvs.map fun p => keyD p.1) ds (keyD key)) ((dropK kvs key).map (·.2))
  | [], _, .nil => .nil
  | p :: kvs, _, .cons q t => by
    have ih := dropVs_rp (key := key) t
    unfold dropVs dropK at ih ⊢
    by_cases e : p.1 = key
    · simp [List.filter_cons, e] at ih ⊢; exact ih
    · have e2 : ¬ keyD p.1 = keyD key := fun z => e (keyD_inj z)
      simp [List.filter_cons, e, e2] at ih ⊢; exact .cons q ih
/-- a dict of the machine's is changed -/
theorem dct_at {r : Nat} {a : Addr} {ks vs : List D} (s : Sim M ι h H) (e : ι[r]? = some a) (e1 : h[r]? = some (.dct false false ks vs)) :
    ∃ kvs, H a = some (.dK kvs) ∧ ks = kvs.map (fun p => keyD p.1) ∧ RpL M ι H vs (kvs.map (·.2)) := by
  obtain ⟨u, p, l1, _, z⟩ := s.ob r a _ e e1
  obtain ⟨kvs, z, k, l⟩ := z
  cases u with
  | dK k' => simp [dkOf] at z; subst z; exact ⟨_, p, k, l⟩
  | frz o w => exact absurd rfl (l1 rfl o w)
  | _ => simp [dkOf] at z
theorem dct_set {r : Nat} {a : Addr} {kvs kvs' : List (Key × V)} {ks' vs' : List D} (s : Sim M ι h H) (e : ι[r]? = some a) (e0 : H a = some (.dK kvs)) (hk : ks' = kvs'.map fun p => keyD p.1) (l : RpL M ι H vs' (kvs'.map (·.2))) :
    Ext M ι H ι (upd H a (.dK kvs')) ∧ Sim M ι (h.set r (.dct false false ks' vs')) (upd H a (.dK kvs')) := by
  have x : Ext M ι H ι (upd H a (.dK kvs')) := .write s e (nf_dk e0)
  exact ⟨x, s.write e (nf_dk e0) ⟨_, upd_same, fun _ o w z => (HO.noConfusion z), fun z => (Bool.noConfusion z), kvs', rfl, hk, l.mono x⟩⟩
end
section
variable {X : Cx} {M : Rl} {ι : List Addr} {H : Hp} {h : Hh}
/-! ### in -/
theorem plainI_all {ds : List D} (h : ds.all plainI = true) : ∃ ns : List Int, ds = ns.map D.int := by
  induction ds with
  | nil => exact ⟨[], rfl⟩
  | cons d ds ih =>
    rw [List.all_cons, Bool.and_eq_true] at h
    obtain ⟨ns, e⟩ := ih h.2
    cases d with
    | int i => exact ⟨i :: ns, by rw [e]; rfl⟩
    | _ => simp [plainI] at h
theorem plainS_all {ds : List D} (h : ds.all plainS = true) : ∃ ns : List Str, ds = ns.map D.str := by
  induction ds with
  | nil => exact ⟨[], rfl⟩
  | cons d ds ih =>
    rw [List.all_cons, Bool.and_eq_true] at h
    obtain ⟨ns, e⟩ := ih h.2
    cases d with
    | str i => exact ⟨i :: ns, by rw [e]; rfl⟩
    | _ => simp [plainS] at h
theorem RpL.strsD : ∀ {ns : List Str} {vs : List V}, RpL M ι H (ns.map D.str) vs → vs = ns.map V.str
  | [], _, .nil => rfl
  | _ :: _, _, .cons r t => by
    cases r
    rw [RpL.strsD t, List.map_cons]
theorem inV_ints {i : Int} : ∀ {ns : List Int}, inV (V.int i) (ns.map V.int) = decide (D.int i ∈ ns.map D.int)
  | [] => by simp [inV]
  | n :: ns => by
    have ih := inV_ints (i := i) (ns := ns)
    unfold inV at ih ⊢
    rw [List.map_cons, List.any_cons, ih]
    simp only [List.map_cons, List.mem_cons, D.int.injEq, eqV]
    by_cases e : i = n
    · subst e; simp
    · have e2 : ¬ n = i := fun z => e z.symm
      simp [e, e2]
theorem inV_strs {i : Str} : ∀ {ns : List Str}, inV (V.str i) (ns.map V.str) = decide (D.str i ∈ ns.map D.str)
  | [] => by simp [inV]
  | n :: ns => by
    have ih := inV_strs (i := i) (ns := ns)
    unfold inV at ih ⊢
    rw [List.map_cons, List.any_cons, ih]
    simp only [List.map_cons, List.mem_cons, D.str.injEq, eqV]
    by_cases e : i = n
    · subst e; simp
    · have e2 : ¬ n = i := fun z => e z.symm
      simp [e, e2]
end
end Mx
set_option Elab.async false
set_option linter.all false
set_option maxRecDepth 100000
set_option maxHeartbeats 2000000
namespace Mx
open PySem L2
section
variable {X : Cx} {M : Rl} {ι : List Addr} {H : Hp} {h : Hh}
theorem dp_all {n : Nat} (go : ∀ d v p, Rp M ι H d v → pdF n h d = some p → Dp M.K H v p) :
    ∀ {ds : List D} {vs : List V} {ps : List PyData}, RpL M ι H ds vs → ds.mapM (pdF n h) = some ps → DpAll M.K H vs ps
  | [], _, ps, .nil, e => by simp at e; subst e; exact .nil
  | d :: ds, _, ps, .cons r t, e => by
    rw [List.mapM_cons] at e
    cases e1 : pdF n h d with
    | none => rw [e1] at e; simp at e
    | some d1 =>
      cases e2 : ds.mapM (pdF n h) with
      | none => rw [e1, e2] at e; simp at e
      | some r1 =>
        rw [e1, e2] at e
        simp at e
        subst e
        exact .cons (go _ _ _ r e1) (dp_all go t e2)
theorem dp_of (s : Sim M ι h H) : ∀ (n : Nat) (d : D) (v : V) (p : PyData), Rp M ι H d v → pdF n h d = some p → Dp M.K H v p := by
  intro n
  induction n with
  | zero => intro d v p r e; simp [pdF] at e
  | succ n ih =>
    intro d v p r e
    have ihL := @dp_all M ι H h n ih
    cases r with
    | non => simp [pdF] at e; subst e; exact .non
    | bl b => simp [pdF] at e; subst e; exact .bl b
    | int b => simp [pdF] at e; subst e; exact .int b
    | str b => simp [pdF] at e; subst e; exact .str b
    | tup q l =>
      simp only [pdF, Option.map_eq_some_iff] at e
      obtain ⟨xs, e1, rfl⟩ := e
      exact .tup q (ihL l e1)
    | fls nn _ q l =>
      simp only [pdF, Option.map_eq_some_iff] at e
      obtain ⟨xs, e1, rfl⟩ := e
      exact .lst (SqL.of q) (ihL l e1)
    | scr q l => simp [pdF] at e
    | obj kk nn _ q z l => simp [pdF] at e
    | fdk _ _ _ _ _ _ => simp [pdF] at e
    | fdt _ _ _ _ _ _ => simp [pdF] at e
    | @ref r a q =>
      simp only [pdF] at e
      split at e
      · rename_i xs e1
        simp only [Option.map_eq_some_iff] at e
        obtain ⟨ys, e2, rfl⟩ := e
        obtain ⟨a', vs, e3, _, q2, l⟩ := s.list (.ref q) e1
        cases e3
        exact .lst (SqL.of q2) (ihL l e2)
      · cases e
theorem op_eqK (hK : X.K = M.K) (hu : X.A.units + 64 < cLine) : OpR X (compareOp .Eq) (rEqD M.K) := by rw [← hK]; exact op_eqD hu
theorem op_neK (hK : X.K = M.K) (hu : X.A.units + 64 < cLine) : OpR X (compareOp .NotEq) (rNeD M.K) := by rw [← hK]; exact op_neD hu

def cop : Co → CmpOp
  | .eq => .Eq | .ne => .NotEq | .lt => .Lt | .le => .LtE | .gt => .Gt | .ge => .GtE | .is_ => .Is | .isn => .IsNot | .in_ => .In | .nin => .NotIn

open Classical in
theorem in_runs (hK : X.K = M.K) (hu : X.A.units + 64 < cLine) {pins : List (Addr × Obj)} {s : Shared} {σ : St} {x y : V} {v u : Value} {Q : VK} {dx dy : D} {b : Bool} (I : L2.Inv X pins σ H s) (rx : RelV x v) (ry : RelV y u) (sim : Sim M ι h H) (r1 : Rp M ι H dx x) (r2 : Rp M ι H dy y) (e : inD h dx dy = some b) :
    (Q (.bl b) H → wpAny (model X.prog X.w) X.A (compareOp .In v u) (EP X pins σ Q) X.xe s) ∧ (Q (.bl (!b)) H → wpAny (model X.prog X.w) X.A (compareOp .NotIn v u) (EP X pins σ Q) X.xe s) := by
  have rest : ∀ (e : (match seqOf h dy with
      | some ys => if (plainI dx = true ∧ ys.all plainI = true) ∨ (plainS dx = true ∧ ys.all plainS = true) then some (decide (dx ∈ ys)) else none
      | none => match dctOf h dy with
        | some (false, ks, _) => if keyOk dx = true then some (decide (dx ∈ ks)) else none
        | _ => none) = some b), (Q (.bl b) H → wpAny (model X.prog X.w) X.A (compareOp .In v u) (EP X pins σ Q) X.xe s) ∧ (Q (.bl (!b)) H → wpAny (model X.prog X.w) X.A (compareOp .NotIn v u) (EP X pins σ Q) X.xe s) := by
    intro e
    cases es : seqOf h dy with
    | some ys =>
      rw [es] at e
      simp only at e
      split at e
      · rename_i hc
        cases e
        obtain ⟨a, vs, rfl, hq, l⟩ := seq_ok sim r2 es
        rw [← hK] at hq
        rcases hc with ⟨c1, c2⟩ | ⟨c1, c2⟩
        · obtain ⟨ns, rfl⟩ := plainI_all c2
          obtain rfl := l.intsD
          cases dx with
          | int i =>
            cases r1.int_inv
            have fl : (ns.map V.int).all flatV = true := by simp [List.all_eq_true, flatV]
            have fe : ∀ cond, decide (D.int i ∈ ns.map D.int) = cond → inV (V.int i) (ns.map V.int) = cond := fun c z => by rw [inV_ints, z]
            exact ⟨fun q => op_in_seq pins s σ H _ _ v u Q I rx ry ⟨a, _, rfl, hq, rfl, fl, by rw [if_neg (by decide), inV_ints]; exact q⟩, fun q => op_notIn_seq pins s σ H _ _ v u Q I rx ry ⟨a, _, rfl, hq, rfl, fl, by rw [if_pos rfl, inV_ints]; exact q⟩⟩
          | _ => simp [plainI] at c1
        · obtain ⟨ns, rfl⟩ := plainS_all c2
          obtain rfl := l.strsD
          cases dx with
          | str i =>
            cases r1.str_inv
            have fl : (ns.map V.str).all flatV = true := by simp [List.all_eq_true, flatV]
            exact ⟨fun q => op_in_seq pins s σ H _ _ v u Q I rx ry ⟨a, _, rfl, hq, rfl, fl, by rw [if_neg (by decide), inV_strs]; exact q⟩, fun q => op_notIn_seq pins s σ H _ _ v u Q I rx ry ⟨a, _, rfl, hq, rfl, fl, by rw [if_pos rfl, inV_strs]; exact q⟩⟩
          | _ => simp [plainS] at c1
      · cases e
    | none =>
      rw [es] at e
      simp only at e
      split at e
      · rename_i ks ws ed
        split at e
        · rename_i hk
          cases e
          obtain ⟨a, kvs, rfl, hd, rfl, l⟩ := dct_ok sim r2 ed
          obtain ⟨key, rfl, rfl⟩ := key_rp hk r1
          obtain rfl : u = Value.ref a := ry
          have g : DGet H a (kV key) (valV kvs key) := .inl ⟨kvs, key, hd, rfl, rfl⟩
          have hu2 : X.A.units + 1 < cLine := by omega
          rw [mem_val]
          exact ⟨fun q => d_in hu2 I g rx fun s' I' => ⟨.bl _, H, I', rfl, q⟩, fun q => d_notIn hu2 I g rx fun s' I' => ⟨.bl _, H, I', rfl, q⟩⟩
        · cases e
      · cases e
  cases dy with
  | str z =>
    cases r2.str_inv
    simp only [inD] at e
    split at e
    · rename_i c
      split at e
      · rename_i k ek
        cases e
        have ec : c = ⟨#[k]⟩ := by
          cases c with
          | mk cps => 
            have : cps = #[k] := by
              apply Array.toList_inj.mp; rw [ek]
            rw [this]
        subst ec
        cases r1.str_inv
        exact ⟨fun q => op_in_sign pins s σ H _ _ v u Q I rx ry ⟨k, z, rfl, rfl, q⟩, fun q => op_notIn_sign pins s σ H _ _ v u Q I rx ry ⟨k, z, rfl, rfl, q⟩⟩
      · cases e
    · cases e
  | _ => exact rest e
noncomputable def cmpR (o : Co) (h : Hh) (x y : D) : R D := (rOpt (cmpD h o x y) h).bind fun c h => .ok (.bl c) h
theorem Rp.ne_non {d : D} {v : V} (r : Rp M ι H d v) (hd : d ≠ .non) : v ≠ .non := by
  cases r <;> first | exact absurd rfl hd | (intro z; cases z)
theorem eqD_ok {dx dy : D} {x y : V} {b : Bool} (s : Sim M ι h H) (r1 : Rp M ι H dx x) (r2 : Rp M ι H dy y) (e : eqD h dx dy = some b) :
    (scal x y = true ∧ b = decide (x = y)) ∨ ∃ p q, Dp M.K H x p ∧ Dp M.K H y q ∧ SeqAt.shaped p = true ∧ SeqAt.shaped q = true ∧ b = PyData.eqv p q := by
  unfold eqD at e
  split at e
  · cases r1.int_inv; cases r2.int_inv
    cases e
    exact .inl ⟨rfl, by simp⟩
  · cases r1.str_inv; cases r2.str_inv
    cases e
    exact .inl ⟨rfl, by simp⟩
  · cases r1.non_inv; cases r2.non_inv
    cases e
    exact .inl ⟨rfl, by simp⟩
  · split at e
    · rename_i p q e1 e2
      split at e
      · rename_i hs
        cases e
        exact .inr ⟨p, q, dp_of s 12 _ _ _ r1 e1, dp_of s 12 _ _ _ r2 e2, hs.1, hs.2, rfl⟩
      · cases e
    · cases e
theorem cmpD_ok (hK : X.K = M.K) (hu : X.A.units + 64 < cLine) (o : Co) : OpR X (compareOp (cop o)) (rd2 M (cmpR o)) := by
  intro pins s σ H x y v u Q I rx ry hh
  obtain ⟨W, ι, h, dx, dy, sim, r1, r2, po⟩ := hh
  obtain ⟨c, ec, po⟩ := po.opt
  have fin : Q (.bl c) H := po ι H sim.refl sim _ (.bl _)
  clear po
  unfold cmpD at ec
  split at ec
  · rcases eqD_ok sim r1 r2 ec with ⟨a, b⟩ | ⟨p, q, a1, a2, a3, a4, b⟩
    · subst b; exact op_eq pins s σ H _ _ v u Q I rx ry ⟨a, fin⟩
    · subst b; exact op_eqK hK hu pins s σ H _ _ v u Q I rx ry ⟨p, q, a1, a2, a3, a4, fin⟩
  · simp only [Option.map_eq_some_iff] at ec
    obtain ⟨b0, ec, rfl⟩ := ec
    rcases eqD_ok sim r1 r2 ec with ⟨a, b⟩ | ⟨p, q, a1, a2, a3, a4, b⟩
    · subst b; exact op_ne pins s σ H _ _ v u Q I rx ry ⟨a, fin⟩
    · subst b; exact op_neK hK hu pins s σ H _ _ v u Q I rx ry ⟨p, q, a1, a2, a3, a4, fin⟩
  · cases r1.int_inv; cases r2.int_inv; cases ec
    exact op_lt pins s σ H _ _ v u Q I rx ry ⟨_, _, rfl, rfl, fin⟩
  · cases r1.int_inv; cases r2.int_inv; cases ec
    exact op_le pins s σ H _ _ v u Q I rx ry ⟨_, _, rfl, rfl, fin⟩
  · cases r1.int_inv; cases r2.int_inv; cases ec
    exact op_gt pins s σ H _ _ v u Q I rx ry ⟨_, _, rfl, rfl, fin⟩
  · cases r1.int_inv; cases r2.int_inv; cases ec
    exact op_ge pins s σ H _ _ v u Q I rx ry ⟨_, _, rfl, rfl, fin⟩
  · cases r1.non_inv; cases r2.non_inv; cases ec
    exact op_isN pins s σ H _ _ v u Q I rx ry ⟨rfl, by simpa using fin⟩
  · cases r1.bl_inv; cases r2.bl_inv; cases ec
    exact op_is_bl pins s σ H _ _ v u Q I rx ry ⟨_, _, rfl, rfl, fin⟩
  case h_27 => exact (in_runs hK hu I rx ry sim r1 r2 ec).1 fin
  case h_28 =>
    simp only [Option.map_eq_some_iff] at ec
    obtain ⟨b0, ec, rfl⟩ := ec
    exact (in_runs hK hu I rx ry sim r1 r2 ec).2 fin
  all_goals first
    | (exact False.elim (Option.noConfusion ec))
    | (cases ec
       first
         | (cases r1.bl_inv; cases r2.bl_inv; exact op_isnot_bl pins s σ H _ _ v u Q I rx ry ⟨_, _, rfl, rfl, fin⟩)
         | (cases r1.non_inv; cases r2.non_inv; exact op_notN pins s σ H _ _ v u Q I rx ry ⟨rfl, by simpa using fin⟩)
         | (cases r2.non_inv
            have nn := r1.ne_non (by intro z; cases z)
            first
              | exact op_isN pins s σ H _ _ v u Q I rx ry ⟨rfl, by rw [decide_eq_false nn]; exact fin⟩
              | exact op_notN pins s σ H _ _ v u Q I rx ry ⟨rfl, by rw [decide_eq_false nn]; exact fin⟩))
    | (cases ec)
end
end Mx
set_option Elab.async false
set_option linter.all false
set_option maxRecDepth 100000
set_option maxHeartbeats 2000000
/-! MxSt: sorted of what can be walked, its items compared as data. -/
namespace Mx
open PySem L2 PySem.W PySem.Calls PyProof.Rows PySem.Spec
section
variable {prog : Program} {w : World} {A : Around} {E : Value → Shared → Prop} {s : Shared}
/-- what a new list of the items of r holds, and that the heap has grown -/
theorem collect_new {r : Addr} {Q : List Value → Shared → Prop} (P : Array Value → Prop)
    (hext : ∀ R : Result → Shared → Prop, (∀ h' tk acc c, (∀ b o, s.heap.get? b = some o → h'.get? b = some o) → h'.get? s.heap.objs.size = some { cls := .type "list", data := .seq acc c } → P acc → R (.ok (.ret (.ref s.heap.objs.size))) { s with heap := h', toks := tk }) →
      wpAny (model prog w) A.in1 (Builtin.List.listExtendWith (.ref s.heap.objs.size) (.ref r) (.ref s.heap.objs.size)) (fun z s' => match z with
        | .done f => R (.ok f) s'
        | .again c' => c'.quiet = true ∧ codeAny (model prog w) A c' R s') (fun e s' => R (.error e) s') { s with heap := s.heap.push { cls := .type "list", data := .seq ([] : List Value).toArray } })
    (hQ : ∀ h' tk acc, (∀ b o, s.heap.get? b = some o → h'.get? b = some o) → s.heap.objs.size < h'.objs.size → P acc → Q acc.toList { s with heap := h', toks := tk }) :
    wpAny (model prog w) A (collect (.ref r)) Q E s := by
  let R : Result → Shared → Prop := fun q s' => ∃ h' tk acc c, q = .ok (.ret (.ref s.heap.objs.size)) ∧ s' = { s with heap := h', toks := tk } ∧ (∀ b o, s.heap.get? b = some o → h'.get? b = some o) ∧ h'.get? s.heap.objs.size = some { cls := .type "list", data := .seq acc c } ∧ P acc
  have key := hext R fun h' tk acc c k at0 p => ⟨h', tk, acc, c, rfl, rfl, k, at0, p⟩
  have last : ∀ s', R (.ok (.ret (.ref s.heap.objs.size))) s' → wpAny (model prog w) A (do
      match (← load s.heap.objs.size).data with
        | Data.seq xs _ => pure xs.toList
        | _ => unsupported "internal:collect") Q E s' := fun s' z => by
    obtain ⟨h', tk, acc, c, _, rfl, k, at0, p⟩ := z
    exact wpAny_bind (wpAny_load at0 (wpAny_pure (hQ h' tk acc k (Heap.lt_size at0) p)))
  have okR : ∀ f s', R (.ok f) s' → f = .ret (.ref s.heap.objs.size) := fun f s' z => by
    obtain ⟨_, _, _, _, e, _⟩ := z
    cases e; rfl
  have noR : ∀ e s', ¬ R (.error e) s' := fun e s' z => by
    obtain ⟨_, _, _, _, q, _⟩ := z
    cases q
  unfold collect
  refine wpAny_bind (wpAny_runValue (codeAny_builtin entry_proto_collect' ?_)); rw [Around.under_plainId PySem.F.plain_proto_collect _]
  show wpAny _ A.in1 (do again (.builtin "list.__iadd__" ⟨[← newList [], .ref r], []⟩)) _ _ s
  refine wpAny_bind (wpAny_newObj_type (wpAny_pure ⟨plainId_quiet PySem.F.plain_list_iadd _, codeAny_builtin entry_list_iadd' ?_⟩)); rw [Around.under_plainId PySem.F.plain_list_iadd _]
  refine wpAny_mono (Q := _) key (fun z s' q => ?_) fun e s' q => absurd q (noR e s')
  cases z with
  | done f => cases okR f s' q; exact last s' q
  | again c' =>
    refine ⟨q.1, codeAny_mono q.2 fun z s2 y => ?_⟩
    cases z with
    | error e => exact absurd y (noR e s2)
    | ok f => cases okR f s2 y; exact last s2 y
theorem collect_seq {r : Addr} {T : String} {o : Obj} {items : Array Value} {n : Nat} {Q : List Value → Shared → Prop} (hT : T = "list" ∨ T = "tuple") (ho : s.heap.get? r = some o) (hc : o.cls = .type T) (hd : o.data = .seq items n) (hz : items.size ≤ sizeLine)
    (hQ : ∀ h' tk, (∀ b o, s.heap.get? b = some o → h'.get? b = some o) → s.heap.objs.size < h'.objs.size → Q items.toList { s with heap := h', toks := tk }) : wpAny (model prog w) A (collect (.ref r)) Q E s := by
  refine collect_new (fun acc => acc = items) (fun R hR => ?_) fun h' tk acc k z p => by rw [p]; exact hQ h' tk k z
  have hS : (s.heap.push { cls := .type "list", data := .seq ([] : List Value).toArray }).get? s.heap.objs.size = some { cls := .type "list", data := .seq #[] 0 } := Heap.get?_push_size _ rfl
  have hU := Heap.get?_update_self (Obj.mapSeq (· ++ items)) hS rfl
  obtain ⟨c1, hc1⟩ : ∃ c1, Obj.mapSeq (· ++ items) { cls := .type "list", data := .seq #[] 0 } = { cls := .type "list", data := .seq items c1 } := by
    refine ⟨if (#[] ++ items).size == (#[] : Array Value).size then 0 else 0 + 1, ?_⟩
    have e0 : (#[] : Array Value) ++ items = items := by simp
    show ({ cls := .type "list", data := .seq (#[] ++ items) _ } : Obj) = _
    simp only [e0]
  rw [hc1] at hU
  refine wpAny_extend_seq (s := { s with heap := s.heap.push { cls := .type "list", data := .seq ([] : List Value).toArray } }) (A := A) (R := R) s.heap.objs.size r (.ref s.heap.objs.size) 0 hT hS (Heap.get?_push_of_some _ ho) hc hd (hR _ s.toks items c1 (fun b o' hb => ?_) hU rfl) hz
  exact (Heap.get?_update_other _ _ (Nat.ne_of_gt (Heap.lt_size hb))).trans (Heap.get?_push_of_some _ hb)
theorem collect_src {T : String} {r d : Addr} {n : Nat} {P : Nat → Value → Prop} {OK : Heap → Prop} {Q : List Value → Shared → Prop} (K : KdlSrc prog w T r d n P OK) (hh : A.handled = none) (hok : OK s.heap) (hn : n ≤ sizeLine)
    (hQ : ∀ h' tk acc, (∀ b o, s.heap.get? b = some o → h'.get? b = some o) → s.heap.objs.size < h'.objs.size → ItemsOf P acc n → Q acc.toList { s with heap := h', toks := tk }) : wpAny (model prog w) A (collect (.ref r)) Q E s := by
  have hlt := K.there _ hok
  refine collect_new (fun acc => ItemsOf P acc n) (fun R hR => ?_) hQ
  have hS : (s.heap.push { cls := .type "list", data := .seq ([] : List Value).toArray }).get? s.heap.objs.size = some { cls := .type "list", data := .seq #[] 0 } := Heap.get?_push_size _ rfl
  exact kdl_extend (A := A) (s := { s with heap := s.heap.push { cls := .type "list", data := .seq ([] : List Value).toArray } }) (R := R) K hh (K.keep _ _ hok fun b _ o e => Heap.get?_push_of_some _ e) s.heap.objs.size (Nat.ne_of_gt hlt.1) (Nat.ne_of_gt hlt.2)
    (.ref s.heap.objs.size) 0 hS (fun h' tk acc c k at0 p => hR h' tk acc c (fun b o hb => k b o (Nat.ne_of_lt (Heap.lt_size hb)) (Heap.get?_push_of_some _ hb)) at0 p) hn
def kwR : Bool → List (Str × Value)
  | false => []
  | true => [(Str.ofString "reverse", .bool true)]
theorem kwR_ok1 (r : Value) : ∀ rev, argsOk "sorted" ⟨[r], kwR rev⟩
  | false => args_sorted1 r
  | true => args_sorted_rev r _
theorem kwR_ok2 (x : Value) : ∀ rev, argsOk "list.sort" ⟨[x], kwR rev⟩
  | false => args_list_sort x
  | true => args_list_sort_rev x _
theorem sort_in {a : Addr} {vs : List Value} {n : Nat} {P : PySem.Fin → Shared → Prop} {κ : KeyKind} (rev : Bool) (ho : s.heap.get? a = some (seqObj "list" vs.toArray n)) (S : SortsAt prog w A { s with heap := sortingHeap s.heap a vs } κ vs) (hL : vs.length ≤ sizeLine)
    (hp : P (.done (.ret .none)) { s with heap := sortedHeap s.heap a vs (sortVals κ rev vs vs).toArray }) : wpAny (model prog w) A (Builtin.«list.sort» ⟨[.ref a], kwR rev⟩) P E s := by
  cases rev with
  | false => exact list_sort_vals ho S hL hp
  | true => exact list_sort_rev_vals ho S hL hp
theorem sorted_by {r : Value} (rev : Bool) {Q : Value → Shared → Prop} {β : Type} {R : Value → β → Prop} {enc : β → PyData} (B : List β → Prop)
    (hB : ∀ bs, B bs → AllAlike (bs.map enc) ∧ Sortable (bs.map enc) ∧ ∀ b, b ∈ bs → A.units + 2 + (enc b).depth < cLine)
    (hcol : ∀ Q' : List Value → Shared → Prop, (∀ bs vs s1, B bs → (∀ b o, s.heap.get? b = some o → s1.heap.get? b = some o) → s.heap.objs.size ≤ s1.heap.objs.size → s1.gens = s.gens → s1.os = s.os → EachIs R vs bs → EachIs (fun v b => ∃ as, Reads s.heap v (enc b) as) vs bs → vs.length ≤ sizeLine → Q' vs s1) → wpAny (model prog w) A.in1 (collect r) Q' E s)
    (hQ : ∀ bs s' D out, B bs → (∀ b o, s.heap.get? b = some o → s'.heap.get? b = some o) → s.heap.objs.size ≤ D → s'.gens = s.gens → s'.os = s.os → (∃ e, s'.heap.get? D = some (seqObj "list" (List.toArray out) e)) → EachIs R out (bs.mergeSort (dataLe rev enc)) → Q (.ref D) s') :
    wpAny (model prog w) A (call (.builtin "sorted") [r] (kwR rev)) Q E s := by
  refine call_function_entry_kw kind_sorted plain_sorted entry_sorted (kwR_ok1 r rev) ?_
  unfold Builtin.«sorted»
  refine wpAny_bind (m := checkCount "sorted" 1 1 _) (wpAny_pure (wpAny_bind (hcol _ fun bs vs s1 hbs keep1 szle g1 o1 er rd hL => ?_)))
  obtain ⟨hal, hk, hu⟩ := hB bs hbs
  obtain ⟨h1, gn, dr, tk, os⟩ := s1
  dsimp only at keep1 szle g1 o1
  refine wpAny_bind (wpAny_newList ?_ hL)
  have sz : ∀ b o, s.heap.get? b = some o → b < h1.objs.size := fun b o e => Heap.lt_size (keep1 b o e)
  have at2 : (h1.push (seqObj "list" vs.toArray 0)).get? h1.objs.size = some (seqObj "list" vs.toArray 0) := Heap.get?_push_size _ rfl
  have old2 : ∀ b o, s.heap.get? b = some o → (sortingHeap (h1.push (seqObj "list" vs.toArray 0)) h1.objs.size vs).get? b = some o := fun b o e =>
    sortingHeap_old (Nat.ne_of_lt (sz b o e)) (Heap.get?_push_of_some _ (keep1 b o e))
  have rd2 : EachIs (fun v b => ∃ as, Reads (sortingHeap (h1.push (seqObj "list" vs.toArray 0)) h1.objs.size vs) v (enc b) as) vs bs := rd.mono fun _ _ ⟨as, q⟩ => ⟨as, PyProof.Rows.Reads.keeps old2 q⟩
  have S := SortsAt.data (prog := prog) (w := w) (A := A.in1.in1) (s := ⟨sortingHeap (h1.push (seqObj "list" vs.toArray 0)) h1.objs.size vs, gn, dr, tk, os⟩)
    (each_map (R := fun v d => ∃ as, Reads (sortingHeap (h1.push (seqObj "list" vs.toArray 0)) h1.objs.size vs) v d as) enc rd2) hal hk (bound_map hu)
  refine wpAny_bind (wpAny_holding (wpAny_call_entry_kw slot_list_sort ⟨_, at2, rfl⟩ entry_list_sort ?_ (kwR_ok2 _ rev)))
  refine sort_in (s := ⟨h1.push (seqObj "list" vs.toArray 0), gn, dr, tk, os⟩) rev at2 S hL ?_
  refine ⟨_, rfl, wpAny_pure ⟨_, rfl, ?_⟩⟩
  have hat := sortedHeap_at (vs := vs) (out := (sortVals (dataKind (sortingHeap (h1.push (seqObj "list" vs.toArray 0)) h1.objs.size vs) (bs.map enc)) rev vs vs).toArray) at2
  refine hQ bs _ h1.objs.size _ hbs (fun b o e => ?_) szle g1 o1 hat (sortVals_data rev er rd2 hal)
  show (sortedHeap (h1.push (seqObj "list" vs.toArray 0)) h1.objs.size vs _).get? b = some o
  rw [sortedHeap_old (Nat.ne_of_lt (sz b o e)) (by rw [size_push']; exact Nat.lt_succ_of_lt (sz b o e))]
  exact Heap.get?_push_of_some _ (keep1 b o e)
end
end Mx
set_option Elab.async false
set_option linter.all false
set_option maxRecDepth 100000
set_option maxHeartbeats 2000000
namespace Mx
open PySem L2
open PyProof.Rows (IntsAre)
section
variable {prog : Program} {w : World} {A : Around} {E : Value → Shared → Prop} {s : Shared} {l : Addr} {its : List Value} {ns : List Int} {Q : Value → Shared → Prop} {xs : Array (Int × Tok)}
theorem iter_intTuple {Q : Value → Shared → Prop} (hl : s.heap.IsTuple l (intItems xs))
    (h : ∀ s₂ : Shared, s₂ = { s with heap := s.heap.push { cls := .type "tuple_iterator", data := .fields #[.ref l, .int 0 0] } } →
      (s₂.heap.IsTupleIter s.heap.objs.size l 0 ∧ s₂.heap.IsTuple l (intItems xs)) → (∀ b ∈ [s.heap.objs.size, l], b < s₂.heap.objs.size) → l ≠ s.heap.objs.size → Q (.ref s.heap.objs.size) s₂) :
    wpAny (model prog w) A (pyIter (.ref l)) Q E s := by
  have hlt : l < s.heap.objs.size := by obtain ⟨_, e, _⟩ := hl; exact Heap.lt_size e
  have hl2 : (s.heap.push { cls := .type "tuple_iterator", data := .fields #[.ref l, .int 0 0] }).IsTuple l (intItems xs) := by
    obtain ⟨o, e, q⟩ := hl
    exact ⟨o, Heap.get?_push_of_some _ e, q⟩
  refine wpAny_pyIter_tuple hl (h _ rfl ⟨⟨_, Heap.get?_push_size _ rfl, rfl, rfl⟩, hl2⟩ (fun b hb => ?_) (Nat.ne_of_lt hlt))
  show b < (s.heap.push _).objs.size
  rw [Heap.size_push]
  rcases List.mem_cons.mp hb with rfl | hb
  · exact Nat.lt_succ_self _
  · rcases List.mem_cons.mp hb with rfl | hb
    · exact Nat.lt_succ_of_lt hlt
    · cases hb
theorem old_keptT {h' : Heap} (hk : ∀ b o, b ∉ [s.heap.objs.size] → (s.heap.push { cls := .type "tuple_iterator", data := .fields #[.ref l, .int 0 0] }).get? b = some o → h'.get? b = some o) :
    ∀ b o, s.heap.get? b = some o → h'.get? b = some o := fun b o e => by
  refine hk b o (fun hm => ?_) (Heap.get?_push_of_some _ e)
  rcases List.mem_cons.mp hm with e1 | hm
  · exact absurd (e1 ▸ Heap.lt_size e) (Nat.lt_irrefl _)
  · cases hm
theorem sum_rawT (hh : A.handled = none) (hl : s.heap.IsTuple l its.toArray) (hi : IntsAre its ns)
    (h : ∀ h' tk t', (∀ b o, s.heap.get? b = some o → h'.get? b = some o) → Q (.int ns.sum t') { s with heap := h', toks := tk }) : wpAny (model prog w) A (call (.builtin "sum") [.ref l]) Q E s := by
  obtain ⟨xs, e⟩ := hi.allInts.items
  have hn : numsOf (intItems xs).toList = ns := by rw [← e]; exact hi.numsOf
  rw [nums_intItems] at hn
  rw [e] at hl
  refine call_sum_walkG (iter_intTuple hl fun s₂ e st hfp hlI => ?_)
  subst e
  refine ⟨_, _, _, _, _, _, numAt xs, rfl, Walks.tuple (A := A.in1) hh _ l hlI (intItems xs), st, hfp, (fun _ _ => intItems_at), fun h' tk t' hk => ?_⟩
  have := h h' tk t' (old_keptT hk)
  rw [show (intItems xs).size = xs.size by simp [intItems], preSum_eq, List.take_of_length_le (by simp), hn]; exact this
theorem max_rawT (hh : A.handled = none) (hl : s.heap.IsTuple l its.toArray) (hi : IntsAre its ns) (hne : 0 < ns.length)
    (h : ∀ h' tk M t', (∀ b o, s.heap.get? b = some o → h'.get? b = some o) → M ∈ ns → (∀ a, a ∈ ns → a ≤ M) → Q (.int M t') { s with heap := h', toks := tk }) : wpAny (model prog w) A (call (.builtin "max") [.ref l]) Q E s := by
  obtain ⟨xs, e⟩ := hi.allInts.items
  have hn : numsOf (intItems xs).toList = ns := by rw [← e]; exact hi.numsOf
  rw [nums_intItems] at hn
  subst hn
  rw [e] at hl
  have hsz : 0 < xs.size := by simpa using hne
  refine call_max_walk (iter_intTuple hl fun s₂ e st hfp hlI => ?_)
  subst e
  refine ⟨_, _, _, _, _, _, _, rfl, Walks.tuple (A := A.in1) hh _ l hlI (intItems xs), st, hfp, by simpa [intItems] using hsz, CmpOf.ints_gt (numAt xs) (fun _ _ => intItems_at), fun v h' tk hP hk => ?_⟩
  have hv : (intItems xs)[argBest (fun i j => decide (numAt xs i > numAt xs j)) (xs.size - 1)]? = some v := by simpa [intItems] using hP
  obtain ⟨t, rfl⟩ := intItems_at hv
  obtain ⟨h1, h2⟩ := argBest_gt (numAt xs) (xs.size - 1)
  refine h h' tk _ t (old_keptT hk) ?_ fun a ha => ?_
  · rw [numAt_eq]; exact PySem.getD_mem (by rw [List.length_map, Array.length_toList]; omega)
  · obtain ⟨j, hj, rfl⟩ := mem_getD ha
    rw [List.length_map, Array.length_toList] at hj
    rw [← numAt_eq]; exact h2 j (by omega)
theorem min_rawT (hh : A.handled = none) (hl : s.heap.IsTuple l its.toArray) (hi : IntsAre its ns) (hne : 0 < ns.length)
    (h : ∀ h' tk M t', (∀ b o, s.heap.get? b = some o → h'.get? b = some o) → M ∈ ns → (∀ a, a ∈ ns → M ≤ a) → Q (.int M t') { s with heap := h', toks := tk }) : wpAny (model prog w) A (call (.builtin "min") [.ref l]) Q E s := by
  obtain ⟨xs, e⟩ := hi.allInts.items
  have hn : numsOf (intItems xs).toList = ns := by rw [← e]; exact hi.numsOf
  rw [nums_intItems] at hn
  subst hn
  rw [e] at hl
  have hsz : 0 < xs.size := by simpa using hne
  refine call_min_walk (iter_intTuple hl fun s₂ e st hfp hlI => ?_)
  subst e
  refine ⟨_, _, _, _, _, _, _, rfl, Walks.tuple (A := A.in1) hh _ l hlI (intItems xs), st, hfp, by simpa [intItems] using hsz, CmpOf.ints_lt (numAt xs) (fun _ _ => intItems_at), fun v h' tk hP hk => ?_⟩
  have hv : (intItems xs)[argBest (fun i j => decide (numAt xs i < numAt xs j)) (xs.size - 1)]? = some v := by simpa [intItems] using hP
  obtain ⟨t, rfl⟩ := intItems_at hv
  obtain ⟨h1, h2⟩ := argBest_lt (numAt xs) (xs.size - 1)
  refine h h' tk _ t (old_keptT hk) ?_ fun a ha => ?_
  · rw [numAt_eq]; exact PySem.getD_mem (by rw [List.length_map, Array.length_toList]; omega)
  · obtain ⟨j, hj, rfl⟩ := mem_getD ha
    rw [List.length_map, Array.length_toList] at hj
    rw [← numAt_eq]; exact h2 j (by omega)
end
theorem maxL_spec : ∀ {ns : List Int}, 0 < ns.length → isMax ns (maxL ns)
  | [x], _ => ⟨by simp [maxL], by simp [maxL]⟩
  | x :: y :: r, _ => by
    obtain ⟨h1, h2⟩ := maxL_spec (ns := y :: r) (by simp)
    refine ⟨?_, fun z hz => ?_⟩
    · show max x (maxL (y :: r)) ∈ _
      by_cases h : maxL (y :: r) ≤ x
      · rw [Int.max_eq_left h]; exact List.mem_cons_self
      · rw [Int.max_eq_right (by omega)]; exact List.mem_cons_of_mem _ h1
    · show z ≤ max x (maxL (y :: r))
      rcases List.mem_cons.mp hz with rfl | hz
      · omega
      · have := h2 z hz; omega
theorem minL_spec : ∀ {ns : List Int}, 0 < ns.length → isMin ns (minL ns)
  | [x], _ => ⟨by simp [minL], by simp [minL]⟩
  | x :: y :: r, _ => by
    obtain ⟨h1, h2⟩ := minL_spec (ns := y :: r) (by simp)
    refine ⟨?_, fun z hz => ?_⟩
    · show min x (minL (y :: r)) ∈ _
      by_cases h : maxL (y :: r) ≤ x <;> (by_cases h' : x ≤ minL (y :: r)
                                          · rw [Int.min_eq_left h']; exact List.mem_cons_self
                                          · rw [Int.min_eq_right (by omega)]; exact List.mem_cons_of_mem _ h1)
    · show min x (minL (y :: r)) ≤ z
      rcases List.mem_cons.mp hz with rfl | hz
      · omega
      · have := h2 z hz; omega
theorem isMax.one {ns : List Int} {a b : Int} (p : isMax ns a) (q : isMax ns b) : a = b := by
  have := p.2 b q.1; have := q.2 a p.1; omega
theorem isMin.one {ns : List Int} {a b : Int} (p : isMin ns a) (q : isMin ns b) : a = b := by
  have := p.2 b q.1; have := q.2 a p.1; omega

section
variable {X : Cx} {M : Rl} {ι : List Addr} {H : Hp} {h : Hh}
/-- values handed to a built-in -/
def rdB (M : Rl) (F : Hh → List D → R D) : List V → Hp → VK → Prop := fun vs H Q => ∃ (W : XK) (ι : List Addr) (h : Hh) (ds : List D), Sim M ι h H ∧ RpL M ι H ds vs ∧ Po M W ι H (F h ds) (fun d _ ι' H' => ∀ v, Rp M ι' H' d v → Q v H')
theorem RpL.one {d : D} {vs : List V} (l : RpL M ι H [d] vs) : ∃ v, vs = [v] ∧ Rp M ι H d v := by
  cases l with | cons r t => cases t; exact ⟨_, rfl, r⟩
theorem RpL.two {d e : D} {vs : List V} (l : RpL M ι H [d, e] vs) : ∃ v w, vs = [v, w] ∧ Rp M ι H d v ∧ Rp M ι H e w := by
  cases l with | cons r t => cases t with | cons r' t' => cases t'; exact ⟨_, _, rfl, r, r'⟩
theorem intsAre_rp {ns : List Int} {vs : List V} {us : List Value} (l : RpL M ι H (ns.map D.int) vs) (r : Vals vs us) : IntsAre us ns := by
  rw [l.intsD] at r
  exact r.ints
def bname : Bi → Str
  | .len => "len" | .sum => "sum" | .max1 => "max" | .min1 => "min" | .max2 => "max" | .min2 => "min" | .abs => "abs" | .int => "int" | .all => "all" | .any => "any" | .tuple => "tuple" | .divmod => "divmod" | _ => "isinstance"
/-- the built-in functions and types, one class after the other -/
theorem bi_len (hK : X.K = M.K) : CallR X (.builtin "len") (rdB M fun h => biD h .len) := by
  intro pins s σ H vs us Q I r hh
  obtain ⟨W, ι, h, ds, sim, l, po⟩ := hh
  have po : Po M W ι H (biLen h ds) (fun d _ ι' H' => ∀ v, Rp M ι' H' d v → Q v H') := po
  unfold biLen at po
  split at po
  all_goals first | (exact False.elim po) | skip
  · obtain ⟨v, rfl, q⟩ := l.one
    cases q.str_inv
    obtain ⟨hz, po⟩ := po.if_
    exact call_len pins s σ H _ us Q I r ⟨_, _, rfl, ⟨by rw [line_eq]; exact hz, rfl⟩, po ι H sim.refl sim _ (.int _)⟩
  · obtain ⟨v, rfl, q⟩ := l.one
    split at po
    · rename_i ks vs ed
      obtain ⟨a, kvs, rfl, hd, rfl, _⟩ := dct_ok sim q ed
      obtain ⟨u, rfl, ru⟩ := vals1 r
      cases ru
      refine d_len I hd fun t s' I' => ⟨.int kvs.length, H, I', ⟨t, rfl⟩, ?_⟩
      have := po ι H sim.refl sim _ (.int _)
      rw [List.length_map] at this
      exact this
    obtain ⟨xs, e, po⟩ := po.opt
    obtain ⟨a, ws, rfl, q1, l1⟩ := seq_ok sim q e
    refine call_len pins s σ H _ us Q I r ⟨_, xs.length, rfl, ?_, po ι H sim.refl sim _ (.int _)⟩
    rcases q1 with q1 | q1
    · exact .inl ⟨ws, by rw [hK]; exact q1, l1.length⟩
    · exact .inr ⟨ws, by rw [hK]; exact q1, l1.length⟩
/-- the ints of a sequence -/
theorem seq_ints {d : D} {v : V} {ns : List Int} (s : Sim M ι h H) (r : Rp M ι H d v) (e : (seqOf h d).bind asI = some ns) : ∃ a, v = .ref a ∧ (SqL M.K H a (ns.map V.int) ∨ SqT M.K H a (ns.map V.int)) := by
  cases e1 : seqOf h d with
  | none => rw [e1] at e; cases e
  | some xs =>
    rw [e1] at e
    obtain ⟨a, vs, rfl, q, l⟩ := seq_ok s r e1
    have e2 := asI_eq e
    subst e2
    rw [l.intsD] at q
    exact ⟨a, rfl, q⟩
theorem Inv.tupI {pins : List (Addr × Obj)} {σ : St} {s : Shared} {a : Addr} {ns : List Int} (I : L2.Inv X pins σ H s) (q : SqT X.K H a (ns.map V.int)) : ∃ its : List Value, s.heap.IsTuple a its.toArray ∧ IntsAre its ns := by
  obtain ⟨its, rv, p, _⟩ := I.tuple q
  exact ⟨its, p, rv.ints⟩
theorem bi_sum (hK : X.K = M.K) (hc : X.calm = true) : CallR X (.builtin "sum") (rdB M fun h => biD h .sum) := by
  intro pins s σ H vs us Q I r hh
  obtain ⟨W, ι, h, ds, sim, l, po⟩ := hh
  have po : Po M W ι H (biSum h ds) (fun d _ ι' H' => ∀ v, Rp M ι' H' d v → Q v H') := po
  unfold biSum at po
  split at po
  all_goals first | (exact False.elim po) | skip
  · obtain ⟨v, rfl, q⟩ := l.one
    obtain ⟨ns, e, po⟩ := po.opt
    obtain ⟨a, rfl, q1⟩ := seq_ints sim q e
    rw [← hK] at q1
    rcases q1 with q1 | q1
    · exact cr_sum hc pins s σ H _ us Q I r ⟨a, ns, rfl, q1, po ι H sim.refl sim _ (.int _)⟩
    · obtain ⟨its, p, hi⟩ := Inv.tupI I q1
      rw [Vals.ref1 r]
      exact sum_rawT (I.ok.hd hc) p hi fun h' tk t' hk => ⟨.int _, H, I.kept hk, ⟨_, rfl⟩, po ι H sim.refl sim _ (.int _)⟩
theorem bi_max1 (hK : X.K = M.K) (hc : X.calm = true) : CallR X (.builtin "max") (rdB M fun h => biD h .max1) := by
  intro pins s σ H vs us Q I r hh
  obtain ⟨W, ι, h, ds, sim, l, po⟩ := hh
  have po : Po M W ι H (biMax1 h ds) (fun d _ ι' H' => ∀ v, Rp M ι' H' d v → Q v H') := po
  unfold biMax1 at po
  split at po
  all_goals first | (exact False.elim po) | skip
  · obtain ⟨v, rfl, q⟩ := l.one
    obtain ⟨ns, e, po⟩ := po.opt
    obtain ⟨hz, po⟩ := po.if_
    obtain ⟨a, rfl, q1⟩ := seq_ints sim q e
    rw [← hK] at q1
    rcases q1 with q1 | q1
    · exact cr_max hc pins s σ H _ us Q I r ⟨a, ns, rfl, q1, hz, fun m h1 h2 => by
        rw [isMax.one ⟨h1, h2⟩ (maxL_spec hz)]
        exact po ι H sim.refl sim _ (.int _)⟩
    · obtain ⟨its, p, hi⟩ := Inv.tupI I q1
      rw [Vals.ref1 r]
      exact max_rawT (I.ok.hd hc) p hi hz fun h' tk m t' hk h1 h2 => ⟨.int _, H, I.kept hk, ⟨_, rfl⟩, by
        rw [isMax.one ⟨h1, h2⟩ (maxL_spec hz)]
        exact po ι H sim.refl sim _ (.int _)⟩
theorem bi_min1 (hK : X.K = M.K) (hc : X.calm = true) : CallR X (.builtin "min") (rdB M fun h => biD h .min1) := by
  intro pins s σ H vs us Q I r hh
  obtain ⟨W, ι, h, ds, sim, l, po⟩ := hh
  have po : Po M W ι H (biMin1 h ds) (fun d _ ι' H' => ∀ v, Rp M ι' H' d v → Q v H') := po
  unfold biMin1 at po
  split at po
  all_goals first | (exact False.elim po) | skip
  · obtain ⟨v, rfl, q⟩ := l.one
    obtain ⟨ns, e, po⟩ := po.opt
    obtain ⟨hz, po⟩ := po.if_
    obtain ⟨a, rfl, q1⟩ := seq_ints sim q e
    rw [← hK] at q1
    rcases q1 with q1 | q1
    · exact cr_min hc pins s σ H _ us Q I r ⟨a, ns, rfl, q1, hz, fun m h1 h2 => by
        rw [isMin.one ⟨h1, h2⟩ (minL_spec hz)]
        exact po ι H sim.refl sim _ (.int _)⟩
    · obtain ⟨its, p, hi⟩ := Inv.tupI I q1
      rw [Vals.ref1 r]
      exact min_rawT (I.ok.hd hc) p hi hz fun h' tk m t' hk h1 h2 => ⟨.int _, H, I.kept hk, ⟨_, rfl⟩, by
        rw [isMin.one ⟨h1, h2⟩ (minL_spec hz)]
        exact po ι H sim.refl sim _ (.int _)⟩
theorem bi_max2 (hc : X.calm = true) : CallR X (.builtin "max") (rdB M fun h => biD h .max2) := by
  intro pins s σ H vs us Q I r hh
  obtain ⟨W, ι, h, ds, sim, l, po⟩ := hh
  have po : Po M W ι H (biMax2 h ds) (fun d _ ι' H' => ∀ v, Rp M ι' H' d v → Q v H') := po
  unfold biMax2 at po
  split at po
  all_goals first | (exact False.elim po) | skip
  · obtain ⟨v, w, rfl, q, q'⟩ := l.two
    cases q.int_inv; cases q'.int_inv
    exact call_max2 hc pins s σ H _ us Q I r ⟨_, _, rfl, po ι H sim.refl sim _ (.int _)⟩
theorem bi_min2 (hc : X.calm = true) : CallR X (.builtin "min") (rdB M fun h => biD h .min2) := by
  intro pins s σ H vs us Q I r hh
  obtain ⟨W, ι, h, ds, sim, l, po⟩ := hh
  have po : Po M W ι H (biMin2 h ds) (fun d _ ι' H' => ∀ v, Rp M ι' H' d v → Q v H') := po
  unfold biMin2 at po
  split at po
  all_goals first | (exact False.elim po) | skip
  · obtain ⟨v, w, rfl, q, q'⟩ := l.two
    cases q.int_inv; cases q'.int_inv
    exact call_min2 hc pins s σ H _ us Q I r ⟨_, _, rfl, po ι H sim.refl sim _ (.int _)⟩
theorem bi_abs : CallR X (.builtin "abs") (rdB M fun h => biD h .abs) := by
  intro pins s σ H vs us Q I r hh
  obtain ⟨W, ι, h, ds, sim, l, po⟩ := hh
  have po : Po M W ι H (biAbs h ds) (fun d _ ι' H' => ∀ v, Rp M ι' H' d v → Q v H') := po
  unfold biAbs at po
  split at po
  all_goals first | (exact False.elim po) | skip
  · obtain ⟨v, rfl, q⟩ := l.one
    cases q.int_inv
    exact call_abs pins s σ H _ us Q I r ⟨_, rfl, po ι H sim.refl sim _ (.int _)⟩
theorem bi_int : CallR X (.type "int") (rdB M fun h => biD h .int) := by
  intro pins s σ H vs us Q I r hh
  obtain ⟨W, ι, h, ds, sim, l, po⟩ := hh
  have po : Po M W ι H (biInt h ds) (fun d _ ι' H' => ∀ v, Rp M ι' H' d v → Q v H') := po
  unfold biInt at po
  split at po
  all_goals first | (exact False.elim po) | skip
  · obtain ⟨v, rfl, q⟩ := l.one
    cases q.int_inv
    exact call_int1 pins s σ H _ us Q I r (.inl ⟨_, rfl, po ι H sim.refl sim _ (.int _)⟩)
theorem bi_tuple (hK : X.K = M.K) : CallR X (.type "tuple") (rdB M fun h => biD h .tuple) := by
  intro pins s σ H vs us Q I r hh
  obtain ⟨W, ι, h, ds, sim, l, po⟩ := hh
  have po : Po M W ι H (biTuple h ds) (fun d _ ι' H' => ∀ v, Rp M ι' H' d v → Q v H') := po
  unfold biTuple at po
  split at po
  all_goals first | (exact False.elim po) | skip
  · obtain ⟨v, rfl, q⟩ := l.one
    obtain ⟨xs, e, po⟩ := po.opt
    obtain ⟨a, ws, rfl, q1, l1⟩ := seq_ok sim q e
    refine call_tuple_of pins s σ H _ us Q I r ⟨a, ws, rfl, ?_⟩
    rcases q1 with q1 | q1
    · refine .inl ⟨by rw [hK]; exact q1, fun p n => ?_⟩
      obtain ⟨x1, s1, t1⟩ := tup_new sim l1 n
      exact po ι _ x1 s1 _ t1
    · exact .inr ⟨by rw [hK]; exact q1, po ι H sim.refl sim _ (.tup q1 l1)⟩
theorem bi_divmod : CallR X (.builtin "divmod") (rdB M fun h => biD h .divmod) := by
  intro pins s σ H vs us Q I r hh
  obtain ⟨W, ι, h, ds, sim, l, po⟩ := hh
  have po : Po M W ι H (biDivmod h ds) (fun d _ ι' H' => ∀ v, Rp M ι' H' d v → Q v H') := po
  unfold biDivmod at po
  split at po
  all_goals first | (exact False.elim po) | skip
  · obtain ⟨v, w, rfl, q, q'⟩ := l.two
    cases q.int_inv; cases q'.int_inv
    obtain ⟨hz, po⟩ := po.if_
    refine call_divmod pins s σ H _ us Q I r ⟨_, _, rfl, hz, fun p n => ?_⟩
    obtain ⟨x1, s1, t1⟩ := tup_new sim (ds := [.int _, .int _]) (.cons (.int _) (.cons (.int _) .nil)) n
    exact po ι _ x1 s1 _ t1
theorem seq_bools {d : D} {v : V} {ns : List Bool} (s : Sim M ι h H) (r : Rp M ι H d v) (e : (lstOf h d).bind asB = some ns) : ∃ a, v = .ref a ∧ SqL M.K H a (ns.map V.bl) := by
  cases d with
  | fls xs =>
    have e : asB xs = some ns := e
    obtain ⟨a, vs, rfl, _, q, l⟩ := r.fls_inv
    have e2 := asB_eq e
    subst e2
    rw [l.boolsD] at q
    exact ⟨a, rfl, SqL.of q⟩
  | ref r' =>
    simp only [lstOf] at e
    split at e
    · rename_i xs e1
      have e : asB xs = some ns := e
      obtain ⟨a, vs, rfl, _, q, l⟩ := s.list r e1
      have e2 := asB_eq e
      subst e2
      rw [l.boolsD] at q
      exact ⟨a, rfl, SqL.of q⟩
    · cases e
  | _ => cases e
theorem bi_all (hK : X.K = M.K) (hc : X.calm = true) : CallR X (.builtin "all") (rdB M fun h => biD h .all) := by
  intro pins s σ H vs us Q I r hh
  obtain ⟨W, ι, h, ds, sim, l, po⟩ := hh
  have po : Po M W ι H (biAll h ds) (fun d _ ι' H' => ∀ v, Rp M ι' H' d v → Q v H') := po
  unfold biAll at po
  split at po
  all_goals first | (exact False.elim po) | skip
  · obtain ⟨v, rfl, q⟩ := l.one
    obtain ⟨ns, e, po⟩ := po.opt
    obtain ⟨a, rfl, q1⟩ := seq_bools sim q e
    rw [← hK] at q1
    exact cr_all hc pins s σ H _ us Q I r ⟨a, ns, rfl, q1, po ι H sim.refl sim _ (.bl _)⟩
theorem bi_any (hK : X.K = M.K) (hc : X.calm = true) : CallR X (.builtin "any") (rdB M fun h => biD h .any) := by
  intro pins s σ H vs us Q I r hh
  obtain ⟨W, ι, h, ds, sim, l, po⟩ := hh
  have po : Po M W ι H (biAny h ds) (fun d _ ι' H' => ∀ v, Rp M ι' H' d v → Q v H') := po
  unfold biAny at po
  split at po
  all_goals first | (exact False.elim po) | skip
  · obtain ⟨v, rfl, q⟩ := l.one
    obtain ⟨ns, e, po⟩ := po.opt
    obtain ⟨a, rfl, q1⟩ := seq_bools sim q e
    rw [← hK] at q1
    exact cr_any hc pins s σ H _ us Q I r ⟨a, ns, rfl, q1, po ι H sim.refl sim _ (.bl _)⟩
end
end Mx
set_option Elab.async false
set_option linter.all false
set_option maxRecDepth 100000
set_option maxHeartbeats 2000000
namespace Mx
open PySem L2
section
variable {X : Cx} {M : Rl} {ι : List Addr} {H : Hp} {h : Hh}
/-! ### isinstance -/
structure ClF (K : PySem.W.Frag) (C : Addr) : Prop where
  ins : C8.InsC K C
  no : ∀ T ∈ ["NoneType", "bool", "int", "str", "tuple", "list"], PySem.W.kitOne K (.type T) (.ref C) = some false
  nt : ∀ T ∈ ["bool", "int", "str", "tuple", "list"], PySem.W.kitOne K (.ref C) (.type T) = some false
def kty : Kd → Option String
  | .non => some "NoneType" | .bl => some "bool" | .int => some "int" | .str => some "str" | .tup => some "tuple" | .lst => some "list" | .obj _ => none
theorem ty_ok (cl : ∀ c, M.ok c → ClF M.K (M.cl c)) (sim : Sim M ι h H) {d : D} {v : V} {k : Kd} (r : Rp M ι H d v) (e : kdOf h d = some k) :
    (∃ T, kty k = some T ∧ TyX M.K H v (.type T)) ∨ ∃ c, k = .obj c ∧ M.ok c ∧ TyX M.K H v (.ref (M.cl c)) := by
  cases r with
  | non => cases e; exact .inl ⟨_, rfl, .base .non⟩
  | bl b => cases e; exact .inl ⟨_, rfl, .base (.bl _)⟩
  | int b => cases e; exact .inl ⟨_, rfl, .base (.int _)⟩
  | str b => cases e; exact .inl ⟨_, rfl, .base (.str _)⟩
  | tup q l =>
    cases e
    refine .inl ⟨_, rfl, ?_⟩
    rcases q with (q | ⟨o, q⟩) | ⟨o, its, n, q, c, _⟩
    · exact .base (.tup q)
    · exact .fTuple q
    · exact .kTuple q c
  | fls n _ q l => cases e; exact .inl ⟨_, rfl, .base (.lst q)⟩
  | scr q l => cases e
  | @ref r' a q =>
    simp only [kdOf] at e
    split at e
    · rename_i xs e1
      cases e
      obtain ⟨a', vs, e0, _, qa, l⟩ := sim.list (.ref q) e1
      cases e0
      exact .inl ⟨_, rfl, .base (.lst qa)⟩
    · rename_i c0 fs e1
      cases e
      obtain ⟨dx, vs, ok, p, _, _⟩ := sim.ob r' a _ q e1
      have f := (cl _ ok).ins
      exact .inr ⟨_, rfl, ok, .base (.ins p f.cl f.ha f.hn f.htk f.hm)⟩
    · cases e
  | fdk _ _ _ _ _ _ => cases e
  | fdt _ _ _ _ _ _ => cases e
  | obj ok n _ q z l =>
    cases e
    have f := (cl _ ok).ins
    exact .inr ⟨_, rfl, ok, .base (.ins q f.cl f.ha f.hn f.htk f.hm)⟩
/-- the class that isinstance asks for, as a value -/
def isaV (M : Rl) : Bi → Option V
  | .isInt => some (.ty "int") | .isBool => some (.ty "bool") | .isStr => some (.ty "str") | .isTup => some (.ty "tuple") | .isCls c => some (.ref (M.cl c))
  | _ => none
theorem isa_ok (hK : X.K = M.K) (cl : ∀ c, M.ok c → ClF M.K (M.cl c)) {b : Bi} {c : V} {d : D} {v : V} {k : Kd} {t : Bool} {pins : List (Addr × Obj)} {s : Shared} {σ : St} {us : List Value} {Q : VK} (I : L2.Inv X pins σ H s)
    (hb : isaV M b = some c) (hn : ∀ c, b = .isCls c → M.ok c) (sim : Sim M ι h H) (r : Rp M ι H d v) (ru : Vals [v, c] us) (e : kdOf h d = some k) (et : isaK b k = some t) (q : Q (.bl t) H) :
    wpAny (model X.prog X.w) X.A (call (.builtin "isinstance") us) (EP X pins σ Q) X.xe s := by
  have ty := ty_ok cl sim r e
  rw [← hK] at ty
  have go : ∀ (T u : Value), ClsV c u → TyX X.K H v T → PySem.W.kitOne X.K T u = some t → wpAny (model X.prog X.w) X.A (call (.builtin "isinstance") us) (EP X pins σ Q) X.xe s :=
    fun T u a b e => call_isi pins s σ H [v, c] us Q I ru ⟨v, c, T, u, t, rfl, a, b, e, q⟩
  cases b with
  | isInt =>
    cases hb; cases et
    rcases ty with ⟨T, hT, ty⟩ | ⟨c', rfl, ok, ty⟩
    · cases k <;> cases hT <;> exact go _ _ (.ty _) ty (kit_ty (by decide +kernel))
    · refine go _ _ (.ty _) ty ?_
      rw [hK]; exact (cl c' ok).nt _ (by simp)
  | isBool =>
    cases hb; cases et
    rcases ty with ⟨T, hT, ty⟩ | ⟨c', rfl, ok, ty⟩
    · cases k <;> cases hT <;> exact go _ _ (.ty _) ty (kit_ty (by decide +kernel))
    · refine go _ _ (.ty _) ty ?_
      rw [hK]; exact (cl c' ok).nt _ (by simp)
  | isStr =>
    cases hb; cases et
    rcases ty with ⟨T, hT, ty⟩ | ⟨c', rfl, ok, ty⟩
    · cases k <;> cases hT <;> exact go _ _ (.ty _) ty (kit_ty (by decide +kernel))
    · refine go _ _ (.ty _) ty ?_
      rw [hK]; exact (cl c' ok).nt _ (by simp)
  | isTup =>
    cases hb; cases et
    rcases ty with ⟨T, hT, ty⟩ | ⟨c', rfl, ok, ty⟩
    · cases k <;> cases hT <;> exact go _ _ (.ty _) ty (kit_ty (by decide +kernel))
    · refine go _ _ (.ty _) ty ?_
      rw [hK]; exact (cl c' ok).nt _ (by simp)
  | isCls c0 =>
    cases hb
    rcases ty with ⟨T, hT, ty⟩ | ⟨c', rfl, ok, ty⟩
    · have et2 : t = false := by cases k <;> cases hT <;> (cases et; rfl)
      subst et2
      refine go _ _ (.own _) ty ?_
      rw [hK]
      exact (cl c0 (hn _ rfl)).no _ (by cases k <;> cases hT <;> simp)
    · simp only [isaK] at et
      split at et
      · rename_i hc
        cases et
        subst hc
        refine go _ _ (.own _) ty ?_
        rw [hK]; exact (cl c0 (hn _ rfl)).ins.me
      · cases et
  | _ => cases hb
/-- isinstance(x, (list, tuple)) -/
theorem isaS_ok (hK : X.K = M.K) (cl : ∀ c, M.ok c → ClF M.K (M.cl c)) {tp : Addr} {d : D} {v : V} {k : Kd} {t : Bool} {pins : List (Addr × Obj)} {s : Shared} {σ : St} {us : List Value} {Q : VK} (I : L2.Inv X pins σ H s)
    (ht : H tp = some (.tup [.ty "list", .ty "tuple"])) (sim : Sim M ι h H) (r : Rp M ι H d v) (ru : Vals [v, .ref tp] us) (e : kdOf h d = some k) (et : isaK .isSeq k = some t) (q : Q (.bl t) H) :
    wpAny (model X.prog X.w) X.A (call (.builtin "isinstance") us) (EP X pins σ Q) X.xe s := by
  have ty := ty_ok cl sim r e
  rw [← hK] at ty
  have go : ∀ (T : Value), TyX X.K H v T → PySem.W.kitAny X.K T [.type "list", .type "tuple"] = some t → wpAny (model X.prog X.w) X.A (call (.builtin "isinstance") us) (EP X pins σ Q) X.xe s :=
    fun T b e => call_isiT pins s σ H [v, .ref tp] us Q I ru ⟨v, tp, _, T, _, t, rfl, ht, .cons (.ty _) (.cons (.ty _) .nil), b, e, q⟩
  have two : ∀ {T : Value} {a b : Bool}, PySem.W.kitOne X.K T (.type "list") = some a → PySem.W.kitOne X.K T (.type "tuple") = some b → (a || b) = t → PySem.W.kitAny X.K T [.type "list", .type "tuple"] = some t := fun {T a b} h1 h2 h3 => by
    refine kitAny_cons h1 (fun ha => kitAny_cons h2 (fun hb => ?_) fun hb => ?_) fun ha => ?_
    · unfold PySem.W.kitAny; rw [← h3, ha, hb]; rfl
    · rw [← h3, ha, hb]; rfl
    · rw [← h3, ha]; rfl
  cases et
  rcases ty with ⟨T, hT, ty⟩ | ⟨c', rfl, ok, ty⟩
  · cases k <;> cases hT <;> exact go _ ty (two (kit_ty (r := _) (by first | (show kitB _ _ = some true; decide +kernel) | (show kitB _ _ = some false; decide +kernel))) (kit_ty (r := _) (by first | (show kitB _ _ = some true; decide +kernel) | (show kitB _ _ = some false; decide +kernel))) (by decide))
  · refine go _ ty (two (a := false) (b := false) ?_ ?_ (by simp))
    · rw [hK]; exact (cl c' ok).nt _ (by simp)
    · rw [hK]; exact (cl c' ok).nt _ (by simp)
end
end Mx
set_option Elab.async false
set_option linter.all false
set_option maxRecDepth 100000
set_option maxHeartbeats 2000000
namespace Mx
open PySem L2
section
variable {X : Cx} {M : Rl} {ι : List Addr} {H : Hp} {h : Hh}
/-! ### an item, a slice -/
theorem atI_rp {ds : List D} {vs : List V} {i : Int} {d : D} (l : RpL M ι H ds vs) (e : atI ds i = some d) : ∃ v, atI vs i = some v ∧ Rp M ι H d v := by
  unfold atI at e ⊢
  rw [l.length] at e
  cases q : ixN vs.length i with
  | none => rw [q] at e; cases e
  | some j =>
    rw [q] at e
    exact l.get e
/-- o[i], what it gives told by the item's own rule -/
theorem tail_any {prog : Program} {w : World} {A : Around} {E : Value → Shared → Prop} {s : Shared} {value slice : Expr} {o i : Value} {T id : String} {Q : Value → Shared → Prop} (ty : s.TypeIs o T) (lk : typeLookup (.type T) "__getitem__" = pure (some (.builtin id)))
    (g : wpAny (model prog w) A (getItem o i) Q E s) (e : subscripted slice false o i = operate [o, i] (getItem o i)) : wpAny (model prog w) A (PyProof.Rows.subscriptTail value slice o i) Q E s := by
  have last : wpAny (model prog w) A (subscripted slice false o i) (fun r s1 => wpAny (model prog w) A (letTemporaryGo value o r >>= fun _ => pure r) Q E s1) E s := by
    rw [e]; exact wpAny_operating (wpAny_mono g (fun r s1 q => wpAny_bind (wpAny_letTemporaryGo (wpAny_pure q))) fun _ _ x => x)
  unfold PyProof.Rows.subscriptTail
  rw [getitemInPython_of_ne ty.not_modules]; refine wpAny_bind (wpAny_bind (wpAny_specialOf ty lk ?_))
  first
    | exact wpAny_pure (wpAny_bind last)
    | exact wpAny_bind (wpAny_pure (wpAny_bind last))
    | exact wpAny_bind last
theorem ix_okD (hK : X.K = M.K) (hu : X.A.units + 64 < cLine) : IxR X (rd2 M ixR) := by
  intro value slice pins s σ H x y v u Q I rx ry hh hsb
  obtain ⟨W, ι, h, dx, dy, sim, r1, r2, po⟩ := hh
  have po : Po M W ι H (rOpt (ixD h dx dy) h) (fun d _ ι' H' => ∀ v, Rp M ι' H' d v → Q v H') := po
  cases e : ixD h dx dy with
  | none => rw [e] at po; exact False.elim po
  | some d =>
    rw [e] at po
    have fin : ∀ w, Rp M ι H d w → Q w H := fun w r => po ι H sim.refl sim w r
    unfold ixD at e
    split at e
    · rename_i x0 i0
      cases r1.str_inv; cases r2.int_inv
      split at e
      · rename_i hz
        simp only [Option.map_eq_some_iff] at e
        obtain ⟨c, ec, rfl⟩ := e
        exact ix_str value slice pins s σ H _ _ v u Q I rx ry ⟨_, _, c, rfl, rfl, by rw [line_eq]; exact hz, ec, fin _ (.str _)⟩ hsb
      · cases e
    · split at e
      · rename_i ks vs ed
        split at e
        · rename_i hk
          obtain ⟨a, kvs, rfl, hd, rfl, l⟩ := dct_ok sim r1 ed
          obtain ⟨key, rfl, rfl⟩ := key_rp hk r2
          obtain rfl : v = Value.ref a := rx
          rcases get_rp (key := key) l with ⟨z, _⟩ | ⟨d1, v1, z, z2, rp⟩
          · rw [z] at e; cases e
          · rw [z] at e; cases e
            have g : DGet H a (kV key) (some v1) := .inl ⟨kvs, key, hd, rfl, z2.symm⟩
            exact tail_any (dict_typeIs I g) PySem.F.slot_dict_getitem.lookup (d_getItem (A := X.A) (by omega) I g ry fun w' s' I' rw' => ⟨v1, H, I', rw', fin _ rp⟩) hsb
        · cases e
      · cases e
      · split at e
        · cases r2.int_inv
          cases q : seqOf h dx with
          | none => rw [q] at e; cases e
          | some xs =>
            rw [q] at e
            obtain ⟨a, vs, rfl, q1, l⟩ := seq_ok sim r1 q
            obtain ⟨w, ew, rw⟩ := atI_rp l e
            rcases q1 with q1 | q1
            · exact ix_list value slice pins s σ H _ _ v u Q I rx ry ⟨a, vs, _, w, rfl, rfl, by rw [hK]; exact q1, ew, fin _ rw⟩ hsb
            · exact ix_tup value slice pins s σ H _ _ v u Q I rx ry ⟨a, vs, _, w, rfl, rfl, by rw [hK]; exact q1, ew, fin _ rw⟩ hsb
        · cases e
theorem cut_rp {ds : List D} {vs : List V} (l : RpL M ι H ds vs) (lo hi : Option Int) : RpL M ι H (cutD ds lo hi) (cutV vs lo hi) := by
  unfold cutD cutV
  rw [l.length]
  exact (l.drop _).take _
def rdSl (M : Rl) (F : Hh → D → Option Int → Option Int → R D) : V → Option Int → Option Int → Hp → VK → Prop := fun x lo hi H Q => ∃ (W : XK) (ι : List Addr) (h : Hh) (d : D), Sim M ι h H ∧ Rp M ι H d x ∧
  Po M W ι H (F h d lo hi) (fun d _ ι' H' => ∀ v, Rp M ι' H' d v → Q v H')
/-- the whole of a tuple is the tuple itself -/
def rSlTw (K : PySem.W.Frag) : V → Option Int → Option Int → Hp → VK → Prop := fun x lo hi H Q => ∃ a xs, x = .ref a ∧ SqT K H a xs ∧
  (HT.sIx xs.length 0 lo = 0 ∧ HT.sIx xs.length xs.length hi = xs.length) ∧ Q (.ref a) H
theorem sl_okD (hK : X.K = M.K) (hw : SlR X (rSlTw X.K)) : SlR X (rdSl M slR) := by
  intro pins s σ H x v vl vu lo hi sl Q I rx hs pl pu hh
  obtain ⟨W, ι, h, d, sim, r, po⟩ := hh
  have po : Po M W ι H (slR h d lo hi) (fun d _ ι' H' => ∀ v, Rp M ι' H' d v → Q v H') := po
  unfold slR at po
  split at po
  · obtain ⟨a, vs, rfl, q, l⟩ := r.tup_inv
    by_cases hc : HT.sIx vs.length 0 lo = 0 ∧ HT.sIx vs.length vs.length hi = vs.length
    · refine hw pins s σ H _ v vl vu lo hi sl Q I rx hs pl pu ⟨a, vs, rfl, by rw [hK]; exact q, hc, po ι H sim.refl sim _ (.tup q ?_)⟩
      have := cut_rp l lo hi
      unfold cutV at this
      rw [hc.1, hc.2] at this
      simpa using this
    · refine sl_tup pins s σ H _ v vl vu lo hi sl Q I rx hs pl pu ⟨a, vs, rfl, by rw [hK]; exact q, hc, fun p n => ?_⟩
      obtain ⟨x1, s1, t1⟩ := tup_new sim (cut_rp l lo hi) n
      exact po ι _ x1 s1 _ t1
  · obtain ⟨a, vs, rfl, _, q, l⟩ := r.fls_inv
    refine sl_list pins s σ H _ v vl vu lo hi sl Q I rx hs pl pu ⟨a, vs, rfl, SqL.of q, fun p n => ?_⟩
    obtain ⟨x1, s1, t1⟩ := fls_new sim (cut_rp l lo hi) n
    exact po ι _ x1 s1 _ t1
  · exact False.elim po

/-! ### new lists -/
/-- what a new list's maker hands on -/
def PN (M : Rl) (Q : VK) : List D → Hh → List Addr → Hp → Prop := fun xs _ ι' H' => ∀ p vs, RpL M ι' H' xs vs → H' p = none → Q (.ref p) (upd H' p (.lst vs))
def rd2N (M : Rl) (F : Hh → D → D → R (List D)) : R2 := fun x y H Q => ∃ (W : XK) (ι : List Addr) (h : Hh) (dx dy : D), Sim M ι h H ∧ Rp M ι H dx x ∧ Rp M ι H dy y ∧ Po M W ι H (F h dx dy) (PN M Q)
theorem lcat_ok : OpR X (binaryOp .Add) (rd2N M lcatR) := by
  intro pins s σ H x y v u Q I rx ry hh
  obtain ⟨W, ι, h, dx, dy, sim, r1, r2, po⟩ := hh
  unfold lcatR at po
  split at po
  · obtain ⟨hz, po⟩ := po.if_
    obtain ⟨a, vs, rfl, _, q1, l1⟩ := r1.fls_inv
    obtain ⟨b, ws, rfl, _, q2, l2⟩ := r2.fls_inv
    exact op_cat pins s σ H _ _ v u Q I rx ry ⟨a, b, vs, ws, rfl, rfl, q1, q2, by rw [line_eq, ← l1.length, ← l2.length]; exact hz, fun p n => po ι H sim.refl sim p _ (l1.append l2) n⟩
  · exact False.elim po
theorem lrep_ok : OpR X (binaryOp .Mult) (rd2N M lrepR) := by
  intro pins s σ H x y v u Q I rx ry hh
  obtain ⟨W, ι, h, dx, dy, sim, r1, r2, po⟩ := hh
  unfold lrepR at po
  split at po
  · obtain ⟨⟨h1, h2, hz⟩, po⟩ := po.if_
    obtain ⟨a, vs, rfl, _, q1, l1⟩ := r1.fls_inv
    cases r2.int_inv
    exact op_rep pins s σ H _ _ v u Q I rx ry ⟨a, _, vs, rfl, rfl, q1, h1, h2, by rw [line_eq, ← l1.length]; exact hz, fun p n => po ι H sim.refl sim p _ (l1.rep _) n⟩
  · exact False.elim po
def rd1N (M : Rl) (F : Hh → D → R (List D)) : List V → Hp → VK → Prop := fun vs H Q => ∃ (W : XK) (ι : List Addr) (h : Hh) (d : D) (v : V), vs = [v] ∧ Sim M ι h H ∧ Rp M ι H d v ∧ Po M W ι H (F h d) (PN M Q)
/-- list(d): the keys, locked or not -/
theorem list_keys (hc : X.calm = true) {pins : List (Addr × Obj)} {s : Shared} {σ : St} {a : Addr} {kvs : List (Key × V)} {Q : VK} (I : L2.Inv X pins σ H s) (hd : Rd H a (.dK kvs)) (go : ∀ p, H p = none → Q (.ref p) (upd H p (.lst (kvs.map fun p => kV p.1)))) :
    wpAny (model X.prog X.w) X.A (call (.type "list") [.ref a]) (EP X pins σ Q) X.xe s := by
  obtain ⟨z, lo, vs, rk, dd⟩ := dk_rd I.hok hd
  obtain ⟨ep, hat⟩ := dd.dictAt
  have hl : kvs.length = vs.length := rk.length
  refine PySem.W.kdl_call (PySem.W.kdl_dict (knd := mixKind X.prog X.w) (kvs := vs) (ep := ep) lo) (I.ok.hd hc) hat (by omega) fun h' tk acc c k at0 its => ⟨.ref s.heap.objs.size, upd H s.heap.objs.size (.lst (kvs.map fun p => kV p.1)), I.laid k (Nat.le_refl _) ?_, rfl, go _ (I.hok.fresh (Nat.le_refl _))⟩
  show ObjOk X.prog X.w _ _ _ (.lst (kvs.map fun p => kV p.1))
  refine ⟨by rw [List.length_map]; exact z, acc.toList, c, vals_of_at (by have e := its.1; simp only [List.length_map, Array.length_toList]; omega) fun j x w h1 h2 => ?_, by rw [Array.toArray_toList]; exact at0⟩
  obtain ⟨k1, y, hky, hi⟩ := its.2 j w (by rw [← Array.getElem?_toList]; exact h2)
  have e1 : (kvs.map (·.1))[j]? = some k1 := by rw [KV.keys rk, List.getElem?_map, hky]; rfl
  have e2 : (kvs.map fun p => kV p.1) = (kvs.map (·.1)).map kV := by rw [List.map_map]; rfl
  rw [e2, List.getElem?_map, e1] at h1
  cases h1
  exact keyIs_rel hi
theorem kV_rp {k : Key} : Rp M ι H (keyD k) (kV k) := by
  cases k with
  | inl i => exact .int i
  | inr x => exact .str x
theorem keys_rp : ∀ {kvs : List (Key × V)}, RpL M ι H (kvs.map fun p => keyD p.1) (kvs.map fun p => kV p.1)
  | [] => .nil
  | p :: kvs => .cons kV_rp keys_rp
theorem lof_ok (hK : X.K = M.K) (hc : X.calm = true) : CallR X (.type "list") (rd1N M lofR) := by
  intro pins s σ H vs us Q I r hh
  obtain ⟨W, ι, h, d, v, rfl, sim, r1, po⟩ := hh
  have po : Po M W ι H (lofR h d) (PN M Q) := po
  unfold lofR at po
  split at po
  · rename_i ks ws ed
    obtain ⟨a, kvs, rfl, hd, rfl, l⟩ := dct_ok sim r1 ed
    obtain ⟨_, po⟩ := po.if_
    obtain ⟨u, rfl, ru⟩ := vals1 r
    cases ru
    exact list_keys hc I hd fun p n => po ι H sim.refl sim p _ keys_rp n
  cases e : seqOf h d with
  | none => rw [e] at po; exact False.elim po
  | some xs =>
    rw [e] at po
    obtain ⟨a, ws, rfl, q1, l1⟩ := seq_ok sim r1 e
    exact call_list_of pins s σ H _ us Q I r ⟨a, ws, rfl, by rw [hK]; exact q1, fun p n => po ι H sim.refl sim p _ l1 n⟩
theorem lst_ok {d : D} {v : V} {xs : List D} (s : Sim M ι h H) (r : Rp M ι H d v) (e : lstS h d = some xs) : ∃ a vs, v = .ref a ∧ SqL M.K H a vs ∧ RpL M ι H xs vs := by
  cases d with
  | scr ys =>
    cases e
    obtain ⟨a, vs, rfl, q, l⟩ := r.scr_inv
    exact ⟨a, vs, rfl, q.sq, l⟩
  | fls ys =>
    cases e
    obtain ⟨a, vs, rfl, _, q, l⟩ := r.fls_inv
    exact ⟨a, vs, rfl, SqL.of q, l⟩
  | ref r' =>
    simp only [lstS, lstOf] at e
    split at e
    · rename_i ys e1
      cases e
      obtain ⟨a, vs, rfl, _, q, l⟩ := s.list r e1
      exact ⟨a, vs, rfl, SqL.of q, l⟩
    · cases e
  | _ => cases e
def rdSlN (M : Rl) (F : Hh → D → Option Int → Option Int → R (List D)) : V → Option Int → Option Int → Hp → VK → Prop := fun x lo hi H Q => ∃ (W : XK) (ι : List Addr) (h : Hh) (d : D), Sim M ι h H ∧ Rp M ι H d x ∧ Po M W ι H (F h d lo hi) (PN M Q)
theorem lsl_ok (hK : X.K = M.K) : SlR X (rdSlN M lslR) := by
  intro pins s σ H x v vl vu lo hi sl Q I rx hs pl pu hh
  obtain ⟨W, ι, h, d, sim, r, po⟩ := hh
  obtain ⟨xs, e, po⟩ := po.opt
  obtain ⟨a, vs, rfl, q, l⟩ := lst_ok sim r e
  exact sl_list pins s σ H _ v vl vu lo hi sl Q I rx hs pl pu ⟨a, vs, rfl, by rw [hK]; exact q, fun p n => po ι H sim.refl sim p _ (cut_rp l lo hi) n⟩

/-! ### methods of lists -/
def rdM (M : Rl) (F : Hh → D → List D → R D) : V → List V → Hp → VK → Prop := fun x vs H Q => ∃ (W : XK) (ι : List Addr) (h : Hh) (d : D) (ds : List D), Sim M ι h H ∧ Rp M ι H d x ∧ RpL M ι H ds vs ∧ Po M W ι H (F h d ds) (fun d _ ι' H' => ∀ v, Rp M ι' H' d v → Q v H')
theorem RpL.no {vs : List V} (l : RpL M ι H [] vs) : vs = [] := by cases l; rfl
/-- a list of the machine's is changed -/
theorem lst_set {r : Nat} {a : Addr} {ds : List D} {vs : List V} {ws : List V} (s : Sim M ι h H) (e : ι[r]? = some a) (e0 : H a = some (.lst ws)) (l : RpL M ι H ds vs) : Ext M ι H ι (upd H a (.lst vs)) ∧ Sim M ι (h.set r (.lst ds)) (upd H a (.lst vs)) :=
  ⟨.write s e (nf_lst e0), s.write e (nf_lst e0) ⟨vs, upd_same, l.mono (.write s e (nf_lst e0))⟩⟩
theorem mt_append_ok : MtR X "list.append" (rdM M mtAppend) := by
  intro pins s σ H x vs v us Q I rx ru hh
  obtain ⟨W, ι, h, d, ds, sim, r1, l, po⟩ := hh
  unfold mtAppend at po
  split at po
  · split at po
    · rename_i xs e
      obtain ⟨hz, po⟩ := po.if_
      obtain ⟨y, rfl, ry⟩ := l.one
      obtain ⟨a, ws, rfl, ea, q, lx⟩ := sim.list r1 e
      obtain ⟨x1, s1⟩ := lst_set sim ea q (lx.append (.cons ry .nil))
      exact mt_append pins s σ H _ _ v us Q I rx ru ⟨a, ws, y, rfl, rfl, q, by rw [line_eq, ← lx.length]; exact hz, po ι _ x1 s1 _ .non⟩
    · exact False.elim po
  · exact False.elim po
theorem mt_pop0_ok : MtR X "list.pop" (rdM M mtPop0) := by
  intro pins s σ H x vs v us Q I rx ru hh
  obtain ⟨W, ι, h, d, ds, sim, r1, l, po⟩ := hh
  unfold mtPop0 at po
  split at po
  · split at po
    · rename_i xs e
      obtain ⟨y, ey, po⟩ := po.opt
      cases l.no
      obtain ⟨a, ws, rfl, ea, q, lx⟩ := sim.list r1 e
      obtain ⟨x1, s1⟩ := lst_set sim ea q lx.dropLast
      obtain ⟨w, ew, rw⟩ := lx.get ey
      exact mt_pop pins s σ H _ _ v us Q I rx ru ⟨a, ws, w, rfl, rfl, q, by rw [← lx.length]; exact ew, po ι _ x1 s1 _ (rw.mono x1)⟩
    · exact False.elim po
  · exact False.elim po
theorem mt_pop1_ok : MtR X "list.pop" (rdM M mtPop1) := by
  intro pins s σ H x vs v us Q I rx ru hh
  obtain ⟨W, ι, h, d, ds, sim, r1, l, po⟩ := hh
  unfold mtPop1 at po
  split at po
  · split at po
    · rename_i xs e
      obtain ⟨⟨h1, h2⟩, po⟩ := po.if_
      obtain ⟨k, ek, po⟩ := po.opt
      obtain ⟨y, ey, po⟩ := po.opt
      obtain ⟨iv, rfl, ri⟩ := l.one
      cases ri.int_inv
      obtain ⟨a, ws, rfl, ea, q, lx⟩ := sim.list r1 e
      obtain ⟨x1, s1⟩ := lst_set sim ea q (lx.eraseIdx k)
      obtain ⟨w, ew, rw⟩ := lx.get ey
      exact mt_popAt pins s σ H _ _ v us Q I rx ru ⟨a, ws, _, k, w, rfl, rfl, q, h1, h2, by rw [← lx.length]; exact ek, ew, po ι _ x1 s1 _ (rw.mono x1)⟩
    · exact False.elim po
  · exact False.elim po
theorem mt_insert_ok : MtR X "list.insert" (rdM M mtInsert) := by
  intro pins s σ H x vs v us Q I rx ru hh
  obtain ⟨W, ι, h, d, ds, sim, r1, l, po⟩ := hh
  unfold mtInsert at po
  split at po
  · split at po
    · rename_i xs e
      obtain ⟨⟨h0, h1, h2⟩, po⟩ := po.if_
      obtain ⟨iv, y, rfl, ri, ry⟩ := l.two
      cases ri.int_inv
      obtain ⟨a, ws, rfl, ea, q, lx⟩ := sim.list r1 e
      obtain ⟨x1, s1⟩ := lst_set sim ea q (((lx.take _).append (.cons ry .nil)).append (lx.drop _))
      exact mt_insert pins s σ H _ _ v us Q I rx ru ⟨a, ws, _, y, rfl, rfl, q, by rw [line_eq, ← lx.length]; exact h0, h1, h2, po ι _ x1 s1 _ .non⟩
    · exact False.elim po
  · exact False.elim po
theorem idx_facts : ∀ {ns : List Int} {i : Int}, i ∈ ns → (ns.map V.int)[ns.idxOf i]? = some (V.int i) ∧ ∀ (m : Nat) (z : V), m < ns.idxOf i → (ns.map V.int)[m]? = some z → eqV z (.int i) = false
  | n :: ns, i, hi => by
    rw [List.idxOf_cons]
    by_cases e : n = i
    · subst e
      simp
    · have hb : (n == i) = false := beq_eq_false_iff_ne.mpr e
      rw [hb]
      have hi' : i ∈ ns := by
        rcases List.mem_cons.mp hi with z | z
        · exact absurd z.symm e
        · exact z
      obtain ⟨h1, h2⟩ := idx_facts hi'
      refine ⟨by simpa using h1, fun m z hm hz => ?_⟩
      cases m with
      | zero =>
        simp at hz
        subst hz
        exact hb
      | succ m => exact h2 m z (by simpa using hm) (by simpa using hz)
theorem mt_index_ok (hK : X.K = M.K) : MtR X "list.index" (rdM M mtIndex) := by
  intro pins s σ H x vs v us Q I rx ru hh
  obtain ⟨W, ι, h, d, ds, sim, r1, l, po⟩ := hh
  unfold mtIndex at po
  split at po
  · obtain ⟨ns, e, po⟩ := po.opt
    obtain ⟨hi, po⟩ := po.if_
    obtain ⟨iv, rfl, ri⟩ := l.one
    cases ri.int_inv
    cases e1 : lstOf h d with
    | none => rw [e1] at e; cases e
    | some xs =>
      rw [e1] at e
      have e2 := asI_eq e
      subst e2
      have e3 : lstS h d = some (ns.map D.int) := by
        cases d with
        | scr _ => cases e1
        | _ => exact e1
      obtain ⟨a, ws, rfl, q, lx⟩ := lst_ok sim r1 e3
      have := lx.intsD
      subst this
      obtain ⟨f1, f2⟩ := idx_facts hi
      exact mt_index pins s σ H _ _ v us Q I rx ru ⟨a, _, _, _, _, rfl, rfl, by rw [hK]; exact q, rfl, by simp [List.all_eq_true, flatV], f1, by simp [eqV], f2, po ι H sim.refl sim _ (.int _)⟩
  · exact False.elim po
end
end Mx
set_option Elab.async false
set_option linter.all false
set_option maxRecDepth 100000
set_option maxHeartbeats 2000000
namespace Mx
open PySem L2
/-! ### what a loop walks -/
abbrev Mw (M : Rl) (ex : List Addr) : Rl := { M with ex := ex }
/-- the items xs, from a state on; og: the object that holds them -/
structure Wk (M : Rl) (ι : List Addr) (H : Hp) (xs : List D) (og : Option (Nat × List D)) (J : It) : Prop where
  go : ∀ i ex ι' h' H', i < xs.length → Pres M ι H (Mw M ex) ι' H' → Sim (Mw M ex) ι' h' H' → gok h' og → J.go i H'
  stop : ∀ ex ι' h' H', Pres M ι H (Mw M ex) ι' H' → Sim (Mw M ex) ι' h' H' → gok h' og → J.stop xs.length H'
  yld : ∀ i ex ι' h' H' x H2, i < xs.length → Pres M ι H (Mw M ex) ι' H' → Sim (Mw M ex) ι' h' H' → gok h' og → J.yld i H' x H2 → ∃ d, xs[i]? = some d ∧ Ext (Mw M ex) ι' H' ι' H2 ∧ Sim (Mw M ex) ι' h' H2 ∧ Rp (Mw M ex) ι' H2 d x
section
variable {M : Rl} {ι : List Addr} {H : Hp} {xs : List D} {og : Option (Nat × List D)} {a : Addr} {h : Hh}
theorem wk_list (k : ∀ ex ι' h' H', Pres M ι H (Mw M ex) ι' H' → Sim (Mw M ex) ι' h' H' → gok h' og → ∃ vs, SqL M.K H' a vs ∧ RpL (Mw M ex) ι' H' xs vs) : Wk M ι H xs og (Itl M.K a) where
  go := fun i ex ι' h' H' hi x s g => by
    obtain ⟨vs, q, l⟩ := k ex ι' h' H' x s g
    exact ⟨vs, vs[i]'(by rw [← l.length]; exact hi), q, List.getElem?_eq_getElem _⟩
  stop := fun ex ι' h' H' x s g => by
    obtain ⟨vs, q, l⟩ := k ex ι' h' H' x s g
    exact ⟨vs, q, by rw [l.length]; exact Nat.le_refl _⟩
  yld := fun i ex ι' h' H' x H2 hi e s g y => by
    obtain ⟨vs, q, l⟩ := k ex ι' h' H' e s g
    obtain ⟨rfl, y⟩ := y
    have hx := y vs q
    obtain ⟨v, h1, h2⟩ := l.get (i := i) (List.getElem?_eq_getElem hi)
    rw [hx] at h1; cases h1
    exact ⟨_, List.getElem?_eq_getElem hi, s.refl, s, h2⟩
theorem wk_tup (k : ∀ ex ι' h' H', Pres M ι H (Mw M ex) ι' H' → Sim (Mw M ex) ι' h' H' → gok h' og → ∃ vs, SqT M.K H' a vs ∧ RpL (Mw M ex) ι' H' xs vs) : Wk M ι H xs og (Itt M.K a) where
  go := fun i ex ι' h' H' hi x s g => by
    obtain ⟨vs, q, l⟩ := k ex ι' h' H' x s g
    exact ⟨vs, vs[i]'(by rw [← l.length]; exact hi), q, List.getElem?_eq_getElem _⟩
  stop := fun ex ι' h' H' x s g => by
    obtain ⟨vs, q, l⟩ := k ex ι' h' H' x s g
    exact ⟨vs, q, by rw [l.length]; exact Nat.le_refl _⟩
  yld := fun i ex ι' h' H' x H2 hi e s g y => by
    obtain ⟨vs, q, l⟩ := k ex ι' h' H' e s g
    obtain ⟨rfl, y⟩ := y
    have hx := y vs q
    obtain ⟨v, h1, h2⟩ := l.get (i := i) (List.getElem?_eq_getElem hi)
    rw [hx] at h1; cases h1
    exact ⟨_, List.getElem?_eq_getElem hi, s.refl, s, h2⟩
theorem wk_rng {lo : Int} {n : Nat} : Wk M ι H ((List.range n).map fun i : Nat => D.int (lo + i)) none (Itr lo n) where
  go := fun i ex ι' h' H' hi _ _ _ => by
    have hi : i < n := by simpa using hi
    exact hi
  stop := fun ex ι' h' H' _ _ _ => by simp [Itr]
  yld := fun i ex ι' h' H' x H2 hi e s g y => by
    obtain ⟨rfl, rfl⟩ := y
    have hi : i < n := by simpa using hi
    exact ⟨.int (lo + i), by simp [hi], s.refl, s, .int _⟩
theorem wk_str {x : Str} : Wk M ι H (chars x) none (Its x) where
  go := fun i ex ι' h' H' hi _ _ _ => by simpa [chars, Its] using hi
  stop := fun ex ι' h' H' _ _ _ => by simp [chars, Its]
  yld := fun i ex ι' h' H' v H2 hi e s g y => by
    obtain ⟨rfl, c, hc, rfl⟩ := y
    exact ⟨.str ⟨#[c]⟩, by simp [chars, hc], s.refl, s, .str _⟩

/-! ### enumerate -/
/-- the tuple at a, each item in a new pair -/
def IteT (K : PySem.W.Frag) (a : Addr) : It :=
  ⟨fun i H => ∃ (xs : List V) (x : V), SqT K H a xs ∧ xs[i]? = some x, fun i H v H' => ∃ T x, v = .ref T ∧ H T = none ∧ H' = upd H T (.tup [.int (i : Nat), x]) ∧ ∀ xs, SqT K H a xs → xs[i]? = some x, fun i H => ∃ xs : List V, SqT K H a xs ∧ xs.length = i⟩
theorem enumItems {xs : List D} {i : Nat} (hi : i < xs.length) : ((List.range xs.length).zipWith (fun (i : Nat) x => D.tup [.int i, x]) xs)[i]? = some (.tup [.int i, xs[i]]) := by
  simp [List.getElem?_zipWith, hi]
theorem pair_new {ι' : List Addr} {H' : Hp} {h' : Hh} {i : Nat} {d : D} {x : V} {T : Addr} (s : Sim M ι' h' H') (r : Rp M ι' H' d x) (n : H' T = none) :
    Ext M ι' H' ι' (upd H' T (.tup [.int (i : Nat), x])) ∧ Sim M ι' h' (upd H' T (.tup [.int (i : Nat), x])) ∧ Rp M ι' (upd H' T (.tup [.int (i : Nat), x])) (.tup [.int i, d]) (.ref T) :=
  tup_new s (.cons (.int _) (.cons r .nil)) n
theorem wk_enumL (k : ∀ ex ι' h' H', Pres M ι H (Mw M ex) ι' H' → Sim (Mw M ex) ι' h' H' → gok h' og → ∃ vs, SqL M.K H' a vs ∧ RpL (Mw M ex) ι' H' xs vs) : Wk M ι H ((List.range xs.length).zipWith (fun (i : Nat) x => D.tup [.int i, x]) xs) og (Ite M.K a) where
  go := fun i ex ι' h' H' hi x s g => by
    obtain ⟨vs, q, l⟩ := k ex ι' h' H' x s g
    have hi : i < xs.length := by simpa using hi
    exact ⟨vs, vs[i]'(by rw [← l.length]; exact hi), q, List.getElem?_eq_getElem _⟩
  stop := fun ex ι' h' H' x s g => by
    obtain ⟨vs, q, l⟩ := k ex ι' h' H' x s g
    exact ⟨vs, q, by simp [l.length]⟩
  yld := fun i ex ι' h' H' x H2 hi e s g y => by
    obtain ⟨vs, q, l⟩ := k ex ι' h' H' e s g
    have hi : i < xs.length := by simpa using hi
    obtain ⟨T, v, rfl, n, rfl, y⟩ := y
    have hx := y vs q
    obtain ⟨w, h1, h2⟩ := l.get (i := i) (List.getElem?_eq_getElem hi)
    rw [hx] at h1; cases h1
    obtain ⟨p1, p2, p3⟩ := pair_new (i := i) s h2 n
    exact ⟨_, enumItems hi, p1, p2, p3⟩
theorem wk_enumT (k : ∀ ex ι' h' H', Pres M ι H (Mw M ex) ι' H' → Sim (Mw M ex) ι' h' H' → ∃ vs, SqT M.K H' a vs ∧ RpL (Mw M ex) ι' H' xs vs) : Wk M ι H ((List.range xs.length).zipWith (fun (i : Nat) x => D.tup [.int i, x]) xs) none (IteT M.K a) where
  go := fun i ex ι' h' H' hi x s g => by
    obtain ⟨vs, q, l⟩ := k ex ι' h' H' x s
    have hi : i < xs.length := by simpa using hi
    exact ⟨vs, vs[i]'(by rw [← l.length]; exact hi), q, List.getElem?_eq_getElem _⟩
  stop := fun ex ι' h' H' x s g => by
    obtain ⟨vs, q, l⟩ := k ex ι' h' H' x s
    exact ⟨vs, q, by simp [l.length]⟩
  yld := fun i ex ι' h' H' x H2 hi e s g y => by
    obtain ⟨vs, q, l⟩ := k ex ι' h' H' e s
    have hi : i < xs.length := by simpa using hi
    obtain ⟨T, v, rfl, n, rfl, y⟩ := y
    have hx := y vs q
    obtain ⟨w, h1, h2⟩ := l.get (i := i) (List.getElem?_eq_getElem hi)
    rw [hx] at h1; cases h1
    obtain ⟨p1, p2, p3⟩ := pair_new (i := i) s h2 n
    exact ⟨_, enumItems hi, p1, p2, p3⟩
end

section
variable {prog : Program} {w : World} {A : Around} {E : Value → Shared → Prop} {s : Shared}
set_option maxHeartbeats 1000000 in
theorem meets_enumerate_new1 {v : Value} {o : Obj} {H : Heap → Prop} (B : Begins v o H) :
    Meets (Builtin.«enumerate.__new__» ⟨[.type "enumerate", v], []⟩) (fun _ R s => H s.heap ∧
      R (.ok (.ret (.ref (s.heap.push o).objs.size))) { s with heap := (s.heap.push o).push { cls := .type "enumerate", data := .fields #[.none, .bool false, .ref s.heap.objs.size, rawInt 0, .none, .none] } }) :=
  .of_wp fun prog w A R s h => by
    obtain ⟨hp, g, d, tk, os⟩ := s; obtain ⟨h1, h⟩ := h
    have hsub := sub_enumerate
    have q1 : ∀ {A' : Around} {E : Value → Shared → Prop} {Q : Value → Shared → Prop}, Q (.ref hp.objs.size) ⟨hp.push o, g, d, tk, os⟩ → wpAny (model prog w) A' (pyIter v) Q E ⟨hp, g, d, tk, os⟩ :=
      fun q => B.iter prog w _ _ ⟨hp, g, d, tk, os⟩ _ h1 q
    wp_walk using q1
    refine wpAny_stack_any fun st => wpAny_pure ?_
    split
    · rename_i c _ _ _ _ _
      cases (c == Value.type "enumerate")
      · wp_walk using q1
        exact ⟨_, rfl, h⟩
      · wp_walk using q1
        exact ⟨_, rfl, h⟩
    · wp_walk using q1
      exact ⟨_, rfl, h⟩
theorem enum_begins1 {v : Value} {o : Obj} {H : Heap → Prop} {Q : Value → Shared → Prop} (B : Begins v o H) (h1 : H s.heap)
    (h : ∀ h', IsEnum h' (s.heap.objs.size + 1) s.heap.objs.size 0 .none → h'.get? s.heap.objs.size = some o → h'.objs.size = s.heap.objs.size + 2 →
      (∀ b o, s.heap.get? b = some o → h'.get? b = some o) → Q (.ref (s.heap.objs.size + 1)) { s with heap := h' }) :
    wpAny (model prog w) A (call (.type "enumerate") [v]) Q E s := by
  refine callType_new F.called_enumerate (by decide) (F.typeCall_enumerate_1 _) (F.newCall_enumerate_1 _) (fun obj => F.args_object_init_2 obj _) F.entry_enumerate_new
    (meets_enumerate_new1 B) ⟨h1, ?_⟩
  have hz : (s.heap.push o).objs.size = s.heap.objs.size + 1 := Heap.size_push ..
  show _ ∧ _
  rw [hz]
  have he : IsEnum ((s.heap.push o).push { cls := .type "enumerate", data := .fields #[.none, .bool false, .ref s.heap.objs.size, rawInt 0, .none, .none] }) (s.heap.objs.size + 1) s.heap.objs.size 0 .none := by
    have := Heap.get?_push_size (s.heap.push o) (o := { cls := .type "enumerate", data := .fields #[.none, .bool false, .ref s.heap.objs.size, rawInt 0, .none, .none] }) rfl
    rw [hz] at this; exact this
  refine ⟨⟨_, he, rfl⟩, h _ he (Heap.get?_push_of_some _ (Heap.get?_push_size _ B.free)) (by rw [Heap.size_push, hz]) fun b o x => Heap.get?_push_of_some _ (Heap.get?_push_of_some _ x)⟩
end
theorem turn_enumT {P : Program} {w : World} {K : PySem.W.Frag} {elts : List Expr} {kk : Nat} {tpos : Pos} (a e it : Addr) :
    Turn P w K (.Tuple elts kk tpos) (IteT K a) [e, it] e (fun i h => (∃ old, IsEnum h e it ((i : Nat) : Int) old) ∧ h.IsTupleIter it a i ∧ e ≠ it) where
  mem := by simp
  obj := fun i h st b hb => by
    obtain ⟨⟨old, he⟩, ⟨o, ho, hc, hd⟩, _⟩ := st
    have e' : b = e ∨ b = it := by simpa using hb
    rcases e' with z | z
    · rw [z]; exact ⟨_, he, fun v q => nomatch q⟩
    · rw [z]; exact ⟨o, ho, fun v q => by rw [hd] at q; cases q⟩
  keep := fun i h h' st k => let ⟨⟨old, he⟩, hi, hne⟩ := st; ⟨⟨old, k e (by simp) _ he⟩, hi.at fun o q => k it (by simp) o q, hne⟩
  item := by
    intro X hP hw hK hc i pins s σ H E I hf st hg
    subst hP hw hK
    obtain ⟨⟨old, he⟩, hit, hne⟩ := st
    obtain ⟨xs, x, hq, hx⟩ := hg
    obtain ⟨its, rv, p, hz⟩ := I.tuple hq
    obtain ⟨u, hu, ru⟩ := rv.get hx
    have hel : e < s.heap.objs.size := Heap.lt_size he
    have hil : it < s.heap.objs.size := by obtain ⟨_, q, _⟩ := hit; exact Heap.lt_size q
    have pt : s.heap.IsTuple a its.toArray := p
    have hai : a ≠ it := fun z => by
      obtain ⟨o1, q1, c1, _⟩ := pt; obtain ⟨o2, q2, c2, _⟩ := hit
      rw [z, q2] at q1; cases q1; rw [c1] at c2; exact absurd c2 (by decide)
    have hae : a ≠ e := fun z => by
      obtain ⟨o1, q1, c1, _⟩ := pt
      rw [z, he] at q1; cases q1; exact Value.noConfusion c1 (fun q => absurd q (by decide))
    have hlt : i < its.toArray.size := by
      have := (List.getElem?_eq_some_iff.mp hu).1
      simpa using this
    refine wpAny_pyNext_enum_itemC (Draws.tuple (prog := X.prog) (w := X.w) (A := X.A.in1) (I.ok.hd hc) it a hai its.toArray) he ⟨hit, pt⟩ hlt (Ne.symm (Ne.symm hne)) (fun hm => ?_) fun x' h' tk hP ho hit' hT hsz hk => ?_
    · rcases List.mem_cons.mp hm with z | hm
      · exact hne z
      · exact hae (List.mem_singleton.mp hm).symm
    · have hu' : its[i]? = some x' := by simpa using hP
      rw [hu] at hu'; cases hu'
      refine ⟨_, rfl, wpAny_letOwnedTupleGo_enum (s := { s with heap := h', toks := tk + 1 }) ho fun h'' he' sb => ?_⟩
      have hT2 : h''.get? s.heap.objs.size = some { cls := .type "tuple", data := .seq #[.int i tk, u] } := (sb.2 _ (Nat.ne_of_gt hel)).trans hT
      have new : ObjOk X.prog X.w (upd H s.heap.objs.size (.tup [.int (i : Nat), x])) h'' s.heap.objs.size (.tup [.int (i : Nat), x]) :=
        ⟨by show 2 ≤ sizeLine; decide, [.int i tk, u], .cons ⟨_, rfl⟩ (.cons ru .nil), ⟨_, hT2, rfl, _, rfl⟩⟩
      have I1 : Inv X pins σ (upd H s.heap.objs.size (.tup [.int (i : Nat), x])) { s with heap := h'', toks := tk + 1 } :=
        I.turnedNew (ch := [e, it]) (fun b ob hb q => (sb.2 b (fun z => hb (by simp [z]))).trans (hk b ob (fun z => hb (by simp [z])) (fun z => hb (by simp [z])) q)) hf (Nat.le_refl _) new
      refine ⟨.ref s.heap.objs.size, _, I1, rfl, ⟨_, x, rfl, I.hok.fresh (Nat.le_refl _), rfl, fun ys hy => by rw [I.tuple_inj hy hq]; exact hx⟩, ⟨⟨u, ?_⟩, hit'.1.at fun o q => (sb.2 it (Ne.symm hne)).trans q, hne⟩, fun b hb => ?_⟩
      · have e1 : ((i + 1 : Nat) : Int) = (i : Int) + 1 := by omega
        rw [e1]; exact he'
      · have hb' : b < s.heap.objs.size := by
          have e' : b = e ∨ b = it := by simpa using hb
          rcases e' with z | z
          · rw [z]; exact hel
          · rw [z]; exact hil
        rw [upd_ne (Nat.ne_of_lt hb')]
        exact (hf b hb).1
  done := by
    intro X hP hw hK hc i pins s σ H E I hf st hg
    subst hP hw hK
    obtain ⟨⟨old, he⟩, hit, hne⟩ := st
    obtain ⟨xs, hq, hx⟩ := hg
    obtain ⟨its, rv, p, hz⟩ := I.tuple hq
    obtain ⟨f0, f1, f2, f3, f4, f5⟩ := hf it (by simp)
    have hl := rv.length
    have pt : s.heap.IsTuple a its.toArray := p
    have hai : a ≠ it := fun z => by
      obtain ⟨o1, q1, c1, _⟩ := pt; obtain ⟨o2, q2, c2, _⟩ := hit
      rw [z, q2] at q1; cases q1; rw [c1] at c2; exact absurd c2 (by decide)
    have hi' : its.toArray.size = i := by simp; omega
    exact wpAny_pyNext_enum_endD (Draws.tuple (prog := X.prog) (w := X.w) (A := X.A.in1) (I.ok.hd hc) it a hai its.toArray) he ⟨by rw [hi']; exact hit, pt⟩ fun h' eb => ⟨rfl, I.turned (t' := s.toks) (fun b o hb q => eb b o hb q) f0 f1 f3 f4 f5⟩
  self := fun A i s Q E st h => let ⟨⟨_, he⟩, _⟩ := st; wpAny_pyIter_enum he h
section
variable {X : Cx} {tg e : Expr} {te : TE}
/-- a list, a tuple, a text walked -/
def tAny (K : PySem.W.Frag) (te : TE) : TI := fun σ H R => te σ H fun x H1 => (∃ a, x = .ref a ∧ (∃ xs, SqL K H1 a xs) ∧ R (Itl K a) H1) ∨ (∃ a, x = .ref a ∧ (∃ xs, SqT K H1 a xs) ∧ R (Itt K a) H1) ∨ ∃ z, x = .str z ∧ R (Its z) H1
theorem pi_any (he : PE X e te) : PI X tg e (tAny X.K te) := by
  refine ⟨fun pins s σ H R I h => ?_⟩
  refine thn (he.run pins s σ H _ I h) fun v s1 ⟨x, H1, I1, r1, q1⟩ => ?_
  rcases q1 with ⟨a, rfl, ⟨xs, hq⟩, q⟩ | ⟨a, rfl, ⟨xs, hq⟩, q⟩ | ⟨z, rfl, q⟩
  · cases r1
    obtain ⟨its, rv, p, hz⟩ := I1.list hq
    refine wpAny_pyIter_list p.isList ?_
    refine ⟨s1.heap.objs.size, [s1.heap.objs.size], _, _, H1, rfl, I1.kept (t' := s1.toks) fun b o e => Heap.get?_push_of_some _ e, turn_list a _, ⟨_, Heap.get?_push_size _ rfl, rfl, rfl⟩, fun b hb => ?_, q⟩
    have e : b = s1.heap.objs.size := by simpa using hb
    subst e
    exact I1.fpOk (Nat.le_refl _) (I1.hok.fresh (Nat.le_refl _))
  · cases r1
    obtain ⟨its, rv, p, hz⟩ := I1.tuple hq
    refine wpAny_pyIter_tuple (show s1.heap.IsTuple a its.toArray from p) ?_
    refine ⟨s1.heap.objs.size, [s1.heap.objs.size], _, _, H1, rfl, I1.kept (t' := s1.toks) fun b o e => Heap.get?_push_of_some _ e, turn_tuple a _, ⟨_, Heap.get?_push_size _ rfl, rfl, rfl⟩, fun b hb => ?_, q⟩
    have e : b = s1.heap.objs.size := by simpa using hb
    subst e
    exact I1.fpOk (Nat.le_refl _) (I1.hok.fresh (Nat.le_refl _))
  · obtain ⟨t, rfl⟩ := r1
    cases ha : z.cps.all (· < 128)
    · exact wpAny_pyIter_wide ha (pi_one (tk := s1.toks) I1 _ (turn_str _ z t "str_iterator" (.inr rfl)) ⟨_, Heap.get?_push_size _ rfl, rfl, rfl⟩ q)
    · exact wpAny_pyIter_ascii ha (pi_one (tk := s1.toks) I1 _ (turn_str _ z t "str_ascii_iterator" (.inl rfl)) ⟨_, Heap.get?_push_size _ rfl, rfl, rfl⟩ q)
/-- enumerate(x), x a list or a tuple -/
def tEnum (K : PySem.W.Frag) (ta : TA) : TI := fun σ H R => ta σ H fun vs H1 => ∃ a, vs = [.ref a] ∧ ((∃ xs, SqL K H1 a xs) ∧ R (Ite K a) H1 ∨ (∃ xs, SqT K H1 a xs) ∧ R (IteT K a) H1)
theorem pi_enumA {ta : TA} {p pos tpos : Pos} {elts : List Expr} {kk : Nat} (hg : Gl X "enumerate") (hm : X.mg "enumerate" = none) (ha : PA X [e] ta) (hs : starEach [e] X.env = [(false, eval e X.env)]) :
    PI X (.Tuple elts kk tpos) (.Call (.Name "enumerate" p) [e] [] pos) (tEnum X.K ta) := by
  refine ⟨fun pins s σ H R I h => ?_⟩
  refine PyProof.Rows.Call_ (ld_blt I hg hm PyProof.Rows.boot_enumerate (PyProof.Rows.callWith_type1 (thn (ha.run pos pins s σ H _ I h) fun us s1 ⟨vs, H1, I1, r1, q1⟩ => ?_) hs rfl))
  obtain ⟨a, ex, q⟩ := q1
  subst ex
  cases r1 with
  | cons r rr =>
    cases rr
    cases r
    rcases q with ⟨⟨xs, hq⟩, q⟩ | ⟨⟨xs, hq⟩, q⟩
    · obtain ⟨its, rv, p', hz⟩ := I1.list hq
      refine call_enumerate_list p'.isList fun h' he hit hsz hk => wpAny_pyIter_enum he ?_
      have I2 : Inv X pins σ H1 { s1 with heap := h' } := I1.kept (t' := s1.toks) hk
      refine ⟨s1.heap.objs.size + 1, [s1.heap.objs.size + 1, s1.heap.objs.size], _, _, H1, rfl, I2, turn_enum a (s1.heap.objs.size + 1) s1.heap.objs.size, ⟨⟨.none, he⟩, hit, Nat.succ_ne_self _⟩, fun b hb => ?_, q⟩
      have e' : b = s1.heap.objs.size + 1 ∨ b = s1.heap.objs.size := by simpa using hb
      have hle : s1.heap.objs.size ≤ b := by
        rcases e' with z | z
        · rw [z]; exact Nat.le_add_right _ _
        · rw [z]; exact Nat.le_refl _
      exact I1.fpOk hle (I1.hok.fresh hle)
    · obtain ⟨its, rv, p', hz⟩ := I1.tuple hq
      have pt : s1.heap.IsTuple a its.toArray := p'
      refine enum_begins1 (begins_tuple a its.toArray) pt fun h' he hit hsz hk => wpAny_pyIter_enum he ?_
      have I2 : Inv X pins σ H1 { s1 with heap := h' } := I1.kept (t' := s1.toks) hk
      refine ⟨s1.heap.objs.size + 1, [s1.heap.objs.size + 1, s1.heap.objs.size], _, _, H1, rfl, I2, turn_enumT a (s1.heap.objs.size + 1) s1.heap.objs.size, ⟨⟨.none, he⟩, ⟨_, hit, rfl, rfl⟩, Nat.succ_ne_self _⟩, fun b hb => ?_, q⟩
      have e' : b = s1.heap.objs.size + 1 ∨ b = s1.heap.objs.size := by simpa using hb
      have hle : s1.heap.objs.size ≤ b := by
        rcases e' with z | z
        · rw [z]; exact Nat.le_add_right _ _
        · rw [z]; exact Nat.le_refl _
      exact I1.fpOk hle (I1.hok.fresh hle)
end
end Mx
set_option Elab.async false
set_option linter.all false
set_option maxRecDepth 100000
set_option maxHeartbeats 4000000
namespace Mx
open PySem PySem.W PySem.Calls PyProof.Rows L2
/-! ### an own exception whose __init__ says super().__init__(text), then keeps its one argument -/
abbrev exB : List Value := [.type "Exception", .type "BaseException", .type "object"]
/-- the __init__ of such a class -/
structure XcD where
  fI : Addr
  cc : Addr
  cda : Addr
  qual : Str
  params : Arguments
  scope : Scope
  dV : Value
  kV : Value
  doc : Value
  pm : Value
  ct : Value
  oc : Value
  an : Option Addr
  od : Option Addr
  osl : Array (Option Value)
  sf : Str
  x : Str
  txt : Str
  k : Nat
  p0 : Pos
  p1 : Pos
  p2 : Pos
  p3 : Pos
  p4 : Pos
  p5 : Pos
  p6 : Pos
  p7 : Pos
  p8 : Pos
  p9 : Pos
def XcD.body (d : XcD) (f : Str) : List Stmt :=
  [.Expr (.Call (.Attribute (.Call (.Name "super" d.p0) [] [] d.p1) "__init__" d.p2) [.Constant (.str d.txt) d.k d.p3] [] d.p4) d.p5, .Assign [.Attribute (.Name d.sf d.p6) f d.p7] (.Name d.x d.p8) d.p9]
abbrev XcD.fd (d : XcD) (f : Str) : FuncData := ksFn "__init__" d.qual d.params (d.body f) d.scope d.dV d.kV d.doc d.pm d.an (.ref d.cda) d.ct d.cc
structure XcOk (prog : Program) (K : PySem.W.Frag) (C : Addr) (f : Str) (d : XcD) : Prop where
  q : excInitIn K C exB "Exception.__new__" = true
  ov : excOver K C exB = true
  sa : findIn K (.ref C) "__setattr__" = some (some (.builtin "object.__setattr__"))
  hd : hasDictIn K C = true
  tk : takerIn K C f = some none
  exC : subIn K (.ref C) (.type "BaseException") = some true
  exE : subIn K (.ref C) (.type "Exception") = some true
  tyC : typeIn K (.ref C) = some (.type "type")
  kC : keepIn K (.ref C) = true
  mr : mroIn K C (.ref C) = some true
  cl : ∃ cd, clsIn K C = some cd
  su : ks_superIn K C C "__init__" = some (some (.builtin "Exception.__init__"))
  st : nsIn K cStatics "thirdparty.any" = some none
  top : (prog.main.scope.names.lookup ("super" : Str)).isSome = false
  fi : findIn K (.ref C) "__init__" = some (some (.ref d.fI))
  lk : K.lookup d.fI = some ⟨d.oc, d.od, .func (d.fd f), d.osl⟩
  oc : d.oc = .type "function"
  cd : codeIn K (.ref d.cda) d.qual = true
  bd : ∀ (s : Shared) (a u : Value), BindsTo s (d.fd f) ⟨[a, u], []⟩ [(d.sf, a), (d.x, u)]
  hp : (d.params.posonlyargs ++ d.params.args).head?.map (·.arg) = some d.sf
  ne : d.sf ≠ d.x
  kind : d.scope.kind = .function
  co : d.scope.isCoroutine = false
  gen : d.scope.isGenerator = false
  nocell : ∀ x ∈ d.scope.names, x.2 ≠ .cell
  l1 : d.scope.names.lookup d.sf = some .local
  l2 : d.scope.names.lookup d.x = some .local
  lsu : d.scope.names.lookup ("super" : Str) = some .globalImplicit
  lcl : d.scope.names.lookup ("__class__" : Str) = some .free
  ln : (d.p2.endLine == d.p4.line) = true
  dbg1 : (d.sf == ("__debug__" : Str)) = false
  dbg2 : (d.x == ("__debug__" : Str)) = false
  cod : ∃ ccl cdd vs ccs file tf, K.lookup d.cda = some ⟨ccl, cdd, .fields vs, ccs⟩ ∧ vs[2]? = some (.str file tf) ∧ ((prog.main.file : Str) == file) = true
  cel : ∃ cl cld csl, K.lookup d.cc = some ⟨cl, cld, .cell (some (.ref C)), csl⟩
section
variable {prog : Program} {w : World} {A : Around} {E : Value → Shared → Prop} {s : Shared} {h₀ : Heap} {L : Addr} {m mg mb : Str → Option Value} {news : List (Addr × Obj)} {K : PySem.W.Frag} {x C D f cc cda so : Addr} {ox : Obj} {odx : Option Obj}
/-- super() in such a def (ks_node, its Top by parts) -/
theorem super_node {body : List Stmt} {q : Str} {scope : Scope} {p0 p1 : Pos} {attr : Str} {whole : Sem Value} {fd : FuncData} {sf : Str} {vs : Array Value} {file : Str} {tf : Tok} {oc ccl cl : Value} {od cdd cld : Option Addr} {osl ccs csl : Array (Option Value)} {cdD : ClassData} {Q : Value → Shared → Prop}
    (F : Fr h₀ L s.heap m) (X₀ : K.In h₀) (N : News h₀ L s.heap news) (Tg : h₀.Ns mainGlobals mg) (Tb : h₀.Ns builtinsNs mb) (Tbb : ∀ x : Str, x ≠ "__name__" → mb x = bootBuiltins x)
    (hf : K.lookup f = some ⟨oc, od, .func fd, osl⟩) (hp : (fd.params.posonlyargs ++ fd.params.args).head?.map (·.arg) = some sf) (hv : m sf = some (.ref x)) (I : InstAt s.heap x ox C odx)
    (hcode : K.lookup cda = some ⟨ccl, cdd, .fields vs, ccs⟩) (hvs : vs[2]? = some (.str file tf)) (hfile : ((prog.main.file : Str) == file) = true)
    (hcell : K.lookup cc = some ⟨cl, cld, .cell (some (.ref D)), csl⟩) (hD : clsIn K D = some cdD) (hsub : mroIn K C (.ref D) = some true) (hsuper : mg "super" = none)
    (hat : (attr == ("__class__" : Str)) = false) (hks : scope.names.lookup ("super" : Str) = some .globalImplicit) (hkc : scope.names.lookup ("__class__" : Str) = some .free) (hka : scope.names.lookup sf = some .local) (hk : scope.kind = .function)
    (htop : (prog.main.scope.names.lookup ("super" : Str)).isSome = false) (hboot : bootBuiltins "super" = some (.type "super"))
    (h : ∀ so h', Fr h₀ L h' m → News h₀ L h' ((so, ks_superObj D x C) :: news) → (∀ p ∈ news, p.1 < so) → Q (.ref so) { s with heap := h' }) :
    _root_.PySem.wpAt (model prog w) A (.func body (ksEnv q scope L f (.ref cda) cc)) (attributeBase (.Call (.Name "super" p0) [] [] p1) attr (ksEnv q scope L f (.ref cda) cc) whole) Q E s := by
  have X : K.In s.heap := X₀.keeps F.keep
  obtain ⟨ar, har, hsf⟩ := Option.map_eq_some_iff.mp hp
  subst hsf
  obtain ⟨hh, g, d, t, os⟩ := s
  obtain ⟨oD, hD1, hD2⟩ : ∃ oD, hh.get? D = some oD ∧ oD.data = .cls cdD := by
    unfold clsIn at hD
    split at hD
    · rename_i c d cd' sl ho
      cases hD
      exact ⟨_, X _ _ ho, rfl⟩
    · cases hD
  refine ks_wpAt_super_base (env := ksEnv q scope L f (.ref cda) cc) hks hkc hat rfl (X _ _ hf) rfl har rfl (X _ _ hcode) rfl hvs hfile htop ?_
  refine ks_loadName_global hk hks (loadGlobal_builtin (env := ksEnv q scope L f (.ref cda) cc) (Tg.keeps F.keep) hsuper (Tb.keeps F.keep) ((Tbb _ (by decide +kernel)).trans hboot) ⟨rfl, ?_⟩)
  refine wpAny_loadName_free hk hkc rfl ⟨_, X _ _ hcell, rfl⟩ ?_
  refine wpAny_loadName_local hk hka F.ns hv ?_
  refine ks_wpAny_isType_cls hD1 hD2 ⟨rfl, ?_⟩
  refine ks_wpAny_call_super hD1 hD2 I.at_ I.cls (fun c e => ?_) (looks_mroIn X hsub) (fun h' e k => ?_)
  · have := I.no
    unfold notCls at this
    rw [e] at this
    exact Bool.noConfusion this
  · obtain ⟨F', N', l'⟩ := ks_newsPush (s := ⟨hh, g, d, t, os⟩) F N rfl e k
    exact h _ _ F' N' l'
end
theorem ns1_one {h : Heap} {a : Addr} {f : Str} {hs : Int} {t : Tok} {v : Value} {n : Nat} (e : h.get? a = some (PySem.W.dictOf [⟨hs, .str f t, v⟩] n)) : h.Ns1 a (fun y => if y = f then some v else none) := by
  refine ⟨_, #[⟨hs, .str f t, v⟩], n, e, rfl, fun e he => ?_, ?_, fun y => ?_⟩
  · simp at he
    subst he
    exact ⟨_, _, rfl⟩
  · unfold UniqKeys
    simp
  · by_cases hy : y = f
    · subst hy
      simp [nsFind, findBy, Value.isStr]
    · simp [nsFind, findBy, Value.isStr, hy, Ne.symm hy]
section
variable {X : Cx} {pins : List (Addr × Obj)} {σ : L2.St} {H : Hp} {s : Shared} {C : Addr} {f : Str} {y : V} {u : Value} {Q : XK} {n : Nat} {D : XcD}
/-- C(u): the exception, its dict behind it -/
theorem exc_make (T : XcOk X.prog X.K C f D) (I : Inv X pins σ H s) (hr : Room (n + 1) X.A) (hsu : X.mg "super" = none) (r : RelV y u) (h : ∀ dx, H dx = none → Q (.ref C) (some dx) (upd H dx (.xd [(f, y)]))) :
    wpAny (model X.prog X.w) X.A (call (.ref C) [u]) (MkP X pins σ Q) X.xe s := by
  obtain ⟨nm, N', qn, bs, bm, hdct, sn, sub, ab, col, dd, k0, k1, k2, k3, k5, hC, hT⟩ := excInit_of I.kIn T.q
  have KX := I.kIn
  obtain ⟨oI, hoI, hcI⟩ : ∃ oI, s.heap.get? D.fI = some oI ∧ oI.cls = .type "function" := ⟨_, KX _ _ T.lk, T.oc⟩
  obtain ⟨mb, hmb, hbb⟩ := I.ok.mod.blt
  have bk : ∀ b o, X.base.get? b = some o → s.heap.get? b = some o := fun b o e => (I.bs b o e).1
  have Tg : s.heap.Ns mainGlobals X.mg := I.ok.mod.glob.keeps bk
  have Tb : s.heap.Ns builtinsNs mb := hmb.keeps bk
  have lim : s.heap.NoLimit := I.ok.mod.nolimit.keeps bk
  obtain ⟨hp, g, dr, tk, os⟩ := s
  have hus : [u].length ≤ sizeLine := by rw [sizeLine_eq]; show 1 ≤ 16777216; decide
  have kk : ∀ b o, hp.get? b = some o → ((hp.push (PySem.W.kdv_tup [u])).push (PySem.HandSPX.excO C hp.objs.size)).get? b = some o := fun b o e => Heap.get?_push_of_some _ (Heap.get?_push_of_some _ e)
  have hget : ((hp.push (PySem.W.kdv_tup [u])).push (PySem.HandSPX.excO C hp.objs.size)).get? (hp.objs.size + 1) = some (PySem.HandSPX.excO C hp.objs.size) := by heap_get
  refine wpAny_call (PySem.HandSPX.call_own F.excBase_Exception hT hC (PySem.W.looks_findIn KX T.fi) (fun self => PySem.W.exc_bind hoI hcI self) hus ?_)
  generalize hh2 : (hp.push (PySem.W.kdv_tup [u])).push (PySem.HandSPX.excO C hp.objs.size) = h2 at kk hget
  have sz2 : h2.objs.size = hp.objs.size + 2 := by rw [← hh2, Heap.size_push, Heap.size_push]
  generalize he : hp.objs.size + 1 = e at hget
  have hr2 := (hr.make C [u] []).depth
  refine ks_codeAny_call_defAt (fd := D.fd f) (body := D.body f) (binds := [(D.sf, .ref e), (D.x, u)]) hr2 (kk _ _ (KX _ _ T.lk)) rfl (lim.keeps kk) (PySem.W.codeRec_of (KX.keeps kk) T.cd) rfl (T.bd _ _ _) T.nocell
    (fun z hz => ?_) (fun h3 hns3 hk3 => ?_) T.co T.gen T.kind
  · rcases List.mem_cons.mp hz with rfl | hz
    · exact T.l1
    · rcases List.mem_cons.mp hz with rfl | hz
      · exact T.l2
      · cases hz
  have eh : hp.get? e = none := by
    cases q : hp.get? e with
    | none => rfl
    | some o => exact absurd (Heap.lt_size q) (by rw [← he]; exact Nat.not_lt.mpr (Nat.le_succ _))
  -- the ground: all but the exception
  have g0 : ∀ b o, h2.get? b = some o → b ≠ e → (PySem.W.hideAll h2 [e]).get? b = some o := fun b o q ne => PySem.W.hideAll_get _ q (by simpa using ne)
  have g1 : ∀ b o, hp.get? b = some o → (PySem.W.hideAll h2 [e]).get? b = some o := fun b o q => g0 b o (kk b o q) fun z => by rw [z, eh] at q; cases q
  have F3 : Fr (PySem.W.hideAll h2 [e]) h2.objs.size h3 (fun x => [(D.sf, Value.ref e), (D.x, u)].reverse.lookup x) := ⟨hns3, fun b o q => hk3 b o (PySem.W.of_hideAll _ q), Nat.le_of_eq (PySem.W.hideAll_size _ _)⟩
  have N3 : News (PySem.W.hideAll h2 [e]) h2.objs.size h3 [(e, PySem.W.excObj C hp.objs.size none .none)] := fun p hp2 => by
    rcases List.mem_cons.mp hp2 with rfl | hp2
    · exact ⟨hk3 _ _ hget, Nat.ne_of_lt (Heap.lt_size hget), PySem.W.hideAll_none _ (by simp)⟩
    · cases hp2
  have X0 : X.K.In (PySem.W.hideAll h2 [e]) := fun b o q => g1 b o (KX b o q)
  have ms : (fun x => [(D.sf, Value.ref e), (D.x, u)].reverse.lookup x) D.sf = some (.ref e) := by
    have n1 : (D.sf == D.x) = false := by simpa using T.ne
    simp [List.lookup, n1]
  have mx : (fun x => [(D.sf, Value.ref e), (D.x, u)].reverse.lookup x) D.x = some u := by
    simp [List.lookup]
  generalize hm : (fun x => [(D.sf, Value.ref e), (D.x, u)].reverse.lookup x) = m at F3 ms mx
  generalize hh0 : PySem.W.hideAll h2 [e] = h0 at g0 g1 F3 N3 X0
  have Tg0 : h0.Ns mainGlobals X.mg := Tg.keeps g1
  have Tb0 : h0.Ns builtinsNs mb := Tb.keeps g1
  have I0 : PySem.W.InstAt h3 e (PySem.W.excObj C hp.objs.size none .none) C none := PySem.W.InstAt.of_exc0 N3 (List.Mem.head _)
  obtain ⟨ccl, cdd, vs, ccs, file, tf, c1, c2, c3⟩ := T.cod
  obtain ⟨cl, cld, csl, c4⟩ := T.cel
  obtain ⟨cdC, c5⟩ := T.cl
  have boot : bootBuiltins "super" = some (.type "super") := by decide +kernel
  have he2 : ∀ env : Env, eval (.Call (.Attribute (.Call (.Name "super" D.p0) [] [] D.p1) "__init__" D.p2) [.Constant (.str D.txt) D.k D.p3] [] D.p4) env = (do
      let ov ← attributeBase (.Call (.Name "super" D.p0) [] [] D.p1) "__init__" env (eval (.Call (.Name "super" D.p0) [] [] D.p1) env)
      standAt D.p2.atName
      let (f, first) ← holding [ov] (getMethod ov "__init__" (do return (← importBound (.Call (.Name "super" D.p0) [] [] D.p1) env).getD true))
      callWith D.p4 f first (backTo D.p4 (starEach [.Constant (.str D.txt) D.k D.p3] env)) []) := fun env => by
    have hpos : methodCallPos true (.Call (.Name "super" D.p0) [] [] D.p1) env D.p2 D.p4 = pure D.p4 := by unfold methodCallPos; simp [T.ln]
    have hform : methodCallForm ([Expr.Constant (.str D.txt) D.k D.p3].length + ([] : List Keyword).length) (backTo D.p4 (starEach [.Constant (.str D.txt) D.k D.p3] env)) (backToKw D.p4 (keywordEach [] env)) = true := by rfl
    rw [arm_eval_Call]
    unfold methodCall
    rw [hform, hpos]
    unfold calleeOf
    simp only [if_true, pure_bind]
    rfl
  have hint : interactive (callEnv (D.fd f) h2.objs.size D.fI) = false := by
    have hk : (callEnv (D.fd f) h2.objs.size D.fI).scope.kind = .function := T.kind
    unfold interactive
    rw [hk]
    rfl
  show PySem.wpAt _ _ _ (execs (D.body f) _) _ _ _
  unfold XcD.body
  refine ks_wpAt_execs_cons (ks_wpAt_Expr_any (ks_wpAt_MethodCall ?_ (he2 _)) hint (by rfl))
  refine super_node F3 X0 N3 Tg0 Tb0 hbb T.lk T.hp ms I0 c1 c2 c3 c4 c5 T.mr hsu (by decide) T.lsu T.lcl T.l1 T.kind T.top boot (fun so h4 F4 N4 l4 => ?_)
  have ne1 : so ≠ e := fun z => absurd (l4 _ (List.Mem.head _)) (by rw [z]; exact Nat.lt_irrefl _)
  have I4 : PySem.W.InstAt h4 e (PySem.W.excObj C hp.objs.size none .none) C none := PySem.W.InstAt.of_exc0 N4 (.tail _ (.head _))
  refine kxs_method kxs_Exception F4 X0 N4 (.head _) I4 T.st T.su T.exE (by decide) (fun q h5 F5 N5 l5 => ?_)
  have ne2 : q ≠ e := fun z => absurd (l5 _ (.tail _ (.head _))) (by rw [z]; exact Nat.lt_irrefl _)
  refine kxs_callWith1 N5 (.head _) ?_ rfl rfl
  rw [show starEach [Expr.Constant (.str D.txt) D.k D.p3] (callEnv (D.fd f) h2.objs.size D.fI) = (false, eval (Expr.Constant (.str D.txt) D.k D.p3) (callEnv (D.fd f) h2.objs.size D.fI)) :: starEach [] (callEnv (D.fd f) h2.objs.size D.fI) from rfl]
  show wpAny _ _ (spliced ((false, eval (Expr.Constant (.str D.txt) D.k D.p3) (callEnv (D.fd f) h2.objs.size D.fI)) :: backTo D.p4 (starEach [] (callEnv (D.fd f) h2.objs.size D.fI)))) _ _ _
  refine Calls.spliced_cons (Calls.Constant_str (Calls.spliced_nil ⟨kxs_at N5 (.head _), ?_⟩))
  refine kxs_call (c2 := .none) (dv := none) (t := hp.objs.size) (newId := "Exception.__new__") (bmB := exB) F5 X0 N5 F.excBase_Exception T.q (.head _) (.tail ne2 (.tail ne1 (.head fun _ z => nomatch z))) (by rw [sizeLine_eq]; show 1 ≤ 16777216; decide) (fun t6 h6 F6 N6 l6 => ?_)
  have ne3 : t6 ≠ e := fun z => absurd (l6 _ (.tail _ (.tail _ (.head _)))) (by rw [z]; exact Nat.lt_irrefl _)
  show PySem.wpAt _ _ _ (execs [_] _) _ _ _
  have kf : (callEnv (D.fd f) h2.objs.size D.fI).scope.kind = .function := T.kind
  have k1l : (callEnv (D.fd f) h2.objs.size D.fI).kindOf D.sf = some .local := T.l1
  have k2l : (callEnv (D.fd f) h2.objs.size D.fI).kindOf D.x = some .local := T.l2
  refine ks_wpAt_execs_cons (ks_wpAt_Assign_Attr (wpAt_of_wpAny (wpAny_Name (wpAny_loadName_local kf k2l F6.ns mx (wpAny_Name (wpAny_loadName_local kf k1l F6.ns ms ?_) T.dbg1)) T.dbg2)) (by rfl))
  refine set_exc0 F.store_Exception F6 X0 N6 (.tail _ (.tail _ (.tail _ (.head _)))) T.sa T.ov T.tk T.hd rfl (.tail ne3 (.tail ne2 (.tail ne1 (.head fun _ z => nomatch z)))) (Nat.le_of_ble_eq_true rfl) (fun dx h7 F7 N7 l7 => ?_)
  refine wpAt_of_wpAny (wpAny_execs_nil ?_)
  refine ⟨rfl, ?_⟩
  show MkP X pins σ Q (.ref e) _
  have nde : dx ≠ e := fun z => absurd (l7 _ (.tail _ (.tail _ (.tail _ (.head _))))) (by rw [z]; exact Nat.lt_irrefl _)
  have he7 : h7.get? e = some (PySem.W.excObj C t6 (some dx) .none) := (N7 _ (.tail _ (.tail _ (.tail _ (.tail _ (.head _)))))).1
  have hd7 := (N7 _ (.head _)).1
  have hn7 : h7.Ns1 dx (fun y => if y = f then some u else none) := ns1_one hd7
  have dn : h0.get? dx = none := (N7 _ (.head _)).2.2
  have hpd : hp.get? dx = none := by
    cases z : hp.get? dx with
    | none => rfl
    | some o => rw [g1 _ _ z] at dn; cases dn
  have Hd : H dx = none := I.hok.gone hpd
  have He : H e = none := I.hok.gone eh
  have k7 : ∀ b o, hp.get? b = some o → h7.get? b = some o := fun b o z => F7.keep b o (g1 b o z)
  obtain ⟨G, gA, gB⟩ := L2.restrict h7 fun b => decide (b ≠ e)
  have gk : ∀ b, b ≠ e → G.get? b = h7.get? b := fun b hb => gA b (decide_eq_true hb)
  have ge : G.get? e = none := gB e (by simp)
  have nhe : ∀ {b : Addr} {o : Obj}, hp.get? b = some o → b ≠ e := fun {b o} z w => by rw [w, eh] at z; cases z
  have nhd : ∀ {b : Addr} {o : Obj}, hp.get? b = some o → b ≠ dx := fun {b o} z w => by rw [w, hpd] at z; cases z
  have kG : ∀ b o, hp.get? b = some o → G.get? b = some o := fun b o z => (gk b (nhe z)).trans (k7 b o z)
  have U : Un (frs X.stack) [] H (upd H dx (.xd [(f, y)])) hp G := {
    keep := fun b o z n hf hx => kG b o z
    slot := fun b o z n hf hx => ⟨o.slots, kG b o z⟩
    free := fun b o z n hx => by rw [upd_ne (nhd z)]; exact n
    there := fun b o z hx => ⟨o, kG b o z⟩
    tups := fun b xs z => by rw [upd_ne (ne_of_none z Hd)]; exact z
    frzs := fun b o v z => by rw [upd_ne (ne_of_none z Hd)]; exact z
    tbls := fun b ps z => ⟨#[], by rw [upd_ne (ne_of_none z Hd), z]; simp⟩ }
  have hok : HOk X.prog X.w (upd H dx (.xd [(f, y)])) G := fun b o z => by
    by_cases hb : b = dx
    · subst hb
      rw [upd_same] at z
      cases z
      exact ⟨_, hn7.at fun o w => (gk _ nde).trans w, relO_put (fs := []) r fun g => True.intro⟩
    · rw [upd_ne hb] at z
      exact (I.hok b o z).stay (fun c v hc w => kG c v w) (fun c hc => by rw [upd_ne (ne_of_none hc Hd)]; exact hc) (fun c xs hc => by rw [upd_ne (ne_of_none hc Hd)]; exact hc)
  have J : Inv X pins σ (upd H dx (.xd [(f, y)])) ⟨G, g, dr, tk, os⟩ := I.call' (s' := ⟨G, g, dr, tk, os⟩) (ch := []) rfl U hok I.bare (fun b z => absurd z (by simp))
  refine ⟨e, _, _, ⟨G, g, dr, tk, os⟩, _, .ref C, some dx, rfl, J, fun b o z => ?_, ge, he7, ⟨rfl, rfl⟩, rfl, rfl, ?_, rfl, I.bare, raises_own T.exC T.tyC, h dx Hd⟩
  · by_cases hb : b = e
    · subst hb
      rw [ge] at z; cases z
    · exact (gk b hb).symm.trans z
  · rw [upd_ne (Ne.symm nde)]; exact He
end
end Mx
set_option Elab.async false
set_option linter.all false
set_option maxRecDepth 100000
set_option maxHeartbeats 2000000
namespace Mx
open PySem L2
/-! ### the text and the machine -/
/-- the text's side: the functions' names, the classes' names and fields, the constants, the machine's program -/
structure Tb where
  fn : Nat → Str
  cn : Nat → Str
  fl : Nat → List Str
  cs : List (Str × D)
  cl : List Nat
  /-- the exceptions that are raised; the ones that are caught -/
  xl : List Nat
  xc : List Nat
  pg : Pg
/-- where one stands: the names by slot, the scope, the names whose cells are one's own -/
structure Ct where
  N : List Str
  sc : Scope
  own : Str → Bool
def PV (M : Rl) (Q : VK) : D → Hh → List Addr → Hp → Prop := fun d _ ι' H' => ∀ v, Rp M ι' H' d v → Q v H'
def PL (M : Rl) (Q : List V → Hp → Prop) : List D → Hh → List Addr → Hp → Prop := fun ds _ ι' H' => ∀ vs, RpL M ι' H' ds vs → Q vs H'
/-- what a function of the machine's promises -/
def spF (M : Rl) (F : Ph) (i n : Nat) : Sp := fun vs H Q E => vs.length = n ∧ ∃ ex ι h ds, Sim (Mw M ex) ι h H ∧ RpL (Mw M ex) ι H ds vs ∧ Po (Mw M ex) E ι H (F i ds h) (PV (Mw M ex) Q)
def bnames : List Str := ["len", "sum", "max", "min", "abs", "int", "all", "any", "tuple", "divmod", "isinstance", "range", "enumerate", "list", "repr", "bool", "str", "sorted", "set", "zip", "reversed"]
/-- what the program's text holds -/
structure Ws (T : Tb) (M : Rl) (prog : Program) (mg : Str → Option Value) : Prop where
  flds : ∀ c, M.ok c → M.fl c = T.fl c
  cls : ∀ c, M.ok c → Cls M.K (M.cl c) ∧ ∀ f ∈ T.fl c, NoAttr M.K (M.cl c) f
  clf : ∀ c, M.ok c → ClF M.K (M.cl c)
  okc : ∀ c ∈ T.cl, M.ok c
  nm : ∀ c, M.ok c → mg (T.cn c) = some (.ref (M.cl c))
  free : ∀ x ∈ bnames, mg x = none
  cst : ∀ p ∈ T.cs, ∃ u v, mg p.1 = some u ∧ RelV v u ∧ ∀ M ι H, Rp M ι H p.2 v
  sup : mg "super" = none
  xks : ∀ c, M.xk c ↔ c ∈ T.xl
  xcs : ∀ c, c ∈ T.xl → ∃ f D, T.fl c = [f] ∧ M.fl c = [f] ∧ XcOk prog M.K (M.cl c) f D ∧ PySem.W.findIn M.K (.ref (M.cl c)) f = some none ∧ XfC M.K (M.cl c) ∧ mg (T.cn c) = some (.ref (M.cl c))
  exm : ∀ c, c ∈ T.xl → ∀ c0, c0 ∈ T.xc → PySem.W.exmOne M.K (.ref (M.cl c)) (.ref (M.cl c0)) = some (T.pg.sub c c0)
  xnm : ∀ c, c ∈ T.xc → mg (T.cn c) = some (.ref (M.cl c))
/-- .. and its functions, the machine's ones at work within F -/
structure Wd (T : Tb) (M : Rl) (prog : Program) (w : World) (mg : Str → Option Value) (base : Heap) (j : Nat) (F : Ph) : Prop extends Ws T M prog mg where
  fns : ∀ s g, T.pg.sgs s = some g → ∃ f fd ps, mg (T.fn g.f) = some (.ref f) ∧ PySem.W.keepIn M.K (.ref f) = true ∧ FnG prog w M.K mg base j f fd ps (spF M F g.f ps.length) ∧ Bd M.K fd ps g.n g.ks g.pm
  mks : ∀ s c g, T.pg.mks s = some (c, g) → M.ok c ∧ ∃ f fd ps, Mk M.K (M.cl c) f ∧ FnG prog w M.K mg base j f fd ps (spF M F g.f ps.length) ∧ Bd M.K fd ps (g.n + 1) g.ks g.pm
/-- a context of the program's -/
structure XG (T : Tb) (M : Rl) (prog : Program) (w : World) (mg : Str → Option Value) (base : Heap) (j : Nat) (c : Ct) (τ : XK → Prop) (X : Cx) : Prop where
  tk : ∀ W, τ W → Tk X W
  prog : X.prog = prog
  w : X.w = w
  K : X.K = M.K
  mg : X.mg = mg
  base : X.base = base
  N : X.N = c.N
  nd : c.N.Nodup
  sc : X.env.scope = c.sc
  own : ∀ x, c.own x = true → X.fn x = true
  calm : X.calm = true
  gd : X.A.guards = some []
  room : Room (j + 1) X.A

/-! ### readings -/
section
variable (τ : XK → Prop) (M : Rl) (P : Pg) (F : Ph)
def rdE (e : E) : TE := fun σ H Q => ∃ ex W ι h m, τ W ∧ Sim (Mw M ex) ι h H ∧ EnR (Mw M ex) ι H m σ ∧ Po (Mw M ex) W ι H (ev P F e m h) (PV (Mw M ex) Q)
def rdEs (e : E) : TA := fun σ H Q => ∃ ex W ι h m, τ W ∧ Sim (Mw M ex) ι h H ∧ EnR (Mw M ex) ι H m σ ∧ Po (Mw M ex) W ι H (evs P F e m h) (PL (Mw M ex) Q)
def rdN (e : E) : TE := fun σ H Q => ∃ ex W ι h m, τ W ∧ Sim (Mw M ex) ι h H ∧ EnR (Mw M ex) ι H m σ ∧ Po (Mw M ex) W ι H (evN P F e m h) (PN (Mw M ex) Q)
def rdT (e : E) : TT := fun σ H Q => ∃ ex W ι h m, τ W ∧ Sim (Mw M ex) ι h H ∧ EnR (Mw M ex) ι H m σ ∧ Po (Mw M ex) W ι H ((ev P F e m h).bind fun x h => rOpt (truth h x) h) (fun b _ _ H' => Q b H')
def rdO (e : E) : TO := fun σ H Q => ∃ ex W ι h m, τ W ∧ Sim (Mw M ex) ι h H ∧ EnR (Mw M ex) ι H m σ ∧ Po (Mw M ex) W ι H (evO P F e m h) (fun o _ _ H' => Q o H')
def rdI (e : E) : TI := fun σ H R => ∃ ex W ι h m, τ W ∧ Sim (Mw M ex) ι h H ∧ EnR (Mw M ex) ι H m σ ∧ Po (Mw M ex) W ι H (evI P F e m h) (fun xg _ ι' H' => ∀ J, Wk (Mw M ex) ι' H' xg.1 xg.2 J → R J H')
end
theorem _root_.L2.PE.imp {X : Cx} {e : Expr} {t t' : TE} (p : PE X e t) (h : ∀ σ H Q, t' σ H Q → t σ H Q) : PE X e t' := ⟨fun pins s σ H Q I q => p.run pins s σ H Q I (h σ H Q q)⟩
theorem _root_.L2.PT.imp {X : Cx} {e : Expr} {t t' : TT} (p : PT X e t) (h : ∀ σ H Q, t' σ H Q → t σ H Q) : PT X e t' := ⟨fun pins s σ H Q I q => p.run pins s σ H Q I (h σ H Q q)⟩
theorem _root_.L2.PA.imp {X : Cx} {e : List Expr} {t t' : TA} (p : PA X e t) (h : ∀ σ H Q, t' σ H Q → t σ H Q) : PA X e t' := ⟨fun pos pins s σ H Q I q => p.run pos pins s σ H Q I (h σ H Q q)⟩
theorem _root_.L2.PO.imp {X : Cx} {e : Option Expr} {t t' : TO} (p : PO X e t) (h : ∀ σ H Q, t' σ H Q → t σ H Q) : PO X e t' := ⟨fun pins s σ H Q I q => p.run pins s σ H Q I (h σ H Q q)⟩
theorem _root_.L2.PI.imp {X : Cx} {tg e : Expr} {t t' : TI} (p : PI X tg e t) (h : ∀ σ H R, t' σ H R → t σ H R) : PI X tg e t' := ⟨fun pins s σ H Q I q => p.run pins s σ H Q I (h σ H Q q)⟩
theorem _root_.L2.PS.imp {X : Cx} {e : Stmt} {t t' : TS} (p : PS X e t) (h : ∀ D σ H, t' D σ H → t D σ H) : PS X e t' := ⟨fun pins s σ H D I q => p.run pins s σ H D I (h D σ H q)⟩
theorem _root_.L2.PSs.imp {X : Cx} {e : List Stmt} {t t' : TS} (p : PSs X e t) (h : ∀ D σ H, t' D σ H → t D σ H) : PSs X e t' := ⟨fun pins s σ H D I q => p.run pins s σ H D I (h D σ H q)⟩

/-! ### plain expressions -/
section
variable {T : Tb} {M : Rl} {prog : Program} {w : World} {mg : Str → Option Value} {base : Heap} {j : Nat} {F : Ph} {c : Ct} {τ : XK → Prop} {X : Cx} {pos : Pos} {a b : E} {a' b' : Expr}
theorem r_v {i : Nat} {x : Str} (g : XG T M prog w mg base j c τ X) (hN : c.N[i]? = some x) (hv : Vis c.sc x) (hd : (x == ("__debug__" : Str)) = false) (hcd : (x == ("__classdict__" : Str)) = false) : PE X (.Name x pos) (rdE τ M T.pg F (.v i)) := by
  refine (pe_var (X := X) (i := i) (x := x) (pos := pos) (by rw [g.N]; exact hN) (by rw [g.sc]; exact hv) hd hcd).imp fun σ H Q ⟨ex, W, ι, h, m, tk, sim, en, po⟩ => ?_
  simp only [ev] at po
  cases e : look m i with
  | none => rw [e] at po; exact False.elim po
  | some d =>
    rw [e] at po
    obtain ⟨v, e1, r⟩ := en.2 i d (look_some e)
    exact ⟨v, e1, po ι H sim.refl sim v r⟩
theorem r_k {d : D} {v : V} {e : Expr} (p : PE X e (tC v)) (r : ∀ M ι H, Rp M ι H d v) : PE X e (rdE τ M T.pg F (.k d)) := by
  refine p.imp fun σ H Q ⟨ex, W, ι, h, m, tk, sim, en, po⟩ => ?_
  simp only [ev] at po
  exact po ι H sim.refl sim v (r _ _ _)
theorem r_g {x : Str} {d : D} {v : V} {e : Expr} (p : PE X e (tC v)) (r : ∀ M ι H, Rp M ι H d v) : PE X e (rdE τ M T.pg F (.g x d)) := by
  refine p.imp fun σ H Q ⟨ex, W, ι, h, m, tk, sim, en, po⟩ => ?_
  simp only [ev] at po
  exact po ι H sim.refl sim v (r _ _ _)
/-- two values, one behind the other -/
theorem rd_two {k : D → D → Hh → R D} {R2' : R2} {e : E} {σ : St} {H : Hp} {Q : VK} (he : ∀ m h, ev T.pg F e m h = (ev T.pg F a m h).bind fun x h => (ev T.pg F b m h).bind fun y h => k x y h)
    (go : ∀ ex W ι h dx dy x y H, τ W → Sim (Mw M ex) ι h H → Rp (Mw M ex) ι H dx x → Rp (Mw M ex) ι H dy y → Po (Mw M ex) W ι H (k dx dy h) (PV (Mw M ex) Q) → R2' x y H Q) (q : rdE τ M T.pg F e σ H Q) : tOp R2' (rdE τ M T.pg F a) (rdE τ M T.pg F b) σ H Q := by
  obtain ⟨ex, W, ι, h, m, tk, sim, en, po⟩ := q
  rw [he] at po
  refine ⟨ex, W, ι, h, m, tk, sim, en, po.step fun d1 h1 ι1 H1 x1 s1 po1 v1 r1 => ⟨ex, W, ι1, h1, m, tk, s1, en.mono x1, po1.step fun d2 h2 ι2 H2 x2 s2 po2 v2 r2 => ?_⟩⟩
  exact go ex W ι2 h2 d1 d2 v1 v2 H2 tk s2 (r1.mono x2) r2 po2
theorem r_bin (o : Bo) (g : XG T M prog w mg base j c τ X) (pa : PE X a' (rdE τ M T.pg F a)) (pb : PE X b' (rdE τ M T.pg F b)) : PE X (.BinOp a' (bop o) b' pos) (rdE τ M T.pg F (.bin o a b)) :=
  (pe_op (r := fun x y H Q => ∃ ex, rd2 (Mw M ex) (fun h => binD h o) x y H Q) (fun pins s σ H x y v u Q I rx ry ⟨ex, q⟩ => binD_ok (M := Mw M ex) g.K o pins s σ H x y v u Q I rx ry q) pa pb).imp fun σ H Q =>
    rd_two (k := fun x y h => binD h o x y) (fun m h => by simp only [ev]) fun ex W ι h dx dy x y H tk s r1 r2 po => ⟨ex, W, ι, h, dx, dy, s, r1, r2, po⟩
theorem R.bind_assoc {α β γ : Type} (r : R α) (f : α → Hh → R β) (g : β → Hh → R γ) : (r.bind f).bind g = r.bind fun a h => (f a h).bind g := by cases r <;> rfl
/-- as rd_two, in front of more -/
theorem rd_twoR {α : Type} {k : D → D → Hh → R α} {P : Rl → α → Hh → List Addr → Hp → Prop} {R2' : V → V → Hp → Prop} {σ : St} {H : Hp}
    (go : ∀ ex W ι h dx dy x y H, τ W → Sim (Mw M ex) ι h H → Rp (Mw M ex) ι H dx x → Rp (Mw M ex) ι H dy y → Po (Mw M ex) W ι H (k dx dy h) (P (Mw M ex)) → R2' x y H)
    (q : ∃ ex W ι h m, τ W ∧ Sim (Mw M ex) ι h H ∧ EnR (Mw M ex) ι H m σ ∧ Po (Mw M ex) W ι H ((ev T.pg F a m h).bind fun x h => (ev T.pg F b m h).bind fun y h => k x y h) (P (Mw M ex))) :
    rdE τ M T.pg F a σ H fun x H1 => rdE τ M T.pg F b σ H1 fun y H2 => R2' x y H2 := by
  obtain ⟨ex, W, ι, h, m, tk, sim, en, po⟩ := q
  refine ⟨ex, W, ι, h, m, tk, sim, en, po.step fun d1 h1 ι1 H1 x1 s1 po1 v1 r1 => ⟨ex, W, ι1, h1, m, tk, s1, en.mono x1, po1.step fun d2 h2 ι2 H2 x2 s2 po2 v2 r2 => ?_⟩⟩
  exact go ex W ι2 h2 d1 d2 v1 v2 H2 tk s2 (r1.mono x2) r2 po2
theorem cmpR_bl {M : Rl} {W : XK} {ι : List Addr} {h : Hh} {H : Hp} {o : Co} {x y : D} {Q : Bool → Hp → Prop} (po : Po M W ι H ((cmpR o h x y).bind fun x h => rOpt (truth h x) h) (fun b _ _ H' => Q b H')) :
    Po M W ι H (cmpR o h x y) (PV M fun z H' => ∃ k, z = .bl k ∧ Q k H') := by
  unfold cmpR at po ⊢
  cases e : cmpD h o x y with
  | none => rw [e] at po; exact False.elim po
  | some c =>
    rw [e] at po
    exact fun ι' H' x1 s1 v r => ⟨c, r.bl_inv, po ι' H' x1 s1⟩
theorem r_cmp (o : Co) (g : XG T M prog w mg base j c τ X) (hm : behindInMarks (cop o) b' = false) (pa : PE X a' (rdE τ M T.pg F a)) (pb : PE X b' (rdE τ M T.pg F b)) : PE X (.Compare a' [cop o] [b'] pos) (rdE τ M T.pg F (.cmp o a b)) ∧ PT X (.Compare a' [cop o] [b'] pos) (rdT τ M T.pg F (.cmp o a b)) := by
  have ho : OpR X (compareOp (cop o)) (fun x y H Q => ∃ ex, rd2 (Mw M ex) (cmpR o) x y H Q) := fun pins s σ H x y v u Q I rx ry ⟨ex, q⟩ => cmpD_ok (M := Mw M ex) g.K g.room.units o pins s σ H x y v u Q I rx ry q
  refine ⟨(pe_cmpR ho pa pb hm).imp fun σ H Q => rd_two (k := fun x y h => cmpR o h x y) (fun m h => by simp only [ev, cmpR]) fun ex W ι h dx dy x y H tk s r1 r2 po => ⟨ex, W, ι, h, dx, dy, s, r1, r2, po⟩, ?_⟩
  refine (pt_cmpR ho pa pb hm).imp fun σ H Q ⟨ex, W, ι, h, m, tk, sim, en, po⟩ => ?_
  refine rd_twoR (k := fun x y h => (cmpR o h x y).bind fun x h => rOpt (truth h x) h) (P := fun _ b _ _ H' => Q b H') (fun ex W ι h dx dy x y H tk s r1 r2 po => ⟨ex, W, ι, h, dx, dy, s, r1, r2, cmpR_bl po⟩) ⟨ex, W, ι, h, m, tk, sim, en, ?_⟩
  simp only [ev, R.bind_assoc] at po
  simp only [cmpR, R.bind_assoc]
  exact po
end
end Mx
set_option Elab.async false
set_option linter.all false
set_option maxRecDepth 100000
set_option maxHeartbeats 2000000
namespace Mx
open PySem L2
section
variable {T : Tb} {M : Rl} {prog : Program} {w : World} {mg : Str → Option Value} {base : Heap} {j : Nat} {F : Ph} {c : Ct} {τ : XK → Prop} {X : Cx} {pos : Pos} {a b d e : E} {a' b' d' x : Expr} {es : List Expr} {xs : List Expr}
/-- one value -/
theorem rd_oneR {α : Type} {k : En → D → Hh → R α} {P : Rl → α → Hh → List Addr → Hp → Prop} {R1 : V → Hp → Prop} {σ : St} {H : Hp}
    (go : ∀ ex W ι h m d x H, τ W → Sim (Mw M ex) ι h H → EnR (Mw M ex) ι H m σ → Rp (Mw M ex) ι H d x → Po (Mw M ex) W ι H (k m d h) (P (Mw M ex)) → R1 x H)
    (q : ∃ ex W ι h m, τ W ∧ Sim (Mw M ex) ι h H ∧ EnR (Mw M ex) ι H m σ ∧ Po (Mw M ex) W ι H ((ev T.pg F a m h).bind fun x h => k m x h) (P (Mw M ex))) :
    rdE τ M T.pg F a σ H R1 := by
  obtain ⟨ex, W, ι, h, m, tk, sim, en, po⟩ := q
  exact ⟨ex, W, ι, h, m, tk, sim, en, po.step fun d1 h1 ι1 H1 x1 s1 po1 v1 r1 => go ex W ι1 h1 m d1 v1 H1 tk s1 (en.mono x1) r1 po1⟩
theorem r_neg (g : XG T M prog w mg base j c τ X) (pa : PE X a' (rdE τ M T.pg F a)) : PE X (.UnaryOp .USub a' pos) (rdE τ M T.pg F (.neg a)) :=
  (pe_un un_neg pa).imp fun σ H Q ⟨ex, W, ι, h, m, tk, sim, en, po⟩ => by
    simp only [ev] at po
    refine ⟨ex, W, ι, h, m, tk, sim, en, po.step fun d1 h1 ι1 H1 x1 s1 po1 v1 r1 => ?_⟩
    cases d1 with
    | int i => cases r1.int_inv; exact ⟨i, rfl, po1 ι1 H1 s1.refl s1 _ (.int _)⟩
    | _ => exact False.elim po1

/-! ### truth -/
theorem truE (g : XG T M prog w mg base j c τ X) {ex : List Addr} {ι : List Addr} {h : Hh} {H : Hp} {d : D} {v : V} {t : Bool} (s : Sim (Mw M ex) ι h H) (r : Rp (Mw M ex) ι H d v) (e : truth h d = some t) : TruV X.K v H t := by
  rw [g.K]; exact truth_ok (M := Mw M ex) s r e
theorem r_and (g : XG T M prog w mg base j c τ X) (pa : PE X a' (rdE τ M T.pg F a)) (pb : PE X (.BoolOp .And (x :: es) pos) (rdE τ M T.pg F b)) : PE X (.BoolOp .And (a' :: x :: es) pos) (rdE τ M T.pg F (.and_ a b)) :=
  (pe_andT pa pb).imp fun σ H Q ⟨ex, W, ι, h, m, tk, sim, en, po⟩ => by
    simp only [ev] at po
    refine ⟨ex, W, ι, h, m, tk, sim, en, po.step fun d1 h1 ι1 H1 x1 s1 po1 v1 r1 => ?_⟩
    obtain ⟨t, et, po2⟩ := po1.opt
    refine ⟨t, truE g s1 r1 et, ?_⟩
    cases t with
    | true => exact ⟨ex, W, ι1, h1, m, tk, s1, en.mono x1, by simpa using po2⟩
    | false =>
      simp only [Bool.false_eq_true, if_false] at po2 ⊢
      exact po2 ι1 H1 s1.refl s1 v1 r1
theorem r_or (g : XG T M prog w mg base j c τ X) (pa : PE X a' (rdE τ M T.pg F a)) (pb : PE X (.BoolOp .Or (x :: es) pos) (rdE τ M T.pg F b)) : PE X (.BoolOp .Or (a' :: x :: es) pos) (rdE τ M T.pg F (.or_ a b)) :=
  (pe_orT pa pb).imp fun σ H Q ⟨ex, W, ι, h, m, tk, sim, en, po⟩ => by
    simp only [ev] at po
    refine ⟨ex, W, ι, h, m, tk, sim, en, po.step fun d1 h1 ι1 H1 x1 s1 po1 v1 r1 => ?_⟩
    obtain ⟨t, et, po2⟩ := po1.opt
    refine ⟨t, truE g s1 r1 et, ?_⟩
    cases t with
    | true =>
      simp only [if_true] at po2 ⊢
      exact po2 ι1 H1 s1.refl s1 v1 r1
    | false =>
      simp only [Bool.false_eq_true, if_false] at po2 ⊢
      exact ⟨ex, W, ι1, h1, m, tk, s1, en.mono x1, po2⟩
theorem r_not (g : XG T M prog w mg base j c τ X) (pa : PE X a' (rdE τ M T.pg F a)) : PE X (.UnaryOp .Not a' pos) (rdE τ M T.pg F (.not_ a)) :=
  (pe_notT pa).imp fun σ H Q ⟨ex, W, ι, h, m, tk, sim, en, po⟩ => by
    simp only [ev] at po
    refine ⟨ex, W, ι, h, m, tk, sim, en, po.step fun d1 h1 ι1 H1 x1 s1 po1 v1 r1 => ?_⟩
    obtain ⟨t, et, po2⟩ := po1.opt
    exact ⟨t, truE g s1 r1 et, po2 ι1 H1 s1.refl s1 _ (.bl _)⟩
/-- a test by the value's truth -/
theorem rt_plain (g : XG T M prog w mg base j c τ X) (pa : PE X a' (rdE τ M T.pg F a)) (he : ∀ whole, isTrue a' X.env whole = (do let v ← whole; standAt a'.pos; holding [v] (truthy v))) : PT X a' (rdT τ M T.pg F a) :=
  (pt_truth pa he).imp fun σ H Q ⟨ex, W, ι, h, m, tk, sim, en, po⟩ => by
    refine ⟨ex, W, ι, h, m, tk, sim, en, po.step fun d1 h1 ι1 H1 x1 s1 po1 v1 r1 => ?_⟩
    cases et : truth h1 d1 with
    | none => rw [et] at po1; exact False.elim po1
    | some t =>
      rw [et] at po1
      exact ⟨t, truE g s1 r1 et, po1 ι1 H1 s1.refl s1⟩
/-- a test, then more by its answer -/
theorem rd_test {α : Type} {k : En → Bool → Hh → R α} {P : Rl → α → Hh → List Addr → Hp → Prop} {R1 : Bool → Hp → Prop} {σ : St} {H : Hp}
    (go : ∀ ex W ι h m t H, τ W → Sim (Mw M ex) ι h H → EnR (Mw M ex) ι H m σ → Po (Mw M ex) W ι H (k m t h) (P (Mw M ex)) → R1 t H)
    (q : ∃ ex W ι h m, τ W ∧ Sim (Mw M ex) ι h H ∧ EnR (Mw M ex) ι H m σ ∧ Po (Mw M ex) W ι H ((ev T.pg F a m h).bind fun x h => (rOpt (truth h x) h).bind fun t h => k m t h) (P (Mw M ex))) :
    rdT τ M T.pg F a σ H R1 := by
  obtain ⟨ex, W, ι, h, m, tk, sim, en, po⟩ := q
  refine ⟨ex, W, ι, h, m, tk, sim, en, ?_⟩
  rw [← R.bind_assoc] at po
  exact po.step fun t h1 ι1 H1 x1 s1 po1 => go ex W ι1 h1 m t H1 tk s1 (en.mono x1) po1
theorem t_not (g : XG T M prog w mg base j c τ X) (pa : PT X a' (rdT τ M T.pg F a)) : PT X (.UnaryOp .Not a' pos) (rdT τ M T.pg F (.not_ a)) :=
  (pt_not pa).imp fun σ H Q ⟨ex, W, ι, h, m, tk, sim, en, po⟩ => by
    simp only [ev, R.bind_assoc] at po
    refine rd_test (k := fun _ t h => (R.ok (D.bl (!t)) h).bind fun x h => rOpt (truth h x) h) (P := fun _ b _ _ H' => Q b H') (fun ex W ι h m t H tk s en po => ?_) ⟨ex, W, ι, h, m, tk, sim, en, po⟩
    exact po ι H s.refl s
theorem pw_of {op : BoolOp} {t : TT} (h : PT X (.BoolOp op es pos) t) : PW X (.BoolOp op es pos) t := ⟨fun whole pins s σ H Q I q => by
  have := h.run pins s σ H Q I q
  have e : isTrue (.BoolOp op es pos) X.env whole = isTrue (.BoolOp op es pos) X.env (eval (.BoolOp op es pos) X.env) := by
    simp only [PySem.isTrue]
  rw [e]; exact this⟩
theorem t_and (g : XG T M prog w mg base j c τ X) (pa : PT X a' (rdT τ M T.pg F a)) (pb : PT X (.BoolOp .And (x :: es) pos) (rdT τ M T.pg F b)) : PT X (.BoolOp .And (a' :: x :: es) pos) (rdT τ M T.pg F (.and_ a b)) :=
  (pw_and pa (pw_of pb)).pt.imp fun σ H Q ⟨ex, W, ι, h, m, tk, sim, en, po⟩ => by
    simp only [ev, R.bind_assoc] at po
    obtain ⟨ex, W, ι, h, m, tk, sim, en, po⟩ : ∃ ex W ι h m, τ W ∧ Sim (Mw M ex) ι h H ∧ EnR (Mw M ex) ι H m σ ∧ Po (Mw M ex) W ι H ((ev T.pg F a m h).bind fun x h => (rOpt (truth h x) h).bind fun t h => (if t = true then (ev T.pg F b m h).bind fun x h => rOpt (truth h x) h else .ok false h)) (fun b _ _ H' => Q b H') := by
      refine ⟨ex, W, ι, h, m, tk, sim, en, ?_⟩
      have e : ∀ x h, ((rOpt (truth h x) h).bind fun t h => (if t = true then ev T.pg F b m h else .ok x h).bind fun x h => rOpt (truth h x) h) = (rOpt (truth h x) h).bind fun t h => (if t = true then (ev T.pg F b m h).bind fun x h => rOpt (truth h x) h else .ok false h) := fun x h => by
        cases et : truth h x with
        | none => rfl
        | some t =>
          cases t with
          | true => simp only [rOpt, R.bind, if_true]
          | false => simp only [rOpt, R.bind, Bool.false_eq_true, if_false, et]
      simp only [e] at po
      exact po
    have q : rdT τ M T.pg F a σ H fun t H1 => if t = true then rdT τ M T.pg F b σ H1 Q else Q false H1 := by
      refine ⟨ex, W, ι, h, m, tk, sim, en, ?_⟩
      rw [← R.bind_assoc] at po
      refine po.step fun t h1 ι1 H1 x1 s1 po1 => ?_
      cases t with
      | true => exact ⟨ex, W, ι1, h1, m, tk, s1, en.mono x1, by simpa using po1⟩
      | false =>
        simp only [Bool.false_eq_true, if_false] at po1 ⊢
        exact po1 ι1 H1 s1.refl s1
    exact q
theorem t_or (g : XG T M prog w mg base j c τ X) (pa : PT X a' (rdT τ M T.pg F a)) (pb : PT X (.BoolOp .Or (x :: es) pos) (rdT τ M T.pg F b)) : PT X (.BoolOp .Or (a' :: x :: es) pos) (rdT τ M T.pg F (.or_ a b)) :=
  (pw_or pa (pw_of pb)).pt.imp fun σ H Q ⟨ex, W, ι, h, m, tk, sim, en, po⟩ => by
    simp only [ev, R.bind_assoc] at po
    have e : ∀ x h, ((rOpt (truth h x) h).bind fun t h => (if t = true then .ok x h else ev T.pg F b m h).bind fun x h => rOpt (truth h x) h) = (rOpt (truth h x) h).bind fun t h => (if t = true then .ok true h else (ev T.pg F b m h).bind fun x h => rOpt (truth h x) h) := fun x h => by
      cases et : truth h x with
      | none => rfl
      | some t =>
        cases t with
        | true => simp only [rOpt, R.bind, if_true, et]
        | false => simp only [rOpt, R.bind, Bool.false_eq_true, if_false]
    simp only [e] at po
    have q : rdT τ M T.pg F a σ H fun t H1 => if t = true then Q true H1 else rdT τ M T.pg F b σ H1 Q := by
      refine ⟨ex, W, ι, h, m, tk, sim, en, ?_⟩
      rw [← R.bind_assoc] at po
      refine po.step fun t h1 ι1 H1 x1 s1 po1 => ?_
      cases t with
      | true =>
        simp only [if_true] at po1 ⊢
        exact po1 ι1 H1 s1.refl s1
      | false => exact ⟨ex, W, ι1, h1, m, tk, s1, en.mono x1, by simpa using po1⟩
    exact q
/-- one operand left -/
theorem e_one {op : BoolOp} {t : TE} (p : PE X a' t) : PE X (.BoolOp op [a'] pos) t := pe_one p
theorem t_one {op : BoolOp} {t : TT} (p : PT X a' t) : PT X (.BoolOp op [a'] pos) t := by
  cases op with
  | And => exact (pw_and1 p).pt
  | Or => exact (pw_or1 p).pt
theorem r_ite (g : XG T M prog w mg base j c τ X) (pt : PT X x (rdT τ M T.pg F e)) (pa : PE X a' (rdE τ M T.pg F a)) (pb : PE X b' (rdE τ M T.pg F b)) : PE X (.IfExp x a' b' pos) (rdE τ M T.pg F (.ite e a b)) :=
  (pe_ifExp pt pa pb).imp fun σ H Q ⟨ex, W, ι, h, m, tk, sim, en, po⟩ => by
    simp only [ev] at po
    refine rd_test (k := fun m t h => if t = true then ev T.pg F a m h else ev T.pg F b m h) (P := fun M => PV M Q) (fun ex W ι h m t H tk s en po => ?_) ⟨ex, W, ι, h, m, tk, sim, en, po⟩
    cases t with
    | true => exact ⟨ex, W, ι, h, m, tk, s, en, by simpa using po⟩
    | false => exact ⟨ex, W, ι, h, m, tk, s, en, by simpa using po⟩
theorem pt_ifExp {tA ta tb : TT} {x a b : Expr} (hc : PT X x tA) (ha : PT X a ta) (hb : PT X b tb) : PT X (.IfExp x a b pos) (fun σ H Q => tA σ H fun c H1 => if c = true then ta σ H1 Q else tb σ H1 Q) := by
  refine ⟨fun pins s σ H Q I h => PyProof.Rows.isTrue_IfExp (thn (hc.run pins s σ H _ I h) fun d s1 ⟨H1, I1, q1⟩ => ?_)⟩
  cases d with
  | true => exact ha.run pins s1 σ H1 Q I1 q1
  | false => exact hb.run pins s1 σ H1 Q I1 q1
theorem t_ite (g : XG T M prog w mg base j c τ X) (pt : PT X x (rdT τ M T.pg F e)) (pa : PT X a' (rdT τ M T.pg F a)) (pb : PT X b' (rdT τ M T.pg F b)) : PT X (.IfExp x a' b' pos) (rdT τ M T.pg F (.ite e a b)) :=
  (pt_ifExp pt pa pb).imp fun σ H Q ⟨ex, W, ι, h, m, tk, sim, en, po⟩ => by
    simp only [ev, R.bind_assoc] at po
    refine rd_test (k := fun m t h => (if t = true then ev T.pg F a m h else ev T.pg F b m h).bind fun x h => rOpt (truth h x) h) (P := fun _ b _ _ H' => Q b H') (fun ex W ι h m t H tk s en po => ?_) ⟨ex, W, ι, h, m, tk, sim, en, po⟩
    cases t with
    | true => exact ⟨ex, W, ι, h, m, tk, s, en, by simpa using po⟩
    | false => exact ⟨ex, W, ι, h, m, tk, s, en, by simpa using po⟩

/-! ### chains, tuples, items, slices, fields -/
theorem R.bind_ok {α β : Type} {r : R α} {k : α → Hh → R β} {b : β} {h : Hh} (e : r.bind k = .ok b h) : ∃ a h1, r = .ok a h1 ∧ k a h1 = .ok b h := by
  cases r with
  | ok a h1 => exact ⟨a, h1, rfl, e⟩
  | exc _ _ _ => cases e
  | bad => cases e
theorem ch_bl {P : Pg} {o p : Co} {m : En} {h h' : Hh} {z : D} (e : ev P F (.ch o p a b d) m h = .ok z h') : ∃ t, z = .bl t := by
  simp only [ev] at e
  obtain ⟨_, _, _, e⟩ := R.bind_ok e
  obtain ⟨_, _, _, e⟩ := R.bind_ok e
  obtain ⟨t, _, _, e⟩ := R.bind_ok e
  cases t with
  | false =>
    simp only [Bool.false_eq_true, if_false] at e
    cases e; exact ⟨_, rfl⟩
  | true =>
    simp only [if_true] at e
    obtain ⟨_, _, _, e⟩ := R.bind_ok e
    obtain ⟨_, _, _, e⟩ := R.bind_ok e
    cases e; exact ⟨_, rfl⟩
theorem po_bl {M : Rl} {W : XK} {ι : List Addr} {H : Hp} {r : R D} {Q : Bool → Hp → Prop} (hb : ∀ z h, r = .ok z h → ∃ t, z = .bl t) (po : Po M W ι H (r.bind fun x h => rOpt (truth h x) h) (fun b _ _ H' => Q b H')) :
    Po M W ι H r (PV M fun z H' => ∃ k, z = .bl k ∧ Q k H') := by
  cases r with
  | bad => exact po
  | exc _ _ _ => exact po
  | ok z h =>
    obtain ⟨t, rfl⟩ := hb z h rfl
    exact fun ι' H' x1 s1 v r => ⟨t, r.bl_inv, po ι' H' x1 s1⟩
theorem r_ch (o p : Co) (g : XG T M prog w mg base j c τ X) (hm : lastMarks [cop o, cop p] [b', d'] = false) (pa : PE X a' (rdE τ M T.pg F a)) (pb : PE X b' (rdE τ M T.pg F b)) (pd : PE X d' (rdE τ M T.pg F d)) :
    PE X (.Compare a' [cop o, cop p] [b', d'] pos) (rdE τ M T.pg F (.ch o p a b d)) ∧ PT X (.Compare a' [cop o, cop p] [b', d'] pos) (rdT τ M T.pg F (.ch o p a b d)) := by
  have ho : ∀ o, OpR X (compareOp (cop o)) (fun x y H Q => ∃ ex, rd2 (Mw M ex) (cmpR o) x y H Q) := fun o pins s σ H x y v u Q I rx ry ⟨ex, q⟩ => cmpD_ok (M := Mw M ex) g.K g.room.units o pins s σ H x y v u Q I rx ry q
  have key : ∀ (σ : St) (H : Hp) (Q : VK), (∃ ex W ι h m, τ W ∧ Sim (Mw M ex) ι h H ∧ EnR (Mw M ex) ι H m σ ∧ Po (Mw M ex) W ι H (ev T.pg F (.ch o p a b d) m h) (PV (Mw M ex) Q)) →
      tChain (fun x y H Q => ∃ ex, rd2 (Mw M ex) (cmpR o) x y H Q) (fun x y H Q => ∃ ex, rd2 (Mw M ex) (cmpR p) x y H Q) (rdE τ M T.pg F a) (rdE τ M T.pg F b) (rdE τ M T.pg F d) σ H Q := by
    intro σ H Q ⟨ex, W, ι, h, m, tk, sim, en, po⟩
    simp only [ev] at po
    refine ⟨ex, W, ι, h, m, tk, sim, en, po.step fun d1 h1 ι1 H1 x1 s1 po1 v1 r1 => ⟨ex, W, ι1, h1, m, tk, s1, en.mono x1, po1.step fun d2 h2 ι2 H2 x2 s2 po2 v2 r2 => ?_⟩⟩
    refine ⟨ex, W, ι2, h2, d1, d2, s2, r1.mono x2, r2, ?_⟩
    obtain ⟨t, et, po3⟩ := po2.opt
    unfold cmpR
    rw [et]
    intro ι3 H3 x3 s3 z rz
    refine ⟨t, rz.bl_inv, ?_⟩
    cases t with
    | false =>
      simp only [Bool.false_eq_true, if_false] at po3 ⊢
      exact po3 ι3 H3 x3 s3 _ (.bl _)
    | true =>
      simp only [if_true] at po3 ⊢
      refine ⟨ex, W, ι3, h2, m, tk, s3, (en.mono x1).mono (x2.trans x3), (po3.later x3).step fun d4 h4 ι4 H4 x4 s4 po4 v4 r4 => ?_⟩
      exact ⟨ex, W, ι4, h4, d2, d4, s4, (r2.mono x3).mono x4, r4, po4⟩
  refine ⟨(pe_chain (ho o) (ho p) pa pb pd hm).imp fun σ H Q q => key σ H Q q, (pt_chain (ho o) (ho p) pa pb pd hm).imp fun σ H Q ⟨ex, W, ι, h, m, tk, sim, en, po⟩ => ?_⟩
  exact key σ H _ ⟨ex, W, ι, h, m, tk, sim, en, po_bl (fun z h e => ch_bl e) po⟩
theorem r_tup (pa : PA X xs (rdEs τ M T.pg F a)) : PE X (.Tuple xs k pos) (rdE τ M T.pg F (.tup a)) :=
  (pe_tup pa).imp fun σ H Q ⟨ex, W, ι, h, m, tk, sim, en, po⟩ => by
    simp only [ev] at po
    refine ⟨ex, W, ι, h, m, tk, sim, en, po.step fun d1 h1 ι1 H1 x1 s1 po1 vs r1 => ?_⟩
    obtain ⟨hz, po2⟩ := po1.if_
    refine ⟨by rw [line_eq, ← r1.length]; exact hz, fun p n => ?_⟩
    obtain ⟨x2, s2, t2⟩ := tup_new s1 r1 n
    exact po2 ι1 _ x2 s2 _ t2
theorem r_es0 : PA X [] (rdEs τ M T.pg F .nil) :=
  pa_nil.imp fun σ H Q ⟨ex, W, ι, h, m, tk, sim, en, po⟩ => by
    simp only [evs] at po
    exact po ι H sim.refl sim [] .nil
theorem r_es1 (hp : plainE a' = true) (pa : PE X a' (rdE τ M T.pg F a)) (pb : PA X xs (rdEs τ M T.pg F b)) : PA X (a' :: xs) (rdEs τ M T.pg F (.cons a b)) :=
  (pa_cons pa pb (starEach_plain hp)).imp fun σ H Q ⟨ex, W, ι, h, m, tk, sim, en, po⟩ => by
    simp only [evs] at po
    refine ⟨ex, W, ι, h, m, tk, sim, en, po.step fun d1 h1 ι1 H1 x1 s1 po1 v1 r1 => ⟨ex, W, ι1, h1, m, tk, s1, en.mono x1, po1.step fun ds h2 ι2 H2 x2 s2 po2 vs r2 => ?_⟩⟩
    exact po2 ι2 H2 s2.refl s2 _ (.cons (r1.mono x2) r2)
theorem r_ix (g : XG T M prog w mg base j c τ X) (hs : PlainIx b') (pa : PE X a' (rdE τ M T.pg F a)) (pb : PE X b' (rdE τ M T.pg F b)) : PE X (.Subscript a' b' pos) (rdE τ M T.pg F (.ix a b)) :=
  (pe_ix (r := fun x y H Q => ∃ ex, rd2 (Mw M ex) ixR x y H Q) (fun v0 s0 pins s σ H x y v u Q I rx ry ⟨ex, q⟩ hsb => ix_okD (M := Mw M ex) g.K g.room.units v0 s0 pins s σ H x y v u Q I rx ry q hsb) pa pb hs).imp fun σ H Q =>
    rd_two (k := fun x y h => ixR h x y) (fun m h => by simp only [ev]) fun ex W ι h dx dy x y H tk s r1 r2 po => ⟨ex, W, ι, h, dx, dy, s, r1, r2, po⟩
theorem r_o0 : PO X none (rdO τ M T.pg F .nil) :=
  po_none.imp fun σ H Q ⟨ex, W, ι, h, m, tk, sim, en, po⟩ => by
    simp only [evO] at po
    exact po ι H sim.refl sim
theorem r_o1 (pa : PE X a' (rdE τ M T.pg F a)) : PO X (some a') (rdO τ M T.pg F (.cons a b)) :=
  (po_some pa).imp fun σ H Q ⟨ex, W, ι, h, m, tk, sim, en, po⟩ => by
    simp only [evO] at po
    refine ⟨ex, W, ι, h, m, tk, sim, en, po.step fun d1 h1 ι1 H1 x1 s1 po1 v1 r1 => ?_⟩
    cases d1 with
    | int i => exact ⟨i, r1.int_inv, po1 ι1 H1 s1.refl s1⟩
    | _ => exact False.elim po1
theorem rd_sl {k : D → Option Int → Option Int → Hh → R D} {PP : Rl → D → Hh → List Addr → Hp → Prop} {r : V → Option Int → Option Int → Hp → VK → Prop} {σ : St} {H : Hp} {Q : VK} {lo hi : E}
    (go : ∀ ex W ι h dx x l u H, τ W → Sim (Mw M ex) ι h H → Rp (Mw M ex) ι H dx x → Po (Mw M ex) W ι H (k dx l u h) (PV (Mw M ex) Q) → r x l u H Q)
    (q : ∃ ex W ι h m, τ W ∧ Sim (Mw M ex) ι h H ∧ EnR (Mw M ex) ι H m σ ∧ Po (Mw M ex) W ι H ((ev T.pg F a m h).bind fun x h => (evO T.pg F lo m h).bind fun l h => (evO T.pg F hi m h).bind fun u h => k x l u h) (PV (Mw M ex) Q)) :
    tSl r (rdE τ M T.pg F a) (rdO τ M T.pg F lo) (rdO τ M T.pg F hi) σ H Q := by
  obtain ⟨ex, W, ι, h, m, tk, sim, en, po⟩ := q
  refine ⟨ex, W, ι, h, m, tk, sim, en, po.step fun d1 h1 ι1 H1 x1 s1 po1 v1 r1 => ⟨ex, W, ι1, h1, m, tk, s1, en.mono x1, po1.step fun l h2 ι2 H2 x2 s2 po2 => ⟨ex, W, ι2, h2, m, tk, s2, (en.mono x1).mono x2, po2.step fun u h3 ι3 H3 x3 s3 po3 => ?_⟩⟩⟩
  exact go ex W ι3 h3 d1 v1 l u H3 tk s3 ((r1.mono x2).mono x3) po3
theorem r_sl (g : XG T M prog w mg base j c τ X) (hw : SlR X (rSlTw X.K)) {lo hi : E} {lo' hi' : Option Expr} {p2 : Pos} (pa : PE X a' (rdE τ M T.pg F a)) (pl : PO X lo' (rdO τ M T.pg F lo)) (ph : PO X hi' (rdO τ M T.pg F hi)) : PE X (.Subscript a' (.Slice lo' hi' none p2) pos) (rdE τ M T.pg F (.sl a lo hi)) :=
  (pe_slice (r := fun x lo hi H Q => ∃ ex, rdSl (Mw M ex) slR x lo hi H Q) (fun pins s σ H x v vl vu lo hi sl Q I rx hs pl pu ⟨ex, q⟩ => sl_okD (M := Mw M ex) g.K hw pins s σ H x v vl vu lo hi sl Q I rx hs pl pu q) pa pl ph).imp fun σ H Q ⟨ex, W, ι, h, m, tk, sim, en, po⟩ => by
    simp only [ev] at po
    exact rd_sl (PP := fun M => PV M Q) (k := fun x l u h => slR h x l u) (fun ex W ι h dx x l u H tk s r1 po => ⟨ex, W, ι, h, dx, s, r1, po⟩) ⟨ex, W, ι, h, m, tk, sim, en, po⟩
theorem zip_look {v : V} {f : Str} : ∀ {fs : List Str} {vs : List V} {i : Nat}, fs.Nodup → fs[i]? = some f → vs[i]? = some v → (fs.zip vs).lookup f = some v
  | [], _, _, _, e, _ => by simp at e
  | g :: fs, [], _, _, _, e => by simp at e
  | g :: fs, u :: vs, 0, nd, e, e2 => by
    simp at e e2; subst e e2
    simp [List.lookup_cons]
  | g :: fs, u :: vs, i + 1, nd, e, e2 => by
    have hne : f ≠ g := fun z => by
      subst z
      exact (List.nodup_cons.mp nd).1 (List.mem_of_getElem? (by simpa using e))
    rw [List.zip_cons_cons, List.lookup_cons, beq_false_of_ne hne]
    exact zip_look (List.nodup_cons.mp nd).2 (by simpa using e) (by simpa using e2)
theorem r_fld {W0 : Wd T M prog w mg base j F} (g : XG T M prog w mg base j c τ X) {f : Nat} {cs : List Nat} {y : Str} (hcs : ∀ k ∈ cs, (T.fl k)[f]? = some y ∧ (T.fl k).Nodup) (hb : attributeBase a' y X.env (eval a' X.env) = eval a' X.env) (pa : PE X a' (rdE τ M T.pg F a)) :
    PE X (.Attribute a' y pos) (rdE τ M T.pg F (.fld cs a f)) :=
  (pe_fld pa hb).imp fun σ H Q ⟨ex, W, ι, h, m, tk, sim, en, po⟩ => by
    simp only [ev] at po
    have key : ∀ {ι H k dx vs ds d} {ad : Addr}, M.ok k → H ad = some (.ins (M.cl k) dx ((M.fl k).zip vs)) → RpL (Mw M ex) ι H ds vs → k ∈ cs → ds[f]? = some d → (∀ v, Rp (Mw M ex) ι H d v → Q v H) →
        ∃ a C dx fs v, V.ref ad = .ref a ∧ H a = some (.ins C dx fs) ∧ Cls X.K C ∧ NoAttr X.K C y ∧ fs.lookup y = some v ∧ Q v H := fun {ι H k dx vs ds d ad} ok e l hk ed q => by
      obtain ⟨h1, h2⟩ := hcs k hk
      obtain ⟨c1, c2⟩ := W0.cls k ok
      obtain ⟨v, ev, rv⟩ := l.get ed
      refine ⟨ad, _, _, _, v, rfl, e, by rw [g.K]; exact c1, by rw [g.K]; exact c2 y (List.mem_of_getElem? h1), ?_, q v rv⟩
      rw [W0.flds k ok]
      exact zip_look h2 h1 ev
    refine ⟨ex, W, ι, h, m, tk, sim, en, po.step fun d1 h1 ι1 H1 x1 s1 po1 v1 r1 => ?_⟩
    cases d1 with
    | obj k ds =>
      obtain ⟨hk, po2⟩ := po1.if_
      obtain ⟨ad, dx, vs, rfl, ok, _, e, _, l⟩ := r1.obj_inv
      cases ed : ds[f]? with
      | none => rw [ed] at po2; exact False.elim po2
      | some d => rw [ed] at po2; exact key ok e l hk ed (po2 ι1 H1 s1.refl s1)
    | ref r =>
      obtain ⟨ad, rfl, e1⟩ := r1.ref_inv
      dsimp only at po1
      cases eo : h1[r]? with
      | none => rw [eo] at po1; exact False.elim po1
      | some o =>
        rw [eo] at po1
        cases o with
        | ins k ds =>
          obtain ⟨hk, po2⟩ := Po.if_ po1
          obtain ⟨ad', e2, ob⟩ := s1.at eo
          rw [e1] at e2; cases e2
          obtain ⟨dx, vs, ok, e, _, l⟩ := ob
          cases ed : ds[f]? with
          | none => rw [ed] at po2; exact False.elim po2
          | some d => rw [ed] at po2; exact key ok e l hk ed (po2 ι1 H1 s1.refl s1)
        | _ => exact False.elim po1
    | _ => exact False.elim po1
end
end Mx
set_option Elab.async false
set_option linter.all false
set_option maxRecDepth 100000
set_option maxHeartbeats 2000000
namespace Mx
open PySem L2
/-! ### repr -/
section
variable {X : Cx} {M : Rl} {ι : List Addr} {H : Hp} {h : Hh}
theorem pdF_depth_ok : True := trivial
theorem bi_repr (hK : X.K = M.K) (hg : X.A.guards = some []) (hu : X.A.units + 64 < cLine) : CallR X (.builtin "repr") (rdB M fun h => biD h .repr) := by
  intro pins s σ H vs us Q I r hh
  obtain ⟨W, ι, h, ds, sim, l, po⟩ := hh
  have po : Po M W ι H (biRepr h ds) (fun d _ ι' H' => ∀ v, Rp M ι' H' d v → Q v H') := po
  unfold biRepr at po
  split at po
  all_goals first | (exact False.elim po) | skip
  · obtain ⟨v, rfl, q⟩ := l.one
    obtain ⟨p, e, po⟩ := po.opt
    obtain ⟨⟨h1, h2, h3, h4⟩, po⟩ := po.if_
    have fin : Q (.str p.shown) H := po ι H sim.refl sim _ (.str _)
    have dp := dp_of sim 12 _ _ _ q e
    rw [← hK] at dp
    rw [← line_eq] at h4
    cases r with
    | cons r rr =>
      cases rr
      obtain ⟨as, rd⟩ := Dp.reads I p v _ dp r
      cases dp with
      | non => cases r; exact PySem.P.repr_of_none ⟨.str _, H, I.tok _, ⟨_, rfl⟩, fin⟩
      | bl b =>
        cases r
        refine PySem.P.repr_of_bool ⟨.str _, H, I.tok _, ⟨_, rfl⟩, ?_⟩
        cases b <;> exact fin
      | int i =>
        obtain ⟨t, rfl⟩ := r
        refine PySem.P.repr_of_int (by simpa [PyData.showable] using h1) ⟨.str _, H, I.tok _, ⟨_, rfl⟩, fin⟩
      | str z =>
        obtain ⟨t, rfl⟩ := r
        exact PySem.P.repr_of_str ⟨.str _, H, I.tok _, ⟨_, rfl⟩, fin⟩ h4
      | tup a b =>
        cases r
        exact repr_of_reads' rd h1 (PyData.noDict_hsm h2) hg (by omega) (fun _ _ e => e) (fun h' u tk hk => ⟨.str _, H, I.kept hk, ⟨_, rfl⟩, fin⟩) h4
      | lst a b =>
        cases r
        exact repr_of_reads' rd h1 (PyData.noDict_hsm h2) hg (by omega) (fun _ _ e => e) (fun h' u tk hk => ⟨.str _, H, I.kept hk, ⟨_, rfl⟩, fin⟩) h4
end

/-! ### calls of what is built in -/
section
variable {T : Tb} {M : Rl} {prog : Program} {w : World} {mg : Str → Option Value} {base : Heap} {j : Nat} {F : Ph} {c : Ct} {τ : XK → Prop} {X : Cx} {pos : Pos} {a b d e : E} {a' b' d' x : Expr} {es : List Expr} {xs : List Expr}
def bval : Bi → Value
  | .len => .builtin "len" | .sum => .builtin "sum" | .max1 => .builtin "max" | .min1 => .builtin "min" | .max2 => .builtin "max" | .min2 => .builtin "min" | .abs => .builtin "abs" | .int => .type "int" | .all => .builtin "all" | .any => .builtin "any"
  | .tuple => .type "tuple" | .divmod => .builtin "divmod" | .repr => .builtin "repr" | _ => .builtin "isinstance"
def plainBi : Bi → Bool
  | .isInt => false | .isBool => false | .isSeq => false | .isTup => false | .isStr => false | .isCls _ => false
  | _ => true
def biName : Bi → Str
  | .len => "len" | .sum => "sum" | .max1 => "max" | .min1 => "min" | .max2 => "max" | .min2 => "min" | .abs => "abs" | .int => "int" | .all => "all" | .any => "any" | .tuple => "tuple" | .divmod => "divmod" | .repr => "repr" | _ => "isinstance"
theorem bi_any_ok (g : XG T M prog w mg base j c τ X) (b : Bi) (hb : plainBi b = true) (ex : List Addr) : CallR X (bval b) (rdB (Mw M ex) fun h => biD h b) := by
  have hu := g.room.units
  cases b <;> first
    | exact bi_len (M := Mw M ex) g.K
    | exact bi_sum (M := Mw M ex) g.K g.calm
    | exact bi_max1 (M := Mw M ex) g.K g.calm
    | exact bi_min1 (M := Mw M ex) g.K g.calm
    | exact bi_max2 (M := Mw M ex) g.calm
    | exact bi_min2 (M := Mw M ex) g.calm
    | exact bi_abs (M := Mw M ex)
    | exact bi_int (M := Mw M ex)
    | exact bi_all (M := Mw M ex) g.K g.calm
    | exact bi_any (M := Mw M ex) g.K g.calm
    | exact bi_tuple (M := Mw M ex) g.K
    | exact bi_divmod (M := Mw M ex)
    | exact bi_repr (M := Mw M ex) g.K g.gd hu
    | cases hb
/-- values, then more -/
theorem rd_esR {α : Type} {k : En → List D → Hh → R α} {P : Rl → α → Hh → List Addr → Hp → Prop} {R1 : List V → Hp → Prop} {σ : St} {H : Hp}
    (go : ∀ ex W ι h m ds vs H, τ W → Sim (Mw M ex) ι h H → EnR (Mw M ex) ι H m σ → RpL (Mw M ex) ι H ds vs → Po (Mw M ex) W ι H (k m ds h) (P (Mw M ex)) → R1 vs H)
    (q : ∃ ex W ι h m, τ W ∧ Sim (Mw M ex) ι h H ∧ EnR (Mw M ex) ι H m σ ∧ Po (Mw M ex) W ι H ((evs T.pg F a m h).bind fun x h => k m x h) (P (Mw M ex))) :
    rdEs τ M T.pg F a σ H R1 := by
  obtain ⟨ex, W, ι, h, m, tk, sim, en, po⟩ := q
  exact ⟨ex, W, ι, h, m, tk, sim, en, po.step fun d1 h1 ι1 H1 x1 s1 po1 v1 r1 => go ex W ι1 h1 m d1 v1 H1 tk s1 (en.mono x1) r1 po1⟩
theorem boot_ok (b : Bi) : bootBuiltins (biName b) = some (bval b) := by
  cases b with
  | isCls k => exact (by decide +kernel : bootBuiltins "isinstance" = some (.builtin "isinstance"))
  | _ => decide +kernel
theorem biName_ok (b : Bi) : biName b ∈ bnames ∧ biName b ≠ "__name__" ∧ (biName b == ("__debug__" : Str)) = false := by
  cases b with
  | isCls k => exact (by decide +kernel : ("isinstance" : Str) ∈ bnames ∧ ("isinstance" : Str) ≠ "__name__" ∧ (("isinstance" : Str) == ("__debug__" : Str)) = false)
  | _ => decide +kernel
theorem star_ok {env : Env} {pos : Pos} {es : List Expr} (h : es.all plainE = true) : (backTo pos (starEach es env)).any (·.1) = false := star_any h
theorem r_bi {W0 : Wd T M prog w mg base j F} (g : XG T M prog w mg base j c τ X) (b : Bi) (hb : plainBi b = true) {p : Pos} (hg : Gl X (biName b)) (hp : (x :: es).all plainE = true) (pa : PA X (x :: es) (rdEs τ M T.pg F a)) :
    PE X (.Call (.Name (biName b) p) (x :: es) [] pos) (rdE τ M T.pg F (.bi b a)) := by
  have hm : X.mg (biName b) = none := by rw [g.mg]; exact W0.free _ (biName_ok b).1
  have hc : CallR X (bval b) (fun vs H Q => ∃ ex, rdB (Mw M ex) (fun h => biD h b) vs H Q) := fun pins s σ H vs us Q I r ⟨ex, q⟩ => bi_any_ok g b hb ex pins s σ H vs us Q I r q
  have hp2 := hp
  rw [List.all_cons, Bool.and_eq_true] at hp
  have key : ∀ σ H Q, rdE τ M T.pg F (.bi b a) σ H Q → tCB (fun vs H Q => ∃ ex, rdB (Mw M ex) (fun h => biD h b) vs H Q) (rdEs τ M T.pg F a) σ H Q := fun σ H Q ⟨ex, W, ι, h, m, tk, sim, en, po⟩ => by
    simp only [ev] at po
    exact rd_esR (k := fun _ ds h => biD h b ds) (P := fun M => PV M Q) (fun ex W ι h m ds vs H tk s en r po => ⟨ex, W, ι, h, ds, s, r, po⟩) ⟨ex, W, ι, h, m, tk, sim, en, po⟩
  have hv := boot_ok b
  cases e : bval b with
  | builtin id =>
    rw [e] at hc hv
    exact (pe_callB hc hg hm hv pa (biName_ok b).2.1 (biName_ok b).2.2 (starEach_plain hp.1) (star_ok hp.2)).imp key
  | type id =>
    rw [e] at hc hv
    exact (pe_callTy hc hg hm hv pa (biName_ok b).2.1 (biName_ok b).2.2 (starEach_plain hp.1) (star_ok hp.2)).imp key
  | _ => cases b <;> cases e

/-! ### isinstance -/
/-- the class's expression -/
def okCls (T : Tb) : Bi → Expr → Bool
  | .isInt, .Name z _ => decide (z = "int")
  | .isBool, .Name z _ => decide (z = "bool")
  | .isStr, .Name z _ => decide (z = "str")
  | .isTup, .Name z _ => decide (z = "tuple")
  | .isCls k, .Name z _ => decide (z = T.cn k)
  | .isSeq, .Tuple [.Name z _, .Name y _] _ _ => decide (z = "list") && decide (y = "tuple")
  | _, _ => false
theorem boot_cls : bootBuiltins "int" = some (.type "int") ∧ bootBuiltins "bool" = some (.type "bool") ∧ bootBuiltins "str" = some (.type "str") ∧ bootBuiltins "tuple" = some (.type "tuple") ∧ bootBuiltins "list" = some (.type "list") := by decide +kernel
theorem r_isa {W0 : Wd T M prog w mg base j F} (g : XG T M prog w mg base j c τ X) (b : Bi) {p p2 : Pos} {z : Str} (hb : okCls T b (.Name z p2) = true) (hk : ∀ k, b = .isCls k → M.ok k) (hg : Gl X "isinstance") (hz : Gl X z) (hd : (z == ("__debug__" : Str)) = false) (hp : plainE a' = true) (pa : PE X a' (rdE τ M T.pg F a)) :
    PE X (.Call (.Name "isinstance" p) [a', .Name z p2] [] pos) (rdE τ M T.pg F (.bi b (.cons a .nil))) := by
  have hm : X.mg "isinstance" = none := by rw [g.mg]; exact W0.free _ (by decide +kernel)
  have free : ∀ y ∈ bnames, X.mg y = none := fun y hy => by rw [g.mg]; exact W0.free _ hy
  obtain ⟨b1, b2, b3, b4, b5⟩ := boot_cls
  obtain ⟨v, hv, pz⟩ : ∃ v, isaV M b = some v ∧ PE X (.Name z p2) (tC v) := by
    cases b with
    | isInt => cases of_decide_eq_true hb; exact ⟨_, rfl, pe_bltn hz (free _ (by decide +kernel)) b1 rfl⟩
    | isBool => cases of_decide_eq_true hb; exact ⟨_, rfl, pe_bltn hz (free _ (by decide +kernel)) b2 rfl⟩
    | isStr => cases of_decide_eq_true hb; exact ⟨_, rfl, pe_bltn hz (free _ (by decide +kernel)) b3 rfl⟩
    | isTup => cases of_decide_eq_true hb; exact ⟨_, rfl, pe_bltn hz (free _ (by decide +kernel)) b4 rfl⟩
    | isCls k =>
      have e := of_decide_eq_true hb
      exact ⟨_, rfl, pe_glob hz (by rw [g.mg, e]; exact W0.nm k (hk k rfl)) rfl hd⟩
    | _ => cases hb
  have hc : CallR X (.builtin "isinstance") (fun vs H Q => ∃ ex ι h d x, vs = [x, v] ∧ Sim (Mw M ex) ι h H ∧ Rp (Mw M ex) ι H d x ∧ ∃ W, Po (Mw M ex) W ι H (biD h b [d]) (PV (Mw M ex) Q)) := by
    intro pins s σ H vs us Q I r ⟨ex, ι, h, d, x, e, sim, rx, W, po⟩
    subst e
    have po : Po (Mw M ex) W ι H (biIsa b h [d]) (PV (Mw M ex) Q) := by
      cases b <;> first | exact po | cases hb
    obtain ⟨t, et, po⟩ := po.opt
    cases ek : kdOf h d with
    | none => rw [ek] at et; cases et
    | some k =>
      rw [ek] at et
      exact isa_ok (M := Mw M ex) g.K (fun c hc => W0.clf c hc) I (by cases b <;> exact hv) hk sim rx r ek et (po ι H sim.refl sim _ (.bl _))
  refine (pe_callB hc hg hm (by decide +kernel) (pa_cons pa (pa_cons pz pa_nil rfl) (starEach_plain hp)) (by decide) (by decide) (starEach_plain hp) rfl).imp fun σ H Q ⟨ex, W, ι, h, m, tk, sim, en, po⟩ => ?_
  simp only [ev, evs, R.bind_assoc] at po
  refine ⟨ex, W, ι, h, m, tk, sim, en, po.step fun d1 h1 ι1 H1 x1 s1 po1 v1 r1 => ?_⟩
  exact ⟨ex, ι1, h1, d1, v1, rfl, s1, r1, W, po1⟩
theorem r_isS {W0 : Wd T M prog w mg base j F} (g : XG T M prog w mg base j c τ X) {p p1 p2 p3 : Pos} {k0 : Nat} (hg : Gl X "isinstance") (hl : Gl X "list") (ht : Gl X "tuple") (hp : plainE a' = true) (pa : PE X a' (rdE τ M T.pg F a)) :
    PE X (.Call (.Name "isinstance" p) [a', .Tuple [.Name "list" p1, .Name "tuple" p2] k0 p3] [] pos) (rdE τ M T.pg F (.bi .isSeq (.cons a .nil))) := by
  have free : ∀ y ∈ bnames, X.mg y = none := fun y hy => by rw [g.mg]; exact W0.free _ hy
  obtain ⟨b1, b2, b3, b4, b5⟩ := boot_cls
  have hc : CallR X (.builtin "isinstance") (fun vs H Q => ∃ ex ι h d x tp, vs = [x, .ref tp] ∧ H tp = some (.tup [.ty "list", .ty "tuple"]) ∧ Sim (Mw M ex) ι h H ∧ Rp (Mw M ex) ι H d x ∧ ∃ W, Po (Mw M ex) W ι H (biD h .isSeq [d]) (PV (Mw M ex) Q)) := by
    intro pins s σ H vs us Q I r ⟨ex, ι, h, d, x, tp, e, ht, sim, rx, W, po⟩
    subst e
    have po : Po (Mw M ex) W ι H (biIsa .isSeq h [d]) (PV (Mw M ex) Q) := po
    obtain ⟨t, et, po⟩ := po.opt
    cases ek : kdOf h d with
    | none => rw [ek] at et; cases et
    | some k =>
      rw [ek] at et
      exact isaS_ok (M := Mw M ex) g.K (fun c hc => W0.clf c hc) I ht sim rx r ek et (po ι H sim.refl sim _ (.bl _))
  refine (pe_callB hc hg (free _ (by decide +kernel)) (by decide +kernel) (pa_cons pa (pa_cons (pe_tup (pa_cons (pe_bltn hl (free _ (by decide +kernel)) b5 (v := .ty "list") rfl) (pa_cons (pe_bltn ht (free _ (by decide +kernel)) b4 (v := .ty "tuple") rfl) pa_nil rfl) rfl)) pa_nil rfl) (starEach_plain hp)) (by decide) (by decide) (starEach_plain hp) rfl).imp fun σ H Q ⟨ex, W, ι, h, m, tk, sim, en, po⟩ => ?_
  simp only [ev, evs, R.bind_assoc] at po
  refine ⟨ex, W, ι, h, m, tk, sim, en, po.step fun d1 h1 ι1 H1 x1 s1 po1 v1 r1 => ?_⟩
  refine ⟨by show 2 ≤ sizeLine; decide, fun tp n => ?_⟩
  exact ⟨ex, ι1, h1, d1, v1, tp, rfl, upd_same, s1.hid n, r1.mono (.hid s1 n), W, po1.later (.hid s1 n)⟩

/-! ### methods of lists -/
def mname : Mt → Str
  | .append => "append" | .pop0 => "pop" | .pop1 => "pop" | .index => "index" | .insert => "insert"
def mid : Mt → String
  | .append => "list.append" | .pop0 => "list.pop" | .pop1 => "list.pop" | .index => "list.index" | .insert => "list.insert"
theorem mt_ok (g : XG T M prog w mg base j c τ X) (m : Mt) (ex : List Addr) : MtR X (mid m) (rdM (Mw M ex) fun h x ds => mtD h m x ds) := by
  cases m with
  | append => exact mt_append_ok (M := Mw M ex)
  | pop0 => exact mt_pop0_ok (M := Mw M ex)
  | pop1 => exact mt_pop1_ok (M := Mw M ex)
  | insert => exact mt_insert_ok (M := Mw M ex)
  | index => exact mt_index_ok (M := Mw M ex) g.K
theorem slot_ok (m : Mt) : Slot "list" (mname m) (mid m) := by
  cases m with
  | append => exact PySem.F.slot_list_append
  | pop0 => exact PySem.F.slot_list_pop
  | pop1 => exact PySem.F.slot_list_pop
  | index => exact PySem.F.slot_list_index
  | insert => exact PySem.F.slot_list_insert
theorem mty_ok (m : Mt) : typeOf (.builtin (mid m)) = pure (.type "method_descriptor") := by
  cases m with
  | append => exact PySem.F.type_list_append
  | pop0 => exact PySem.F.type_list_pop
  | pop1 => exact PySem.F.type_list_pop
  | index => exact PySem.F.type_list_index
  | insert => exact PySem.F.type_list_insert
theorem tyL (g : XG T M prog w mg base j c τ X) {ex : List Addr} {ι : List Addr} {h : Hh} {H : Hp} {d : D} {v : V} (s : Sim (Mw M ex) ι h H) (r : Rp (Mw M ex) ι H d v) (e : (lstOf h d).isSome = true) : tyV X.K "list" v H := by
  rw [g.K]
  cases d with
  | fls xs => obtain ⟨a, vs, rfl, _, q, l⟩ := r.fls_inv; exact .inl ⟨rfl, vs, SqL.of q⟩
  | ref r' =>
    simp only [lstOf] at e
    split at e
    · rename_i xs e1
      obtain ⟨a, vs, rfl, _, q, l⟩ := s.list r e1
      exact .inl ⟨rfl, vs, SqL.of q⟩
    · cases e
  | _ => cases e
theorem r_mt0 (g : XG T M prog w mg base j c τ X) {apos : Pos} (hb : attributeBase a' "pop" X.env (eval a' X.env) = eval a' X.env) (hl : (apos.endLine == pos.line) = true) (pa : PE X a' (rdE τ M T.pg F a)) :
    PE X (.Call (.Attribute a' "pop" apos) [] [] pos) (rdE τ M T.pg F (.mt .pop0 a .nil)) :=
  (pe_bm0 (r := fun x vs H Q => ∃ ex, rdM (Mw M ex) (fun h x ds => mtD h .pop0 x ds) x vs H Q) PySem.F.plainAttrs_list (slot_ok .pop0) (mty_ok .pop0) (fun pins s σ H x xs v us Q I rx ru ⟨ex, q⟩ => mt_ok g .pop0 ex pins s σ H x xs v us Q I rx ru q) pa hb hl).imp fun σ H Q ⟨ex, W, ι, h, m, tk, sim, en, po⟩ => by
    simp only [ev, evs] at po
    refine ⟨ex, W, ι, h, m, tk, sim, en, po.step fun d1 h1 ι1 H1 x1 s1 po1 v1 r1 => ?_⟩
    obtain ⟨hl, po2⟩ := po1.if_
    exact ⟨tyL g s1 r1 hl, ex, W, ι1, h1, d1, [], s1, r1, .nil, po2⟩
theorem r_mt (g : XG T M prog w mg base j c τ X) {apos : Pos} (m : Mt) (hb : attributeBase a' (mname m) X.env (eval a' X.env) = eval a' X.env) (hl : (apos.endLine == pos.line) = true) (hp : (x :: es).all plainE = true) (hn : es.length < 20) (pa : PE X a' (rdE τ M T.pg F a)) (pb : PA X (x :: es) (rdEs τ M T.pg F b)) :
    PE X (.Call (.Attribute a' (mname m) apos) (x :: es) [] pos) (rdE τ M T.pg F (.mt m a b)) := by
  have hp2 := hp
  rw [List.all_cons, Bool.and_eq_true] at hp
  have any_all : ∀ l : List (Bool × Sem Value), l.any (·.1) = false → l.all (fun x => !x.1) = true := fun l h => by
    simp only [List.any_eq_false, List.all_eq_true] at h ⊢
    intro y hy
    have := h y hy
    simpa using this
  refine (pe_bm (r := fun x vs H Q => ∃ ex, rdM (Mw M ex) (fun h x ds => mtD h m x ds) x vs H Q) PySem.F.plainAttrs_list (slot_ok m) (mty_ok m) (fun pins s σ H x xs v us Q I rx ru ⟨ex, q⟩ => mt_ok g m ex pins s σ H x xs v us Q I rx ru q) pa pb hb ?_ hl (starEach_plain hp.1) (star_ok hp.2)).imp fun σ H Q ⟨ex, W, ι, h, m', tk, sim, en, po⟩ => ?_
  · rw [any_all _ (star_ok hp2)]
    have : decide ((x :: es).length + ([] : List Keyword).length + (if ([] : List Keyword).isEmpty then 0 else 1) < 30) = true := decide_eq_true (by simp; omega)
    rw [this]; rfl
  · simp only [ev] at po
    refine ⟨ex, W, ι, h, m', tk, sim, en, po.step fun d1 h1 ι1 H1 x1 s1 po1 v1 r1 => ?_⟩
    obtain ⟨hl, po2⟩ := po1.if_
    refine ⟨tyL g s1 r1 hl, ?_⟩
    refine ⟨ex, W, ι1, h1, m', tk, s1, en.mono x1, po2.step fun ds h2 ι2 H2 x2 s2 po3 vs r2 => ?_⟩
    exact ⟨ex, W, ι2, h2, d1, ds, s2, r1.mono x2, r2, po3⟩
end
end Mx
set_option Elab.async false
set_option linter.all false
set_option maxRecDepth 100000
set_option maxHeartbeats 2000000
namespace Mx
open PySem L2
section
variable {T : Tb} {M : Rl} {prog : Program} {w : World} {mg : Str → Option Value} {base : Heap} {j : Nat} {F : Ph} {c : Ct} {τ : XK → Prop} {X : Cx} {pos : Pos} {a b d e : E} {a' b' d' x : Expr} {es : List Expr} {xs : List Expr}
/-! ### a new list as a value -/
theorem lst_push {M : Rl} {ι : List Addr} {h : Hh} {H : Hp} {p : Addr} {ds : List D} {vs : List V} (s : Sim M ι h H) (l : RpL M ι H ds vs) (n : H p = none) :
    Ext M ι H (ι ++ [p]) (upd H p (.lst vs)) ∧ Sim M (ι ++ [p]) (h ++ [.lst ds]) (upd H p (.lst vs)) :=
  ⟨.push s n, s.push n ⟨vs, upd_same, l.mono (.push s n)⟩⟩
theorem r_nl {m0 : Bool} {e : E} {x : Expr} (p : PE X x (rdN τ M T.pg F e)) : PE X x (rdE τ M T.pg F (.nl m0 e)) :=
  p.imp fun σ H Q ⟨ex, W, ι, h, m, tk, sim, en, po⟩ => by
    simp only [ev] at po
    refine ⟨ex, W, ι, h, m, tk, sim, en, po.step fun ds h1 ι1 H1 x1 s1 po1 p vs l n => ?_⟩
    cases m0 with
    | true =>
      obtain ⟨x2, s2⟩ := lst_push s1 l n
      simp only [if_true] at po1
      refine po1 _ _ x2 s2 _ (.ref ?_)
      rw [← s1.len, List.getElem?_append_right (Nat.le_refl _)]
      simp
    | false =>
      obtain ⟨x2, s2, t2⟩ := fls_new s1 l n
      exact po1 _ _ x2 s2 _ t2
theorem n_dis (pa : PA X xs (rdEs τ M T.pg F a)) : PE X (.List xs pos) (rdN τ M T.pg F (.dis a)) :=
  (pe_lst pa).imp fun σ H Q ⟨ex, W, ι, h, m, tk, sim, en, po⟩ => by
    simp only [evN] at po
    refine ⟨ex, W, ι, h, m, tk, sim, en, po.step fun d1 h1 ι1 H1 x1 s1 po1 vs r1 => ?_⟩
    obtain ⟨hz, po2⟩ := po1.if_
    exact ⟨by rw [line_eq, ← r1.length]; exact hz, fun p n => po2 ι1 H1 s1.refl s1 p vs r1 n⟩
theorem n_two {op : Operator} {k : Hh → D → D → R (List D)} {e : E} (ho : ∀ ex, OpR X (binaryOp op) (rd2N (Mw M ex) k)) (he : ∀ m h, evN T.pg F e m h = (ev T.pg F a m h).bind fun x h => (ev T.pg F b m h).bind fun y h => k h x y)
    (pa : PE X a' (rdE τ M T.pg F a)) (pb : PE X b' (rdE τ M T.pg F b)) : PE X (.BinOp a' op b' pos) (rdN τ M T.pg F e) :=
  (pe_op (r := fun x y H Q => ∃ ex, rd2N (Mw M ex) k x y H Q) (fun pins s σ H x y v u Q I rx ry ⟨ex, q⟩ => ho ex pins s σ H x y v u Q I rx ry q) pa pb).imp fun σ H Q ⟨ex, W, ι, h, m, tk, sim, en, po⟩ => by
    rw [he] at po
    exact rd_twoR (k := fun x y h => k h x y) (P := fun M => PN M Q) (fun ex W ι h dx dy x y H tk s r1 r2 po => ⟨ex, W, ι, h, dx, dy, s, r1, r2, po⟩) ⟨ex, W, ι, h, m, tk, sim, en, po⟩
theorem n_lcat (pa : PE X a' (rdE τ M T.pg F a)) (pb : PE X b' (rdE τ M T.pg F b)) : PE X (.BinOp a' .Add b' pos) (rdN τ M T.pg F (.lcat a b)) := n_two (fun ex => lcat_ok) (fun m h => by simp only [evN]) pa pb
theorem n_lrep (pa : PE X a' (rdE τ M T.pg F a)) (pb : PE X b' (rdE τ M T.pg F b)) : PE X (.BinOp a' .Mult b' pos) (rdN τ M T.pg F (.lrep a b)) := n_two (fun ex => lrep_ok) (fun m h => by simp only [evN]) pa pb
theorem n_lof {W0 : Wd T M prog w mg base j F} (g : XG T M prog w mg base j c τ X) {p : Pos} (hg : Gl X "list") (hp : plainE a' = true) (pa : PE X a' (rdE τ M T.pg F a)) : PE X (.Call (.Name "list" p) [a'] [] pos) (rdN τ M T.pg F (.lof a)) :=
  (pe_callTy (r := fun vs H Q => ∃ ex, rd1N (Mw M ex) lofR vs H Q) (fun pins s σ H vs us Q I r ⟨ex, q⟩ => lof_ok (M := Mw M ex) g.K g.calm pins s σ H vs us Q I r q) hg (by rw [g.mg]; exact W0.free _ (by decide +kernel)) boot_cls.2.2.2.2 (pa_cons pa pa_nil (starEach_plain hp)) (by decide) (by decide) (starEach_plain hp) rfl).imp fun σ H Q ⟨ex, W, ι, h, m, tk, sim, en, po⟩ => by
    simp only [evN] at po
    refine ⟨ex, W, ι, h, m, tk, sim, en, po.step fun d1 h1 ι1 H1 x1 s1 po1 v1 r1 => ?_⟩
    exact ⟨ex, W, ι1, h1, d1, v1, rfl, s1, r1, po1⟩
theorem n_lsl (g : XG T M prog w mg base j c τ X) {lo hi : E} {lo' hi' : Option Expr} {p2 : Pos} (pa : PE X a' (rdE τ M T.pg F a)) (pl : PO X lo' (rdO τ M T.pg F lo)) (ph : PO X hi' (rdO τ M T.pg F hi)) : PE X (.Subscript a' (.Slice lo' hi' none p2) pos) (rdN τ M T.pg F (.lsl a lo hi)) :=
  (pe_slice (r := fun x lo hi H Q => ∃ ex, rdSlN (Mw M ex) lslR x lo hi H Q) (fun pins s σ H x v vl vu lo hi sl Q I rx hs pl pu ⟨ex, q⟩ => lsl_ok (M := Mw M ex) g.K pins s σ H x v vl vu lo hi sl Q I rx hs pl pu q) pa pl ph).imp fun σ H Q ⟨ex, W, ι, h, m, tk, sim, en, po⟩ => by
    simp only [evN] at po
    refine ⟨ex, W, ι, h, m, tk, sim, en, po.step fun d1 h1 ι1 H1 x1 s1 po1 v1 r1 => ⟨ex, W, ι1, h1, m, tk, s1, en.mono x1, po1.step fun l h2 ι2 H2 x2 s2 po2 => ⟨ex, W, ι2, h2, m, tk, s2, (en.mono x1).mono x2, po2.step fun u h3 ι3 H3 x3 s3 po3 => ?_⟩⟩⟩
    exact ⟨ex, W, ι3, h3, d1, s3, (r1.mono x2).mono x3, po3⟩
theorem n_lrv (g : XG T M prog w mg base j c τ X) {k : Nat} {p1 p2 p3 : Pos} (pa : PE X a' (rdE τ M T.pg F a)) : PE X (.Subscript a' (.Slice none none (some (.UnaryOp .USub (.Constant (.int 1) k p1) p2)) p3) pos) (rdN τ M T.pg F (.lrv a)) :=
  (pe_revL pa).imp fun σ H Q ⟨ex, W, ι, h, m, tk, sim, en, po⟩ => by
    simp only [evN] at po
    refine ⟨ex, W, ι, h, m, tk, sim, en, po.step fun d1 h1 ι1 H1 x1 s1 po1 v1 r1 => ?_⟩
    obtain ⟨ds, ed, po2⟩ := po1.opt
    obtain ⟨ad, vs, rfl, q, l⟩ := lst_ok s1 r1 ed
    exact ⟨ad, vs, rfl, by rw [g.K]; exact q, fun p n => po2 ι1 H1 s1.refl s1 p _ l.reverse n⟩
theorem sl_whole (K : PySem.W.Frag) (h : X.K = K) : SlR X (rSlTw X.K) := fun pins s σ H x v vl vu lo hi sl Q I rx hs pl pu ⟨a, xs, e, q, hc, z⟩ =>
  sl_tupA pins s σ H x v vl vu lo hi sl Q I rx hs pl pu ⟨a, xs, e, q, fun _ => z, fun n => absurd hc n⟩

/-! ### what is walked -/
theorem i_seq (g : XG T M prog w mg base j c τ X) {tg : Expr} (pa : PE X a' (rdE τ M T.pg F a)) : PI X tg a' (rdI τ M T.pg F (.iSeq a)) :=
  (pi_any pa).imp fun σ H R ⟨ex, W, ι, h, m, tk, sim, en, po⟩ => by
    simp only [evI] at po
    refine ⟨ex, W, ι, h, m, tk, sim, en, po.step fun d1 h1 ι1 H1 x1 s1 po1 v1 r1 => ?_⟩
    rw [g.K]
    cases e : iterOf h1 d1 with
    | none => rw [e] at po1; exact False.elim po1
    | some xg =>
      rw [e] at po1
      have fin := po1 ι1 H1 s1.refl s1
      cases d1 with
      | tup ys =>
        cases e
        obtain ⟨ad, vs, e0, q, l⟩ := r1.tup_inv
        subst e0
        exact .inr (.inl ⟨ad, rfl, ⟨vs, q⟩, fin _ (wk_tup fun ex' ι' h' H' x s g => by
            obtain ⟨ad', vs', e', q', l'⟩ := (x _ _ r1).tup_inv
            cases e'
            exact ⟨vs', q', l'⟩)⟩)
      | fls ys =>
        cases e
        obtain ⟨ad, vs, e0, _, q, l⟩ := r1.fls_inv
        subst e0
        exact .inl ⟨_, rfl, ⟨_, SqL.of q⟩, fin _ (wk_list fun ex' ι' h' H' x s g => by
            obtain ⟨ad', vs', e', _, q', l'⟩ := (x _ _ r1).fls_inv
            cases e'
            exact ⟨vs', SqL.of q', l'⟩)⟩
      | scr ys =>
        cases e
        obtain ⟨ad, vs, e0, q, l⟩ := r1.scr_inv
        subst e0
        exact .inl ⟨_, rfl, ⟨_, q.sq⟩, fin _ (wk_list fun ex' ι' h' H' x s g => by
            obtain ⟨ad', vs', e', q', l'⟩ := (x _ _ r1).scr_inv
            cases e'
            exact ⟨vs', q'.sq, l'⟩)⟩
      | str z =>
        cases e
        exact .inr (.inr ⟨z, r1.str_inv, fin _ wk_str⟩)
      | ref r =>
        simp only [iterOf] at e
        split at e
        · rename_i ys e1
          cases e
          obtain ⟨ad, vs, rfl, ea, q, l⟩ := s1.list r1 e1
          refine .inl ⟨ad, rfl, ⟨vs, SqL.of q⟩, fin _ (wk_list fun ex' ι' h' H' x s g => ?_)⟩
          have g : h'[r]? = some (.lst ys) := g
          obtain ⟨ad', e2, vs', q', l'⟩ := s.at g
          obtain ⟨ad2, e4, e3⟩ := (x _ _ (.ref ea : Rp (Mw M ex) ι1 H1 (.ref r) (.ref ad))).ref_inv
          cases e4
          rw [e3] at e2; cases e2
          exact ⟨vs', SqL.of q', l'⟩
        · cases e
      | _ => cases e
theorem i_rg1 {W0 : Wd T M prog w mg base j F} (g : XG T M prog w mg base j c τ X) {tg : Expr} {p : Pos} (hg : Gl X "range") (hp : plainE a' = true) (pa : PE X a' (rdE τ M T.pg F a)) : PI X tg (.Call (.Name "range" p) [a'] [] pos) (rdI τ M T.pg F (.iRg1 a)) :=
  (pi_range1 hg (by rw [g.mg]; exact W0.free _ (by decide +kernel)) (pa_cons pa pa_nil (starEach_plain hp)) (starEach_plain hp)).imp fun σ H R ⟨ex, W, ι, h, m, tk, sim, en, po⟩ => by
    simp only [evI] at po
    refine ⟨ex, W, ι, h, m, tk, sim, en, po.step fun d1 h1 ι1 H1 x1 s1 po1 v1 r1 => ?_⟩
    cases d1 with
    | int n =>
      cases r1.int_inv
      dsimp only at po1
      obtain ⟨hz, po2⟩ := po1.if_
      refine ⟨n, rfl, hz.1, by omega, po2 ι1 H1 s1.refl s1 _ ?_⟩
      have := wk_rng (M := Mw M ex) (ι := ι1) (H := H1) (lo := 0) (n := n.toNat)
      simpa using this
    | _ => exact False.elim po1
theorem i_rg2 {W0 : Wd T M prog w mg base j F} (g : XG T M prog w mg base j c τ X) {tg : Expr} {p : Pos} (hg : Gl X "range") (hp : plainE a' = true) (hp2 : plainE b' = true) (pa : PE X a' (rdE τ M T.pg F a)) (pb : PE X b' (rdE τ M T.pg F b)) : PI X tg (.Call (.Name "range" p) [a', b'] [] pos) (rdI τ M T.pg F (.iRg2 a b)) :=
  (pi_range2 hg (by rw [g.mg]; exact W0.free _ (by decide +kernel)) (pa_cons pa (pa_cons pb pa_nil (starEach_plain hp2)) (starEach_plain hp)) (by rw [starEach_plain hp, starEach_plain hp2]; rfl) (by rw [starEach_plain hp2]; rfl)).imp fun σ H R ⟨ex, W, ι, h, m, tk, sim, en, po⟩ => by
    simp only [evI] at po
    refine ⟨ex, W, ι, h, m, tk, sim, en, po.step fun d1 h1 ι1 H1 x1 s1 po1 v1 r1 => ⟨ex, W, ι1, h1, m, tk, s1, en.mono x1, po1.step fun d2 h2 ι2 H2 x2 s2 po2 v2 r2 => ?_⟩⟩
    cases d1 with
    | int n =>
      cases r1.int_inv
      cases d2 with
      | int n2 =>
        cases r2.int_inv
        dsimp only at po2
        obtain ⟨⟨q1, q2, q3, q4, q5⟩, po3⟩ := po2.if_
        exact ⟨n, n2, rfl, ⟨q1, q2, q3, q4⟩, po3 ι2 H2 s2.refl s2 _ wk_rng⟩
      | _ => exact False.elim po2
    | _ => cases d2 <;> exact False.elim po2
theorem i_enum {W0 : Wd T M prog w mg base j F} (g : XG T M prog w mg base j c τ X) {p tpos : Pos} {elts : List Expr} {kk : Nat} (hg : Gl X "enumerate") (hp : plainE a' = true) (pa : PE X a' (rdE τ M T.pg F a)) : PI X (.Tuple elts kk tpos) (.Call (.Name "enumerate" p) [a'] [] pos) (rdI τ M T.pg F (.iEnum a)) :=
  (pi_enumA hg (by rw [g.mg]; exact W0.free _ (by decide +kernel)) (pa_cons pa pa_nil (starEach_plain hp)) (starEach_plain hp)).imp fun σ H R ⟨ex, W, ι, h, m, tk, sim, en, po⟩ => by
    simp only [evI] at po
    refine ⟨ex, W, ι, h, m, tk, sim, en, po.step fun d1 h1 ι1 H1 x1 s1 po1 v1 r1 => ?_⟩
    rw [g.K]
    cases d1 with
    | fls ys =>
      have fin := po1 ι1 H1 s1.refl s1
      obtain ⟨ad, vs, e0, _, q, l⟩ := r1.fls_inv
      subst e0
      exact ⟨_, rfl, .inl ⟨⟨_, SqL.of q⟩, fin _ (wk_enumL fun ex' ι' h' H' x s g => by
        obtain ⟨ad', vs', e', _, q', l'⟩ := (x _ _ r1).fls_inv
        cases e'
        exact ⟨vs', SqL.of q', l'⟩)⟩⟩
    | tup ys =>
      have fin := po1 ι1 H1 s1.refl s1
      obtain ⟨ad, vs, e0, q, l⟩ := r1.tup_inv
      subst e0
      exact ⟨ad, rfl, .inr ⟨⟨vs, q⟩, fin _ (wk_enumT fun ex' ι' h' H' x s => by
        obtain ⟨ad', vs', e', q', l'⟩ := (x _ _ r1).tup_inv
        cases e'
        exact ⟨vs', q', l'⟩)⟩⟩
    | ref r =>
      simp only at po1
      split at po1
      · rename_i ys e1
        have fin := po1 ι1 H1 s1.refl s1
        obtain ⟨ad, vs, e0, ea, q, l⟩ := s1.list r1 e1
        subst e0
        refine ⟨ad, rfl, .inl ⟨⟨vs, SqL.of q⟩, fin _ (wk_enumL fun ex' ι' h' H' x s g => ?_)⟩⟩
        have g : h'[r]? = some (.lst ys) := g
        obtain ⟨ad', e2, vs', q', l'⟩ := s.at g
        obtain ⟨ad2, e4, e3⟩ := (x _ _ (.ref ea : Rp (Mw M ex) ι1 H1 (.ref r) (.ref ad))).ref_inv
        cases e4
        rw [e3] at e2; cases e2
        exact ⟨vs', SqL.of q', l'⟩
      · exact False.elim po1
    | _ => exact False.elim po1
end
end Mx
set_option Elab.async false
set_option linter.all false
set_option maxRecDepth 100000
set_option maxHeartbeats 2000000
namespace Mx
open PySem L2
/-! ### targets -/
def T.slots : T → List Nat
  | .nm i => [i]
  | .nil => []
  | .cons a r => a.slots ++ r.slots
  | .tp a => a.slots
theorem wipe_get {σ : St} : ∀ {ws : List Nat} {k : Nat}, (L2.wipe σ ws)[k]? = if k ∈ ws then (σ[k]?).map (fun _ => none) else σ[k]?
  | [], k => by simp [L2.wipe]
  | w :: ws, k => by
    unfold L2.wipe
    by_cases e : w = k
    · subst e
      have hm : w ∈ w :: ws := List.mem_cons_self
      rw [if_pos hm]
      by_cases hl : w < σ.length
      · rw [List.getElem?_set_self (by rw [L2.wipe_length]; exact hl), List.getElem?_eq_getElem hl]; rfl
      · rw [List.getElem?_eq_none (by rw [List.length_set, L2.wipe_length]; omega), List.getElem?_eq_none (by omega)]; rfl
    · rw [List.getElem?_set_ne e, wipe_get (ws := ws)]
      have : (k ∈ w :: ws) ↔ k ∈ ws := by simp [Ne.symm e]
      simp only [this]
theorem wipe_set {σ : St} {i : Nat} {v : V} {ws : List Nat} (h : i ∈ ws) : L2.wipe (σ.set i (some v)) ws = L2.wipe σ ws := by
  apply List.ext_getElem?
  intro k
  rw [wipe_get, wipe_get]
  by_cases e : i = k
  · subst e
    rw [if_pos h, if_pos h]
    by_cases hl : i < σ.length
    · rw [List.getElem?_set_self hl, List.getElem?_eq_getElem hl]; rfl
    · rw [List.getElem?_eq_none (by rw [List.length_set]; omega), List.getElem?_eq_none (by omega)]
  · rw [List.getElem?_set_ne e]
theorem wipe_idem {σ : St} {ws : List Nat} : L2.wipe (L2.wipe σ ws) ws = L2.wipe σ ws := by
  apply List.ext_getElem?
  intro k
  rw [wipe_get]
  by_cases h : k ∈ ws
  · rw [if_pos h, wipe_get, if_pos h, Option.map_map]; rfl
  · rw [if_neg h]
theorem _root_.L2.PG.imp {X : Cx} {e : Expr} {t t' : TG} (p : PG X e t) (h : ∀ v σ H Q, t' v σ H Q → t v σ H Q) : PG X e t' := ⟨fun pins s σ H v u Q I r q => p.run pins s σ H v u Q I r (h v σ H Q q)⟩
theorem _root_.L2.PGs.imp {X : Cx} {e : List Expr} {t t' : TGs} (p : PGs X e t) (h : ∀ v σ H Q, t' v σ H Q → t v σ H Q) : PGs X e t' := ⟨fun pins s σ H v u Q I r q => p.run pins s σ H v u Q I r (h v σ H Q q)⟩
def rdG (M : Rl) (t : T) : TG := fun v σ H Q => ∃ ex ι h m d m', Sim (Mw M ex) ι h H ∧ EnR (Mw M ex) ι H m σ ∧ Rp (Mw M ex) ι H d v ∧ setT t d m = some m' ∧
  ∀ σ', EnR (Mw M ex) ι H m' σ' → (∀ ws, (∀ i ∈ t.slots, i ∈ ws) → L2.wipe σ' ws = L2.wipe σ ws) → Q σ' H
def rdGs (M : Rl) (t : T) : TGs := fun vs σ H Q => ∃ ex ι h m ds m', Sim (Mw M ex) ι h H ∧ EnR (Mw M ex) ι H m σ ∧ RpL (Mw M ex) ι H ds vs ∧ setTs t ds m = some m' ∧
  ∀ σ', EnR (Mw M ex) ι H m' σ' → (∀ ws, (∀ i ∈ t.slots, i ∈ ws) → L2.wipe σ' ws = L2.wipe σ ws) → Q σ' H
section
variable {T' : Tb} {M : Rl} {prog : Program} {w : World} {mg : Str → Option Value} {base : Heap} {j : Nat} {F : Ph} {c : Ct} {τ : XK → Prop} {X : Cx} {pos : Pos} {x : Expr} {es : List Expr} {t r : T}
theorem g_nm {i : Nat} {x : Str} (g : XG T' M prog w mg base j c τ X) (hN : c.N[i]? = some x) (hx : Loc c.sc x) (hf : c.own x = true ∨ c.sc.names.lookup x = some .local) : PG X (.Name x pos) (rdG M (.nm i)) :=
  (pg_name (X := X) (i := i) (x := x) (by rw [g.N]; exact g.nd) (by rw [g.N]; exact hN) (by rw [g.sc]; exact hx) (by rw [g.sc]; exact hf.imp (g.own x) id)).imp fun v σ H Q ⟨ex, ι, h, m, d, m', sim, en, rp, e, q⟩ => by
    simp only [setT] at e
    cases e
    exact q _ (en.put rp) fun ws hw => wipe_set (hw i (by simp [T.slots]))
theorem assign_plain {e : Expr} {es : List Expr} {env : Env} (h : plainE e = true) : assignEach (e :: es) env = (false, assign e env) :: assignEach es env := by
  cases e <;> first | rfl | (simp [plainE] at h)
theorem assign_len {env : Env} : ∀ {es : List Expr}, es.all plainE = true → (assignEach es env).length = es.length ∧ (assignEach es env).findIdx? (·.1) = none
  | [], _ => ⟨rfl, rfl⟩
  | e :: es, h => by
    rw [List.all_cons, Bool.and_eq_true] at h
    obtain ⟨a, b⟩ := assign_len (env := env) h.2
    rw [assign_plain h.1]
    refine ⟨by simp [a], ?_⟩
    rw [List.findIdx?_cons]
    simp [b]
theorem g_nil : PGs X [] (rdGs M .nil) :=
  pgs_nil.imp fun vs σ H Q ⟨ex, ι, h, m, ds, m', sim, en, rp, e, q⟩ => by
    cases ds with
    | nil => simp only [setTs] at e; cases e; exact ⟨rp.no, q σ en fun ws _ => rfl⟩
    | cons _ _ => simp [setTs] at e
theorem g_cons (hp : plainE x = true) (p1 : PG X x (rdG M t)) (p2 : PGs X es (rdGs M r)) : PGs X (x :: es) (rdGs M (.cons t r)) :=
  (pgs_cons p1 p2 (by rw [assign_plain hp]; rfl)).imp fun vs σ H Q ⟨ex, ι, h, m, ds, m', sim, en, rp, e, q⟩ => by
    cases ds with
    | nil => simp [setTs] at e
    | cons d ds =>
      simp only [setTs, Option.bind_eq_some_iff] at e
      obtain ⟨m1, e1, e2⟩ := e
      cases rp with
      | cons r1 r2 =>
        refine ⟨_, _, rfl, ex, ι, h, m, d, m1, sim, en, r1, e1, fun σ1 en1 w1 => ?_⟩
        refine ⟨ex, ι, h, m1, ds, m', sim, en1, r2, e2, fun σ2 en2 w2 => q σ2 en2 fun ws hw => ?_⟩
        rw [w2 ws fun i hi => hw i (by simp [T.slots, hi]), w1 ws fun i hi => hw i (by simp [T.slots, hi])]
def T.len : T → Nat
  | .cons _ r => r.len + 1
  | _ => 0
theorem setTs_length : ∀ {t : T} {ds : List D} {m m' : En}, setTs t ds m = some m' → ds.length = t.len
  | .nil, [], _, _, _ => rfl
  | .cons t r, d :: ds, m, m', e => by
    simp only [setTs, Option.bind_eq_some_iff] at e
    obtain ⟨m1, _, e2⟩ := e
    rw [List.length_cons, setTs_length e2]; rfl
  | .nil, _ :: _, _, _, e => by simp [setTs] at e
  | .cons _ _, [], _, _, e => by simp [setTs] at e
  | .nm _, _, _, _, e => by simp [setTs] at e
  | .tp _, _, _, _, e => by simp [setTs] at e
theorem g_tp {k : Nat} (g : XG T' M prog w mg base j c τ X) (hp : es.all plainE = true) (hl : es.length = t.len) (p : PGs X es (rdGs M t)) : PG X (.Tuple es k pos) (rdG M (.tp t)) :=
  (pg_tup (n := es.length) g.calm p (assign_len hp).1 (assign_len hp).2).imp fun v σ H Q ⟨ex, ι, h, m, d, m', sim, en, rp, e, q⟩ => by
    rw [g.K]
    cases d with
    | tup ds =>
      simp only [setT] at e
      obtain ⟨a, vs, rfl, qt, l⟩ := rp.tup_inv
      exact ⟨a, vs, rfl, qt, by rw [← l.length, setTs_length e, hl], ex, ι, h, m, ds, m', sim, en, l, e, q⟩
    | _ => simp [setT] at e
end

/-! ### an object that a rule makes -/
def minus (H : Hp) (p : Addr) : Hp := fun b => if b = p then none else H b
section
variable {M : Rl} {ι ι' : List Addr} {H H' : Hp} {p a : Addr} {h h' : Hh} {ex : List Addr} {xs ys : List V} {d : D} {v : V}
theorem not_mem_cons {a p : Addr} {l : List Addr} (h : a ≠ p) (n : a ∉ l) : a ∉ p :: l := fun z => by
  rcases List.mem_cons.mp z with z | z
  · exact h z
  · exact n z
theorem minus_ne (n : a ≠ p) : minus H p a = H a := by unfold minus; rw [if_neg n]
theorem minus_self : minus H p p = none := by unfold minus; rw [if_pos rfl]
theorem upd_minus {o : HO} (e : H p = some o) : upd (minus H p) p o = H := by
  funext b
  by_cases hb : b = p
  · subst hb; rw [upd_same, e]
  · rw [upd_ne hb, minus_ne hb]
theorem minus_upd {o : HO} : minus (upd H p o) p = minus H p := by
  funext b
  by_cases hb : b = p
  · subst hb; rw [minus_self, minus_self]
  · rw [minus_ne hb, minus_ne hb, upd_ne hb]
theorem minus_none (n : H p = none) : minus H p = H := by
  funext b
  by_cases hb : b = p
  · subst hb; rw [minus_self, n]
  · rw [minus_ne hb]
theorem sqT_minus {K : PySem.W.Frag} {o : HO} (e : H p = some o) (ho : ∀ w, o ≠ .tup w) (hf : ∀ q w, o ≠ .frz q w) (s : SqT K H a xs) : SqT K (minus H p) a xs := by
  rcases s with (s | ⟨q, s⟩) | s
  · exact .inl (.inl (by rw [minus_ne (fun z => by rw [z, e] at s; cases s; exact ho _ rfl)]; exact s))
  · exact .inl (.inr ⟨q, by rw [minus_ne (fun z => by rw [z, e] at s; cases s; exact hf _ _ rfl)]; exact s⟩)
  · exact .inr s
theorem sqT_upd {K : PySem.W.Frag} {o u : HO} (e : H p = some o) (ho : ∀ w, o ≠ .tup w) (hf : ∀ q w, o ≠ .frz q w) (s : SqT K H a xs) : SqT K (upd H p u) a xs := by
  rcases s with (s | ⟨q, s⟩) | s
  · exact .inl (.inl (by rw [upd_ne (fun z => by rw [z, e] at s; cases s; exact ho _ rfl)]; exact s))
  · exact .inl (.inr ⟨q, by rw [upd_ne (fun z => by rw [z, e] at s; cases s; exact hf _ _ rfl)]; exact s⟩)
  · exact .inr s
theorem sqT_put {K : PySem.W.Frag} {u : HO} (n : H p = none) (s : SqT K H a xs) : SqT K (upd H p u) a xs := by
  rcases s with (s | ⟨q, s⟩) | s
  · exact .inl (.inl (by rw [upd_ne (fun z => by rw [z, n] at s; cases s)]; exact s))
  · exact .inl (.inr ⟨q, by rw [upd_ne (fun z => by rw [z, n] at s; cases s)]; exact s⟩)
  · exact .inr s
theorem sc_minus {K : PySem.W.Frag} {o : HO} (e : H p = some o) (hf : ∀ q w, o ≠ .frz q w) (s : Sc K H a xs) : Sc K (minus H p) a xs := by
  rcases s with ⟨q, s⟩ | s
  · exact .inl ⟨q, by rw [minus_ne (fun z => by rw [z, e] at s; cases s; exact hf _ _ rfl)]; exact s⟩
  · exact .inr s
theorem sc_upd {K : PySem.W.Frag} {o u : HO} (e : H p = some o) (hf : ∀ q w, o ≠ .frz q w) (s : Sc K H a xs) : Sc K (upd H p u) a xs := by
  rcases s with ⟨q, s⟩ | s
  · exact .inl ⟨q, by rw [upd_ne (fun z => by rw [z, e] at s; cases s; exact hf _ _ rfl)]; exact s⟩
  · exact .inr s
theorem sc_put {K : PySem.W.Frag} {u : HO} (n : H p = none) (s : Sc K H a xs) : Sc K (upd H p u) a xs := by
  rcases s with ⟨q, s⟩ | s
  · exact .inl ⟨q, by rw [upd_ne (fun z => by rw [z, n] at s; cases s)]; exact s⟩
  · exact .inr s
mutual
/-- set aside: a new object at p -/
theorem Rp.set {u : HO} (n : H p = none) : ∀ {d : D} {v : V}, Rp (Mw M ex) ι H d v → Rp (Mw M (p :: ex)) ι (upd H p u) d v
  | _, _, .non => .non
  | _, _, .bl b => .bl b
  | _, _, .int b => .int b
  | _, _, .str b => .str b
  | _, _, .tup s l => .tup (sqT_put n s) (RpL.setA n l)
  | _, _, .fls a b e l => .fls a (not_mem_cons (fun z => by rw [z, n] at e; cases e) b) (by rw [upd_ne (fun z => by rw [z, n] at e; cases e)]; exact e) (RpL.setA n l)
  | _, _, .scr e l => .scr (sc_put n e) (RpL.setA n l)
  | _, _, .obj k a b e z l => .obj k a (not_mem_cons (fun z => by rw [z, n] at e; cases e) b) (by rw [upd_ne (fun z => by rw [z, n] at e; cases e)]; exact e) z (RpL.setA n l)
  | _, _, .fdk a b e z k l => .fdk a (not_mem_cons (fun z => by rw [z, n] at e; cases e) b) (by rw [upd_ne (fun z => by rw [z, n] at e; cases e)]; exact e) z k (RpL.setA n l)
  | _, _, .fdt a b e z k l => .fdt a (not_mem_cons (fun z => by rw [z, n] at e; cases e) b) (by rw [upd_ne (fun z => by rw [z, n] at e; cases e)]; exact e) z k (RpL.setA n l)
  | _, _, .ref e => .ref e
theorem RpL.setA {u : HO} (n : H p = none) : ∀ {ds : List D} {vs : List V}, RpL (Mw M ex) ι H ds vs → RpL (Mw M (p :: ex)) ι (upd H p u) ds vs
  | _, _, .nil => .nil
  | _, _, .cons r t => .cons (Rp.set n r) (RpL.setA n t)
end
mutual
/-- taken out: the object that is made -/
theorem Rp.minus {o : HO} (e0 : H p = some o) (ho : ∀ w, o ≠ .tup w) (hf : ∀ q w, o ≠ .frz q w) : ∀ {d : D} {v : V}, Rp (Mw M (p :: ex)) ι H d v → Rp (Mw M ex) ι (Mx.minus H p) d v
  | _, _, .non => .non
  | _, _, .bl b => .bl b
  | _, _, .int b => .int b
  | _, _, .str b => .str b
  | _, _, .tup s l => .tup (sqT_minus e0 ho hf s) (RpL.minusA e0 ho hf l)
  | _, _, .fls a b e l => .fls a (fun z => b (List.mem_cons_of_mem _ z)) (by rw [minus_ne (fun z => b (by rw [z]; exact List.mem_cons_self))]; exact e) (RpL.minusA e0 ho hf l)
  | _, _, .scr e l => .scr (sc_minus e0 hf e) (RpL.minusA e0 ho hf l)
  | _, _, .obj k a b e z l => .obj k a (fun z => b (List.mem_cons_of_mem _ z)) (by rw [minus_ne (fun z => b (by rw [z]; exact List.mem_cons_self))]; exact e) z (RpL.minusA e0 ho hf l)
  | _, _, .fdk a b e z k l => .fdk a (fun z => b (List.mem_cons_of_mem _ z)) (by rw [minus_ne (fun z => b (by rw [z]; exact List.mem_cons_self))]; exact e) z k (RpL.minusA e0 ho hf l)
  | _, _, .fdt a b e z k l => .fdt a (fun z => b (List.mem_cons_of_mem _ z)) (by rw [minus_ne (fun z => b (by rw [z]; exact List.mem_cons_self))]; exact e) z k (RpL.minusA e0 ho hf l)
  | _, _, .ref e => .ref e
theorem RpL.minusA {o : HO} (e0 : H p = some o) (ho : ∀ w, o ≠ .tup w) (hf : ∀ q w, o ≠ .frz q w) : ∀ {ds : List D} {vs : List V}, RpL (Mw M (p :: ex)) ι H ds vs → RpL (Mw M ex) ι (Mx.minus H p) ds vs
  | _, _, .nil => .nil
  | _, _, .cons r t => .cons (Rp.minus e0 ho hf r) (RpL.minusA e0 ho hf t)
end
mutual
/-- written: the object that is made -/
theorem Rp.wex {o u : HO} (e0 : H p = some o) (hm : p ∈ M.ex) (ho : ∀ w, o ≠ .tup w) (hf : ∀ q w, o ≠ .frz q w) : ∀ {d : D} {v : V}, Rp M ι H d v → Rp M ι (upd H p u) d v
  | _, _, .non => .non
  | _, _, .bl b => .bl b
  | _, _, .int b => .int b
  | _, _, .str b => .str b
  | _, _, .tup s l => .tup (sqT_upd e0 ho hf s) (RpL.wexA e0 hm ho hf l)
  | _, _, .fls a b e l => .fls a b (by rw [upd_ne (fun z => b (by rw [z]; exact hm))]; exact e) (RpL.wexA e0 hm ho hf l)
  | _, _, .scr e l => .scr (sc_upd e0 hf e) (RpL.wexA e0 hm ho hf l)
  | _, _, .obj k a b e z l => .obj k a b (by rw [upd_ne (fun z => b (by rw [z]; exact hm))]; exact e) z (RpL.wexA e0 hm ho hf l)
  | _, _, .fdk a b e z k l => .fdk a b (by rw [upd_ne (fun z => b (by rw [z]; exact hm))]; exact e) z k (RpL.wexA e0 hm ho hf l)
  | _, _, .fdt a b e z k l => .fdt a b (by rw [upd_ne (fun z => b (by rw [z]; exact hm))]; exact e) z k (RpL.wexA e0 hm ho hf l)
  | _, _, .ref e => .ref e
theorem RpL.wexA {o u : HO} (e0 : H p = some o) (hm : p ∈ M.ex) (ho : ∀ w, o ≠ .tup w) (hf : ∀ q w, o ≠ .frz q w) : ∀ {ds : List D} {vs : List V}, RpL M ι H ds vs → RpL M ι (upd H p u) ds vs
  | _, _, .nil => .nil
  | _, _, .cons r t => .cons (Rp.wex e0 hm ho hf r) (RpL.wexA e0 hm ho hf t)
end
theorem RpL.via {A B : Rl} (pr : ∀ d v, Rp A ι H d v → Rp B ι' H' d v) : ∀ {ds : List D} {vs : List V}, RpL A ι H ds vs → RpL B ι' H' ds vs
  | _, _, .nil => .nil
  | _, _, .cons r t => .cons (pr _ _ r) (RpL.via pr t)
theorem ObR.pres {A B : Rl} {o : O} (hcl : B.cl = A.cl) (hfl : B.fl = A.fl) (hok : B.ok = A.ok) (pr : ∀ d v, Rp A ι H d v → Rp B ι' H' d v) (e : H' a = H a) (r : ObR A ι H a o) : ObR B ι' H' a o := by
  cases o with
  | lst ds => obtain ⟨vs, q, l⟩ := r; exact ⟨vs, e.trans q, RpL.via pr l⟩
  | ins c ds => obtain ⟨dx, vs, k, q, z, l⟩ := r; exact ⟨dx, vs, by rw [hok]; exact k, by rw [hcl, hfl]; exact e.trans q, by rw [hfl]; exact z, RpL.via pr l⟩
  | dct tk lk ks ds =>
    obtain ⟨u, q, l1, l2, z⟩ := r
    refine ⟨u, e.trans q, l1, l2, ?_⟩
    cases tk with
    | true => obtain ⟨kvs, q, k, l⟩ := z; exact ⟨kvs, q, k, RpL.via pr l⟩
    | false => obtain ⟨kvs, q, k, l⟩ := z; exact ⟨kvs, q, k, RpL.via pr l⟩
/-- a list that is made, or a dict -/
def MadeO (o : HO) : Prop := (∃ xs, o = .lst xs) ∨ (∃ k, o = .dK k) ∨ ∃ k, o = .dT k
theorem MadeO.own {o : HO} (m : MadeO o) (e : H p = some o) : Own H p := by
  rcases m with ⟨xs, rfl⟩ | ⟨k, rfl⟩ | ⟨k, rfl⟩
  · exact .inl ⟨xs, e⟩
  · exact .inr (.inr ⟨_, _, e, rfl⟩)
  · exact .inr (.inr ⟨_, _, e, rfl⟩)
theorem MadeO.nt {o : HO} (m : MadeO o) : ∀ w, o ≠ .tup w := by
  rcases m with ⟨xs, rfl⟩ | ⟨k, rfl⟩ | ⟨k, rfl⟩ <;> (intro w z; cases z)
theorem MadeO.nf {o : HO} (m : MadeO o) : ∀ q w, o ≠ .frz q w := by
  rcases m with ⟨xs, rfl⟩ | ⟨k, rfl⟩ | ⟨k, rfl⟩ <;> (intro q w z; cases z)
theorem Sim.set {u : HO} (s : Sim (Mw M ex) ι h H) (n : H p = none) (m : MadeO u) : Sim (Mw M (p :: ex)) ι h (upd H p u) where
  nd := s.nd
  xo := fun a ha => by
    rcases List.mem_cons.mp ha with z | z
    · subst z; exact ⟨m.own upd_same, s.fresh n⟩
    · exact ⟨(s.xo a z).1.upd ((s.xo a z).1.ne n), (s.xo a z).2⟩
  len := s.len
  ob := fun i a o e1 e2 => ObR.pres (A := Mw M ex) (B := Mw M (p :: ex)) rfl rfl rfl (fun _ _ r => r.set n) (upd_ne ((s.ob i a o e1 e2).own.ne n)) (s.ob i a o e1 e2)
theorem Sim.minus {o : HO} (s : Sim (Mw M (p :: ex)) ι h H) (e0 : H p = some o) (m : MadeO o) (hx : p ∉ ex) : Sim (Mw M ex) ι h (Mx.minus H p) where
  nd := s.nd
  xo := fun a ha => by
    have ne : a ≠ p := fun z => hx (by rw [← z]; exact ha)
    obtain ⟨w, n⟩ := s.xo a (List.mem_cons_of_mem _ ha)
    refine ⟨?_, n⟩
    rcases w with ⟨_, e⟩ | ⟨_, _, _, e⟩ | ⟨_, _, e, z⟩
    · exact .inl ⟨_, (minus_ne ne).trans e⟩
    · exact .inr (.inl ⟨_, _, _, (minus_ne ne).trans e⟩)
    · exact .inr (.inr ⟨_, _, (minus_ne ne).trans e, z⟩)
  len := s.len
  ob := fun i a o' e1 e2 => by
    have ne : a ≠ p := fun z => (s.xo p (List.mem_cons_self)).2 (by rw [← z]; exact List.mem_of_getElem? e1)
    exact ObR.pres (A := Mw M (p :: ex)) (B := Mw M ex) rfl rfl rfl (fun _ _ r => r.minus e0 m.nt m.nf) (minus_ne ne) (s.ob i a o' e1 e2)
theorem Sim.wex {o u : HO} (s : Sim M ι h H) (e0 : H p = some o) (hm : p ∈ M.ex) (m : MadeO o) (mu : MadeO u) : Sim M ι h (upd H p u) where
  nd := s.nd
  xo := fun a ha => by
    by_cases e : a = p
    · subst e; exact ⟨mu.own upd_same, (s.xo a ha).2⟩
    · exact ⟨(s.xo a ha).1.upd e, (s.xo a ha).2⟩
  len := s.len
  ob := fun i a o' e1 e2 => by
    have ne : a ≠ p := fun z => (s.xo p hm).2 (by rw [← z]; exact List.mem_of_getElem? e1)
    exact ObR.pres (A := M) (B := M) rfl rfl rfl (fun _ _ r => r.wex e0 hm m.nt m.nf) (upd_ne ne) (s.ob i a o' e1 e2)
theorem Ext.minus {o : HO} (x : Ext (Mw M (p :: ex)) ι H ι' H') (s : Sim (Mw M (p :: ex)) ι h H) (e0 : H p = some o) (m : MadeO o) (hx : p ∉ ex) : Ext (Mw M ex) ι (Mx.minus H p) ι' (Mx.minus H' p) where
  own := (s.minus e0 m hx).own
  pre := x.pre
  keepF := fun a u n e => by
    have ne : a ≠ p := fun z => by rw [z, minus_self] at e; cases e
    rw [minus_ne ne] at e ⊢
    exact x.keepF a u n e
  new := fun a ha n => by
    have := x.new a ha n
    by_cases e : a = p
    · rw [e, minus_self]
    · rw [minus_ne e]; exact this
theorem Ext.exKeep {o : HO} (x : Ext M ι H ι' H') (e0 : H p = some o) (n : p ∉ ι) (hd : dkOf o = none) : H' p = some o := (x.keep p o n e0).nd hd
end

/-! ### comprehensions -/
def τ0 : XK → Prop := fun W => ∀ c d H, ¬ W c d H
theorem Po.quiet {α β : Type} {A B : Rl} {W W' : XK} {ι ι' : List Addr} {H H' : Hp} {r : R α} {k : α → Hh → R β} {P : β → Hh → List Addr → Hp → Prop} (po : Po A W ι H (r.quiet.bind k) P) :
    Po B W' ι' H' r (fun o h' _ _ => Po A W ι H (k o h') P) := by
  cases r with
  | bad => exact po
  | exc _ _ _ => exact False.elim po
  | ok a h => exact fun _ _ _ _ => po
section
variable {T' : Tb} {M : Rl} {prog : Program} {w : World} {mg : Str → Option Value} {base : Heap} {j : Nat} {F : Ph} {c : Ct} {τ : XK → Prop} {X : Cx} {pos : Pos} {scope : Scope}
def Ct.blk (c : Ct) (scope : Scope) : Ct := ⟨c.N, relS scope c.sc, fun x => match scope.names.lookup x with
  | some .cell => true
  | _ => false⟩
theorem XG.blk (g : XG T' M prog w mg base j c τ X) (s : Shared) (H : Hp) (C : Addr) (cl : List (Str × Addr)) (fp : List Addr) : XG T' M prog w mg base j (c.blk scope) τ0 (X.blk s H scope (compEnvC scope cl C X.env) fp) where
  tk := fun W h => fun u s' x => by
    obtain ⟨_, _, _, _, _, _, _, _, _, _, _, _, _, _, _, _, z⟩ := x
    exact absurd z (h _ _ _)
  prog := g.prog
  w := g.w
  K := g.K
  mg := g.mg
  base := g.base
  N := g.N
  nd := g.nd
  sc := by
    show relabel scope X.env = relS scope c.sc
    unfold relabel relS Env.kindOf
    rw [g.sc]
  own := fun x h => by
    show (scope.names.lookup x == some .cell) = true
    unfold Ct.blk at h
    simp only at h
    split at h
    · rename_i e; rw [e]; rfl
    · cases h
  calm := g.calm
  gd := g.gd
  room := g.room
/-- a comprehension's walk, whatever is walked -/
theorem comp_core {t : T} {it cnd e : E} {ifs : List Expr} {ws : List Nat} (ht : ∀ i ∈ t.slots, i ∈ ws)
    (hc : (cnd = .nil ∧ ifs = []) ∨ ∃ q r q', cnd = .cons q r ∧ ifs = [q'] ∧ ∀ X', XG T' M prog w mg base j (c.blk scope) τ0 X' → PT X' q' (rdT τ0 M T'.pg F q)) :
    ∃ tt, (∀ X', XG T' M prog w mg base j (c.blk scope) τ0 X' → PTs X' ifs tt) ∧ ∀ m : En, ∃ fn : D → Hh → R (Option D),
      (∀ h, evN T'.pg F (.comp ws t it cnd e) m h = ((evI T'.pg F it m h).bind fun xg h => rIf (xg.1.length ≤ LINE) (cloop fn (fun h => gok h xg.2) xg.1 [] h))) ∧
      (∀ dw i h, evN T'.pg F (.compD dw ws t i cnd e) m h = (rOpt ((look m i).bind (lkD h)) h).bind fun q _ => (rIf ((dwL dw q.1 q.2.1).length ≤ LINE) (cloop fn (fun h => gok h none) (dwL dw q.1 q.2.1) [] q.2.2.1)).bind fun xs h' => .ok xs (unl h' q.2.2.2)) ∧
      ∀ (ex : List Addr) (W : XK) (ι1 : List Addr) (h1 : Hh) (H1 : Hp) (σ : St) (Q : VK) (xg : List D × Option (Nat × List D)) (J : It), τ W → Sim (Mw M ex) ι1 h1 H1 → EnR (Mw M ex) ι1 H1 m σ →
        Po (Mw M ex) W ι1 H1 (rIf (xg.1.length ≤ LINE) (cloop fn (fun h => gok h xg.2) xg.1 [] h1)) (PN (Mw M ex) Q) → Wk (Mw M ex) ι1 H1 xg.1 xg.2 J → tLc (fun σ H R => R J H) (rdG M t) tt (rdE τ0 M T'.pg F e) ws σ H1 Q := by
  obtain ⟨body, tt, shape, htt, hq⟩ : ∃ (body : En → Hh → R (Option D)) (tt : TT), (∀ m, ∃ fn : D → Hh → R (Option D), (∀ h, evN T'.pg F (.comp ws t it cnd e) m h = ((evI T'.pg F it m h).bind fun xg h => rIf (xg.1.length ≤ LINE) (cloop fn (fun h => gok h xg.2) xg.1 [] h))) ∧
        (∀ dw i h, evN T'.pg F (.compD dw ws t i cnd e) m h = (rOpt ((look m i).bind (lkD h)) h).bind fun q _ => (rIf ((dwL dw q.1 q.2.1).length ≤ LINE) (cloop fn (fun h => gok h none) (dwL dw q.1 q.2.1) [] q.2.2.1)).bind fun xs h' => .ok xs (unl h' q.2.2.2)) ∧
        ∀ x h, (setT t x (wipe m ws) = none → fn x h = .bad) ∧ ∀ m', setT t x (wipe m ws) = some m' → fn x h = (body m' h).quiet) ∧
      (∀ X', XG T' M prog w mg base j (c.blk scope) τ0 X' → PTs X' ifs tt) ∧
      ∀ (ex : List Addr) (ι : List Addr) (h : Hh) (m : En) (σ : St) (H : Hp) (Q : Bool → Hp → Prop) (P2 : Option D → Hh → List Addr → Hp → Prop), Sim (Mw M ex) ι h H → EnR (Mw M ex) ι H m σ →
        Po (Mw M ex) (fun _ _ _ => False) ι H (body m h) P2 →
        (∀ ι' h' H', Ext (Mw M ex) ι H ι' H' → Sim (Mw M ex) ι' h' H' → EnR (Mw M ex) ι' H' m σ → Po (Mw M ex) (fun _ _ _ => False) ι' H' ((ev T'.pg F e m h').bind fun y h => .ok (some y) h) P2 → Q true H') →
        (∀ ι' h' H', Ext (Mw M ex) ι H ι' H' → Sim (Mw M ex) ι' h' H' → P2 none h' ι' H' → Q false H') → tt σ H Q := by
    rcases hc with ⟨rfl, rfl⟩ | ⟨q, r, q', rfl, rfl, hq⟩
    · refine ⟨fun m h => (ev T'.pg F e m h).bind fun y h => .ok (some y) h, tYes, fun m => ⟨fun x h => match setT t x (wipe m ws) with
        | some σ' => ((ev T'.pg F e σ' h).bind fun y h => .ok (some y) h).quiet
        | none => .bad, fun h => by simp only [evN] <;> rfl, fun dw i h => by simp only [evN] <;> rfl, fun x h => ⟨fun e => by simp only [e], fun m' e => by simp only [e]⟩⟩, fun X' g' => pts_nil, fun ex ι h m σ H Q P2 s en po k1 k2 => k1 ι h H s.refl s en po⟩
    · refine ⟨fun m h => (ev T'.pg F q m h).bind fun t h => (rOpt (truth h t) h).bind fun t h => if t = true then (ev T'.pg F e m h).bind fun y h => .ok (some y) h else .ok none h, rdT τ0 M T'.pg F q, fun m => ⟨fun x h => match setT t x (wipe m ws) with
        | some σ' => ((ev T'.pg F q σ' h).bind fun t h => (rOpt (truth h t) h).bind fun t h => if t = true then (ev T'.pg F e σ' h).bind fun y h => .ok (some y) h else .ok none h).quiet
        | none => .bad, fun h => by simp only [evN] <;> rfl, fun dw i h => by simp only [evN] <;> rfl, fun x h => ⟨fun e => by simp only [e], fun m' e => by simp only [e]⟩⟩, fun X' g' => pts_one (hq X' g'), fun ex ι h m σ H Q P2 s en po k1 k2 => ?_⟩
      refine ⟨ex, fun _ _ _ => False, ι, h, m, fun _ _ _ h => h, s, en, ?_⟩
      dsimp only at po
      rw [← R.bind_assoc] at po
      refine po.step fun t h1 ι1 H1 x1 s1 po1 => ?_
      cases t with
      | true => exact k1 ι1 h1 H1 x1 s1 (en.mono x1) (by simpa using po1)
      | false =>
        simp only [Bool.false_eq_true, if_false] at po1
        exact k2 ι1 h1 H1 x1 s1 (po1 ι1 H1 s1.refl s1)
  refine ⟨tt, htt, fun m => ?_⟩
  obtain ⟨fn, efn, efn2, hfn⟩ := shape m
  refine ⟨fn, efn, efn2, ?_⟩
  intro ex W ι1 h1 H1 σ Q xg J tk s1 en po1 wk D hD
  obtain ⟨hz, po2⟩ := po1.if_
  have mk : ∀ xs, MadeO (.lst xs) := fun xs => .inl ⟨xs, rfl⟩
  have hDx : D ∉ ex := s1.freshX hD
  refine ⟨fun i mm H => mm = xg.1.length - i ∧ i ≤ xg.1.length ∧ ∃ ι h acc accV, Ext (Mw M ex) ι1 H1 ι (minus H D) ∧ Sim (Mw M (D :: ex)) ι h H ∧ RpL (Mw M (D :: ex)) ι H acc accV ∧ H D = some (.lst accV) ∧ acc.length ≤ i ∧
    Po (Mw M ex) W ι1 H1 (cloop fn (fun h => gok h xg.2) (xg.1.drop i) acc h) (PN (Mw M ex) Q), ⟨_, rfl, Nat.zero_le _, ι1, h1, [], [], ?_, s1.set hD (mk _), .nil, upd_same, Nat.le_refl _, po2⟩, ?_⟩
  · rw [minus_upd, minus_none hD]; exact s1.refl
  rintro i mm Hc ⟨rfl, hi, ι2, h2, acc, accV, x2, s2, l2, hDc, hacc, po3⟩
  have hDi : D ∉ ι2 := (s2.xo D List.mem_cons_self).2
  have pres : Pres (Mw M ex) ι1 H1 (Mw M (D :: ex)) ι2 Hc := ⟨fun d v r => by
    have r1 := r.mono x2
    have r2 := Rp.set (p := D) (u := .lst accV) minus_self r1
    rw [upd_minus hDc] at r2
    exact r2, fun a u n e => by
    have q := (x2.keepF a u (.inr n) e).fz n
    by_cases z : a = D
    · rw [z, minus_self] at q; cases q
    · rw [minus_ne z] at q; exact q⟩
  by_cases hlt : i < xg.1.length
  · rw [List.drop_eq_getElem_cons hlt] at po3
    simp only [cloop] at po3
    obtain ⟨gk, po4⟩ := po3.if_
    refine .inr ⟨wk.go i (D :: ex) ι2 h2 Hc hlt pres s2 gk, fun H' => ∃ ι h acc accV, Ext (Mw M ex) ι1 H1 ι (minus H' D) ∧ Sim (Mw M (D :: ex)) ι h H' ∧ RpL (Mw M (D :: ex)) ι H' acc accV ∧ H' D = some (.lst accV) ∧ acc.length ≤ i + 1 ∧
      Po (Mw M ex) W ι1 H1 (cloop _ _ (xg.1.drop (i + 1)) acc h) (PN (Mw M ex) Q), fun H' n => ⟨xg.1.length - (i + 1), by omega, rfl, hlt, n⟩, fun x H3 y => ?_⟩
    obtain ⟨d, ed, x3, s3, r3⟩ := wk.yld i (D :: ex) ι2 h2 Hc x H3 hlt pres s2 gk y
    rw [List.getElem?_eq_getElem hlt] at ed; cases ed
    cases es : setT t xg.1[i] (wipe m ws) with
    | none => rw [(hfn _ _).1 es] at po4; exact False.elim po4
    | some m' =>
      rw [(hfn _ _).2 m' es] at po4
      have en3 : EnR (Mw M (D :: ex)) ι2 H3 m σ := (en.pres pres).mono x3
      refine ⟨D :: ex, ι2, h2, wipe m ws, _, m', s3, en3.wipe ws, r3, es, fun σ2 en4 hwp => ⟨by rw [hwp ws ht, wipe_idem], ?_⟩⟩
      have po5 := Po.quiet (B := Mw M (D :: ex)) (W' := fun _ _ _ => False) (ι' := ι2) (H' := H3) po4
      refine hq (D :: ex) ι2 h2 m' σ2 H3 _ _ s3 en4 po5 (fun ι4 h4 H4 x4 s4 en5 po6 => ?_) fun ι4 h4 H4 x4 s4 po6 => ?_
      · rw [if_pos rfl]
        refine ⟨D :: ex, fun _ _ _ => False, ι4, h4, m', fun _ _ _ h => h, s4, en5, po6.step fun y h5 ι5 H5 x5 s5 po7 v r5 => ?_⟩
        have po8 := po7 ι5 H5 s5.refl s5
        have e3 : H3 D = some (.lst accV) := x3.exKeep hDc hDi rfl
        have hDi3 : D ∉ ι2 := hDi
        have e4 : H4 D = some (.lst accV) := x4.exKeep e3 hDi rfl
        have hDi4 : D ∉ ι4 := (s4.xo D List.mem_cons_self).2
        have e5 : H5 D = some (.lst accV) := x5.exKeep e4 hDi4 rfl
        have l5 : RpL (Mw M (D :: ex)) ι5 H5 acc accV := ((l2.mono x3).mono x4).mono x5
        refine ⟨accV, e5, by rw [line_eq, ← l5.length]; omega, ι5, h5, acc ++ [y], accV ++ [v], ?_, s5.wex e5 List.mem_cons_self (mk _) (mk _), ?_, upd_same, by simp; omega, po8⟩
        · rw [minus_upd]
          exact ((x2.trans (x3.minus s2 hDc (mk _) hDx)).trans (x4.minus s3 e3 (mk _) hDx)).trans (x5.minus s4 e4 (mk _) hDx)
        · exact RpL.wexA e5 List.mem_cons_self (mk _).nt (mk _).nf (l5.append (.cons r5 .nil))
      · rw [if_neg Bool.false_ne_true]
        have e3 : H3 D = some (.lst accV) := x3.exKeep hDc hDi rfl
        have e4 : H4 D = some (.lst accV) := x4.exKeep e3 hDi rfl
        exact ⟨ι4, h4, acc, accV, (x2.trans (x3.minus s2 hDc (mk _) hDx)).trans (x4.minus s3 e3 (mk _) hDx), s4, (l2.mono x3).mono x4, e4, by omega, po6⟩
  · have ei : i = xg.1.length := by omega
    subst ei
    rw [List.drop_eq_nil_of_le (Nat.le_refl _)] at po3
    simp only [cloop] at po3
    obtain ⟨gk, po4⟩ := po3.if_
    refine .inl ⟨wk.stop (D :: ex) ι2 h2 Hc pres s2 gk, ?_⟩
    have := po4 ι2 (minus Hc D) x2 (s2.minus hDc (mk _) hDx) D accV (RpL.minusA hDc (mk _).nt (mk _).nf l2) minus_self
    rw [upd_minus hDc] at this
    exact this
theorem comp_read {t : T} {it cnd e : E} {ifs : List Expr} {ws : List Nat} (ht : ∀ i ∈ t.slots, i ∈ ws)
    (hc : (cnd = .nil ∧ ifs = []) ∨ ∃ q r q', cnd = .cons q r ∧ ifs = [q'] ∧ ∀ X', XG T' M prog w mg base j (c.blk scope) τ0 X' → PT X' q' (rdT τ0 M T'.pg F q)) :
    ∃ tt, (∀ X', XG T' M prog w mg base j (c.blk scope) τ0 X' → PTs X' ifs tt) ∧ ∀ (σ : St) (H : Hp) (Q : VK), rdN τ M T'.pg F (.comp ws t it cnd e) σ H Q → tLc (rdI τ M T'.pg F it) (rdG M t) tt (rdE τ0 M T'.pg F e) ws σ H Q := by
  obtain ⟨tt, htt, go⟩ := comp_core (T' := T') (M := M) (prog := prog) (w := w) (mg := mg) (base := base) (j := j) (F := F) (c := c) (τ := τ) (scope := scope) (it := it) (e := e) ht hc
  refine ⟨tt, htt, fun σ H Q ⟨ex, W, ι, h, m, tk, sim, en, po⟩ => ?_⟩
  obtain ⟨fn, efn, _, go⟩ := go m
  rw [efn] at po
  exact ⟨ex, W, ι, h, m, tk, sim, en, po.step fun xg h1 ι1 H1 x1 s1 po1 J wk => go ex W ι1 h1 H1 σ Q xg J tk s1 (en.mono x1) po1 wk⟩
theorem n_comp (g : XG T' M prog w mg base j c τ X) {t : T} {it cnd e : E} {tg iter elt : Expr} {ifs : List Expr} {own : List (Str × Nat)} {ws : List Nat} (hi : PI X tg iter (rdI τ M T'.pg F it)) (ok : BlkOk c.N c.sc scope own) (hw : own.map (·.2) = ws) (ht : ∀ i ∈ t.slots, i ∈ ws)
    (hg : ∀ X', XG T' M prog w mg base j (c.blk scope) τ0 X' → PG X' tg (rdG M t))
    (hc : (cnd = .nil ∧ ifs = []) ∨ ∃ q r q', cnd = .cons q r ∧ ifs = [q'] ∧ ∀ X', XG T' M prog w mg base j (c.blk scope) τ0 X' → PT X' q' (rdT τ0 M T'.pg F q))
    (he : ∀ X', XG T' M prog w mg base j (c.blk scope) τ0 X' → PE X' elt (rdE τ0 M T'.pg F e)) (hs : ∀ x, foldedSetIterable iter X.env x = pure x) :
    PE X (.ListComp elt [⟨tg, iter, ifs, 0⟩] scope pos) (rdN τ M T'.pg F (.comp ws t it cnd e)) := by
  obtain ⟨tt, htt, rd⟩ := comp_read (T' := T') (M := M) (prog := prog) (w := w) (mg := mg) (base := base) (j := j) (F := F) (c := c) (τ := τ) (scope := scope) (it := it) (e := e) ht hc
  refine (pe_lc (te := rdE τ0 M T'.pg F e) g.calm (by rw [g.N]; exact g.nd) hi (by rw [g.N, g.sc]; exact ok) (fun s H C cl fp => hg _ (g.blk s H C cl fp)) (fun s H C cl fp => htt _ (g.blk s H C cl fp)) (fun s H C cl fp => he _ (g.blk s H C cl fp)) hs).imp fun σ H Q q => ?_
  rw [hw]
  exact rd σ H Q q
theorem n_compS {i : Nat} {y : Str} {py spos : Pos} (g : XG T' M prog w mg base j c τ X) {t : T} {it cnd e : E} {tg iter elt : Expr} {ifs : List Expr} {own : List (Str × Nat)} {ws : List Nat} (hi : PI X tg iter (rdI τ M T'.pg F it)) (ok : BlkOk c.N c.sc scope own) (hw : own.map (·.2) = ws) (ht : ∀ i ∈ t.slots, i ∈ ws)
    (hg : ∀ X', XG T' M prog w mg base j (c.blk scope) τ0 X' → PG X' tg (rdG M t))
    (hc : (cnd = .nil ∧ ifs = []) ∨ ∃ q r q', cnd = .cons q r ∧ ifs = [q'] ∧ ∀ X', XG T' M prog w mg base j (c.blk scope) τ0 X' → PT X' q' (rdT τ0 M T'.pg F q))
    (he : ∀ X', XG T' M prog w mg base j (c.blk scope) τ0 X' → PE X' elt (rdE τ0 M T'.pg F e)) (hs : ∀ x, foldedSetIterable iter X.env x = pure x) (hy : c.N[i]? = some y) (hyl : c.sc.names.lookup y = some .local) (hsw : swapsWith (.ListComp elt [⟨tg, iter, ifs, 0⟩] scope pos) (some (.Name y py)) spos.line X.env = pure true) :
    PS X (.Assign [.Name y py] (.ListComp elt [⟨tg, iter, ifs, 0⟩] scope pos) spos) (tAsg (rdN τ M T'.pg F (.comp ws t it cnd e)) (gName i)) := by
  obtain ⟨tt, htt, rd⟩ := comp_read (T' := T') (M := M) (prog := prog) (w := w) (mg := mg) (base := base) (j := j) (F := F) (c := c) (τ := τ) (scope := scope) (it := it) (e := e) ht hc
  refine (ps_setLc (te := rdE τ0 M T'.pg F e) g.calm (by rw [g.N]; exact g.nd) (by rw [g.N]; exact hy) (by rw [g.sc]; exact hyl) hsw hi (by rw [g.N, g.sc]; exact ok) (fun s H C cl fp => hg _ (g.blk s H C cl fp)) (fun s H C cl fp => htt _ (g.blk s H C cl fp)) (fun s H C cl fp => he _ (g.blk s H C cl fp)) hs).imp fun D σ H q => ?_
  rw [hw]
  exact rd σ H _ q
end
end Mx
set_option Elab.async false
set_option linter.all false
set_option maxRecDepth 100000
set_option maxHeartbeats 2000000
namespace Mx
open PySem L2
/-! ### calls -/
def E.tk : Nat → E → E
  | 0, _ => .nil
  | n + 1, .cons a r => .cons a (E.tk n r)
  | _ + 1, e => .nil
def E.dp : Nat → E → E
  | 0, e => e
  | n + 1, .cons _ r => E.dp n r
  | _ + 1, e => e
def E.ge : Nat → E → Bool
  | 0, _ => true
  | n + 1, .cons _ r => E.ge n r
  | _ + 1, _ => false
theorem R.bind_pure {α : Type} (r : R α) : r.bind (fun a h => .ok a h) = r := by cases r <;> rfl
theorem R.ok_bind {α β : Type} (a : α) (h : Hh) (k : α → Hh → R β) : (R.ok a h).bind k = k a h := rfl
theorem evs_split {P : Pg} {F : Ph} {m : En} : ∀ {n : Nat} {es : E} {h : Hh}, E.ge n es = true → evs P F es m h = (evs P F (E.tk n es) m h).bind fun xs h => (evs P F (E.dp n es) m h).bind fun ys h => .ok (xs ++ ys) h
  | 0, es, h, _ => by
    simp only [E.tk, E.dp, evs, R.bind, List.nil_append]
    exact (R.bind_pure _).symm
  | n + 1, .cons a r, h, q => by
    simp only [E.tk, E.dp, evs, R.bind_assoc]
    congr 1
    funext x h1
    rw [evs_split (n := n) (es := r) (h := h1) q]
    simp only [R.bind_assoc, R.ok_bind, List.cons_append]
  | n + 1, .nil, _, q => by simp [E.ge] at q
def E.len : E → Nat
  | .cons _ r => r.len + 1
  | _ => 0
theorem evs_len {P : Pg} {F : Ph} {m : En} : ∀ {es : E} {h h' : Hh} {ds : List D}, evs P F es m h = .ok ds h' → ds.length = es.len
  | .nil, _, _, _, e => by simp only [evs] at e; cases e; rfl
  | .cons a r, _, _, _, e => by
    simp only [evs] at e
    obtain ⟨_, _, _, e⟩ := R.bind_ok e
    obtain ⟨ys, _, e1, e⟩ := R.bind_ok e
    cases e
    rw [List.length_cons, evs_len e1]; rfl
  | .k _, _, _, _, e => by simp [evs] at e
  | .v _, _, _, _, e => by simp [evs] at e
  | .g _ _, _, _, _, e => by simp [evs] at e
  | .bin _ _ _, _, _, _, e => by simp [evs] at e
  | .neg _, _, _, _, e => by simp [evs] at e
  | .cmp _ _ _, _, _, _, e => by simp [evs] at e
  | .ch _ _ _ _ _, _, _, _, e => by simp [evs] at e
  | .and_ _ _, _, _, _, e => by simp [evs] at e
  | .or_ _ _, _, _, _, e => by simp [evs] at e
  | .not_ _, _, _, _, e => by simp [evs] at e
  | .ite _ _ _, _, _, _, e => by simp [evs] at e
  | .tup _, _, _, _, e => by simp [evs] at e
  | .nl _ _, _, _, _, e => by simp [evs] at e
  | .dis _, _, _, _, e => by simp [evs] at e
  | .lcat _ _, _, _, _, e => by simp [evs] at e
  | .lrep _ _, _, _, _, e => by simp [evs] at e
  | .lof _, _, _, _, e => by simp [evs] at e
  | .lsl _ _ _, _, _, _, e => by simp [evs] at e
  | .lrv _, _, _, _, e => by simp [evs] at e
  | .comp _ _ _ _ _, _, _, _, e => by simp [evs] at e
  | .ix _ _, _, _, _, e => by simp [evs] at e
  | .sl _ _ _, _, _, _, e => by simp [evs] at e
  | .fld _ _ _, _, _, _, e => by simp [evs] at e
  | .call _ _ _, _, _, _, e => by simp [evs] at e
  | .mk _ _, _, _, _, e => by simp [evs] at e
  | .bi _ _, _, _, _, e => by simp [evs] at e
  | .mt _ _ _, _, _, _, e => by simp [evs] at e
  | .iSeq _, _, _, _, e => by simp [evs] at e
  | .iRg1 _, _, _, _, e => by simp [evs] at e
  | .iRg2 _ _, _, _, _, e => by simp [evs] at e
  | .iEnum _, _, _, _, e => by simp [evs] at e
theorem len_tk : ∀ {n : Nat} {es : E}, E.ge n es = true → (E.tk n es).len = n ∧ (E.dp n es).len = es.len - n
  | 0, es, _ => ⟨rfl, by simp [E.dp]⟩
  | n + 1, .cons a r, q => by
    obtain ⟨h1, h2⟩ := len_tk (n := n) (es := r) q
    exact ⟨by simp only [E.tk, E.len, h1], by simp only [E.dp, E.len, h2]; omega⟩
  | n + 1, .nil, q => by simp [E.ge] at q
theorem Po.stepE {α β : Type} {M : Rl} {W : XK} {ι : List Addr} {H : Hp} {r : R α} {k : α → Hh → R β} {P : α → Hh → List Addr → Hp → Prop} {P2 : β → Hh → List Addr → Hp → Prop} (po : Po M W ι H (r.bind k) P2)
    (go : ∀ d h1 ι1 H1, r = .ok d h1 → Ext M ι H ι1 H1 → Sim M ι1 h1 H1 → Po M W ι1 H1 (k d h1) P2 → P d h1 ι1 H1) : Po M W ι H r P := by
  cases r with
  | bad => exact po
  | exc c d h => exact po
  | ok a h =>
    have q := Po.step (r := .ok a h) (P := fun d h1 ι1 H1 => Po M W ι1 H1 (k d h1) P2) po fun d h1 ι1 H1 x s p => p
    exact fun ι1 H1 x s => go a h ι1 H1 rfl x s (q ι1 H1 x s)
theorem _root_.L2.PK.imp {X : Cx} {e : List Keyword} {t t' : TA} (p : PK X e t) (h : ∀ σ H Q, t' σ H Q → t σ H Q) : PK X e t' := ⟨fun pos pins s σ H Q I q => p.run pos pins s σ H Q I (h σ H Q q)⟩
section
variable {T : Tb} {M : Rl} {prog : Program} {w : World} {mg : Str → Option Value} {base : Heap} {j : Nat} {F : Ph} {c : Ct} {τ : XK → Prop} {X : Cx} {pos p : Pos} {a b d e : E} {a' b' d' x : Expr} {args : List Expr} {kws : List Keyword}
theorem k_nil : PK X [] (rdEs τ M T.pg F .nil) :=
  pk_nil.imp fun σ H Q ⟨ex, W, ι, h, m, tk, sim, en, po⟩ => by
    simp only [evs] at po
    exact po ι H sim.refl sim [] .nil
theorem k_cons {nm : Option Str} {kpos : Pos} (pa : PE X a' (rdE τ M T.pg F a)) (pb : PK X kws (rdEs τ M T.pg F b)) : PK X (⟨nm, a', kpos⟩ :: kws) (rdEs τ M T.pg F (.cons a b)) :=
  (pk_cons pa pb).imp fun σ H Q ⟨ex, W, ι, h, m, tk, sim, en, po⟩ => by
    simp only [evs] at po
    refine ⟨ex, W, ι, h, m, tk, sim, en, po.step fun d1 h1 ι1 H1 x1 s1 po1 v1 r1 => ⟨ex, W, ι1, h1, m, tk, s1, en.mono x1, po1.step fun ds h2 ι2 H2 x2 s2 po2 vs r2 => ?_⟩⟩
    exact po2 ι2 H2 s2.refl s2 _ (.cons (r1.mono x2) r2)
/-- the values of a call, then what is called -/
theorem call_vals {es : E} {n l : Nat} {k : List D → Hh → R D} {Q : VK} {σ : St} {H : Hp} (hge : E.ge n es = true) (hl : E.len es = n + l)
    (q : ∃ ex W ι h m, τ W ∧ Sim (Mw M ex) ι h H ∧ EnR (Mw M ex) ι H m σ ∧ Po (Mw M ex) W ι H ((evs T.pg F es m h).bind k) (PV (Mw M ex) Q)) :
    rdEs τ M T.pg F (E.tk n es) σ H fun vs H1 => rdEs τ M T.pg F (E.dp n es) σ H1 fun zs H2 => ∃ ex W ι h ds, τ W ∧ Sim (Mw M ex) ι h H2 ∧ RpL (Mw M ex) ι H2 ds (vs ++ zs) ∧ vs.length = n ∧ zs.length = l ∧ Po (Mw M ex) W ι H2 (k ds h) (PV (Mw M ex) Q) := by
  obtain ⟨ex, W, ι, h, m, tk, sim, en, po⟩ := q
  rw [evs_split hge] at po
  simp only [R.bind_assoc] at po
  refine ⟨ex, W, ι, h, m, tk, sim, en, po.stepE fun ds h1 ι1 H1 e1 x1 s1 po1 vs r1 => ⟨ex, W, ι1, h1, m, tk, s1, en.mono x1, po1.stepE fun es h2 ι2 H2 e2 x2 s2 po2 zs r2 => ?_⟩⟩
  refine ⟨ex, W, ι2, h2, ds ++ es, tk, s2, (RpL.mono x2 r1).append r2, ?_, ?_, po2⟩
  · rw [← r1.length, evs_len e1, (len_tk hge).1]
  · rw [← r2.length, evs_len e2, (len_tk hge).2, hl]; omega
theorem pe_callG {v : Value} {y : Str} {es : E} {n : Nat} {k : List D → Hh → R D} (he : ∀ m h, ev T.pg F e m h = (evs T.pg F es m h).bind k) (hge : E.ge n es = true) (hn : args.length = n) (hl : E.len es = n + (kwN kws).length)
    (hg : Gl X y) (hm : X.mg y = some v) (hk : PySem.W.keepIn X.K v = true) (hd : (y == ("__debug__" : Str)) = false) (hp : args.all plainE = true) (ko : kwOk kws = true) (pa : PA X args (rdEs τ M T.pg F (E.tk n es))) (pk : PK X kws (rdEs τ M T.pg F (E.dp n es)))
    (go : ∀ pins σ Q us ws vs zs H2 s2 ex W ι h ds, Inv X pins σ H2 s2 → Vals vs us → Vals zs ws → us.length = n → ws.length = (kwN kws).length → τ W → Sim (Mw M ex) ι h H2 → RpL (Mw M ex) ι H2 ds (vs ++ zs) → Po (Mw M ex) W ι H2 (k ds h) (PV (Mw M ex) Q) →
      wpAny (model X.prog X.w) X.A (call v us ((kwN kws).zip ws)) (EP X pins σ Q) X.xe s2) : PE X (.Call (.Name y p) args kws pos) (rdE τ M T.pg F e) := by
  refine ⟨fun pins s σ H Q I ⟨ex, W, ι, h, m, tk, sim, en, po⟩ => ?_⟩
  refine wpAny_Call_Name_kw (ld_glob I hg hm ?_ hd)
  rw [he] at po
  have q := call_vals hge hl ⟨ex, W, ι, h, m, tk, sim, en, po⟩
  cases args with
  | nil =>
    simp only [List.length_nil] at hn
    subst hn
    have q0 : rdEs τ M T.pg F (E.dp 0 es) σ H fun zs H2 => ∃ ex W ι h ds, τ W ∧ Sim (Mw M ex) ι h H2 ∧ RpL (Mw M ex) ι H2 ds ([] ++ zs) ∧ ([] : List V).length = 0 ∧ zs.length = (kwN kws).length ∧ Po (Mw M ex) W ι H2 (k ds h) (PV (Mw M ex) Q) := by
      obtain ⟨ex, W, ι, h, m, tk, sim, en, po⟩ := q
      simp only [E.tk, evs] at po
      exact po ι H sim.refl sim [] .nil
    refine callNil (first := []) hk ko pk I q0 (fun ws zs H2 s2 I2 rz q => ?_)
    obtain ⟨ex, W, ι, h, ds, tk, s, r, _, hz, po⟩ := q
    exact go pins σ Q [] ws [] zs H2 s2 ex W ι h ds I2 .nil rz rfl (rz.length.symm.trans hz) tk s r po
  | cons e0 es0 =>
    refine callCons (first := []) hk hp ko pa pk I q (fun us ws vs zs H2 s2 I2 r rz q => ?_)
    obtain ⟨ex, W, ι, h, ds, tk, s, rr, hv, hz, po⟩ := q
    exact go pins σ Q us ws vs zs H2 s2 ex W ι h ds I2 r rz (r.length.symm.trans hv) (rz.length.symm.trans hz) tk s rr po
theorem r_call {W0 : Wd T M prog w mg base j F} (g : XG T M prog w mg base j c τ X) {s : Nat} {sg : Sg} {fr : Bool} {es : E} (hs : T.pg.sgs s = some sg) (hge : E.ge sg.n es = true) (hn : args.length = sg.n) (hks : kwN kws = sg.ks) (hl : E.len es = sg.n + sg.ks.length)
    (hg : Gl X (T.fn sg.f)) (hd : (T.fn sg.f == ("__debug__" : Str)) = false) (hp : args.all plainE = true) (ko : kwOk kws = true) (pa : PA X args (rdEs τ M T.pg F (E.tk sg.n es))) (pk : PK X kws (rdEs τ M T.pg F (E.dp sg.n es))) :
    PE X (.Call (.Name (T.fn sg.f) p) args kws pos) (rdE τ M T.pg F (.call s fr es)) := by
  obtain ⟨f, fd, ps, hmg, hk, FG, bd⟩ := W0.fns s sg hs
  refine pe_callG (v := .ref f) (k := fun xs h => (rOpt (perm sg.pm xs) h).bind fun ys h => if fr = true then settle h (F sg.f ys h) else F sg.f ys h) (fun m h => by simp only [ev, hs]) hge hn (by rw [hks]; exact hl) hg (by rw [g.mg]; exact hmg) (by rw [g.K]; exact hk) hd hp ko pa pk ?_
  intro pins σ Q us ws vs zs H2 s2 ex W ι h ds I r rz hu hw tk sim rl po
  obtain ⟨ys, ey, po⟩ := po.opt
  obtain ⟨xs, hx, rx⟩ := rpl_perm rl ey
  have hpo : Po (Mw M ex) W ι H2 (F sg.f ys h) (PV (Mw M ex) Q) := by
    cases fr with
    | false => simpa using po
    | true =>
      simp only [if_true] at po
      exact (settle_po sim po).imp fun d h1 ι1 H1 x1 s1 ⟨d', hh, x2, s2, tr, q⟩ v rv => q v (tr v rv)
  have FX : FnG X.prog X.w X.K X.mg X.base j f fd ps (spF M F sg.f ps.length) := by
    rw [g.prog, g.w, g.K, g.mg, g.base]; exact FG
  refine runG (k := j) (W := W) (n := sg.n) (pm := sg.pm) FX (g.room.mono (Nat.le_succ _)) g.gd (by rw [g.K, hks]; exact bd) (g.tk W tk) I r rz hu hw hx ⟨?_, ex, ι, h, ys, sim, rx, hpo⟩
  rw [mapM_len hx]; exact bd.len
theorem r_mk {W0 : Wd T M prog w mg base j F} (g : XG T M prog w mg base j c τ X) {s k : Nat} {sg : Sg} {es : E} (hs : T.pg.mks s = some (k, sg)) (hge : E.ge sg.n es = true) (hn : args.length = sg.n) (hks : kwN kws = sg.ks) (hl : E.len es = sg.n + sg.ks.length)
    (hg : Gl X (T.cn k)) (hd : (T.cn k == ("__debug__" : Str)) = false) (hp : args.all plainE = true) (ko : kwOk kws = true) (pa : PA X args (rdEs τ M T.pg F (E.tk sg.n es))) (pk : PK X kws (rdEs τ M T.pg F (E.dp sg.n es))) :
    PE X (.Call (.Name (T.cn k) p) args kws pos) (rdE τ M T.pg F (.mk s es)) := by
  obtain ⟨hok, f, fd, ps, mk, FG, bd⟩ := W0.mks s k sg hs
  refine pe_callG (v := .ref (M.cl k)) (k := fun xs h => (rOpt (perm sg.pm (.ref h.length :: xs)) h).bind fun ys h =>
        settle h ((F sg.f ys (h ++ [.ins k []])).bind fun d h' => mkEnd h.length d h')) (fun m h => by simp only [ev, hs]) hge hn (by rw [hks]; exact hl) hg (by rw [g.mg]; exact W0.nm k hok) (by rw [g.K]; exact mk.kp) hd hp ko pa pk ?_
  intro pins σ Q us ws vs zs H2 s2 ex W ι h ds I r rz hu hw tk sim rl po
  obtain ⟨ys, ey, po⟩ := po.opt
  have FX : FnG X.prog X.w X.K X.mg X.base j f fd ps (spF M F sg.f ps.length) := by
    rw [g.prog, g.w, g.K, g.mg, g.base]; exact FG
  refine runMkG (k := j) (W := W) (n := sg.n) (pm := sg.pm) (by rw [g.K]; exact mk) FX g.room g.gd (by rw [g.K, hks]; exact bd) (g.tk W tk) I r rz hu hw ?_
  intro x dx nx ndx ne
  have n2 : upd H2 dx (.own x) x = none := by rw [upd_ne (Ne.symm ne)]; exact nx
  have s3 := sim.hid (o := .own x) ndx
  have x3 : Ext (Mw M ex) ι H2 ι (upd H2 dx (.own x)) := .hid sim ndx
  have x4 : Ext (Mw M ex) ι (upd H2 dx (.own x)) (ι ++ [x]) (upd (upd H2 dx (.own x)) x (.ins (M.cl k) dx [])) := .push s3 n2
  have s4 : Sim (Mw M ex) (ι ++ [x]) (h ++ [.ins k []]) (upd (upd H2 dx (.own x)) x (.ins (M.cl k) dx [])) :=
    s3.push n2 ⟨dx, [], hok, by rw [upd_same]; simp, Nat.zero_le _, .nil⟩
  have rx : Rp (Mw M ex) (ι ++ [x]) (upd (upd H2 dx (.own x)) x (.ins (M.cl k) dx [])) (.ref h.length) (.ref x) := .ref (by
    rw [← sim.len, List.getElem?_append_right (Nat.le_refl _)]; simp)
  obtain ⟨xs, hx, rxs⟩ := rpl_perm (.cons rx (rl.mono (x3.trans x4))) ey
  refine ⟨xs, by simpa using hx, ?_, ex, ι ++ [x], h ++ [.ins k []], ys, s4, rxs, ?_⟩
  · rw [mapM_len hx]; exact bd.len
  · have po2 := (settle_po sim po).later (x3.trans x4)
    refine po2.step fun d h1 ι1 H1 x5 s5 po5 v rv => ?_
    cases d with
    | non =>
      obtain ⟨d', hh, x6, s6, tr, q⟩ := po5 ι1 H1 s5.refl s5
      exact ⟨rv.non_inv, q _ (tr _ (rx.mono x5))⟩
    | _ => exact False.elim po5
end
end Mx
set_option Elab.async false
set_option linter.all false
set_option maxRecDepth 100000
set_option maxHeartbeats 2000000
namespace Mx
open PySem L2 PySem.W PyProof.Rows
section
variable {X : Cx} {M : Rl} {ι : List Addr} {H : Hp} {h : Hh}
/-! ### sorted -/
abbrev SB : Type := D × PyData × V
theorem sb_facts {K : PySem.W.Frag} (hK : X.K = M.K) {pins : List (Addr × Obj)} {s : Shared} {σ : L2.St} (I : L2.Inv X pins σ H s) (sim : Sim M ι h H) :
    ∀ {xs : List D} {vs : List V} {ps : List PyData} {its : List Value}, RpL M ι H xs vs → xs.mapM (pd h) = some ps → Vals vs its →
      ∃ bs : List SB, bs.map (fun b => (b.1, b.2.1)) = xs.zip ps ∧ bs.map (fun b => b.2.1) = ps ∧ bs.length = xs.length ∧ EachIs (fun v (b : SB) => RelV b.2.2 v) its bs ∧ EachIs (fun v (b : SB) => ∃ as, Reads s.heap v b.2.1 as) its bs ∧ ∀ b ∈ bs, Rp M ι H b.1 b.2.2
  | [], _, ps, its, .nil, e, r => by
    cases r
    simp at e
    subst e
    exact ⟨[], rfl, rfl, rfl, .nil, .nil, fun b hb => nomatch hb⟩
  | d :: xs, _, ps, its, .cons rd l, e, r => by
    rw [List.mapM_cons] at e
    cases e1 : pd h d with
    | none => rw [e1] at e; simp at e
    | some p =>
      cases e2 : xs.mapM (pd h) with
      | none => rw [e1, e2] at e; simp at e
      | some ps1 =>
        rw [e1, e2] at e
        simp at e
        subst e
        cases r with
        | @cons v1 u vs1 us ru rr =>
          obtain ⟨bs, b1, b2, b3, b4, b5, b6⟩ := sb_facts (K := K) hK I sim l e2 rr
          have dp := dp_of sim 12 _ _ _ rd e1
          rw [← hK] at dp
          refine ⟨(d, p, _) :: bs, by simp [b1], by simp [b2], by simp [b3], .cons ru b4, .cons (Dp.reads I p _ u dp ru) b5, fun b hb => ?_⟩
          rcases List.mem_cons.mp hb with z | z
          · subst z; exact rd
          · exact b6 b z
theorem vals_each : ∀ {out : List Value} {bs : List SB}, EachIs (fun v (b : SB) => RelV b.2.2 v) out bs → Vals (bs.map fun b => b.2.2) out
  | _, _, .nil => .nil
  | _, _, .cons r t => .cons r (vals_each t)
theorem rpl_each : ∀ {bs : List SB}, (∀ b ∈ bs, Rp M ι H b.1 b.2.2) → RpL M ι H (bs.map fun b => b.1) (bs.map fun b => b.2.2)
  | [], _ => .nil
  | b :: bs, q => .cons (q b List.mem_cons_self) (rpl_each fun x hx => q x (List.mem_cons_of_mem _ hx))
theorem srt_runs (hK : X.K = M.K) (hu : X.A.units + 64 < cLine) {pins : List (Addr × Obj)} {s : Shared} {σ : L2.St} {r : Value} {rev : Bool} {xs : List D} {vs : List V} {its : List Value} {W : XK} {Q : VK} (I : L2.Inv X pins σ H s) (sim : Sim M ι h H) (l : RpL M ι H xs vs) (rv : Vals vs its)
    (po : Po M W ι H (srtL h rev xs) (PN M Q))
    (hcol : ∀ Q' : List Value → Shared → Prop, (∀ s1, (∀ b o, s.heap.get? b = some o → s1.heap.get? b = some o) → s.heap.objs.size ≤ s1.heap.objs.size → s1.gens = s.gens → s1.os = s.os → Q' its s1) → wpAny (model X.prog X.w) X.A.in1 (collect r) Q' X.xe s) :
    wpAny (model X.prog X.w) X.A (call (.builtin "sorted") [r] (kwR rev)) (EP X pins σ Q) X.xe s := by
  obtain ⟨ps, ep, po⟩ := po.opt
  obtain ⟨⟨c1, c2, c3, c4⟩, po⟩ := po.if_
  obtain ⟨bs, b1, b2, b3, b4, b5, b6⟩ := sb_facts (K := X.K) hK I sim l ep rv
  have hlen : its.length = xs.length := by rw [← rv.length, ← l.length]
  refine sorted_by rev (R := fun v (b : SB) => RelV b.2.2 v) (enc := fun b => b.2.1) (fun x => x = bs) (fun x hx => ⟨by rw [hx, b2]; exact c2, by rw [hx, b2]; exact c3, fun b hb => ?_⟩) (fun Q' g => hcol Q' fun s1 k z g1 o1 => g bs its s1 rfl k z g1 o1 b4 b5 (by rw [hlen, line_eq]; exact c1)) fun x s' D0 out hx k z g1 o1 at0 er => ?_
  · rw [hx] at hb
    have : b.2.1 ∈ ps := by rw [← b2]; exact List.mem_map.mpr ⟨b, hb, rfl⟩
    have := c4 _ this
    omega
  · rw [hx] at er
    obtain ⟨e, at0⟩ := at0
    have hm : ∀ b ∈ bs.mergeSort (dataLe rev fun b : SB => b.2.1), Rp M ι H b.1 b.2.2 := fun b hb => b6 b (List.mem_mergeSort.mp hb)
    have hn := I.hok.fresh z
    have ey : (((xs.zip ps).mergeSort (dataLe rev (·.2))).map (·.1)) = (bs.mergeSort (dataLe rev fun b : SB => b.2.1)).map fun b => b.1 := by
      rw [← b1]
      rw [← List.map_mergeSort (r := dataLe rev fun b : SB => b.2.1) (f := fun b : SB => (b.1, b.2.1)) (fun a _ b _ => rfl), List.map_map]
      rfl
    have ok : ObjOk X.prog X.w (upd H D0 (.lst ((bs.mergeSort (dataLe rev fun b : SB => b.2.1)).map fun b => b.2.2))) s'.heap D0 (.lst ((bs.mergeSort (dataLe rev fun b : SB => b.2.1)).map fun b => b.2.2)) := by
      refine ⟨?_, out, e, vals_each er, at0⟩
      rw [List.length_map, List.length_mergeSort, b3, line_eq]
      exact c1
    exact ⟨.ref D0, _, I.call' (ch := []) o1 (Un.laid k z hn) (I.hok.laid k z ok) (by rw [g1]; exact I.bare) (fun _ z => nomatch z), rfl, po ι H sim.refl sim D0 _ (by rw [ey]; exact rpl_each hm) hn⟩
/-- sorted(x), sorted(x, reverse=True), of a list or a tuple -/
theorem srt_seq (hK : X.K = M.K) (hu : X.A.units + 64 < cLine) {pins : List (Addr × Obj)} {s : Shared} {σ : L2.St} {r : Value} {rev : Bool} {d : D} {v : V} {W : XK} {Q : VK} (I : L2.Inv X pins σ H s) (sim : Sim M ι h H) (rd : Rp M ι H d v) (rv : RelV v r) (po : Po M W ι H (srtR h rev d) (PN M Q)) :
    wpAny (model X.prog X.w) X.A (call (.builtin "sorted") [r] (kwR rev)) (EP X pins σ Q) X.xe s := by
  obtain ⟨xs, e, po⟩ := po.opt
  obtain ⟨a, vs, rfl, q, l⟩ := seq_ok sim rd e
  obtain rfl : r = Value.ref a := rv
  rw [← hK] at q
  rcases q with q | q
  · obtain ⟨its, rv, ⟨o, n, e1, e2, e3, e4⟩, hz⟩ := I.list q
    exact srt_runs hK hu I sim l rv po fun Q' g => collect_seq (.inl rfl) e1 e2 e4 (by rw [List.size_toArray, ← rv.length]; exact hz) fun h1 tk k z => g _ k (Nat.le_of_lt z) rfl rfl
  · obtain ⟨its, rv, ⟨o, e1, e2, n, e4⟩, hz⟩ := I.tuple q
    exact srt_runs hK hu I sim l rv po fun Q' g => collect_seq (.inr rfl) e1 e2 e4 (by rw [List.size_toArray, ← rv.length]; exact hz) fun h1 tk k z => g _ k (Nat.le_of_lt z) rfl rfl
/-- sorted(d.values()) -/
theorem srt_vals (hK : X.K = M.K) (hu : X.A.units + 64 < cLine) (hc : X.calm = true) {pins : List (Addr × Obj)} {s : Shared} {σ : L2.St} {p a : Addr} {d : D} {W : XK} {Q : VK} (I : L2.Inv X pins σ H s) (sim : Sim M ι h H) (rd : Rp M ι H d (.ref a)) (hp : H p = some (viewO "dict_values" p a)) (po : Po M W ι H (srtVR h d) (PN M Q)) :
    wpAny (model X.prog X.w) X.A (call (.builtin "sorted") [.ref p] []) (EP X pins σ Q) X.xe s := by
  unfold srtVR at po
  split at po
  · rename_i ks ds ed
    obtain ⟨a', kvs, e0, hd, rfl, l⟩ := dct_ok sim rd ed
    cases e0
    obtain ⟨z, lo, vs, rk, dd⟩ := dk_rd I.hok hd
    obtain ⟨ep, hat⟩ := dd.dictAt
    have hl : kvs.length = vs.length := rk.length
    have hv : s.heap.get? p = some (DSub.viewOb "dict_values" a) := (show ObjOk X.prog X.w H s.heap p (viewO "dict_values" p a) from I.hok p _ hp).1
    have rv : Vals (kvs.map (·.2)) (vs.map (·.2)) := by
      clear hat dd z hl po l hd ed rd
      unfold KV at rk
      induction rk with
      | nil => exact .nil
      | cons q _ ih => exact .cons q.2 ih
    refine srt_runs (rev := false) hK hu I sim l rv po fun Q' g => collect_src (kdl_values (knd := mixKind X.prog X.w) (kvs := vs) (ep := ep)) (I.ok.hd hc) ⟨⟨_, hv, rfl, rfl⟩, hat⟩ (by omega) fun h1 tk acc k z2 its => ?_
    have e : acc.toList = vs.map (·.2) := by
      apply List.ext_getElem?
      intro i
      rw [List.getElem?_map]
      by_cases hi : i < vs.length
      · have ha : i < acc.size := by rw [its.1]; exact hi
        obtain ⟨k1, hk⟩ := its.2 i acc[i] (Array.getElem?_eq_getElem ha)
        rw [Array.getElem?_toList, Array.getElem?_eq_getElem ha, hk]
        rfl
      · have ha : acc.size ≤ i := by rw [its.1]; omega
        rw [Array.getElem?_toList, Array.getElem?_eq_none ha, List.getElem?_eq_none (by omega)]
        rfl
    rw [e]
    exact g _ k (Nat.le_of_lt z2) rfl rfl
  · exact False.elim po
/-- e.values(), a view -/
def tVw (t : TE) : TE := fun σ H Q => t σ H fun x H1 => ∃ a kvs, x = .ref a ∧ Rd H1 a (.dK kvs) ∧ ∀ p, H1 p = none → Q (.ref p) (upd H1 p (viewO "dict_values" p a))
theorem pe_view {e : Expr} {t : TE} {apos cpos : Pos} (he : PE X e t) (hb : attributeBase e "values" X.env (eval e X.env) = eval e X.env) (hl : (apos.endLine == cpos.line) = true) : PE X (.Call (.Attribute e "values" apos) [] [] cpos) (tVw t) := by
  refine ⟨fun pins s σ H Q I q => wpAny_Call_method (T := "dict") (id := "dict.values") hb rfl hl F.plainAttrs_dict F.slot_dict_values F.type_dict_values (thn (he.run pins s σ H _ I q) fun u s1 ⟨x, H1, I1, rx, a, kvs, ex, hd, q⟩ => ?_)⟩
  cases ex
  cases (show u = Value.ref a from rx)
  obtain ⟨z, lo, vs, rk, dd⟩ := dk_rd I1.hok hd
  refine ⟨dd.typeIs, dd.mapOf.noDict, ?_⟩
  show wpAny _ _ (callWith cpos (.builtin "dict.values") [.ref a] [] []) _ X.xe s1
  exact method_meetsIn F.slot_dict_values F.entry_dict_values rfl (PySem.evalArgs_none ⟨rfl, dd.typeIs, F.args_dict_values_1 _, _, meets_dict_values (mixKind X.prog X.w) a lo, ⟨vs, dd⟩,
    ⟨.ref s1.heap.objs.size, _, I1.laid (t' := s1.toks) (fun b o q => Heap.get?_push_of_some _ q) (Nat.le_refl _) (viewO_ok (Heap.get?_push_size _ rfl)), rfl, q _ (I1.hok.fresh (Nat.le_refl _))⟩⟩)
end
/-! ### the rules -/
theorem dct_push {M : Rl} {ι : List Addr} {h : Hh} {H : Hp} {p : Addr} (s : Sim M ι h H) (n : H p = none) : ∀ tk : Bool,
    Ext M ι H (ι ++ [p]) (upd H p (if tk = true then .dT [] else .dK [])) ∧ Sim M (ι ++ [p]) (h ++ [.dct tk false [] []]) (upd H p (if tk = true then .dT [] else .dK []))
  | true => ⟨.push s n, s.push n ⟨_, upd_same, fun _ o w z => (HO.noConfusion z), fun z => (Bool.noConfusion z), [], rfl, rfl, .nil⟩⟩
  | false => ⟨.push s n, s.push n ⟨_, upd_same, fun _ o w z => (HO.noConfusion z), fun z => (Bool.noConfusion z), [], rfl, rfl, .nil⟩⟩
section
variable {T : Tb} {M : Rl} {prog : Program} {w : World} {mg : Str → Option Value} {base : Heap} {j : Nat} {F : Ph} {c : Ct} {τ : XK → Prop} {X : Cx} {pos : Pos} {a b d e : E} {a' b' d' x : Expr} {es : List Expr} {xs : List Expr}
theorem n_srt {W0 : Wd T M prog w mg base j F} (g : XG T M prog w mg base j c τ X) {p : Pos} (hg : Gl X "sorted") (hp : plainE a' = true) (pa : PE X a' (rdE τ M T.pg F a)) : PE X (.Call (.Name "sorted" p) [a'] [] pos) (rdN τ M T.pg F (.srt false a)) :=
  (pe_callB (r := fun vs H Q => ∃ ex, rd1N (Mw M ex) (fun h => srtR h false) vs H Q) (fun pins s σ H vs us Q I r ⟨ex, W, ι, h, d, v, e0, sim, r1, po⟩ => by
      subst e0
      obtain ⟨u, rfl, ru⟩ := vals1 r
      exact srt_seq (M := Mw M ex) g.K g.room.units I sim r1 ru po) hg (by rw [g.mg]; exact W0.free _ (by decide +kernel)) PyProof.Rows.boot_sorted (pa_cons pa pa_nil (starEach_plain hp)) (by decide) (by decide) (starEach_plain hp) rfl).imp fun σ H Q ⟨ex, W, ι, h, m, tk, sim, en, po⟩ => by
    simp only [evN] at po
    refine ⟨ex, W, ι, h, m, tk, sim, en, po.step fun d1 h1 ι1 H1 x1 s1 po1 v1 r1 => ?_⟩
    exact ⟨ex, W, ι1, h1, d1, v1, rfl, s1, r1, po1⟩
theorem n_srtR {W0 : Wd T M prog w mg base j F} (g : XG T M prog w mg base j c τ X) {p kp kpos : Pos} {k0 : Nat} (hg : Gl X "sorted") (hp : plainE a' = true) (pa : PE X a' (rdE τ M T.pg F a)) :
    PE X (.Call (.Name "sorted" p) [a'] [⟨some (Str.ofString "reverse"), .Constant (.bool true) k0 kp, kpos⟩] pos) (rdN τ M T.pg F (.srt true a)) := by
  have hk : PK X [⟨some (Str.ofString "reverse"), .Constant (.bool true) k0 kp, kpos⟩] (rdEs τ M T.pg F (.cons (.k (.bl true)) .nil)) := k_cons (r_k pe_bl fun _ _ _ => .bl _) k_nil
  refine (pe_callBK (r := fun vs zs H Q => ∃ ex, zs = [.bl true] ∧ rd1N (Mw M ex) (fun h => srtR h true) vs H Q) (ks := [Str.ofString "reverse"]) (fun pins s σ H vs zs us ws Q I r rz ⟨ex, ez, W, ι, h, d, v, e0, sim, r1, po⟩ => by
      subst e0 ez
      obtain ⟨u, rfl, ru⟩ := vals1 r
      obtain ⟨u2, rfl, ru2⟩ := vals1 rz
      obtain rfl : u2 = Value.bool true := ru2
      exact srt_seq (M := Mw M ex) (rev := true) g.K g.room.units I sim r1 ru po) hg (by rw [g.mg]; exact W0.free _ (by decide +kernel)) PyProof.Rows.boot_sorted (pa_cons pa pa_nil (starEach_plain hp)) hk (by decide) (by decide) (by rw [starEach_plain hp]; rfl) (by rw [starEach_plain hp]; rfl)).imp fun σ H Q ⟨ex, W, ι, h, m, tk, sim, en, po⟩ => ?_
  simp only [evN] at po
  refine ⟨ex, W, ι, h, m, tk, sim, en, po.step fun d1 h1 ι1 H1 x1 s1 po1 v1 r1 => ?_⟩
  refine ⟨ex, W, ι1, h1, m, tk, s1, en.mono x1, ?_⟩
  simp only [evs, ev]
  intro ι2 H2 x2 s2 zs rz
  obtain ⟨z, rfl, rb⟩ := rz.one
  exact ⟨ex, by rw [rb.bl_inv], W, ι2, h1, d1, v1, rfl, s2, r1.mono x2, po1.later x2⟩
theorem n_srtV {W0 : Wd T M prog w mg base j F} (g : XG T M prog w mg base j c τ X) {p apos cpos : Pos} (hg : Gl X "sorted") (hb : attributeBase a' "values" X.env (eval a' X.env) = eval a' X.env) (hl : (apos.endLine == cpos.line) = true) (pa : PE X a' (rdE τ M T.pg F a)) :
    PE X (.Call (.Name "sorted" p) [.Call (.Attribute a' "values" apos) [] [] cpos] [] pos) (rdN τ M T.pg F (.srtV a)) :=
  (pe_callB (r := fun vs H Q => ∃ ex p a W ι h d, vs = [.ref p] ∧ H p = some (viewO "dict_values" p a) ∧ Sim (Mw M ex) ι h H ∧ Rp (Mw M ex) ι H d (.ref a) ∧ Po (Mw M ex) W ι H (srtVR h d) (PN (Mw M ex) Q)) (fun pins s σ H vs us Q I r ⟨ex, p, a, W, ι, h, d, e0, hp, sim, r1, po⟩ => by
      subst e0
      obtain ⟨u, rfl, ru⟩ := vals1 r
      obtain rfl : u = Value.ref p := ru
      exact srt_vals (M := Mw M ex) g.K g.room.units g.calm I sim r1 hp po) hg (by rw [g.mg]; exact W0.free _ (by decide +kernel)) PyProof.Rows.boot_sorted (pa_cons (pe_view pa hb hl) pa_nil rfl) (by decide) (by decide) rfl rfl).imp fun σ H Q ⟨ex, W, ι, h, m, tk, sim, en, po⟩ => by
    simp only [evN] at po
    refine ⟨ex, W, ι, h, m, tk, sim, en, po.step fun d1 h1 ι1 H1 x1 s1 po1 v1 r1 => ?_⟩
    have po2 := po1
    unfold srtVR at po2
    split at po2
    · rename_i ks ds ed
      obtain ⟨a, kvs, rfl, hd, _, _⟩ := dct_ok s1 r1 ed
      refine ⟨a, kvs, rfl, hd, fun p n => ?_⟩
      exact ⟨ex, p, a, W, ι1, h1, d1, rfl, upd_same, s1.hid n, r1.mono (.hid s1 n), po1.later (.hid s1 n)⟩
    · exact False.elim po2
theorem r_nd (tk : Bool) : PE X (.Dict [] [] pos) (rdE τ M T.pg F (.nd tk)) := by
  cases tk with
  | false =>
    refine pe_dnewK.imp fun σ H Q ⟨ex, W, ι, h, m, tk, sim, en, po⟩ p n => ?_
    simp only [ev] at po
    obtain ⟨x1, s1⟩ := dct_push sim n false
    refine po _ _ x1 s1 _ (.ref ?_)
    rw [← sim.len, List.getElem?_append_right (Nat.le_refl _)]; simp
  | true =>
    refine pe_dnewT.imp fun σ H Q ⟨ex, W, ι, h, m, tk, sim, en, po⟩ p n => ?_
    simp only [ev] at po
    obtain ⟨x1, s1⟩ := dct_push sim n true
    refine po _ _ x1 s1 _ (.ref ?_)
    rw [← sim.len, List.getElem?_append_right (Nat.le_refl _)]; simp
/-! methods of dicts -/
theorem rd_dt {H : Hp} {a : Addr} {u : HO} {kvs : List (List Key × V)} (e : H a = some u) (z : dkOf u = some (.inr kvs)) : Rd H a (.dT kvs) := by
  cases u with
  | dT k => simp [dkOf] at z; subst z; exact .inl e
  | frz o w =>
    cases w with
    | dT k => simp [dkOf] at z; subst z; exact .inr ⟨o, e⟩
    | _ => simp [dkOf] at z
  | _ => simp [dkOf] at z
theorem isD_of {M : Rl} {ι : List Addr} {h : Hh} {H : Hp} {d : D} {v : V} {q : Bool × List D × List D} (s : Sim M ι h H) (r : Rp M ι H d v) (e : dctOf h d = some q) : ∃ a, v = .ref a ∧ IsD H a := by
  cases r with
  | fdk nn mm e0 z k l => exact ⟨_, rfl, .inl ⟨_, rd_dk e0 z⟩⟩
  | fdt nn mm e0 z k l => exact ⟨_, rfl, .inr ⟨_, rd_dt e0 z⟩⟩
  | @ref r a q =>
    simp only [dctOf] at e
    split at e
    · rename_i tk lk ks' vs' e1
      obtain ⟨u, p, _, _, z⟩ := s.ob r a _ q e1
      cases tk with
      | false => obtain ⟨kvs, z, k, l⟩ := z; exact ⟨_, rfl, .inl ⟨_, rd_dk p z⟩⟩
      | true => obtain ⟨kvs, z, k, l⟩ := z; exact ⟨_, rfl, .inr ⟨_, rd_dt p z⟩⟩
    · cases e
  | _ => simp [dctOf] at e
theorem r_dmG1 (g : XG T M prog w mg base j c τ X) {apos : Pos} {b' : Expr} (m0 : M1 X a' "get" apos b' pos) (pa : PE X a' (rdE τ M T.pg F a)) (pb : PE X b' (rdE τ M T.pg F b)) :
    PE X (.Call (.Attribute a' "get" apos) [b'] [] pos) (rdE τ M T.pg F (.dm .get1 a b d)) :=
  (pe_dget1 (by have := g.room.units; omega) pa pb m0).imp fun σ H Q ⟨ex, W, ι, h, m, tk, sim, en, po⟩ => by
    simp only [ev] at po
    refine ⟨ex, W, ι, h, m, tk, sim, en, po.step fun d1 h1 ι1 H1 x1 s1 po1 v1 r1 => ?_⟩
    obtain ⟨hs, po2⟩ := po1.if_
    obtain ⟨q0, eq0⟩ := Option.isSome_iff_exists.mp hs
    obtain ⟨ad, rfl, hd⟩ := isD_of s1 r1 eq0
    refine ⟨ad, rfl, hd, ex, W, ι1, h1, m, tk, s1, en.mono x1, ?_⟩
    refine po2.step fun d2 h2 ι2 H2 x2 s2 po3 v2 r2 => ?_
    have po3 : Po (Mw M ex) W ι2 H2 (dmGet h2 d1 d2 .non) (PV (Mw M ex) Q) := by simpa [dmD] using po3
    unfold dmGet at po3
    split at po3
    · rename_i ks vs ed
      obtain ⟨hk, po4⟩ := po3.if_
      obtain ⟨a2, kvs, e2, rd2, rfl, l⟩ := dct_ok s2 (r1.mono x2) ed
      cases e2
      obtain ⟨key, rfl, rfl⟩ := key_rp hk r2
      refine ⟨valV kvs key, .inl ⟨kvs, key, rd2, rfl, rfl⟩, ?_⟩
      rcases get_rp (key := key) l with ⟨z1, z2⟩ | ⟨d3, v3, z1, z2, rp⟩
      · rw [z1] at po4; rw [z2]; exact po4 ι2 H2 s2.refl s2 _ .non
      · rw [z1] at po4; rw [z2]; exact po4 ι2 H2 s2.refl s2 _ rp
    · exact False.elim po3
theorem r_dmG2 (g : XG T M prog w mg base j c τ X) {apos : Pos} {b' d' : Expr} {b d : E} (m0 : M2 X a' "get" apos b' d' pos) (pa : PE X a' (rdE τ M T.pg F a)) (pb : PE X b' (rdE τ M T.pg F b)) (pd : PE X d' (rdE τ M T.pg F d)) :
    PE X (.Call (.Attribute a' "get" apos) [b', d'] [] pos) (rdE τ M T.pg F (.dm .get2 a b d)) :=
  (pe_dget2 (by have := g.room.units; omega) pa pb pd m0).imp fun σ H Q ⟨ex, W, ι, h, m, tk, sim, en, po⟩ => by
    simp only [ev] at po
    refine ⟨ex, W, ι, h, m, tk, sim, en, po.step fun d1 h1 ι1 H1 x1 s1 po1 v1 r1 => ?_⟩
    obtain ⟨hs, po2⟩ := po1.if_
    obtain ⟨q0, eq0⟩ := Option.isSome_iff_exists.mp hs
    obtain ⟨ad, rfl, hd⟩ := isD_of s1 r1 eq0
    refine ⟨ad, rfl, hd, ex, W, ι1, h1, m, tk, s1, en.mono x1, ?_⟩
    refine po2.step fun d2 h2 ι2 H2 x2 s2 po3 v2 r2 => ⟨ex, W, ι2, h2, m, tk, s2, (en.mono x1).mono x2, ?_⟩
    rw [if_pos True.intro] at po3
    refine po3.step fun d3 h3 ι3 H3 x3 s3 po4 v3 r3 => ?_
    have po4 : Po (Mw M ex) W ι3 H3 (dmGet h3 d1 d2 d3) (PV (Mw M ex) Q) := po4
    unfold dmGet at po4
    split at po4
    · rename_i ks vs ed
      obtain ⟨hk, po5⟩ := po4.if_
      obtain ⟨a2, kvs, e2, rd2, rfl, l⟩ := dct_ok s3 ((r1.mono x2).mono x3) ed
      cases e2
      obtain ⟨key, rfl, rfl⟩ := key_rp hk r2
      refine ⟨valV kvs key, .inl ⟨kvs, key, rd2, rfl, rfl⟩, ?_⟩
      rcases get_rp (key := key) l with ⟨z1, z2⟩ | ⟨d4, v4, z1, z2, rp⟩
      · rw [z1] at po5; rw [z2]; exact po5 ι3 H3 s3.refl s3 _ r3
      · rw [z1] at po5; rw [z2]; exact po5 ι3 H3 s3.refl s3 _ rp
    · exact False.elim po4
theorem r_dmP1 (g : XG T M prog w mg base j c τ X) {apos : Pos} {b' : Expr} (m0 : M1 X a' "pop" apos b' pos) (pa : PE X a' (rdE τ M T.pg F a)) (pb : PE X b' (rdE τ M T.pg F b)) :
    PE X (.Call (.Attribute a' "pop" apos) [b'] [] pos) (rdE τ M T.pg F (.dm .pop1 a b d)) :=
  (pe_dpop1 pa pb m0).imp fun σ H Q ⟨ex, W, ι, h, m, tk, sim, en, po⟩ => by
    simp only [ev] at po
    refine ⟨ex, W, ι, h, m, tk, sim, en, po.step fun d1 h1 ι1 H1 x1 s1 po1 v1 r1 => ?_⟩
    obtain ⟨hs, po2⟩ := po1.if_
    obtain ⟨q0, eq0⟩ := Option.isSome_iff_exists.mp hs
    obtain ⟨ad, rfl, hd⟩ := isD_of s1 r1 eq0
    refine ⟨ad, rfl, hd, ex, W, ι1, h1, m, tk, s1, en.mono x1, ?_⟩
    refine po2.step fun d2 h2 ι2 H2 x2 s2 po3 v2 r2 => ?_
    have po3 : Po (Mw M ex) W ι2 H2 (dmPop h2 d1 d2) (PV (Mw M ex) Q) := by simpa [dmD] using po3
    unfold dmPop at po3
    split at po3
    · split at po3
      · rename_i r0 _ _ _ ks vs e1
        obtain ⟨hk, po4⟩ := po3.if_
        obtain ⟨a2, e2, e3⟩ := (r1.mono x2).ref_inv
        cases e2
        obtain ⟨kvs, hd2, rfl, l⟩ := dct_at s2 e3 e1
        obtain ⟨key, rfl, rfl⟩ := key_rp hk r2
        rcases get_rp (key := key) l with ⟨z1, z2⟩ | ⟨d4, v4, z1, z2, rp⟩
        · rw [z1] at po4; exact False.elim po4
        · rw [z1] at po4
          obtain ⟨x3, s3⟩ := dct_set s2 e3 hd2 (kvs' := dropK kvs key) dropKs_rp (dropVs_rp l)
          exact ⟨kvs, key, v4, hd2, rfl, z2, po4 _ _ x3 s3 _ (rp.mono x3)⟩
      · exact False.elim po3
    · exact False.elim po3
theorem asS_eq : ∀ {ds : List D} {ns : List Str}, asS ds = some ns → ds = ns.map D.str
  | [], ns, e => by simp [asS] at e; subst e; rfl
  | d :: r, ns, e => by
    cases d with
    | str i =>
      simp only [asS, Option.map_eq_some_iff] at e
      obtain ⟨ms, e1, rfl⟩ := e
      rw [asS_eq e1]; rfl
    | _ => simp [asS] at e
theorem r_join (g : XG T M prog w mg base j c τ X) {apos : Pos} {b' : Expr} (hb : attributeBase a' "join" X.env (eval a' X.env) = eval a' X.env) (hl : (apos.endLine == pos.line) = true) (hp : plainE b' = true) (pa : PE X a' (rdE τ M T.pg F a)) (pb : PE X b' (rdE τ M T.pg F b))
    : PE X (.Call (.Attribute a' "join" apos) [b'] [] pos) (rdE τ M T.pg F (.join a b)) :=
  (pe_join pa pb (by rw [starEach_plain hp]; rfl) hb hl).imp fun σ H Q ⟨ex, W, ι, h, m, tk, sim, en, po⟩ => by
    simp only [ev] at po
    refine ⟨ex, W, ι, h, m, tk, sim, en, po.step fun d1 h1 ι1 H1 x1 s1 po1 v1 r1 => ?_⟩
    obtain ⟨hz, po2⟩ := po1.if_
    cases d1 with
    | str z =>
      cases r1.str_inv
      refine ⟨⟨z, rfl⟩, ex, W, ι1, h1, m, tk, s1, en.mono x1, po2.step fun d2 h2 ι2 H2 x2 s2 po3 v2 r2 => ?_⟩
      have po3 : Po (Mw M ex) W ι2 H2 ((rOpt ((seqOf h2 d2).bind asS) h2).bind fun ys h => rIf ((ys.map (·.length)).sum + ys.length * z.length ≤ LINE) (.ok (.str (Txt.join z ys)) h)) (PV (Mw M ex) Q) := po3
      obtain ⟨ys, e, po4⟩ := po3.opt
      obtain ⟨hl2, po5⟩ := po4.if_
      cases e1 : seqOf h2 d2 with
      | none => rw [e1] at e; cases e
      | some zs =>
        rw [e1] at e
        obtain ⟨ad, vs, rfl, q, l⟩ := seq_ok s2 r2 e1
        have e2 := asS_eq e
        subst e2
        obtain rfl := l.strsD
        rw [g.K]
        exact ⟨z, ad, ys, rfl, rfl, q, hl2, po5 ι2 H2 s2.refl s2 _ (.str _)⟩
    | _ => simp [plainS] at hz
end
end Mx
set_option Elab.async false
set_option linter.all false
set_option maxRecDepth 100000
set_option maxHeartbeats 4000000
/-! MxSs: set(xs) of numbers and texts, its items gathered. -/
namespace Mx
open PySem L2 PySem.W PySem.Calls PyProof.Rows PySem.Spec
def kOf (e : Int × Value) : Key := match e.2 with
  | .int i _ => .inl i
  | .str x _ => .inr x
  | _ => .inl 0
def KEnt (w : World) (e : Int × Value) : Prop := keyIs (kOf e) e.2 = true ∧ e.1 = keyH w (kOf e) ∧ e.2.scannable = true
theorem kOf_is {k : Key} {v : Value} {z : Int} (h : keyIs k v = true) : kOf (z, v) = k := by
  rcases keyIs_shape h with ⟨i, t, rfl, rfl⟩ | ⟨x, t, rfl, rfl⟩ <;> rfl
theorem kent_new {w : World} {k : Key} {v : Value} (h : keyIs k v = true) : KEnt w (keyH w k, v) := by
  refine ⟨by rw [kOf_is h]; exact h, by rw [kOf_is h], ?_⟩
  rcases keyIs_shape h with ⟨i, t, rfl, rfl⟩ | ⟨x, t, rfl, rfl⟩ <;> rfl
/-- the set at a holds the keys ks, each once -/
def KSet (w : World) (h : Heap) (a : Addr) (ks : List Key) : Prop := ∃ o es ep t, h.get? a = some o ∧ o.ExactSet ∧ o.data = .set es ep t ∧ (∀ e ∈ es.toList, KEnt w e) ∧ es.toList.map kOf = ks ∧ ks.Nodup ∧
  es.size < scanBound ∧ t.fits es.size = true ∧ Ris t.place.toList ∧ (w.params.followText "set-order" = true ∨ t.led = true)
theorem KSet.at {w : World} {h h' : Heap} {a : Addr} {ks : List Key} (R : KSet w h a ks) (k : ∀ o, h.get? a = some o → h'.get? a = some o) : KSet w h' a ks := by
  obtain ⟨o, es, ep, t, ho, r⟩ := R
  exact ⟨o, es, ep, t, k o ho, r⟩
abbrev eset (w : World) : Obj := { cls := .type "set", dict := none, data := .set #[] 0 (.fresh 0 0 (!w.params.followText "set-order")) }
theorem kset_nil {w : World} {h : Heap} {a : Addr} (e : h.get? a = some (eset w)) : KSet w h a [] := by
  refine ⟨_, #[], 0, _, e, ⟨rfl, rfl, rfl⟩, rfl, (fun e he => by simp at he), rfl, .nil, by decide, rfl, .nil, ?_⟩
  show _ ∨ (!w.params.followText "set-order") = true
  cases w.params.followText "set-order"
  · exact .inr rfl
  · exact .inl rfl
section
variable {P : Program} {w : World} {A : Around} {E : Value → Shared → Prop} {s : Shared} {a : Addr}
theorem kent_elems {l : List (Int × Value)} (g : ∀ e ∈ l, KEnt w e) : ElemsOf (mixKind P w) l := fun e he => ⟨⟨kOf e, (g e he).1, (g e he).2.1⟩, (g e he).2.2⟩
theorem kent_mem {l : List (Int × Value)} (g : ∀ e ∈ l, KEnt w e) {k : Key} : k ∈ l.map kOf ↔ ∃ e ∈ l, keyIs k e.2 = true := by
  rw [List.mem_map]
  exact ⟨fun ⟨e, he, q⟩ => ⟨e, he, by rw [← q]; exact (g e he).1⟩, fun ⟨e, he, q⟩ => ⟨e, he, kOf_is q⟩⟩
/-- what is behind the store of a new key -/
theorem kset_tail {g : Bool → Sem Unit} (hg : ∀ (b : Bool) (s1 : Shared) (Q' : Unit → Shared → Prop), Q' () s1 → wpAny (model P w) A (g b) Q' E s1) {o : Obj} {es : Array (Int × Value)} {ep : Nat} {t : SetTable} (ho : s.heap.get? a = some o) (hex : o.ExactSet) (hd : o.data = .set es ep t)
    {es1 : Array (Int × Value)} {t2 : SetTable} {ks : List Key} (g1 : ∀ e ∈ es1.toList, KEnt w e) (m1 : (es1.toList.map kOf).Perm ks) (nd : ks.Nodup) (hb : es1.size < scanBound) (hf : t2.fits es1.size = true) (hr : Ris t2.place.toList) (hl : w.params.followText "set-order" = true ∨ t2.led = true) {dm : Bool} {R : Option Bool → Shared → Prop}
    (hR : ∀ h' ks', Heap.SameBut a s.heap h' → KSet w h' a ks' → ks'.Perm ks → R (some true) { s with heap := h' }) :
    wpAny (model P w) A (do
        storeSet a es1 t2
        if (!dm && t2.tooFull) = true then do
            g (relayAll t2 es1 (SetTable.grown es1.size)).2.2
            storeSet a (relayAll t2 es1 (SetTable.grown es1.size)).1 (relayAll t2 es1 (SetTable.grown es1.size)).2.1
            pure (some true)
          else pure (some true)) R E s := by
  have at1 := store_at (es' := es1) (t' := t2) ho hd
  have sb := Heap.SameBut.update s.heap a (Obj.putSet es1 t2)
  refine wpAny_bind (wpAny_storeSet_of ho hd ?_ (fits_of_scanBound hb))
  split
  · have pm := relayAll_perm t2 es1 (SetTable.grown es1.size)
    have q1 := relayAll_fits t2 es1 (SetTable.grown es1.size)
    have q2 := relayAll_ris t2 es1 (SetTable.grown es1.size)
    have q3 := relayAll_led t2 es1 (SetTable.grown es1.size)
    generalize relayAll t2 es1 (SetTable.grown es1.size) = Z at pm q1 q2 q3 ⊢
    obtain ⟨e2, t3, gv⟩ := Z
    dsimp only at pm q1 q2 q3 ⊢
    have sz : e2.size = es1.size := by rw [← Array.length_toList, pm.length_eq, Array.length_toList]
    have at2 := store_at (es' := e2) (t' := t3) at1 rfl
    refine wpAny_bind (hg _ _ _ (wpAny_bind (wpAny_storeSet_of at1 rfl ?_ (fits_of_scanBound (by rw [sz]; exact hb)))))
    have p2 : (e2.toList.map kOf).Perm ks := (pm.map kOf).trans m1
    exact wpAny_pure (hR _ _ (sb.trans (Heap.SameBut.update _ a _)) ⟨_, e2, _, t3, at2, hex, rfl, fun e he => g1 e (pm.mem_iff.mp he), rfl, p2.nodup_iff.mpr nd, by rw [sz]; exact hb, q1, q2, hl.imp id fun z => by rw [q3]; exact z⟩ p2)
  · exact wpAny_pure (hR _ _ sb ⟨_, es1, _, t2, at1, hex, rfl, g1, rfl, m1.nodup_iff.mpr nd, hb, hf, hr, hl⟩ m1)
/-- a key comes in -/
theorem kset_add {ks : List Key} {k : Key} {v : Value} {Q : Bool → Shared → Prop} (R : KSet w s.heap a ks) (room : ks.length + 1 < scanBound) (hv : keyIs k v = true)
    (hQ : ∀ b h' ks', Heap.SameBut a s.heap h' → KSet w h' a ks' → ((k ∈ ks ∧ ks' = ks) ∨ (k ∉ ks ∧ ks'.Perm (k :: ks))) → Q b { s with heap := h' }) : wpAny (model P w) A (setAddHashed a v (keyH w k)) Q E s := by
  obtain ⟨o, es, ep, t, ho, hex, hd, g, hm, nd, hb, hf, hr, hl⟩ := R
  have sc : v.scannable = true := (kent_new (w := w) hv).2.2
  have el : ElemsOf (mixKind P w) es.toList := kent_elems g
  have szk : es.size = ks.length := by rw [← hm, List.length_map, Array.length_toList]
  unfold setAddHashed setAddHashedIn
  refine wpAny_holding (wpAny_bind (wpAny_setState_of ho hd hf ?_)); dsimp only
  rw [byScan_of (knd := mixKind P w) sc hb el]; simp only [↓reduceIte]
  unfold setAddByScan
  refine wpAny_bind (wpAny_bind (wpAny_rule (wpAny_bind (wpAny_setScan_of (knd := mixKind P w) (k := k) hv ho hd hf el ?_))))
  cases fi : List.findIdx? (fun e => (mixKind P w).is k e.2) es.toList with
  | some j =>
    obtain ⟨hj, pj, _⟩ := List.findIdx?_eq_some_iff_getElem.mp fi
    have hk : k ∈ ks := by rw [← hm]; exact (kent_mem g).mpr ⟨es.toList[j], List.getElem_mem hj, pj⟩
    dsimp only
    exact wpAny_pure (wpAny_pure (hQ _ s.heap ks (Heap.SameBut.refl a s.heap) ⟨o, es, ep, t, ho, hex, hd, g, hm, nd, hb, hf, hr, hl⟩ (.inl ⟨hk, rfl⟩)))
  | none =>
    have hk : k ∉ ks := fun z => by
      rw [← hm] at z
      obtain ⟨e, he, q⟩ := (kent_mem g).mp z
      have c := List.findIdx?_eq_none_iff.mp fi e he
      have c' : keyIs k e.2 = false := c
      rw [q] at c'; cases c'
    dsimp only
    have pm := layNew_perm t es (keyH w k) v
    have q1 := layNew_fits t es (keyH w k) v
    have q2 := layNew_ris t es (keyH w k) v hr
    have q3 := layNew_led t es (keyH w k) v
    generalize layNew t es (keyH w k) v = Z at pm q1 q2 q3 ⊢
    obtain ⟨es1, t1, dm, gv⟩ := Z
    dsimp only at pm q1 q2 q3 ⊢
    rw [Array.toList_push] at pm
    have pc : es1.toList.Perm ((keyH w k, v) :: es.toList) := pm.trans (List.perm_append_singleton _ _)
    have pk : (es1.toList.map kOf).Perm (k :: ks) := by
      have := pc.map kOf
      rw [List.map_cons, kOf_is hv, hm] at this
      exact this
    have g1 : ∀ e ∈ es1.toList, KEnt w e := fun e he => by
      rcases List.mem_cons.mp (pc.mem_iff.mp he) with z | z
      · rw [z]; exact kent_new hv
      · exact g e z
    have sz : es1.size = ks.length + 1 := by rw [← Array.length_toList, pc.length_eq, List.length_cons, Array.length_toList, szk]
    have hb1 : es1.size < scanBound := by rw [sz]; exact room
    have led1 : w.params.followText "set-order" = true ∨ t1.led = true := hl.imp id fun z => by rw [q3]; exact z
    have nd1 : (k :: ks).Nodup := List.nodup_cons.mpr ⟨hk, nd⟩
    have both : ∀ (x y : Sem Unit), (∀ (s1 : Shared) (Q' : Unit → Shared → Prop), Q' () s1 → wpAny (model P w) A x Q' E s1) → (∀ (s1 : Shared) (Q' : Unit → Shared → Prop), Q' () s1 → wpAny (model P w) A y Q' E s1) →
      ∀ (b : Bool) (s1 : Shared) (Q' : Unit → Shared → Prop), Q' () s1 → wpAny (model P w) A (match b with | true => x | false => y) Q' E s1 := fun x y hx hy b s1 Q' q => by cases b; exact hy s1 Q' q; exact hx s1 Q' q
    refine wpAny_bind (both (rule "set.scan.the-table-gave-way") (pure ()) (fun s1 Q' q => wpAny_rule q) (fun s1 Q' q => wpAny_pure q) gv _ _ ?_)
    split
    · refine wpAny_bind ?_
      rw [hashByValue_scannable 8 sc]
      refine wpAny_pure (kset_tail (both (rule "set.scan.the-table-gave-way") (pure ()) (fun s1 Q' q => wpAny_rule q) (fun s1 Q' q => wpAny_pure q)) ho hex hd g1 pk nd1 hb1 ?_ ?_ ?_ fun h' ks' sb r p => ?_)
      · first | (split <;> first | exact q1 | exact SetTable.fits_plain_off q1) | exact q1 | exact SetTable.fits_plain_off q1
      · first | (split <;> exact q2) | exact q2
      · first | (split <;> exact led1) | exact led1
      · dsimp only; exact wpAny_pure (hQ _ h' ks' sb r (.inr ⟨hk, p⟩))
    · refine wpAny_bind (wpAny_pure ?_)
      simp only [↓reduceIte]
      refine kset_tail (both (rule "set.scan.the-table-gave-way") (pure ()) (fun s1 Q' q => wpAny_rule q) (fun s1 Q' q => wpAny_pure q)) ho hex hd g1 pk nd1 hb1 q1 q2 led1 fun h' ks' sb r p => ?_
      dsimp only; exact wpAny_pure (hQ _ h' ks' sb r (.inr ⟨hk, p⟩))
/-- what has come in of the first i keys -/
def KSome (w : World) (h : Heap) (a : Addr) (qs : List Key) (i : Nat) : Prop := ∃ ks, KSet w h a ks ∧ ks.length ≤ i ∧ ∀ k, k ∈ ks ↔ k ∈ qs.take i
theorem kset_loop {I : Addr} {fp wr : List Addr} {G : Array GenState → Array GenState → Prop} {n : Nat} {Pv : Nat → Value → Prop} {St : Nat → Shared → Prop} {R : Result → Shared → Prop} (W : WalksS P w A.in1 I fp wr G n Pv St) (D : Addr) (hD : D ∉ fp) (qs : List Key) (hn : n = qs.length) (hb : qs.length + 1 < scanBound)
    (hv : ∀ i v, Pv i v → ∃ k, qs[i]? = some k ∧ keyIs k v = true) : ∀ (m i : Nat) (s : Shared), n - i = m → i ≤ n → St i s → KSome w s.heap D qs i → (∀ s', Moved (D :: wr) G s s' → KSome w s'.heap D qs n → R (.ok (.ret .none)) s') →
      codeAny (model P w) A (.builtin "set.update.loop" ⟨[.ref D, .ref I], []⟩) R s := by
  have hw : D ∉ wr := fun z => hD (W.sub _ z)
  have up : ∀ b, b ∈ wr → b ∈ D :: wr := fun b z => List.mem_cons_of_mem _ z
  intro m
  induction m with
  | zero =>
    intro i s em hi hst ⟨ks, r1, r2, r3⟩ hR
    obtain rfl : i = n := by omega
    refine codeAny_builtin F.entry_set_update_loop ?_; rw [Around.under_plainId F.plain_set_update_loop _]
    show wpAny _ A.in1 (pyNext (.ref I) >>= _) _ _ s
    refine wpAny_bind (W.done s _ _ hst fun s' hm => ?_)
    show wpAny _ A.in1 (ret Value.none) _ _ s'
    exact wpAny_pure (hR s' (hm.mono up) ⟨ks, r1.at fun o e => hm.heap D o hw e, r2, r3⟩)
  | succ m ih =>
    intro i s em hi hst ⟨ks, r1, r2, r3⟩ hR
    have lt : i < n := by omega
    refine codeAny_builtin F.entry_set_update_loop ?_; rw [Around.under_plainId F.plain_set_update_loop _]
    show wpAny _ A.in1 (pyNext (.ref I) >>= _) _ _ s
    refine wpAny_bind (W.item i s _ _ lt hst fun v s' hp hst' hm => ?_)
    obtain ⟨k, ek, kv⟩ := hv i v hp
    have r1' : KSet w s'.heap D ks := r1.at fun o e => hm.heap D o hw e
    show wpAny _ A.in1 (holding [v] (setAdd D v) >>= _) _ _ s'
    refine wpAny_bind (wpAny_holding ?_); unfold setAdd
    refine wpAny_holding (wpAny_bind ((mixKind P w).pyHash (k := k) kv ?_))
    refine kset_add (s := { s' with toks := s'.toks + 1 }) r1' (by omega) kv fun b h' ks' sb r4 cs => ?_
    have some' : KSome w h' D qs (i + 1) := by
      refine ⟨ks', r4, ?_, fun j => ?_⟩
      · rcases cs with ⟨_, rfl⟩ | ⟨_, p⟩
        · omega
        · rw [p.length_eq, List.length_cons]; omega
      · rw [List.take_add_one, ek]
        rcases cs with ⟨hk, rfl⟩ | ⟨_, p⟩
        · rw [r3]
          simp only [Option.toList_some, List.mem_append, List.mem_singleton]
          exact ⟨.inl, fun z => z.elim id fun e => by rw [e]; exact (r3 k).mp hk⟩
        · rw [p.mem_iff, List.mem_cons, r3]
          simp only [Option.toList_some, List.mem_append, List.mem_singleton]
          exact Or.comm
    refine wpAny_pure ⟨plainId_quiet F.plain_set_update_loop _, ih (i + 1) _ (by omega) lt (W.frame _ s' _ _ hst' (Nat.le_succ _) fun b hb o e => ?_) some' fun s2 hm2 q2 => hR s2 (Moved.trans W.gtrans ((hm.mono up).then_heap (Nat.le_succ _) fun b o hb e => ?_) hm2) q2⟩
    · rw [sb.2 b fun z : b = D => hD (by rw [← z]; exact hb)]; exact e
    · rw [sb.2 b fun z : b = D => hb (by rw [z]; exact List.mem_cons_self)]; exact e
/-- set(xs) -/
theorem kset_call {l : Addr} {items : Array Value} (qs : List Key) {Q : Value → Shared → Prop} (hh : A.handled = none) (hl : s.heap.IsList l items) (sz : items.size = qs.length) (hv : ∀ (i : Nat) (v : Value), items[i]? = some v → ∃ k, qs[i]? = some k ∧ keyIs k v = true) (hb : qs.length + 1 < scanBound)
    (hQ : ∀ (h' : Heap) (tk : Nat), KSome w h' s.heap.objs.size qs qs.length → (∀ b o, s.heap.get? b = some o → h'.get? b = some o) → Q (.ref s.heap.objs.size) { s with heap := h', toks := tk }) : wpAny (model P w) A (call (.type "set") [.ref l]) Q E s := by
  obtain ⟨c, tl, mro⟩ := F.called_set.mro
  have y1 := F.called_set.made
  have y2 := F.called_set.sub
  have y3 := F.called_set.notType
  have y4 := F.called_set.canCreate
  have y5 := F.typeCall_set_1 (.ref l)
  refine wpAny_call (codeAny_of_tree ?_)
  show wpAny _ _ (callAny (.type "set") _) _ _ _
  refine wpAny_pure ⟨Code.quiet_builtin _ (by decide +kernel), codeAny_builtin F.entry_type_call ?_⟩; rw [Around.under_plain (weight_type_call_type "set" [.ref l] []) rfl]
  repeat any_goals first | assumption | wp_step
  have eS : (s.heap.push (eset w)).get? s.heap.objs.size = some (eset w) := Heap.get?_push_size _ rfl
  refine codeAny_mono (code_set_led1 (.ref l) (E := E) (Q₁ := fun ob s1 => ob = .ref s.heap.objs.size ∧ s1 = { s with heap := s.heap.push (eset w) }) ⟨rfl, rfl⟩) fun r s1 hr => ?_
  cases r with
  | error e => exact hr
  | ok fl =>
    cases fl with
    | ret ob =>
      obtain ⟨rfl, rfl⟩ := hr
      have tS : Shared.TypeIs { s with heap := s.heap.push (eset w) } (.ref s.heap.objs.size) "set" := ⟨_, eS, rfl⟩
      have z1 := F.called_set.init.lookup
      have z2 := F.called_set.init.bind (.ref s.heap.objs.size)
      repeat any_goals first | assumption | wp_step
      refine codeAny_mono (codeAny_call_builtin (R := wants (fun r s2 => r = .none ∧ ∃ h' tk, s2 = { s with heap := h', toks := tk } ∧ KSome w h' s.heap.objs.size qs qs.length ∧ ∀ b o, s.heap.get? b = some o → h'.get? b = some o) E) F.called_set.init.plain F.entry_set_init (check_set_init_1 tS ?_)) fun r2 s2 hr2 => ?_
      · obtain ⟨⟨oc, od, odat, osl⟩, hol, hc, nl, hd⟩ := hl
        simp only at hc hd
        cases hc; cases hd
        have hl1 : (s.heap.push (eset w)).IsList l items := ⟨_, Heap.get?_push_of_some _ hol, rfl, nl, rfl⟩
        have hol2 : (s.heap.push (eset w)).get? l = some { cls := .type "list", dict := od, data := .seq items nl, slots := osl } := Heap.get?_push_of_some _ hol
        have w1 := F.sub_list_set
        have w2 := F.sub_list_frozenset
        have w3 : (Value.type "list" == Value.type "dict") = false := by decide
        unfold Builtin.«set.__init__» noKeywords Builtin.Frozenset.updateFrom
        generalize hPI : pyIter = PI
        wp_walk
        subst hPI
        refine wpAny_pyIter_list hl1 (wpAny_bind (wpAny_runValue ?_))
        have lS : l < s.heap.objs.size := Heap.lt_size hol
        have hh3 : A.in1.in1.in1.handled = none := by simp [hh]
        have nI : l ≠ (s.heap.push (eset w)).objs.size := by rw [Heap.size_push]; exact Nat.ne_of_lt (Nat.lt_succ_of_lt lS)
        have nf : s.heap.objs.size ∉ [(s.heap.push (eset w)).objs.size, l] := by
          rw [Heap.size_push]; simp only [List.mem_cons, List.not_mem_nil, or_false, not_or]; exact ⟨Nat.ne_of_lt (Nat.lt_succ_self _), fun z => Nat.lt_irrefl _ (z ▸ lS)⟩
        have at2 : ((s.heap.push (eset w)).push { cls := .type "list_iterator", data := .fields #[.ref l, .int 0 0] }).get? s.heap.objs.size = some (eset w) := Heap.get?_push_of_some _ eS
        refine kset_loop ((Walks.list hh3 _ l nI items).toS) s.heap.objs.size nf qs sz hb hv (items.size - 0) 0 _ (by omega) (Nat.zero_le _) ⟨⟨_, Heap.get?_push_size _ rfl, rfl, rfl⟩, hl1.push _⟩ ⟨[], kset_nil at2, Nat.le_refl _, fun k => by simp⟩ fun s' hm q => ?_
        obtain ⟨h', g2, d', tk', os'⟩ := s'
        cases (show g2 = s.gens from hm.gens); cases (show d' = s.drawn from hm.drawn); cases (show os' = s.os from hm.os)
        show wpAny _ _ _ _ _ _
        refine wpAny_pure ?_
        show wpAny _ _ (ret Value.none) _ _ _
        rw [sz] at q
        refine wpAny_pure ⟨rfl, h', tk', rfl, q, fun b o e => hm.heap b o ?_ (Heap.get?_push_of_some _ (Heap.get?_push_of_some _ e))⟩
        have bl : b < s.heap.objs.size := Heap.lt_size e
        rw [Heap.size_push]; simp only [List.mem_cons, List.not_mem_nil, or_false, not_or]; exact ⟨Nat.ne_of_lt bl, Nat.ne_of_lt (Nat.lt_succ_of_lt bl)⟩
      · cases r2 with
        | error e => exact hr2
        | ok fl2 =>
          cases fl2 with
          | ret r =>
            obtain ⟨rfl, h', tk, rfl, q1, q2⟩ := hr2
            repeat any_goals first | assumption | wp_step
            exact hQ _ _ q1 q2
          | _ => exact hr2.elim
    | _ => exact hr.elim
/-- the items of a set, gathered -/
theorem kset_collect {ks : List Key} {Q : List Value → Shared → Prop} (hh : A.handled = none) (R : KSet w s.heap a ks)
    (hQ : ∀ s1 out ks', (∀ b o, s.heap.get? b = some o → s1.heap.get? b = some o) → s.heap.objs.size ≤ s1.heap.objs.size → s1.gens = s.gens → s1.os = s.os → List.Perm ks' ks → Vals (ks'.map kV) out → Q out s1) : wpAny (model P w) A (collect (.ref a)) Q E s := by
  obtain ⟨o, es, ep, t, ho, hex, hd, g, hm, nd, hb, hf, hr, hl⟩ := R
  refine collect_set hh ⟨o, ho, hex.1, hd⟩ hf hb hr hl fun s1 out k z g1 o1 p => ?_
  have kv : ∀ v ∈ out, keyIs (kOf (0, v)) v = true := fun v hv => by
    obtain ⟨e, he, rfl⟩ := List.mem_map.mp (p.mem_iff.mp hv)
    exact (g e he).1
  refine hQ s1 out (out.map fun v => kOf (0, v)) k z g1 o1 ?_ ?_
  · have := p.map fun v => kOf (0, v)
    rw [List.map_map] at this
    rw [← hm]
    exact this
  · clear p
    induction out with
    | nil => exact .nil
    | cons v out ih => exact .cons (relV_key (kv v List.mem_cons_self)) (ih fun x hx => kv x (List.mem_cons_of_mem _ hx))
end
end Mx
set_option Elab.async false
set_option linter.all false
set_option maxRecDepth 100000
set_option maxHeartbeats 2000000
/-! MxSw: sorted(set(xs)). -/
namespace Mx
open PySem L2 PySem.W PyProof.Rows
theorem nub_mem {α : Type} [DecidableEq α] {x : α} : ∀ {l : List α}, x ∈ nub l ↔ x ∈ l
  | [] => by simp [nub]
  | y :: r => by
    have ih := nub_mem (x := x) (l := r)
    simp only [nub, List.mem_cons, List.mem_filter, decide_eq_true_eq, ih]
    by_cases e : x = y <;> simp [e]
theorem nub_nodup {α : Type} [DecidableEq α] : ∀ l : List α, (nub l).Nodup
  | [] => .nil
  | y :: r => by
    refine List.nodup_cons.mpr ⟨fun z => ?_, (nub_nodup r).filter _⟩
    simp at z
theorem cps_inj {a b : Str} (h : a.cps.toList = b.cps.toList) : a = b := by
  cases a; cases b
  simp only at h
  rw [Array.toList_inj.mp h]
theorem leS_trans (a b c : Str) (h1 : leS a b = true) (h2 : leS b c = true) : leS a c = true := by
  simp only [leS, decide_eq_true_eq] at *
  exact List.le_trans h1 h2
theorem leS_total (a b : Str) : (leS a b || leS b a) = true := by
  simp only [leS, Bool.or_eq_true, decide_eq_true_eq]
  exact List.le_total _ _
theorem leS_anti (a b : Str) (h1 : leS a b = true) (h2 : leS b a = true) : a = b := by
  simp only [leS, decide_eq_true_eq] at *
  exact cps_inj (List.le_antisymm h1 h2)
theorem leI_trans (a b c : Int) (h1 : leI a b = true) (h2 : leI b c = true) : leI a c = true := by
  simp only [leI, decide_eq_true_eq] at *; omega
theorem leI_total (a b : Int) : (leI a b || leI b a) = true := by
  simp only [leI, Bool.or_eq_true, decide_eq_true_eq]; omega
theorem leI_anti (a b : Int) (h1 : leI a b = true) (h2 : leI b a = true) : a = b := by
  simp only [leI, decide_eq_true_eq] at *; omega
/-- one order alone -/
theorem sorted_once {α : Type} {le : α → α → Bool} (tr : ∀ a b c, le a b = true → le b c = true → le a c = true) (to : ∀ a b, (le a b || le b a) = true) (an : ∀ a b, le a b = true → le b a = true → a = b) {l m : List α} (p : l.Perm m) : l.mergeSort le = m.mergeSort le :=
  ((List.mergeSort_perm l le).trans (p.trans (List.mergeSort_perm m le).symm)).eq_of_pairwise (fun a b _ _ => an a b) (List.pairwise_mergeSort tr to l) (List.pairwise_mergeSort tr to m)
section
variable {X : Cx} {M : Rl} {ι : List Addr} {H : Hp} {h : Hh}
def KSO (w : World) (a : Addr) (ks : List Key) : HO := .ext fun h => KSet w h a ks
theorem kso_new {P : Program} {w : World} {H : Hp} {h : Heap} {a : Addr} {ks : List Key} (R : KSet w h a ks) : ObjOk P w H h a (KSO w a ks) := by
  obtain ⟨o, es, ep, t, ho, r⟩ := id R
  exact ⟨R, ⟨o, ho⟩, fun h1 h2 q k => q.at k⟩
/-- set(xs) as a value -/
def rMkSet (K : PySem.W.Frag) (w : World) : List V → Hp → VK → Prop := fun vs H Q => ∃ (l : Addr) (qs : List Key), vs = [.ref l] ∧ SqL K H l (qs.map kV) ∧ qs.length + 1 < scanBound ∧ ∀ (p : Addr) (ks : List Key), H p = none → ks.Nodup → (∀ k, k ∈ ks ↔ k ∈ qs) → Q (.ref p) (upd H p (KSO w p ks))
theorem keyIs_of {k : Key} {u : Value} (r : RelV (kV k) u) : keyIs k u = true := by
  cases k with
  | inl i => obtain ⟨t, rfl⟩ := (show ∃ t, u = Value.int i t from r); exact keyIs_int i t
  | inr x => obtain ⟨t, rfl⟩ := (show ∃ t, u = Value.str x t from r); exact keyIs_str x t
theorem cr_mkSet (hc : X.calm = true) : CallR X (.type "set") (rMkSet X.K X.w) := by
  intro pins s σ H vs us Q I r ⟨l, qs, e, hs, hb, q⟩
  subst e
  rw [Vals.ref1 r]
  obtain ⟨its, rv, pl, hz⟩ := I.list hs
  have el : its.length = qs.length := by rw [← rv.length, List.length_map]
  refine kset_call qs (I.ok.hd hc) pl.isList (by rw [List.size_toArray]; exact el) (fun i v ev => ?_) hb fun h' tk ⟨ks, R, _, hm⟩ k => ?_
  · have ev' : its[i]? = some v := by simpa using ev
    have hi : i < qs.length := by rw [← el]; exact (List.getElem?_eq_some_iff.mp ev').1
    obtain ⟨u, eu, ru⟩ := rv.get (i := i) (x := kV qs[i]) (by rw [List.getElem?_map, List.getElem?_eq_getElem hi]; rfl)
    rw [ev'] at eu; cases eu
    exact ⟨_, List.getElem?_eq_getElem hi, keyIs_of ru⟩
  · have nd : ks.Nodup := by obtain ⟨_, _, _, _, _, _, _, _, _, nd, _⟩ := R; exact nd
    rw [List.take_length] at hm
    exact ⟨.ref s.heap.objs.size, _, I.laid k (Nat.le_refl _) (kso_new R), rfl, q _ ks (I.hok.fresh (Nat.le_refl _)) nd hm⟩
def encK : Key → PyData
  | .inl i => .int i
  | .inr x => .str x
/-- sorted(s), s a set -/
theorem srt_set (hK : X.K = M.K) (hu : X.A.units + 64 < cLine) (hc : X.calm = true) {pins : List (Addr × Obj)} {s : Shared} {σ : L2.St} {p : Addr} {ks : List Key} {Q : VK} (I : L2.Inv X pins σ H s) (hp : H p = some (KSO X.w p ks)) (hl : ks.length < 4096) (al : AllAlike (ks.map encK))
    (q : ∀ (D : Addr) (bs : List Key), List.Perm bs ks → H D = none → Q (.ref D) (upd H D (.lst ((bs.mergeSort (dataLe false encK)).map kV)))) : wpAny (model X.prog X.w) X.A (call (.builtin "sorted") [.ref p] []) (EP X pins σ Q) X.xe s := by
  have R : KSet X.w s.heap p ks := (show ObjOk X.prog X.w H s.heap p (KSO X.w p ks) from I.hok p _ hp).1
  have lin : ks.length ≤ sizeLine := by rw [line_eq]; unfold LINE; omega
  refine sorted_by (A := X.A) false (R := fun v (k : Key) => RelV (kV k) v) (enc := encK) (fun bs => List.Perm bs ks) (fun bs hb => ⟨fun d hd d' hd' => ?_, .inr fun d hd => ?_, fun b _ => ?_⟩) (fun Q' g => kset_collect (A := X.A.in1) (I.ok.hd hc) R fun s1 out ks' k z g1 o1 pm rv => g ks' out s1 pm k z g1 o1 ?_ ?_ ?_) fun bs s' D0 out pm k z g1 o1 at0 er => ?_
  · have m := hb.map encK
    exact al d (m.mem_iff.mp hd) d' (m.mem_iff.mp hd')
  · obtain ⟨k, _, rfl⟩ := List.mem_map.mp hd
    cases k <;> exact ⟨fun z => (PyData.noConfusion z), fun xs z => (PyData.noConfusion z)⟩
  · have : (encK b).depth = 0 := by cases b <;> simp [encK, PyData.depth]
    omega
  · have go : ∀ {ks : List Key} {us : List Value}, Vals (ks.map kV) us → EachIs (fun v (k : Key) => RelV (kV k) v) us ks := by
      intro ks
      induction ks with
      | nil => intro us r; cases r; exact .nil
      | cons k ks ih => intro us r; cases r with
        | cons a t => exact .cons a (ih t)
    exact go rv
  · have go : ∀ {ks : List Key} {us : List Value}, Vals (ks.map kV) us → EachIs (fun v (k : Key) => ∃ as, Reads s.heap v (encK k) as) us ks := by
      intro ks
      induction ks with
      | nil => intro us r; cases r; exact .nil
      | cons k ks ih => intro us r; cases r with
        | cons a t =>
          refine .cons ?_ (ih t)
          cases k with
          | inl i => obtain ⟨t, rfl⟩ := (show ∃ t, _ = Value.int i t from a); exact ⟨[], .int _ _⟩
          | inr x => obtain ⟨t, rfl⟩ := (show ∃ t, _ = Value.str x t from a); exact ⟨[], .str _ _⟩
    exact go rv
  · rw [← rv.length, List.length_map, pm.length_eq]; exact lin
  · obtain ⟨e, at0⟩ := at0
    have hn := I.hok.fresh z
    have go : ∀ {ks : List Key} {us : List Value}, EachIs (fun v (k : Key) => RelV (kV k) v) us ks → Vals (ks.map kV) us := by
      intro ks us r
      induction r with
      | nil => exact .nil
      | cons a _ ih => exact .cons a ih
    have ok : ObjOk X.prog X.w (upd H D0 (.lst ((bs.mergeSort (dataLe false encK)).map kV))) s'.heap D0 (.lst ((bs.mergeSort (dataLe false encK)).map kV)) :=
      ⟨by rw [List.length_map, List.length_mergeSort, pm.length_eq]; exact lin, out, e, go er, at0⟩
    exact ⟨.ref D0, _, I.call' (ch := []) o1 (Un.laid k z hn) (I.hok.laid k z ok) (by rw [g1]; exact I.bare) (fun _ z => nomatch z), rfl, q D0 bs pm hn⟩
end
section
variable {T : Tb} {M : Rl} {prog : Program} {w : World} {mg : Str → Option Value} {base : Heap} {j : Nat} {F : Ph} {c : Ct} {τ : XK → Prop} {X : Cx} {pos : Pos} {a : E} {a' : Expr}
theorem perm_keys {α : Type} [DecidableEq α] {f : α → Key} (inj : ∀ x y, f x = f y → x = y) {xs : List α} {ks : List Key} (nd : ks.Nodup) (hm : ∀ k, k ∈ ks ↔ k ∈ xs.map f) : ks.Perm ((nub xs).map f) :=
  (List.perm_ext_iff_of_nodup nd (List.pairwise_map.mpr ((nub_nodup xs).imp fun {x y} h z => h (inj x y z)))).mpr fun k => by
    rw [hm]
    simp only [List.mem_map, nub_mem]
theorem map_of {α : Type} {f : α → Key} : ∀ {bs : List Key}, (∀ k ∈ bs, ∃ x, k = f x) → ∃ cs : List α, bs = cs.map f
  | [], _ => ⟨[], rfl⟩
  | k :: bs, h => by
    obtain ⟨x, rfl⟩ := h k List.mem_cons_self
    obtain ⟨cs, rfl⟩ := map_of (bs := bs) fun k hk => h k (List.mem_cons_of_mem _ hk)
    exact ⟨x :: cs, rfl⟩
theorem srt_keys {α : Type} [DecidableEq α] {f : α → Key} {le : α → α → Bool} (inj : ∀ x y, f x = f y → x = y) (hle : ∀ a b, le a b = dataLe false encK (f a) (f b)) (tr : ∀ a b c, le a b = true → le b c = true → le a c = true) (to : ∀ a b, (le a b || le b a) = true) (an : ∀ a b, le a b = true → le b a = true → a = b)
    {xs : List α} {bs ks : List Key} (nd : ks.Nodup) (hm : ∀ k, k ∈ ks ↔ k ∈ xs.map f) (pm : bs.Perm ks) : bs.mergeSort (dataLe false encK) = ((nub xs).mergeSort le).map f := by
  have pk := pm.trans (perm_keys inj nd hm)
  obtain ⟨cs, rfl⟩ : ∃ cs : List α, bs = cs.map f := map_of fun k hk => by
    obtain ⟨x, _, rfl⟩ := List.mem_map.mp (pk.mem_iff.mp hk)
    exact ⟨x, rfl⟩
  have ndc : cs.Nodup := (List.pairwise_map.mp (pm.nodup_iff.mpr nd)).imp fun h z => h (by rw [z])
  have pc : cs.Perm (nub xs) := (List.perm_ext_iff_of_nodup ndc (nub_nodup xs)).mpr fun x => by
    constructor
    · intro hx
      obtain ⟨y, hy, e⟩ := List.mem_map.mp (pk.mem_iff.mp (List.mem_map.mpr ⟨x, hx, rfl⟩))
      rw [← inj _ _ e]; exact hy
    · intro hx
      obtain ⟨y, hy, e⟩ := List.mem_map.mp (pk.mem_iff.mpr (List.mem_map.mpr ⟨x, hx, rfl⟩))
      rw [← inj _ _ e]; exact hy
  rw [← sorted_once tr to an pc]
  exact (List.map_mergeSort (r := le) (s := dataLe false encK) (f := f) fun a _ b _ => hle a b).symm
theorem RpL.ofStrs {ι : List Addr} {H : Hp} : ∀ ns : List Str, RpL M ι H (ns.map D.str) (ns.map V.str)
  | [] => .nil
  | _ :: r => .cons (.str _) (RpL.ofStrs r)
theorem al_map {α : Type} {f : α → Key} (ha : ∀ x y, alike (encK (f x)) (encK (f y)) = true) {ks : List Key} {xs : List α} (hm : ∀ k, k ∈ ks ↔ k ∈ xs.map f) : AllAlike (ks.map encK) := by
  intro d hd d' hd'
  obtain ⟨k, hk, rfl⟩ := List.mem_map.mp hd
  obtain ⟨k', hk', rfl⟩ := List.mem_map.mp hd'
  obtain ⟨x, _, rfl⟩ := List.mem_map.mp ((hm k).mp hk)
  obtain ⟨y, _, rfl⟩ := List.mem_map.mp ((hm k').mp hk')
  exact ha x y
theorem few_map {α : Type} [DecidableEq α] {f : α → Key} (inj : ∀ x y, f x = f y → x = y) {ks : List Key} {xs : List α} (nd : ks.Nodup) (hm : ∀ k, k ∈ ks ↔ k ∈ xs.map f) : ks.length ≤ xs.length := by
  rw [(perm_keys inj nd hm).length_eq, List.length_map]
  clear nd hm
  induction xs with
  | nil => exact Nat.le_refl _
  | cons x xs ih =>
    simp only [nub, List.length_cons]
    have := List.length_filter_le (fun y => decide (y ≠ x)) (nub xs)
    omega
theorem n_srtS {W0 : Wd T M prog w mg base j F} (g : XG T M prog w mg base j c τ X) {p p2 q : Pos} (hg : Gl X "sorted") (hg2 : Gl X "set") (hp : plainE a' = true) (pa : PE X a' (rdE τ M T.pg F a)) :
    PE X (.Call (.Name "sorted" p) [.Call (.Name "set" p2) [a'] [] q] [] pos) (rdN τ M T.pg F (.srtS a)) := by
  have free : ∀ y ∈ bnames, X.mg y = none := fun y hy => by rw [g.mg]; exact W0.free _ hy
  have pset : PE X (.Call (.Name "set" p2) [a'] [] q) _ := pe_callTy (pos := q) (r := rMkSet X.K X.w) (cr_mkSet g.calm) hg2 (free _ (by decide +kernel)) (T := "set") (by decide +kernel) (pa_cons pa pa_nil (starEach_plain hp)) (by decide) (by decide) (starEach_plain hp) rfl
  refine (pe_callB (r := fun vs H Q => ∃ p ks, vs = [.ref p] ∧ H p = some (KSO X.w p ks) ∧ ks.length < 4096 ∧ AllAlike (ks.map encK) ∧ ∀ (D : Addr) (bs : List Key), List.Perm bs ks → H D = none → Q (.ref D) (upd H D (.lst ((bs.mergeSort (dataLe false encK)).map kV))))
    (fun pins s σ H vs us Q I r ⟨p, ks, e0, h1, h2, h3, h4⟩ => by
      subst e0
      obtain ⟨u, rfl, ru⟩ := vals1 r
      obtain rfl : u = Value.ref p := ru
      exact srt_set (M := M) g.K g.room.units g.calm I h1 h2 h3 h4) hg (free _ (by decide +kernel)) PyProof.Rows.boot_sorted (pa_cons pset pa_nil rfl) (by decide) (by decide) rfl rfl).imp fun σ H Q ⟨ex, W, ι, h, m, tk, sim, en, po⟩ => ?_
  simp only [evN] at po
  refine ⟨ex, W, ι, h, m, tk, sim, en, po.step fun d1 h1 ι1 H1 x1 s1 po1 v1 r1 => ?_⟩
  obtain ⟨xs, ex0, po2⟩ := po1.opt
  obtain ⟨hz, po3⟩ := po2.if_
  obtain ⟨ad, vs, rfl, sq, l⟩ := lst_ok s1 r1 (show lstS h1 d1 = some xs by cases d1 <;> first | exact ex0 | (simp [lstOf] at ex0))
  cases e1 : asS xs with
  | some ss =>
    rw [e1] at po3
    obtain rfl := asS_eq e1
    obtain rfl := l.strsD
    have inj : ∀ x y : Str, (Sum.inr x : Key) = Sum.inr y → x = y := fun x y z => Sum.inr.inj z
    have ek : ss.map V.str = (ss.map Sum.inr).map kV := by rw [List.map_map]; rfl
    rw [List.length_map] at hz
    refine ⟨ad, ss.map Sum.inr, rfl, by rw [g.K, ← ek]; exact sq, by rw [List.length_map]; exact hz, fun p ks hn nd hm => ⟨p, ks, rfl, upd_same, by have := few_map inj nd hm; omega, al_map (fun x y => by simp [encK, alike]) hm, fun D0 bs pm hd => ?_⟩⟩
    rw [srt_keys (le := leS) inj (fun a b => (congrFun (congrFun (dataLe_str (fun x : Str => x)) a) b).symm) leS_trans leS_total leS_anti nd hm pm, List.map_map]
    have po4 : Po (Mw M ex) W ι1 H1 (.ok (((nub ss).mergeSort leS).map D.str) h1) (PN (Mw M ex) Q) := po3
    exact (po4.later (Ext.hid (o := KSO X.w p ks) s1 hn)) ι1 _ (s1.hid hn).refl (s1.hid hn) D0 _ (RpL.ofStrs _) hd
  | none =>
    rw [e1] at po3
    cases e2 : asI xs with
    | none => rw [e2] at po3; exact False.elim po3
    | some ns =>
      rw [e2] at po3
      obtain rfl := asI_eq e2
      obtain rfl := l.intsD
      have inj : ∀ x y : Int, (Sum.inl x : Key) = Sum.inl y → x = y := fun x y z => Sum.inl.inj z
      have ek : ns.map V.int = (ns.map Sum.inl).map kV := by rw [List.map_map]; rfl
      rw [List.length_map] at hz
      refine ⟨ad, ns.map Sum.inl, rfl, by rw [g.K, ← ek]; exact sq, by rw [List.length_map]; exact hz, fun p ks hn nd hm => ⟨p, ks, rfl, upd_same, by have := few_map inj nd hm; omega, al_map (fun x y => by simp [encK, alike]) hm, fun D0 bs pm hd => ?_⟩⟩
      rw [srt_keys (le := leI) inj (fun a b => (congrFun (congrFun (dataLe_int (fun x : Int => x)) a) b).symm) leI_trans leI_total leI_anti nd hm pm, List.map_map]
      have po4 : Po (Mw M ex) W ι1 H1 (.ok (((nub ns).mergeSort leI).map D.int) h1) (PN (Mw M ex) Q) := po3
      exact (po4.later (Ext.hid (o := KSO X.w p ks) s1 hn)) ι1 _ (s1.hid hn).refl (s1.hid hn) D0 _ (RpL.ofInts _) hd
end
end Mx
set_option Elab.async false
set_option linter.all false
set_option maxRecDepth 100000
set_option maxHeartbeats 2000000
/-! MxLk: a dict is locked while it is walked. -/
namespace Mx
open PySem L2
section
variable {M : Rl} {ι ι' : List Addr} {H H' : Hp} {h h' : Hh} {a : Addr} {od : Obj} {kvs : List (Key × V)}
theorem Ext.lock (s : Sim M ι h H) (e : H a = some (.dK kvs)) : Ext M ι H ι (upd H a (.frz od (.dK kvs))) where
  own := s.own
  pre := List.prefix_refl _
  keepF := fun b u _ q => by
    by_cases z : b = a
    · subst z
      rw [e] at q; cases q
      exact .inr ⟨fun z => z, rfl, od, upd_same⟩
    · exact .inl (by rw [upd_ne z]; exact q)
  new := fun _ h n => absurd h n
theorem own_lock (e : H a = some (.dK kvs)) {b : Addr} (w : Own H b) : Own (upd H a (.frz od (.dK kvs))) b := by
  by_cases z : b = a
  · subst z; exact .inr (.inr ⟨_, _, upd_same, rfl⟩)
  · exact w.upd z
/-- hidden -/
theorem Sim.lockH (s : Sim M ι h H) (e : H a = some (.dK kvs)) (n : a ∉ ι) : Sim M ι h (upd H a (.frz od (.dK kvs))) where
  nd := s.nd
  xo := fun b hb => ⟨own_lock e (s.xo b hb).1, (s.xo b hb).2⟩
  len := s.len
  ob := fun i b o e1 e2 => (s.ob i b o e1 e2).mono (.lock s e) (upd_ne fun z => n (by rw [← z]; exact List.mem_of_getElem? e1))
/-- the machine's own -/
theorem Sim.lockR {r : Nat} {ks vs : List D} (s : Sim M ι h H) (e : H a = some (.dK kvs)) (er : ι[r]? = some a) (eh : h[r]? = some (.dct false false ks vs)) : Sim M ι (h.set r (.dct false true ks vs)) (upd H a (.frz od (.dK kvs))) where
  nd := s.nd
  xo := fun b hb => ⟨own_lock e (s.xo b hb).1, (s.xo b hb).2⟩
  len := by rw [List.length_set]; exact s.len
  ob := fun i b o e1 e2 => by
    by_cases hi : r = i
    · subst hi
      rw [er] at e1; cases e1
      have hr : r < h.length := (List.getElem?_eq_some_iff.mp eh).1
      rw [List.getElem?_set_self hr] at e2; cases e2
      obtain ⟨k2, hd, rfl, l⟩ := dct_at s er eh
      rw [e] at hd; cases hd
      exact ⟨_, upd_same, fun z => (Bool.noConfusion z), fun _ => ⟨_, _, rfl⟩, kvs, rfl, rfl, l.mono (.lock s e)⟩
    · rw [List.getElem?_set_ne hi] at e2
      have ne : b ≠ a := fun z => hi (by
        subst z
        obtain ⟨h1, q1⟩ := List.getElem?_eq_some_iff.mp er
        obtain ⟨h2, q2⟩ := List.getElem?_eq_some_iff.mp e1
        exact (List.getElem_inj s.nd).mp (q1.trans q2.symm))
      exact (s.ob i b o e1 e2).mono (.lock s e) (upd_ne ne)
theorem fdk_unlock (e : H a = some (.frz od (.dK kvs))) {b : Addr} {u : HO} {k2 : List (Key × V)} {ks ds : List D} (n : b ∉ ι) (m : b ∉ M.ex) (q : H b = some u) (z : dkOf u = some (.inl k2)) (k : ks = k2.map fun p => keyD p.1) (l : RpL M ι (upd H a (.dK kvs)) ds (k2.map (·.2))) :
    Rp M ι (upd H a (.dK kvs)) (.fdc false ks ds) (.ref b) := by
  by_cases hb : b = a
  · subst hb
    rw [e] at q; cases q
    have z2 : kvs = k2 := by simpa [dkOf] using z
    subst z2
    exact .fdk n m upd_same rfl k l
  · exact .fdk n m (by rw [upd_ne hb]; exact q) z k l
theorem fdt_unlock (e : H a = some (.frz od (.dK kvs))) {b : Addr} {u : HO} {k2 : List (List Key × V)} {ks ds : List D} (n : b ∉ ι) (m : b ∉ M.ex) (q : H b = some u) (z : dkOf u = some (.inr k2)) (k : ks = k2.map fun p => tkeyD p.1) (l : RpL M ι (upd H a (.dK kvs)) ds (k2.map (·.2))) :
    Rp M ι (upd H a (.dK kvs)) (.fdc true ks ds) (.ref b) := by
  by_cases hb : b = a
  · subst hb
    rw [e] at q; cases q
    simp [dkOf] at z
  · exact .fdt n m (by rw [upd_ne hb]; exact q) z k l
mutual
theorem Rp.unlock (e : H a = some (.frz od (.dK kvs))) : ∀ {d : D} {v : V}, Rp M ι H d v → Rp M ι (upd H a (.dK kvs)) d v
  | _, _, .non => .non
  | _, _, .bl b => .bl b
  | _, _, .int b => .int b
  | _, _, .str b => .str b
  | _, _, .tup s l => .tup (by
    rcases s with (s | ⟨q, s⟩) | s
    · exact .inl (.inl (by rw [upd_ne (fun z => by rw [z, e] at s; cases s)]; exact s))
    · exact .inl (.inr ⟨q, by rw [upd_ne (fun z => by rw [z, e] at s; cases s)]; exact s⟩)
    · exact .inr s) (RpL.unlockA e l)
  | _, _, .fls n m q l => .fls n m (by rw [upd_ne (fun z => by rw [z, e] at q; cases q)]; exact q) (RpL.unlockA e l)
  | _, _, .scr s l => .scr (by
    rcases s with ⟨q, s⟩ | s
    · exact .inl ⟨q, by rw [upd_ne (fun z => by rw [z, e] at s; cases s)]; exact s⟩
    · exact .inr s) (RpL.unlockA e l)
  | _, _, .obj k n m q z l => .obj k n m (by rw [upd_ne (fun z => by rw [z, e] at q; cases q)]; exact q) z (RpL.unlockA e l)
  | _, _, .fdk n m q z k l => fdk_unlock e n m q z k (RpL.unlockA e l)
  | _, _, .fdt n m q z k l => fdt_unlock e n m q z k (RpL.unlockA e l)
  | _, _, .ref e => .ref e
theorem RpL.unlockA (e : H a = some (.frz od (.dK kvs))) : ∀ {ds : List D} {vs : List V}, RpL M ι H ds vs → RpL M ι (upd H a (.dK kvs)) ds vs
  | _, _, .nil => .nil
  | _, _, .cons r t => .cons (Rp.unlock e r) (RpL.unlockA e t)
end
theorem own_unlock {b : Addr} (w : Own H b) : Own (upd H a (.dK kvs)) b := by
  by_cases z : b = a
  · subst z; exact .inr (.inr ⟨_, _, upd_same, rfl⟩)
  · exact w.upd z
theorem ObR.unlockN {b : Addr} {o : O} (e : H a = some (.frz od (.dK kvs))) (n : b ≠ a) (r : ObR M ι H b o) : ObR M ι (upd H a (.dK kvs)) b o := by
  cases o with
  | lst ds => obtain ⟨vs, q, l⟩ := r; exact ⟨vs, by rw [upd_ne n]; exact q, l.unlockA e⟩
  | ins c ds => obtain ⟨dx, vs, k, q, z, l⟩ := r; exact ⟨dx, vs, k, by rw [upd_ne n]; exact q, z, l.unlockA e⟩
  | dct tk lk ks ds =>
    obtain ⟨u, q, l1, l2, z⟩ := r
    refine ⟨u, by rw [upd_ne n]; exact q, l1, l2, ?_⟩
    cases tk with
    | true => obtain ⟨k2, q, k, l⟩ := z; exact ⟨k2, q, k, l.unlockA e⟩
    | false => obtain ⟨k2, q, k, l⟩ := z; exact ⟨k2, q, k, l.unlockA e⟩
theorem Sim.unlockH (s : Sim M ι h H) (e : H a = some (.frz od (.dK kvs))) (n : a ∉ ι) : Sim M ι h (upd H a (.dK kvs)) where
  nd := s.nd
  xo := fun b hb => ⟨own_unlock (s.xo b hb).1, (s.xo b hb).2⟩
  len := s.len
  ob := fun i b o e1 e2 => (s.ob i b o e1 e2).unlockN e fun z => n (by rw [← z]; exact List.mem_of_getElem? e1)
theorem Sim.unlockR {r : Nat} (s : Sim M ι h H) (e : H a = some (.frz od (.dK kvs))) (er : ι[r]? = some a) : Sim M ι (unl h (some r)) (upd H a (.dK kvs)) := by
  have hr : r < h.length := by rw [← s.len]; exact (List.getElem?_eq_some_iff.mp er).1
  have ob := s.ob r a h[r] er (List.getElem?_eq_getElem hr)
  obtain ⟨ks, vs, eo, k, l⟩ : ∃ ks vs, h[r]? = some (.dct false true ks vs) ∧ ks = kvs.map (fun p => keyD p.1) ∧ RpL M ι H vs (kvs.map (·.2)) := by
    rw [List.getElem?_eq_getElem hr]
    cases eo : h[r] with
    | lst ds => rw [eo] at ob; obtain ⟨vs, q, l⟩ := ob; rw [e] at q; cases q
    | ins c ds => rw [eo] at ob; obtain ⟨dx, vs, k, q, z, l⟩ := ob; rw [e] at q; cases q
    | dct tk lk ks ds =>
      rw [eo] at ob
      obtain ⟨u, q, l1, l2, z⟩ := ob
      rw [e] at q; cases q
      cases lk with
      | false => exact absurd rfl (l1 rfl _ _)
      | true =>
        cases tk with
        | true => obtain ⟨k2, q, _⟩ := z; cases q
        | false =>
          obtain ⟨k2, q, k, l⟩ := z
          cases q
          exact ⟨ks, ds, rfl, k, l⟩
  have eu : unl h (some r) = h.set r (.dct false false ks vs) := by simp only [unl, eo]
  rw [eu]
  refine ⟨s.nd, fun b hb => ⟨own_unlock (s.xo b hb).1, (s.xo b hb).2⟩, by rw [List.length_set]; exact s.len, fun i b o e1 e2 => ?_⟩
  by_cases hi : r = i
  · subst hi
    rw [er] at e1; cases e1
    rw [List.getElem?_set_self hr] at e2; cases e2
    exact ⟨_, upd_same, fun _ o w z => (HO.noConfusion z), fun z => (Bool.noConfusion z), kvs, rfl, k, l.unlockA e⟩
  · rw [List.getElem?_set_ne hi] at e2
    have ne : b ≠ a := fun z => hi (by
      subst z
      obtain ⟨h1, q1⟩ := List.getElem?_eq_some_iff.mp er
      obtain ⟨h2, q2⟩ := List.getElem?_eq_some_iff.mp e1
      exact (List.getElem_inj s.nd).mp (q1.trans q2.symm))
    exact (s.ob i b o e1 e2).unlockN e ne
theorem Ext.unlock (x : Ext M ι (upd H a (.frz od (.dK kvs))) ι' H') (s : Sim M ι h H) (e : H a = some (.dK kvs)) : Ext M ι H ι' (upd H' a (.dK kvs)) where
  own := s.own
  pre := x.pre
  keepF := fun b u n q => by
    by_cases z : b = a
    · subst z
      rw [e] at q; cases q
      exact .inl upd_same
    · rw [upd_ne z]
      exact x.keepF b u n (by rw [upd_ne z]; exact q)
  new := fun b hb n => by
    have q := x.new b hb n
    by_cases z : b = a
    · subst z; rw [upd_same] at q; cases q
    · rw [upd_ne z] at q; exact q
/-- where the dict is -/
def LkAt (ι : List Addr) (a : Addr) (o : Option Nat) : Prop := (o = none ∧ a ∉ ι) ∨ ∃ r, o = some r ∧ ι[r]? = some a
theorem Po.unlock {α : Type} {W : XK} {o : Option Nat} {r : R α} {P : α → Hh → List Addr → Hp → Prop} (s : Sim M ι h H) (e : H a = some (.dK kvs)) (ho : LkAt ι a o) (hx : a ∉ M.ex) (po : Po M W ι H (r.bind fun x h' => .ok x (unl h' o)) P) :
    Po M W ι (upd H a (.frz od (.dK kvs))) r (fun x h' ι' H' => H' a = some (.frz od (.dK kvs)) ∧ (∀ d v, Rp M ι' H' d v → Rp M ι' (upd H' a (.dK kvs)) d v) ∧ P x (unl h' o) ι' (upd H' a (.dK kvs))) := by
  cases r with
  | bad => exact po
  | exc c d h2 => exact fun ι' H' dx f v x s' => po ι' H' dx f v ((Ext.lock s e).trans x) s'
  | ok x h2 =>
    intro ι' H' x1 s1
    have ef : H' a = some (.frz od (.dK kvs)) := (x1.keepF a (.frz od (.dK kvs)) (.inr True.intro) upd_same).fz True.intro
    refine ⟨ef, fun d v q => q.unlock ef, po ι' _ (x1.unlock s e) ?_⟩
    rcases ho with ⟨rfl, n⟩ | ⟨r, rfl, er⟩
    · exact s1.unlockH ef (x1.out n upd_same)
    · obtain ⟨t, rfl⟩ := x1.pre
      exact s1.unlockR ef (by rw [List.getElem?_append_left (List.getElem?_eq_some_iff.mp er).1]; exact er)
/-! ### what is walked -/
theorem zip_items : ∀ {ks vs : List D} {i : Nat} {k v : D}, ks[i]? = some k → vs[i]? = some v → (List.zipWith (fun k v => D.tup [k, v]) ks vs)[i]? = some (.tup [k, v])
  | [], _, _, _, _, e, _ => by simp at e
  | _ :: _, [], _, _, _, _, e => by simp at e
  | k0 :: ks, v0 :: vs, 0, k, v, e1, e2 => by simp at e1 e2; subst e1 e2; rfl
  | k0 :: ks, v0 :: vs, i + 1, k, v, e1, e2 => zip_items (ks := ks) (vs := vs) (by simpa using e1) (by simpa using e2)
theorem dwL_len {ks vs : List D} (e : ks.length = vs.length) : ∀ w, (dwL w ks vs).length = ks.length
  | .keys => rfl
  | .vals => e.symm
  | .items => by simp [dwL, e]
/-- the walk's own rule -/
def itD (d : Addr) (o : Obj) (kvs : List (Key × V)) : Dw → It
  | .keys => Itk d o kvs
  | .vals => Itd d o kvs
  | .items => Iti d o kvs
theorem wk_dict {ks vs : List D} (e : H a = some (.frz od (.dK kvs))) (hk : ks = kvs.map fun p => keyD p.1) (l : RpL M ι H vs (kvs.map (·.2))) (w : Dw) : Wk M ι H (dwL w ks vs) none (itD a od kvs w) := by
  subst hk
  have hl : (kvs.map fun p => keyD p.1).length = vs.length := by rw [l.length, List.length_map, List.length_map]
  have hn : (dwL w (kvs.map fun p => keyD p.1) vs).length = kvs.length := by rw [dwL_len hl, List.length_map]
  have at_ : ∀ (i : Nat), i < kvs.length → ∃ k v d, kvs[i]? = some (k, v) ∧ vs[i]? = some d ∧ (kvs.map fun p => keyD p.1)[i]? = some (keyD k) ∧ Rp M ι H d v := fun i hi => by
    have hv : i < vs.length := by rw [← hl, List.length_map]; exact hi
    obtain ⟨v, h1, h2⟩ := l.get (List.getElem?_eq_getElem hv)
    rw [List.getElem?_map, List.getElem?_eq_getElem hi] at h1
    exact ⟨kvs[i].1, kvs[i].2, _, List.getElem?_eq_getElem hi, List.getElem?_eq_getElem hv, by rw [List.getElem?_map, List.getElem?_eq_getElem hi]; rfl, by
      have : kvs[i].2 = v := by simpa using h1
      rw [this]; exact h2⟩
  refine ⟨fun i ex ι' h' H' hi x s g => ?_, fun ex ι' h' H' x s g => ?_, fun i ex ι' h' H' v0 H2 hi x s g y => ?_⟩
  · rw [hn] at hi
    cases w <;> exact ⟨x.frz a _ True.intro e, hi⟩
  · rw [hn]
    cases w <;> exact ⟨x.frz a _ True.intro e, Nat.le_refl _⟩
  · rw [hn] at hi
    obtain ⟨k, v, d, e1, e2, e3, r⟩ := at_ i hi
    cases w with
    | keys =>
      obtain ⟨rfl, k2, v2, e4, rfl⟩ := y
      rw [e1] at e4; cases e4
      exact ⟨keyD k, e3, s.refl, s, kV_rp⟩
    | vals =>
      obtain ⟨rfl, k2, e4⟩ := y
      rw [e1] at e4; cases e4
      exact ⟨d, e2, s.refl, s, x _ _ r⟩
    | items =>
      obtain ⟨T, k2, v2, e4, rfl, n, rfl⟩ := y
      rw [e1] at e4; cases e4
      obtain ⟨x2, s2, t2⟩ := tup_new s (RpL.cons (kV_rp (k := k)) (RpL.cons (x _ _ r) .nil)) n
      exact ⟨.tup [keyD k, d], zip_items e3 e2, x2, s2, t2⟩
end
end Mx
set_option Elab.async false
set_option linter.all false
set_option maxRecDepth 100000
set_option maxHeartbeats 2000000
/-! MxLc: comprehensions over a dict in a name. -/
namespace Mx
open PySem L2
theorem upd_comm {H : Hp} {a p : Addr} {x y : HO} (n : p ≠ a) : upd (upd H p x) a y = upd (upd H a y) p x := by
  funext b
  by_cases h1 : b = a
  · subst h1
    rw [upd_same, upd_ne (fun z => n z.symm), upd_same]
  · by_cases h2 : b = p
    · subst h2; rw [upd_ne h1, upd_same, upd_same]
    · rw [upd_ne h1, upd_ne h2, upd_ne h2, upd_ne h1]
section
variable {M : Rl} {ι : List Addr} {H : Hp} {h h1 : Hh} {m : En} {σ : L2.St}
/-- the dict in a name: locked already, or to be locked -/
theorem lk_cases {i : Nat} {q : List D × List D × Hh × Option Nat} (s : Sim M ι h H) (en : EnR M ι H m σ) (e : (look m i).bind (lkD h) = some q) :
    ∃ a kvs, σ[i]? = some (some (.ref a)) ∧ q.1 = kvs.map (fun p => keyD p.1) ∧ RpL M ι H q.2.1 (kvs.map (·.2)) ∧ a ∉ M.ex ∧
      ((∃ od, H a = some (.frz od (.dK kvs)) ∧ q.2.2.1 = h ∧ q.2.2.2 = none) ∨ (H a = some (.dK kvs) ∧ LkAt ι a q.2.2.2 ∧ ∀ od, Sim M ι q.2.2.1 (upd H a (.frz od (.dK kvs))))) := by
  obtain ⟨d, ed, eq⟩ := Option.bind_eq_some_iff.mp e
  obtain ⟨v, ev, r⟩ := en.2 i d (look_some ed)
  cases r with
  | fdk nn mm e0 z k l =>
    simp only [lkD, Option.some.injEq] at eq
    subst eq
    rename_i a u kvs ks ds
    refine ⟨a, kvs, ev, k, l, mm, ?_⟩
    cases u with
    | dK k2 =>
      simp only [dkOf, Option.some.injEq, Sum.inl.injEq] at z
      subst z
      exact .inr ⟨e0, .inl ⟨rfl, nn⟩, fun od => s.lockH e0 nn⟩
    | frz o w =>
      cases w with
      | dK k2 =>
        simp only [dkOf, Option.some.injEq, Sum.inl.injEq] at z
        subst z
        exact .inl ⟨o, e0, rfl, rfl⟩
      | _ => simp [dkOf] at z
    | _ => simp [dkOf] at z
  | @ref r a er =>
    have hx : a ∉ M.ex := fun z => (s.xo a z).2 (List.mem_of_getElem? er)
    simp only [lkD] at eq
    split at eq
    · rename_i ks vs e1
      cases eq
      obtain ⟨kvs, hd, rfl, l⟩ := dct_at s er e1
      exact ⟨a, kvs, ev, rfl, l, hx, .inr ⟨hd, .inr ⟨r, rfl, er⟩, fun od => s.lockR hd er e1⟩⟩
    · rename_i ks vs e1
      cases eq
      obtain ⟨u, p, _, l2, kvs, z, k, l⟩ := s.ob r a _ er e1
      obtain ⟨o, w, rfl⟩ := l2 rfl
      cases w with
      | dK k2 =>
        simp only [dkOf, Option.some.injEq, Sum.inl.injEq] at z
        subst z
        exact ⟨a, k2, ev, k, l, hx, .inl ⟨o, p, rfl, rfl⟩⟩
      | _ => simp [dkOf] at z
    · cases eq
  | fdt nn mm e0 z k l => simp [lkD] at eq
  | _ => simp [lkD] at eq
end
/-- what is walked: the dict in a name -/
def tDw (i : Nat) (w : Dw) : TI := fun σ H R => ∃ d o kvs, σ[i]? = some (some (.ref d)) ∧ H d = some (.frz o (.dK kvs)) ∧ R (itD d o kvs w) H
section
variable {X : Cx} {tg : Expr} {i : Nat} {y : Str} {p apos cpos : Pos}
theorem pi_dwK (he : PE X (.Name y p) (tVar i)) : PI X tg (.Name y p) (tDw i .keys) :=
  (pi_keys he).imp fun σ H R ⟨d, o, kvs, e1, e2, q⟩ => ⟨_, e1, d, o, rfl, .inl ⟨kvs, e2, q⟩⟩
theorem pi_dwV (he : PE X (.Name y p) (tVar i)) (hl : (apos.endLine == cpos.line) = true) : PI X tg (.Call (.Attribute (.Name y p) "values" apos) [] [] cpos) (tDw i .vals) :=
  (pi_values he rfl hl).imp fun σ H R ⟨d, o, kvs, e1, e2, q⟩ => ⟨_, e1, d, o, kvs, rfl, e2, q⟩
theorem pi_dwI {elts : List Expr} {kk : Nat} {tpos : Pos} (he : PE X (.Name y p) (tVar i)) (hl : (apos.endLine == cpos.line) = true) : PI X (.Tuple elts kk tpos) (.Call (.Attribute (.Name y p) "items" apos) [] [] cpos) (tDw i .items) :=
  (pi_items he rfl hl).imp fun σ H R ⟨d, o, kvs, e1, e2, q⟩ => ⟨_, e1, d, o, kvs, rfl, e2, q⟩
theorem pe_or {e : Expr} {t t' : TE} (a : PE X e t) (b : PE X e t') : PE X e (fun σ H Q => t σ H Q ∨ t' σ H Q) := ⟨fun pins s σ H Q I q => q.elim (a.run pins s σ H Q I) (b.run pins s σ H Q I)⟩
theorem ps_or {e : Stmt} {t t' : TS} (a : PS X e t) (b : PS X e t') : PS X e (fun D σ H => t D σ H ∨ t' D σ H) := ⟨fun pins s σ H D I q => q.elim (a.run pins s σ H D I) (b.run pins s σ H D I)⟩
end
section
variable {T' : Tb} {M : Rl} {prog : Program} {w : World} {mg : Str → Option Value} {base : Heap} {j : Nat} {F : Ph} {c : Ct} {τ : XK → Prop} {X : Cx} {pos : Pos} {scope : Scope}
theorem compD_read {t : T} {dw : Dw} {i : Nat} {cnd e : E} {ifs : List Expr} {ws : List Nat} (ht : ∀ i ∈ t.slots, i ∈ ws)
    (hc : (cnd = .nil ∧ ifs = []) ∨ ∃ q r q', cnd = .cons q r ∧ ifs = [q'] ∧ ∀ X', XG T' M prog w mg base j (c.blk scope) τ0 X' → PT X' q' (rdT τ0 M T'.pg F q)) :
    ∃ tt, (∀ X', XG T' M prog w mg base j (c.blk scope) τ0 X' → PTs X' ifs tt) ∧ ∀ (σ : St) (H : Hp) (Q : VK), rdN τ M T'.pg F (.compD dw ws t i cnd e) σ H Q →
      tLc (tDw i dw) (rdG M t) tt (rdE τ0 M T'.pg F e) ws σ H Q ∨ tLockE (tLc (tDw i dw) (rdG M t) tt (rdE τ0 M T'.pg F e) ws) σ H Q := by
  obtain ⟨tt, htt, go⟩ := comp_core (T' := T') (M := M) (prog := prog) (w := w) (mg := mg) (base := base) (j := j) (F := F) (c := c) (τ := τ) (scope := scope) (it := .nil) (e := e) ht hc
  refine ⟨tt, htt, fun σ H Q ⟨ex, W, ι, h, m, tk, sim, en, po⟩ => ?_⟩
  obtain ⟨fn, _, efn, go⟩ := go m
  rw [efn] at po
  obtain ⟨q, eq, po⟩ := po.opt
  obtain ⟨a, kvs, ea, ek, l, hx, hq⟩ := lk_cases sim en eq
  rcases hq with ⟨od, hd, e1, e2⟩ | ⟨hd, la, sl⟩
  · left
    rw [e1, e2] at po
    have po2 : Po (Mw M ex) W ι H (rIf ((dwL dw q.1 q.2.1).length ≤ LINE) (cloop fn (fun h => gok h none) (dwL dw q.1 q.2.1) [] h)) (PN (Mw M ex) Q) := by
      have := po
      simp only [unl] at this
      rw [R.bind_pure] at this
      exact this
    exact ⟨a, od, kvs, ea, hd, go ex W ι h H σ Q (dwL dw q.1 q.2.1, none) _ tk sim en po2 (wk_dict hd ek l dw)⟩
  · right
    refine ⟨a, .dK kvs, hd, True.intro, fun od => ⟨a, od, kvs, ea, upd_same, ?_⟩⟩
    have xl : Ext (Mw M ex) ι H ι (upd H a (.frz od (.dK kvs))) := .lock sim hd
    refine go ex W ι q.2.2.1 (upd H a (.frz od (.dK kvs))) σ (fun v H' => H' a = some (.frz od (.dK kvs)) ∧ Q v (upd H' a (.dK kvs))) (dwL dw q.1 q.2.1, none) _ tk (sl od) (en.mono xl) ?_ (wk_dict upd_same ek (l.mono xl) dw)
    refine (Po.unlock (od := od) sim hd la hx po).imp fun xs h' ι' H' x1 s1 ⟨ef, rel, pn⟩ p vs rv n => ?_
    have hp : p ≠ a := fun z => by rw [z, ef] at n; cases n
    refine ⟨by rw [upd_ne (fun z => hp z.symm)]; exact ef, ?_⟩
    rw [upd_comm hp]
    exact pn p vs (RpL.via rel rv) (by rw [upd_ne hp]; exact n)
theorem n_compD (g : XG T' M prog w mg base j c τ X) {t : T} {dw : Dw} {i : Nat} {cnd e : E} {tg iter elt : Expr} {ifs : List Expr} {own : List (Str × Nat)} {ws : List Nat} (hi : PI X tg iter (tDw i dw)) (ok : BlkOk c.N c.sc scope own) (hw : own.map (·.2) = ws) (ht : ∀ i ∈ t.slots, i ∈ ws)
    (hg : ∀ X', XG T' M prog w mg base j (c.blk scope) τ0 X' → PG X' tg (rdG M t))
    (hc : (cnd = .nil ∧ ifs = []) ∨ ∃ q r q', cnd = .cons q r ∧ ifs = [q'] ∧ ∀ X', XG T' M prog w mg base j (c.blk scope) τ0 X' → PT X' q' (rdT τ0 M T'.pg F q))
    (he : ∀ X', XG T' M prog w mg base j (c.blk scope) τ0 X' → PE X' elt (rdE τ0 M T'.pg F e)) (hs : ∀ x, foldedSetIterable iter X.env x = pure x) :
    PE X (.ListComp elt [⟨tg, iter, ifs, 0⟩] scope pos) (rdN τ M T'.pg F (.compD dw ws t i cnd e)) := by
  obtain ⟨tt, htt, rd⟩ := compD_read (T' := T') (M := M) (prog := prog) (w := w) (mg := mg) (base := base) (j := j) (F := F) (c := c) (τ := τ) (scope := scope) (dw := dw) (i := i) (e := e) ht hc
  have b := pe_lc (pos := pos) (te := rdE τ0 M T'.pg F e) g.calm (by rw [g.N]; exact g.nd) hi (by rw [g.N, g.sc]; exact ok) (fun s H C cl fp => hg _ (g.blk s H C cl fp)) (fun s H C cl fp => htt _ (g.blk s H C cl fp)) (fun s H C cl fp => he _ (g.blk s H C cl fp)) hs
  rw [hw] at b
  exact (pe_or b (pe_lock b)).imp rd
theorem n_compDS {k : Nat} {y : Str} {py spos : Pos} (g : XG T' M prog w mg base j c τ X) {t : T} {dw : Dw} {i : Nat} {cnd e : E} {tg iter elt : Expr} {ifs : List Expr} {own : List (Str × Nat)} {ws : List Nat} (hi : PI X tg iter (tDw i dw)) (ok : BlkOk c.N c.sc scope own) (hw : own.map (·.2) = ws) (ht : ∀ i ∈ t.slots, i ∈ ws)
    (hg : ∀ X', XG T' M prog w mg base j (c.blk scope) τ0 X' → PG X' tg (rdG M t))
    (hc : (cnd = .nil ∧ ifs = []) ∨ ∃ q r q', cnd = .cons q r ∧ ifs = [q'] ∧ ∀ X', XG T' M prog w mg base j (c.blk scope) τ0 X' → PT X' q' (rdT τ0 M T'.pg F q))
    (he : ∀ X', XG T' M prog w mg base j (c.blk scope) τ0 X' → PE X' elt (rdE τ0 M T'.pg F e)) (hs : ∀ x, foldedSetIterable iter X.env x = pure x) (hy : c.N[k]? = some y) (hyl : c.sc.names.lookup y = some .local) (hsw : swapsWith (.ListComp elt [⟨tg, iter, ifs, 0⟩] scope pos) (some (.Name y py)) spos.line X.env = pure true) :
    PS X (.Assign [.Name y py] (.ListComp elt [⟨tg, iter, ifs, 0⟩] scope pos) spos) (tAsg (rdN τ M T'.pg F (.compD dw ws t i cnd e)) (gName k)) := by
  obtain ⟨tt, htt, rd⟩ := compD_read (T' := T') (M := M) (prog := prog) (w := w) (mg := mg) (base := base) (j := j) (F := F) (c := c) (τ := τ) (scope := scope) (dw := dw) (i := i) (e := e) ht hc
  have b := ps_setLc (py := py) (te := rdE τ0 M T'.pg F e) g.calm (by rw [g.N]; exact g.nd) (by rw [g.N]; exact hy) (by rw [g.sc]; exact hyl) hsw hi (by rw [g.N, g.sc]; exact ok) (fun s H C cl fp => hg _ (g.blk s H C cl fp)) (fun s H C cl fp => htt _ (g.blk s H C cl fp)) (fun s H C cl fp => he _ (g.blk s H C cl fp)) hs
  rw [hw] at b
  refine (ps_or b (ps_lock b)).imp fun D σ H q => ?_
  exact rd σ H _ q
end
end Mx
set_option Elab.async false
set_option linter.all false
set_option maxRecDepth 100000
set_option maxHeartbeats 4000000
namespace Mx
open PySem L2
/-! ### is the text the machine's? -/
def sameK : D → D → Bool
  | .non, .non => true
  | .bl a, .bl b => a == b
  | .int a, .int b => decide (a = b)
  | .str a, .str b => decide (a = b)
  | _, _ => false
theorem sameK_ok {a b : D} (h : sameK a b = true) : a = b := by
  unfold sameK at h
  split at h
  · rfl
  · rw [eq_of_beq h]
  · rw [of_decide_eq_true h]
  · rw [of_decide_eq_true h]
  · cases h
def okK : D → Expr → Bool
  | .non, .Constant .none _ _ => true
  | .bl b, .Constant (.bool a) _ _ => a == b
  | .int b, .Constant (.int a) _ _ => decide (a = b)
  | .str b, .Constant (.str a) _ _ => decide (a = b)
  | _, _ => false
def visC (c : Ct) (i : Nat) (z : Str) : Bool := decide (c.N[i]? = some z) && (match c.sc.names.lookup z with
  | some .local => true | some .cell => true | some .free => true | _ => false) && !(z == ("__debug__" : Str)) && !(z == ("__classdict__" : Str))
def glC (c : Ct) (y : Str) : Bool := (match c.sc.names.lookup y with
  | some .globalImplicit => true | _ => false) && !(y == ("__debug__" : Str))
def locC (c : Ct) (i : Nat) (z : Str) : Bool := decide (c.N[i]? = some z) && (match c.sc.names.lookup z with
  | some .local => true | some .cell => c.own z | _ => false)
def plainT : Expr → Bool
  | .UnaryOp .Not _ _ => false
  | .BoolOp _ _ _ => false
  | .IfExp _ _ _ _ => false
  | .Compare _ _ _ _ => false
  | _ => true
def plainB : Expr → Bool
  | .Call (.Name _ _) [] [] _ => false
  | _ => true
def notSlice : Expr → Bool
  | .Slice _ _ _ _ => false
  | _ => true
def notSet : Expr → Bool
  | .Set _ _ _ => false
  | _ => true
def restE (op : BoolOp) (pos : Pos) : List Expr → Expr
  | [y] => y
  | es => .BoolOp op es pos
mutual
def okT : T → Ct → Expr → Bool
  | .nm i, c, .Name z _ => locC c i z
  | .tp ts, c, .Tuple es _ _ => es.all plainE && decide (es.length = ts.len) && okTs ts c es
  | _, _, _ => false
def okTs : T → Ct → List Expr → Bool
  | .nil, _, [] => true
  | .cons t r, c, x :: es => plainE x && okT t c x && okTs r c es
  | _, _, _ => false
end
def isTup : Expr → Bool
  | .Tuple _ _ _ => true
  | _ => false
/-- the names in a class's expression are global -/
def okQ (c : Ct) : Expr → Bool
  | .Name z _ => glC c z
  | .Tuple [.Name z _, .Name y _] _ _ => glC c z && glC c y
  | _ => false
def isCl : Bi → Option Nat
  | .isCls k => some k
  | _ => none
/-- what is walked of the dict in a name -/
def okW (c : Ct) (i : Nat) (tg : Expr) : Dw → Expr → Bool
  | .keys, x => (match x with
    | .Name z _ => visC c i z
    | _ => false)
  | .vals, x => (match x with
    | .Call (.Attribute (.Name z _) y apos) [] [] cpos => decide (y = "values") && visC c i z && (apos.endLine == cpos.line)
    | _ => false)
  | .items, x => (match x with
    | .Call (.Attribute (.Name z _) y apos) [] [] cpos => decide (y = "items") && visC c i z && (apos.endLine == cpos.line) && isTup tg
    | _ => false)
def dname : Dm → Str
  | .get1 => "get" | .get2 => "get" | .pop1 => "pop"
mutual
def okE (T : Tb) : E → Ct → Expr → Bool
  | .k d, c, x => okK d x
  | .g y d, c, x => match x with
    | .Name z _ => decide (z = y) && glC c y && T.cs.any (fun p => decide (p.1 = y) && sameK p.2 d)
    | _ => false
  | .v i, c, x => match x with
    | .Name z _ => visC c i z
    | _ => false
  | .bin o a b, c, x => match x with
    | .BinOp a' op b' _ => decide (op = bop o) && okE T a c a' && okE T b c b'
    | _ => false
  | .neg a, c, x => match x with
    | .UnaryOp .USub a' _ => okE T a c a'
    | _ => false
  | .cmp o a b, c, x => match x with
    | .Compare a' [op] [b'] _ => decide (op = cop o) && !(behindInMarks op b') && okE T a c a' && okE T b c b'
    | _ => false
  | .ch o p a b d, c, x => match x with
    | .Compare a' [op, op'] [b', d'] _ => decide (op = cop o) && decide (op' = cop p) && !(lastMarks [op, op'] [b', d']) && okE T a c a' && okE T b c b' && okE T d c d'
    | _ => false
  | .and_ a b, c, x => match x with
    | .BoolOp .And (a' :: x1 :: es) pos => okE T a c a' && okE T b c (restE .And pos (x1 :: es))
    | _ => false
  | .or_ a b, c, x => match x with
    | .BoolOp .Or (a' :: x1 :: es) pos => okE T a c a' && okE T b c (restE .Or pos (x1 :: es))
    | _ => false
  | .not_ a, c, x => match x with
    | .UnaryOp .Not a' _ => okE T a c a'
    | _ => false
  | .ite e a b, c, x => match x with
    | .IfExp e' a' b' _ => okE T e c e' && okE T a c a' && okE T b c b'
    | _ => false
  | .tup es, c, x => match x with
    | .Tuple xs _ _ => okEs T es c xs
    | _ => false
  | .nl _ e, c, x => plainT x && okN T e c x
  | .ix a i, c, x => match x with
    | .Subscript a' i' _ => notSlice i' && okE T a c a' && okE T i c i'
    | _ => false
  | .sl a lo hi, c, x => match x with
    | .Subscript a' (.Slice lo' hi' none _) _ => okE T a c a' && okO T lo c lo' && okO T hi c hi'
    | _ => false
  | .fld cs a f, c, x => match x with
    | .Attribute a' y _ => plainB a' && cs.all (fun k => decide ((T.fl k)[f]? = some y) && decide (T.fl k).Nodup) && okE T a c a'
    | _ => false
  | .call s _ es, c, x => match x with
    | .Call (.Name y _) args kws _ => (match T.pg.sgs s with
      | some g => decide (y = T.fn g.f) && glC c y && decide (args.length = g.n) && decide (kwN kws = g.ks) && decide (es.len = g.n + g.ks.length) && E.ge g.n es && kwOk kws && args.all plainE && okA T es c args kws
      | none => false)
    | _ => false
  | .mk s es, c, x => match x with
    | .Call (.Name y _) args kws _ => (match T.pg.mks s with
      | some (k, g) => decide (y = T.cn k) && glC c y && decide (args.length = g.n) && decide (kwN kws = g.ks) && decide (es.len = g.n + g.ks.length) && E.ge g.n es && kwOk kws && args.all plainE && okA T es c args kws
      | none => false)
    | _ => false
  | .bi b es, c, x => match x with
    | .Call (.Name y _) [a'] [] _ => plainBi b && decide (y = biName b) && glC c y && plainE a' && okEs T es c [a']
    | .Call (.Name y _) [a', q] [] _ => if plainBi b = true then decide (y = biName b) && glC c y && plainE a' && plainE q && okEs T es c [a', q] else
        decide (y = "isinstance") && glC c y && plainE a' && okCls T b q && (match isCl b with
          | some k => T.cl.contains k
          | none => true) && okQ c q && okEs T es c [a']
    | _ => false
  | .mt m o es, c, x => match x with
    | .Call (.Attribute o' y apos) args [] pos => decide (y = mname m) && plainB o' && (apos.endLine == pos.line) && args.all plainE && decide (args.length < 20) && (args.isEmpty == decide (m = .pop0)) && okE T o c o' && okEs T es c args
    | _ => false
  | .nd _, c, x => match x with
    | .Dict [] [] _ => true
    | _ => false
  | .dm m o a b, c, x => match x with
    | .Call (.Attribute o' y apos) [a'] [] pos => decide (m ≠ .get2) && decide (y = dname m) && plainB o' && (apos.endLine == pos.line) && plainE a' && okE T o c o' && okE T a c a'
    | .Call (.Attribute o' y apos) [a', b'] [] pos => decide (m = .get2) && decide (y = dname m) && plainB o' && (apos.endLine == pos.line) && plainE a' && plainE b' && okE T o c o' && okE T a c a' && okE T b c b'
    | _ => false
  | .join a b, c, x => match x with
    | .Call (.Attribute a' y apos) [b'] [] pos => decide (y = "join") && plainB a' && (apos.endLine == pos.line) && plainE b' && okE T a c a' && okE T b c b'
    | _ => false
  | _, _, _ => false
def okEs (T : Tb) : E → Ct → List Expr → Bool
  | .nil, _, [] => true
  | .cons a r, c, x :: xs => plainE x && okE T a c x && okEs T r c xs
  | _, _, _ => false
def okA (T : Tb) : E → Ct → List Expr → List Keyword → Bool
  | .nil, _, [], [] => true
  | .cons a r, c, x :: xs, kws => plainE x && okE T a c x && okA T r c xs kws
  | .cons a r, c, [], ⟨_, x, _⟩ :: kws => okE T a c x && okA T r c [] kws
  | _, _, _, _ => false
def okO (T : Tb) : E → Ct → Option Expr → Bool
  | .nil, _, none => true
  | .cons a _, c, some x => okE T a c x
  | _, _, _ => false
def okN (T : Tb) : E → Ct → Expr → Bool
  | .dis es, c, x => match x with
    | .List xs _ => okEs T es c xs
    | _ => false
  | .lcat a b, c, x => match x with
    | .BinOp a' .Add b' _ => okE T a c a' && okE T b c b'
    | _ => false
  | .lrep a b, c, x => match x with
    | .BinOp a' .Mult b' _ => okE T a c a' && okE T b c b'
    | _ => false
  | .lof a, c, x => match x with
    | .Call (.Name y _) [a'] [] _ => decide (y = "list") && glC c y && plainE a' && okE T a c a'
    | _ => false
  | .lsl a lo hi, c, x => match x with
    | .Subscript a' (.Slice lo' hi' none _) _ => okE T a c a' && okO T lo c lo' && okO T hi c hi'
    | _ => false
  | .lrv a, c, x => match x with
    | .Subscript a' (.Slice none none (some (.UnaryOp .USub (.Constant (.int i) _ _) _)) _) _ => decide (i = 1) && okE T a c a'
    | _ => false
  | .srt rev a, c, x => match x with
    | .Call (.Name y _) [a'] [] _ => decide (rev = false) && decide (y = "sorted") && glC c y && plainE a' && okE T a c a'
    | .Call (.Name y _) [a'] [⟨some z, .Constant (.bool true) _ _, _⟩] _ => decide (rev = true) && decide (y = "sorted") && decide (z = Str.ofString "reverse") && glC c y && plainE a' && okE T a c a'
    | _ => false
  | .srtV a, c, x => match x with
    | .Call (.Name y _) [.Call (.Attribute a' z apos) [] [] cpos] [] _ => decide (y = "sorted") && glC c y && decide (z = "values") && plainB a' && (apos.endLine == cpos.line) && okE T a c a'
    | _ => false
  | .srtS a, c, x => match x with
    | .Call (.Name y _) [.Call (.Name z _) [a'] [] _] [] _ => decide (y = "sorted") && glC c y && decide (z = "set") && glC c z && plainE a' && okE T a c a'
    | _ => false
  | .compD w ws t i cnd e, c, x => match x with
    | .ListComp elt [⟨tg, iter, ifs, as⟩] scope _ => decide (as = 0) && notSet iter && okW c i tg w iter && okT t (c.blk scope) tg && okC T cnd (c.blk scope) ifs && okE T e (c.blk scope) elt && t.slots.all (fun i => ws.contains i) && ws.all (fun i => (c.N[i]?).isSome) && blkC c.N c.sc scope (ws.map fun i => (c.N.getD i Str.empty, i))
    | _ => false
  | .comp ws t it cnd e, c, x => match x with
    | .ListComp elt [⟨tg, iter, ifs, as⟩] scope _ => decide (as = 0) && notSet iter && okI T it c iter tg && okT t (c.blk scope) tg && okC T cnd (c.blk scope) ifs && okE T e (c.blk scope) elt && t.slots.all (fun i => ws.contains i) && ws.all (fun i => (c.N[i]?).isSome) && blkC c.N c.sc scope (ws.map fun i => (c.N.getD i Str.empty, i))
    | _ => false
  | _, _, _ => false
def okC (T : Tb) : E → Ct → List Expr → Bool
  | .nil, _, [] => true
  | .cons a _, c, [x] => okE T a c x
  | _, _, _ => false
def okI (T : Tb) : E → Ct → Expr → Expr → Bool
  | .iSeq a, c, x, tg => okE T a c x
  | .iRg1 a, c, x, tg => match x with
    | .Call (.Name y _) [a'] [] _ => decide (y = "range") && glC c y && plainE a' && okE T a c a'
    | _ => false
  | .iRg2 a b, c, x, tg => match x with
    | .Call (.Name y _) [a', b'] [] _ => decide (y = "range") && glC c y && plainE a' && plainE b' && okE T a c a' && okE T b c b'
    | _ => false
  | .iEnum a, c, x, tg => match x with
    | .Call (.Name y _) [a'] [] _ => decide (y = "enumerate") && glC c y && plainE a' && isTup tg && okE T a c a'
    | _ => false
  | _, _, _, _ => false
end
end Mx
set_option Elab.async false
set_option linter.all false
set_option maxRecDepth 100000
set_option maxHeartbeats 4000000
set_option profiler true
set_option profiler.threshold 3000
namespace Mx
open PySem L2
section
variable {T : Tb} {M : Rl} {prog : Program} {w : World} {mg : Str → Option Value} {base : Heap} {j : Nat} {F : Ph}
theorem vis_of {c : Ct} {i : Nat} {z : Str} (h : visC c i z = true) : c.N[i]? = some z ∧ Vis c.sc z ∧ (z == ("__debug__" : Str)) = false ∧ (z == ("__classdict__" : Str)) = false := by
  unfold visC at h
  simp only [Bool.and_eq_true, decide_eq_true_eq, Bool.not_eq_true'] at h
  obtain ⟨⟨⟨h1, h2⟩, h3⟩, h4⟩ := h
  refine ⟨h1, ?_, h3, h4⟩
  split at h2
  · rename_i e; exact .inl e
  · rename_i e; exact .inr (.inl e)
  · rename_i e; exact .inr (.inr e)
  · cases h2
theorem gl_of {c : Ct} {τ : XK → Prop} {X : Cx} {y : Str} (g : XG T M prog w mg base j c τ X) (h : glC c y = true) : Gl X y ∧ (y == ("__debug__" : Str)) = false := by
  unfold glC at h
  simp only [Bool.and_eq_true, Bool.not_eq_true'] at h
  refine ⟨?_, h.2⟩
  show X.env.scope.names.lookup y = some .globalImplicit
  rw [g.sc]
  have h1 := h.1
  split at h1
  · assumption
  · cases h1
theorem loc_of {c : Ct} {i : Nat} {z : Str} (h : locC c i z = true) : c.N[i]? = some z ∧ Loc c.sc z ∧ (c.own z = true ∨ c.sc.names.lookup z = some .local) := by
  unfold locC at h
  simp only [Bool.and_eq_true, decide_eq_true_eq] at h
  obtain ⟨h1, h2⟩ := h
  refine ⟨h1, ?_⟩
  split at h2
  · rename_i e; exact ⟨.inl e, .inr e⟩
  · rename_i e; exact ⟨.inr e, .inl h2⟩
  · cases h2
theorem isTrue_of {x : Expr} (h : plainT x = true) (env : Env) (whole : Sem Value) : PySem.isTrue x env whole = (do let v ← whole; standAt x.pos; holding [v] (truthy v)) := by
  cases x with
  | UnaryOp op a p => cases op <;> first | (simp [plainT] at h; done) | rfl
  | BoolOp _ _ _ => simp [plainT] at h
  | IfExp _ _ _ _ => simp [plainT] at h
  | Compare _ _ _ _ => simp [plainT] at h
  | _ => rfl
theorem base_of {x : Expr} {f : Str} (h : plainB x = true) (env : Env) : attributeBase x f env (eval x env) = eval x env := by
  cases x with
  | Call fn args kws p =>
    cases fn with
    | Name id p2 =>
      cases args with
      | nil =>
        cases kws with
        | nil => simp [plainB] at h
        | cons _ _ => rfl
      | cons _ _ => rfl
    | _ => rfl
  | _ => rfl
theorem ix_of {x : Expr} (h : notSlice x = true) : PlainIx x := by
  intro o i
  cases x with
  | Slice _ _ _ _ => simp [notSlice] at h
  | _ => rfl
theorem set_of {x : Expr} (h : notSet x = true) (env : Env) (v : Value) : foldedSetIterable x env v = pure v := by
  cases x with
  | Set _ _ _ => simp [notSet] at h
  | _ => rfl
mutual
theorem tg_ok : ∀ (t : Mx.T) {c : Ct} {τ : XK → Prop} {X : Cx} {x : Expr}, XG T M prog w mg base j c τ X → okT t c x = true → PG X x (rdG M t)
  | .nm i, c, τ, X, .Name z p, g, h => by
    simp only [okT] at h
    obtain ⟨h1, h2, h3⟩ := loc_of h
    exact g_nm g h1 h2 h3
  | .tp ts, c, τ, X, .Tuple es k p, g, h => by
    simp only [okT, Bool.and_eq_true, decide_eq_true_eq] at h
    exact g_tp g h.1.1 h.1.2 (tgs_ok ts g h.2)
  | .nil, _, _, _, _, _, h => by simp [okT] at h
  | .cons _ _, _, _, _, _, _, h => by simp [okT] at h
theorem tgs_ok : ∀ (t : Mx.T) {c : Ct} {τ : XK → Prop} {X : Cx} {xs : List Expr}, XG T M prog w mg base j c τ X → okTs t c xs = true → PGs X xs (rdGs M t)
  | .nil, _, _, _, [], g, h => g_nil
  | .cons t r, c, τ, X, x :: es, g, h => by
    simp only [okTs, Bool.and_eq_true] at h
    exact g_cons h.1.1 (tg_ok t g h.1.2) (tgs_ok r g h.2)
  | .nm _, _, _, _, _, _, h => by simp [okTs] at h
  | .tp _, _, _, _, _, _, h => by simp [okTs] at h
end
theorem k_ok {c : Ct} {τ : XK → Prop} {X : Cx} {d : D} {x : Expr} (g : XG T M prog w mg base j c τ X) (h : okK d x = true) : PE X x (rdE τ M T.pg F (.k d)) ∧ plainT x = true := by
  unfold okK at h
  split at h
  · exact ⟨r_k pe_non fun _ _ _ => .non, rfl⟩
  · rw [eq_of_beq h]; exact ⟨r_k pe_bl fun _ _ _ => .bl _, rfl⟩
  · rw [of_decide_eq_true h]; exact ⟨r_k pe_int fun _ _ _ => .int _, rfl⟩
  · rw [of_decide_eq_true h]; exact ⟨r_k pe_str fun _ _ _ => .str _, rfl⟩
  · cases h
theorem rest_ok {X : Cx} {op : BoolOp} {pos : Pos} {x1 : Expr} {es : List Expr} {te : TE} {tt : TT} (p : PE X (restE op pos (x1 :: es)) te) (q : PT X (restE op pos (x1 :: es)) tt) : PE X (.BoolOp op (x1 :: es) pos) te ∧ PT X (.BoolOp op (x1 :: es) pos) tt := by
  cases es with
  | nil => exact ⟨e_one p, t_one q⟩
  | cons y ys => exact ⟨p, q⟩
/-- what is shown of a piece of the machine's syntax -/
structure Snd (T : Tb) (M : Rl) (prog : Program) (w : World) (mg : Str → Option Value) (base : Heap) (j : Nat) (F : Ph) (s : E) : Prop where
  e : ∀ c τ X x, XG T M prog w mg base j c τ X → okE T s c x = true → PE X x (rdE τ M T.pg F s) ∧ PT X x (rdT τ M T.pg F s)
  es : ∀ c τ X xs, XG T M prog w mg base j c τ X → okEs T s c xs = true → PA X xs (rdEs τ M T.pg F s)
  a : ∀ c τ X args kws, XG T M prog w mg base j c τ X → okA T s c args kws = true → PA X args (rdEs τ M T.pg F (E.tk args.length s)) ∧ PK X kws (rdEs τ M T.pg F (E.dp args.length s))
  o : ∀ c τ X x, XG T M prog w mg base j c τ X → okO T s c x = true → PO X x (rdO τ M T.pg F s)
  n : ∀ c τ X x, XG T M prog w mg base j c τ X → okN T s c x = true → PE X x (rdN τ M T.pg F s)
  cc : ∀ c xs, okC T s c xs = true → (s = .nil ∧ xs = []) ∨ ∃ q r q', s = .cons q r ∧ xs = [q'] ∧ ∀ τ X, XG T M prog w mg base j c τ X → PT X q' (rdT τ M T.pg F q)
  i : ∀ c τ X x tg, XG T M prog w mg base j c τ X → okI T s c x tg = true → PI X tg x (rdI τ M T.pg F s)
  lc : ∀ c τ X elt gens scope p i y py spos, XG T M prog w mg base j c τ X → okN T s c (.ListComp elt gens scope p) = true → c.N[i]? = some y → c.sc.names.lookup y = some .local → swapsWith (.ListComp elt gens scope p) (some (.Name y py)) spos.line X.env = pure true →
    PS X (.Assign [.Name y py] (.ListComp elt gens scope p) spos) (tAsg (rdN τ M T.pg F s) (gName i))
  hd : ∀ a r, s = .cons a r → ∀ c τ X x, XG T M prog w mg base j c τ X → okE T a c x = true → PE X x (rdE τ M T.pg F a) ∧ PT X x (rdT τ M T.pg F a)
/-- a value alone -/
theorem Snd.val {e : E} (h : ∀ c τ X x, XG T M prog w mg base j c τ X → okE T e c x = true → PE X x (rdE τ M T.pg F e) ∧ PT X x (rdT τ M T.pg F e)) (h1 : ∀ c xs, okEs T e c xs = false) (h2 : ∀ c xs ks, okA T e c xs ks = false) (h3 : ∀ c x, okO T e c x = false) (h4 : ∀ c x, okN T e c x = false) (h5 : ∀ c xs, okC T e c xs = false) (h6 : ∀ c x tg, okI T e c x tg = false) (h7 : ∀ a r, e ≠ .cons a r) :
    Snd T M prog w mg base j F e where
  e := h
  es := fun c _ _ xs _ q => by rw [h1] at q; cases q
  a := fun c _ _ xs ks _ q => by rw [h2] at q; cases q
  o := fun c _ _ x _ q => by rw [h3] at q; cases q
  n := fun c _ _ x _ q => by rw [h4] at q; cases q
  lc := fun c _ _ _ _ _ _ _ _ _ _ _ q => by rw [h4] at q; cases q
  cc := fun c xs q => by rw [h5] at q; cases q
  i := fun c _ _ x tg _ q => by rw [h6] at q; cases q
  hd := fun a r q => absurd q (h7 a r)
theorem Snd.new {e : E} (h : ∀ c τ X x, XG T M prog w mg base j c τ X → okN T e c x = true → PE X x (rdN τ M T.pg F e)) (h0 : ∀ c x, okE T e c x = false) (h1 : ∀ c xs, okEs T e c xs = false) (h2 : ∀ c xs ks, okA T e c xs ks = false) (h3 : ∀ c x, okO T e c x = false) (h5 : ∀ c xs, okC T e c xs = false) (h6 : ∀ c x tg, okI T e c x tg = false) (h7 : ∀ a r, e ≠ .cons a r)
    (h8 : ∀ c τ X elt gens scope p i y py spos, XG T M prog w mg base j c τ X → okN T e c (.ListComp elt gens scope p) = true → c.N[i]? = some y → c.sc.names.lookup y = some .local → swapsWith (.ListComp elt gens scope p) (some (.Name y py)) spos.line X.env = pure true →
      PS X (.Assign [.Name y py] (.ListComp elt gens scope p) spos) (tAsg (rdN τ M T.pg F e) (gName i))) :
    Snd T M prog w mg base j F e where
  e := fun c _ _ x _ q => by rw [h0] at q; cases q
  es := fun c _ _ xs _ q => by rw [h1] at q; cases q
  a := fun c _ _ xs ks _ q => by rw [h2] at q; cases q
  o := fun c _ _ x _ q => by rw [h3] at q; cases q
  n := h
  lc := h8
  cc := fun c xs q => by rw [h5] at q; cases q
  i := fun c _ _ x tg _ q => by rw [h6] at q; cases q
  hd := fun a r q => absurd q (h7 a r)
theorem Snd.it {e : E} (h : ∀ c τ X x tg, XG T M prog w mg base j c τ X → okI T e c x tg = true → PI X tg x (rdI τ M T.pg F e)) (h0 : ∀ c x, okE T e c x = false) (h1 : ∀ c xs, okEs T e c xs = false) (h2 : ∀ c xs ks, okA T e c xs ks = false) (h3 : ∀ c x, okO T e c x = false) (h4 : ∀ c x, okN T e c x = false) (h5 : ∀ c xs, okC T e c xs = false) (h7 : ∀ a r, e ≠ .cons a r) :
    Snd T M prog w mg base j F e where
  e := fun c _ _ x _ q => by rw [h0] at q; cases q
  es := fun c _ _ xs _ q => by rw [h1] at q; cases q
  a := fun c _ _ xs ks _ q => by rw [h2] at q; cases q
  o := fun c _ _ x _ q => by rw [h3] at q; cases q
  n := fun c _ _ x _ q => by rw [h4] at q; cases q
  lc := fun c _ _ _ _ _ _ _ _ _ _ _ q => by rw [h4] at q; cases q
  cc := fun c xs q => by rw [h5] at q; cases q
  i := h
  hd := fun a r q => absurd q (h7 a r)
local macro_rules | `(tactic| trivial) => `(tactic| (intros; first | (simp only [okE]; done) | (simp only [okEs]; done) | (simp only [okA]; done) | (simp only [okO]; done) | (simp only [okN]; done) | (simp only [okC]; done) | (simp only [okI]; done)))
theorem tst {c : Ct} {τ : XK → Prop} {X : Cx} {e : E} {x : Expr} (g : XG T M prog w mg base j c τ X) (hp : plainT x = true) (p : PE X x (rdE τ M T.pg F e)) : PE X x (rdE τ M T.pg F e) ∧ PT X x (rdT τ M T.pg F e) := ⟨p, rt_plain g p fun whole => isTrue_of hp X.env whole⟩
theorem pi_okW {c : Ct} {τ : XK → Prop} {X : Cx} {i : Nat} {tg x : Expr} {w0 : Dw} (g : XG T M prog w mg base j c τ X) (h : okW c i tg w0 x = true) : PI X tg x (tDw i w0) := by
  have var : ∀ {z : Str} {p : Pos}, visC c i z = true → PE X (.Name z p) (tVar i) := fun {z p} hv => by
    obtain ⟨a1, a2, a3, a4⟩ := vis_of hv
    exact pe_var (by rw [g.N]; exact a1) (by rw [g.sc]; exact a2) a3 a4
  cases w0 with
  | keys =>
    simp only [okW] at h
    split at h
    · exact pi_dwK (var h)
    · cases h
  | vals =>
    simp only [okW] at h
    split at h
    · simp only [Bool.and_eq_true, decide_eq_true_eq] at h
      obtain ⟨⟨rfl, h1⟩, h2⟩ := h
      exact pi_dwV (var h1) h2
    · cases h
  | items =>
    simp only [okW] at h
    split at h
    · simp only [Bool.and_eq_true, decide_eq_true_eq] at h
      obtain ⟨⟨⟨rfl, h1⟩, h2⟩, h3⟩ := h
      cases tg with
      | Tuple es k p => exact pi_dwI (var h1) h2
      | _ => simp [isTup] at h3
    · cases h
theorem m1_of {X : Cx} {o e : Expr} {y : Str} {apos cpos : Pos} (h1 : attributeBase o y X.env (eval o X.env) = eval o X.env) (h2 : (apos.endLine == cpos.line) = true) (h3 : plainE e = true) : M1 X o y apos e cpos :=
  ⟨h1, by rw [starEach_plain h3]; rfl, h2, by rw [starEach_plain h3]; rfl⟩
theorem m2_of {X : Cx} {o e f : Expr} {y : Str} {apos cpos : Pos} (h1 : attributeBase o y X.env (eval o X.env) = eval o X.env) (h2 : (apos.endLine == cpos.line) = true) (h3 : plainE e = true) (h4 : plainE f = true) : M2 X o y apos e f cpos :=
  ⟨h1, by rw [starEach_plain h3, starEach_plain h4]; rfl, h2, by rw [starEach_plain h3, starEach_plain h4]; rfl⟩
theorem expr_ok (W0 : Wd T M prog w mg base j F) (e : E) : Snd T M prog w mg base j F e := by
  induction e with
  | nil =>
    refine ⟨fun c _ _ x _ q => ?_, fun c τ X xs g h => ?_, fun c τ X xs ks g h => ?_, fun c τ X x g h => ?_, fun c _ _ x _ q => ?_, fun c xs q => ?_, fun c _ _ x tg _ q => ?_, fun c _ _ _ _ _ _ _ _ _ _ _ q => ?_, fun a0 r0 q c τ X x g h => ?_⟩
    · simp [okE] at q
    · cases xs with
      | nil => exact r_es0
      | cons _ _ => simp [okEs] at h
    · cases xs with
      | nil =>
        cases ks with
        | nil => exact ⟨r_es0, k_nil⟩
        | cons _ _ => simp [okA] at h
      | cons _ _ => simp [okA] at h
    · cases x with
      | none => exact r_o0
      | some _ => simp [okO] at h
    · simp [okN] at q
    · cases xs with
      | nil => exact .inl ⟨rfl, rfl⟩
      | cons _ _ => simp [okC] at q
    · simp [okI] at q
    · simp [okN] at q
    · cases q
  | cons a r iha ihr =>
    refine ⟨fun c _ _ x _ q => ?_, fun c τ X xs g h => ?_, fun c τ X xs ks g h => ?_, fun c τ X x g h => ?_, fun c _ _ x _ q => ?_, fun c xs q => ?_, fun c _ _ x tg _ q => ?_, fun c _ _ _ _ _ _ _ _ _ _ _ q => ?_, fun a0 r0 q c τ X x g h => ?_⟩
    · simp [okE] at q
    · cases xs with
      | nil => simp [okEs] at h
      | cons x xs =>
        simp only [okEs, Bool.and_eq_true] at h
        exact r_es1 h.1.1 (iha.e c τ X x g h.1.2).1 (ihr.es c τ X xs g h.2)
    · cases xs with
      | nil =>
        cases ks with
        | nil => simp [okA] at h
        | cons k ks =>
          obtain ⟨nm, x, kp⟩ := k
          simp only [okA, Bool.and_eq_true] at h
          have q := ihr.a c τ X [] ks g h.2
          refine ⟨?_, ?_⟩
          · exact r_es0
          · exact k_cons (iha.e c τ X x g h.1).1 q.2
      | cons x xs =>
        simp only [okA, Bool.and_eq_true] at h
        have q := ihr.a c τ X xs ks g h.2
        exact ⟨r_es1 h.1.1 (iha.e c τ X x g h.1.2).1 q.1, q.2⟩
    · cases x with
      | none => simp [okO] at h
      | some x =>
        simp only [okO] at h
        exact r_o1 (iha.e c τ X x g h).1
    · simp [okN] at q
    · match xs, q with
      | [], q => simp [okC] at q
      | [x], q =>
        simp only [okC] at q
        exact .inr ⟨a, r, x, rfl, rfl, fun τ X g => (iha.e c τ X x g q).2⟩
      | _ :: _ :: _, q => simp [okC] at q
    · simp [okI] at q
    · simp [okN] at q
    · cases q; exact iha.e c τ X x g h
  | k d =>
    refine Snd.val (fun c τ X x g h => ?_) (by trivial) (by trivial) (by trivial) (by trivial) (by trivial) (by trivial) (fun _ _ => nofun)
    simp only [okE] at h
    obtain ⟨p, q⟩ := k_ok (F := F) g h
    exact tst g q p
  | v i =>
    refine Snd.val (fun c τ X x g h => ?_) (by trivial) (by trivial) (by trivial) (by trivial) (by trivial) (by trivial) (fun _ _ => nofun)
    simp only [okE] at h
    split at h
    · obtain ⟨h1, h2, h3, h4⟩ := vis_of h
      exact tst g rfl (r_v g h1 h2 h3 h4)
    · cases h
  | g y d =>
    refine Snd.val (fun c τ X x g h => ?_) (by trivial) (by trivial) (by trivial) (by trivial) (by trivial) (by trivial) (fun _ _ => nofun)
    simp only [okE] at h
    split at h
    · simp only [Bool.and_eq_true, decide_eq_true_eq, List.any_eq_true] at h
      obtain ⟨⟨rfl, h2⟩, p, hp, h3, h4⟩ := h
      obtain ⟨u, v, e1, e2, e3⟩ := W0.cst p hp
      have e4 := sameK_ok h4
      obtain ⟨g1, g2⟩ := gl_of g h2
      exact tst g rfl (r_g (pe_glob g1 (by rw [g.mg, ← h3]; exact e1) e2 g2) (by rw [← e4]; exact e3))
    · cases h
  | bin o a b iha ihb =>
    refine Snd.val (fun c τ X x g h => ?_) (by trivial) (by trivial) (by trivial) (by trivial) (by trivial) (by trivial) (fun _ _ => nofun)
    simp only [okE] at h
    split at h
    · simp only [Bool.and_eq_true, decide_eq_true_eq] at h
      obtain ⟨⟨rfl, h2⟩, h3⟩ := h
      exact tst g rfl (r_bin o g (iha.e _ _ _ _ g h2).1 (ihb.e _ _ _ _ g h3).1)
    · cases h
  | neg a iha =>
    refine Snd.val (fun c τ X x g h => ?_) (by trivial) (by trivial) (by trivial) (by trivial) (by trivial) (by trivial) (fun _ _ => nofun)
    simp only [okE] at h
    split at h
    · exact tst g rfl (r_neg g (iha.e _ _ _ _ g h).1)
    · cases h
  | cmp o a b iha ihb =>
    refine Snd.val (fun c τ X x g h => ?_) (by trivial) (by trivial) (by trivial) (by trivial) (by trivial) (by trivial) (fun _ _ => nofun)
    simp only [okE] at h
    split at h
    · simp only [Bool.and_eq_true, decide_eq_true_eq, Bool.not_eq_true'] at h
      obtain ⟨⟨⟨rfl, h1⟩, h2⟩, h3⟩ := h
      exact r_cmp o g h1 (iha.e _ _ _ _ g h2).1 (ihb.e _ _ _ _ g h3).1
    · cases h
  | ch o p a b d iha ihb ihd =>
    refine Snd.val (fun c τ X x g h => ?_) (by trivial) (by trivial) (by trivial) (by trivial) (by trivial) (by trivial) (fun _ _ => nofun)
    simp only [okE] at h
    split at h
    · simp only [Bool.and_eq_true, decide_eq_true_eq, Bool.not_eq_true'] at h
      obtain ⟨⟨⟨⟨⟨rfl, rfl⟩, h1⟩, h2⟩, h3⟩, h4⟩ := h
      exact r_ch o p g h1 (iha.e _ _ _ _ g h2).1 (ihb.e _ _ _ _ g h3).1 (ihd.e _ _ _ _ g h4).1
    · cases h
  | and_ a b iha ihb =>
    refine Snd.val (fun c τ X x g h => ?_) (by trivial) (by trivial) (by trivial) (by trivial) (by trivial) (by trivial) (fun _ _ => nofun)
    simp only [okE] at h
    split at h
    · simp only [Bool.and_eq_true] at h
      have p := iha.e _ _ _ _ g h.1
      have q := ihb.e _ _ _ _ g h.2
      have r := rest_ok q.1 q.2
      exact ⟨r_and g p.1 r.1, t_and g p.2 r.2⟩
    · cases h
  | or_ a b iha ihb =>
    refine Snd.val (fun c τ X x g h => ?_) (by trivial) (by trivial) (by trivial) (by trivial) (by trivial) (by trivial) (fun _ _ => nofun)
    simp only [okE] at h
    split at h
    · simp only [Bool.and_eq_true] at h
      have p := iha.e _ _ _ _ g h.1
      have q := ihb.e _ _ _ _ g h.2
      have r := rest_ok q.1 q.2
      exact ⟨r_or g p.1 r.1, t_or g p.2 r.2⟩
    · cases h
  | not_ a iha =>
    refine Snd.val (fun c τ X x g h => ?_) (by trivial) (by trivial) (by trivial) (by trivial) (by trivial) (by trivial) (fun _ _ => nofun)
    simp only [okE] at h
    split at h
    · have p := iha.e _ _ _ _ g h
      exact ⟨r_not g p.1, t_not g p.2⟩
    · cases h
  | ite e a b ihe iha ihb =>
    refine Snd.val (fun c τ X x g h => ?_) (by trivial) (by trivial) (by trivial) (by trivial) (by trivial) (by trivial) (fun _ _ => nofun)
    simp only [okE] at h
    split at h
    · simp only [Bool.and_eq_true] at h
      have p := ihe.e _ _ _ _ g h.1.1
      have q := iha.e _ _ _ _ g h.1.2
      have r := ihb.e _ _ _ _ g h.2
      exact ⟨r_ite g p.2 q.1 r.1, t_ite g p.2 q.2 r.2⟩
    · cases h
  | tup es ih =>
    refine Snd.val (fun c τ X x g h => ?_) (by trivial) (by trivial) (by trivial) (by trivial) (by trivial) (by trivial) (fun _ _ => nofun)
    simp only [okE] at h
    split at h
    · exact tst g rfl (r_tup (ih.es _ _ _ _ g h))
    · cases h
  | nl m e ih =>
    refine Snd.val (fun c τ X x g h => ?_) (by trivial) (by trivial) (by trivial) (by trivial) (by trivial) (by trivial) (fun _ _ => nofun)
    simp only [okE] at h
    simp only [Bool.and_eq_true] at h
    exact tst g h.1 (r_nl (ih.n _ _ _ _ g h.2))
  | dis es ih =>
    refine Snd.new (fun c τ X x g h => ?_) (by trivial) (by trivial) (by trivial) (by trivial) (by trivial) (by trivial) (fun _ _ => nofun) (fun c τ X elt gens scope p i y py spos g h hy hyl hsw => ?_)
    · simp only [okN] at h
      split at h
      · exact n_dis (ih.es _ _ _ _ g h)
      · cases h
    · simp [okN] at h
  | lcat a b iha ihb =>
    refine Snd.new (fun c τ X x g h => ?_) (by trivial) (by trivial) (by trivial) (by trivial) (by trivial) (by trivial) (fun _ _ => nofun) (fun c τ X elt gens scope p i y py spos g h hy hyl hsw => ?_)
    · simp only [okN] at h
      split at h
      · simp only [Bool.and_eq_true] at h
        exact n_lcat (iha.e _ _ _ _ g h.1).1 (ihb.e _ _ _ _ g h.2).1
      · cases h
    · simp [okN] at h
  | lrep a b iha ihb =>
    refine Snd.new (fun c τ X x g h => ?_) (by trivial) (by trivial) (by trivial) (by trivial) (by trivial) (by trivial) (fun _ _ => nofun) (fun c τ X elt gens scope p i y py spos g h hy hyl hsw => ?_)
    · simp only [okN] at h
      split at h
      · simp only [Bool.and_eq_true] at h
        exact n_lrep (iha.e _ _ _ _ g h.1).1 (ihb.e _ _ _ _ g h.2).1
      · cases h
    · simp [okN] at h
  | lof a iha =>
    refine Snd.new (fun c τ X x g h => ?_) (by trivial) (by trivial) (by trivial) (by trivial) (by trivial) (by trivial) (fun _ _ => nofun) (fun c τ X elt gens scope p i y py spos g h hy hyl hsw => ?_)
    · simp only [okN] at h
      split at h
      · simp only [Bool.and_eq_true, decide_eq_true_eq] at h
        obtain ⟨⟨⟨rfl, h1⟩, h2⟩, h3⟩ := h
        exact n_lof (W0 := W0) g (gl_of g h1).1 h2 (iha.e _ _ _ _ g h3).1
      · cases h
    · simp [okN] at h
  | srt rev a iha =>
    refine Snd.new (fun c τ X x g h => ?_) (by trivial) (by trivial) (by trivial) (by trivial) (by trivial) (by trivial) (fun _ _ => nofun) (fun c τ X elt gens scope p i y py spos g h hy hyl hsw => ?_)
    · simp only [okN] at h
      split at h
      · simp only [Bool.and_eq_true, decide_eq_true_eq] at h
        obtain ⟨⟨⟨⟨rfl, rfl⟩, h1⟩, h2⟩, h3⟩ := h
        exact n_srt (W0 := W0) g (gl_of g h1).1 h2 (iha.e _ _ _ _ g h3).1
      · simp only [Bool.and_eq_true, decide_eq_true_eq] at h
        obtain ⟨⟨⟨⟨⟨rfl, rfl⟩, rfl⟩, h1⟩, h2⟩, h3⟩ := h
        exact n_srtR (W0 := W0) g (gl_of g h1).1 h2 (iha.e _ _ _ _ g h3).1
      · cases h
    · simp [okN] at h
  | srtS a iha =>
    refine Snd.new (fun c τ X x g h => ?_) (by trivial) (by trivial) (by trivial) (by trivial) (by trivial) (by trivial) (fun _ _ => nofun) (fun c τ X elt gens scope p i y py spos g h hy hyl hsw => ?_)
    · simp only [okN] at h
      split at h
      · simp only [Bool.and_eq_true, decide_eq_true_eq] at h
        obtain ⟨⟨⟨⟨⟨rfl, h1⟩, rfl⟩, h2⟩, h3⟩, h4⟩ := h
        exact n_srtS (W0 := W0) g (gl_of g h1).1 (gl_of g h2).1 h3 (iha.e _ _ _ _ g h4).1
      · cases h
    · simp [okN] at h
  | srtV a iha =>
    refine Snd.new (fun c τ X x g h => ?_) (by trivial) (by trivial) (by trivial) (by trivial) (by trivial) (by trivial) (fun _ _ => nofun) (fun c τ X elt gens scope p i y py spos g h hy hyl hsw => ?_)
    · simp only [okN] at h
      split at h
      · simp only [Bool.and_eq_true, decide_eq_true_eq] at h
        obtain ⟨⟨⟨⟨⟨rfl, h1⟩, rfl⟩, h2⟩, h3⟩, h4⟩ := h
        exact n_srtV (W0 := W0) g (gl_of g h1).1 (base_of h2 _) h3 (iha.e _ _ _ _ g h4).1
      · cases h
    · simp [okN] at h
  | lsl a lo hi iha ihl ihh =>
    refine Snd.new (fun c τ X x g h => ?_) (by trivial) (by trivial) (by trivial) (by trivial) (by trivial) (by trivial) (fun _ _ => nofun) (fun c τ X elt gens scope p i y py spos g h hy hyl hsw => ?_)
    · simp only [okN] at h
      split at h
      · simp only [Bool.and_eq_true] at h
        exact n_lsl g (iha.e _ _ _ _ g h.1.1).1 (ihl.o _ _ _ _ g h.1.2) (ihh.o _ _ _ _ g h.2)
      · cases h
    · simp [okN] at h
  | lrv a iha =>
    refine Snd.new (fun c τ X x g h => ?_) (by trivial) (by trivial) (by trivial) (by trivial) (by trivial) (by trivial) (fun _ _ => nofun) (fun c τ X elt gens scope p i y py spos g h hy hyl hsw => ?_)
    · simp only [okN] at h
      split at h
      · simp only [Bool.and_eq_true, decide_eq_true_eq] at h
        obtain ⟨rfl, h2⟩ := h
        exact n_lrv g (iha.e _ _ _ _ g h2).1
      · cases h
    · simp [okN] at h
  | compD dw ws t k cnd e ihc ihe =>
    refine Snd.new (fun c τ X x g h => ?_) (by trivial) (by trivial) (by trivial) (by trivial) (by trivial) (by trivial) (fun _ _ => nofun) (fun c τ X elt gens scope p i y py spos g h hy hyl hsw => ?_)
    · simp only [okN] at h
      split at h
      · simp only [Bool.and_eq_true, decide_eq_true_eq, List.all_eq_true] at h
        obtain ⟨⟨⟨⟨⟨⟨⟨⟨rfl, h1⟩, h2⟩, h3⟩, h4⟩, h5⟩, h6⟩, h7⟩, h8⟩ := h
        refine n_compD g (pi_okW g h2) (blkOk_by h8) (by rw [List.map_map]; exact List.map_id' _) (fun i hi => by simpa using h6 i hi) (fun X' g' => tg_ok t g' h3) ?_ (fun X' g' => (ihe.e _ _ _ _ g' h5).1) (set_of h1 _)
        rcases ihc.cc _ _ h4 with ⟨e1, e2⟩ | ⟨q, r, q', e1, e2, e3⟩
        · exact .inl ⟨e1, e2⟩
        · exact .inr ⟨q, r, q', e1, e2, fun X' g' => e3 _ _ g'⟩
      · cases h
    · simp only [okN] at h
      split at h
      · rename_i e0
        cases e0
        simp only [Bool.and_eq_true, decide_eq_true_eq, List.all_eq_true] at h
        obtain ⟨⟨⟨⟨⟨⟨⟨⟨rfl, h1⟩, h2⟩, h3⟩, h4⟩, h5⟩, h6⟩, h7⟩, h8⟩ := h
        refine n_compDS g (pi_okW g h2) (blkOk_by h8) (by rw [List.map_map]; exact List.map_id' _) (fun i hi => by simpa using h6 i hi) (fun X' g' => tg_ok t g' h3) ?_ (fun X' g' => (ihe.e _ _ _ _ g' h5).1) (set_of h1 _) hy hyl hsw
        rcases ihc.cc _ _ h4 with ⟨e1, e2⟩ | ⟨q, r, q', e1, e2, e3⟩
        · exact .inl ⟨e1, e2⟩
        · exact .inr ⟨q, r, q', e1, e2, fun X' g' => e3 _ _ g'⟩
      · cases h
  | comp ws t it cnd e ihi ihc ihe =>
    refine Snd.new (fun c τ X x g h => ?_) (by trivial) (by trivial) (by trivial) (by trivial) (by trivial) (by trivial) (fun _ _ => nofun) (fun c τ X elt gens scope p i y py spos g h hy hyl hsw => ?_)
    · simp only [okN] at h
      split at h
      · simp only [Bool.and_eq_true, decide_eq_true_eq, List.all_eq_true] at h
        obtain ⟨⟨⟨⟨⟨⟨⟨⟨rfl, h1⟩, h2⟩, h3⟩, h4⟩, h5⟩, h6⟩, h7⟩, h8⟩ := h
        refine n_comp g (ihi.i _ _ _ _ _ g h2) (blkOk_by h8) (by rw [List.map_map]; exact List.map_id' _) (fun i hi => by simpa using h6 i hi) (fun X' g' => tg_ok t g' h3) ?_ (fun X' g' => (ihe.e _ _ _ _ g' h5).1) (set_of h1 _)
        rcases ihc.cc _ _ h4 with ⟨e1, e2⟩ | ⟨q, r, q', e1, e2, e3⟩
        · exact .inl ⟨e1, e2⟩
        · exact .inr ⟨q, r, q', e1, e2, fun X' g' => e3 _ _ g'⟩
      · cases h
    · simp only [okN] at h
      split at h
      · rename_i e0
        cases e0
        simp only [Bool.and_eq_true, decide_eq_true_eq, List.all_eq_true] at h
        obtain ⟨⟨⟨⟨⟨⟨⟨⟨rfl, h1⟩, h2⟩, h3⟩, h4⟩, h5⟩, h6⟩, h7⟩, h8⟩ := h
        refine n_compS g (ihi.i _ _ _ _ _ g h2) (blkOk_by h8) (by rw [List.map_map]; exact List.map_id' _) (fun i hi => by simpa using h6 i hi) (fun X' g' => tg_ok t g' h3) ?_ (fun X' g' => (ihe.e _ _ _ _ g' h5).1) (set_of h1 _) hy hyl hsw
        rcases ihc.cc _ _ h4 with ⟨e1, e2⟩ | ⟨q, r, q', e1, e2, e3⟩
        · exact .inl ⟨e1, e2⟩
        · exact .inr ⟨q, r, q', e1, e2, fun X' g' => e3 _ _ g'⟩
      · cases h
  | ix a i iha ihi =>
    refine Snd.val (fun c τ X x g h => ?_) (by trivial) (by trivial) (by trivial) (by trivial) (by trivial) (by trivial) (fun _ _ => nofun)
    simp only [okE] at h
    split at h
    · simp only [Bool.and_eq_true] at h
      exact tst g rfl (r_ix g (ix_of h.1.1) (iha.e _ _ _ _ g h.1.2).1 (ihi.e _ _ _ _ g h.2).1)
    · cases h
  | sl a lo hi iha ihl ihh =>
    refine Snd.val (fun c τ X x g h => ?_) (by trivial) (by trivial) (by trivial) (by trivial) (by trivial) (by trivial) (fun _ _ => nofun)
    simp only [okE] at h
    split at h
    · simp only [Bool.and_eq_true] at h
      exact tst g rfl (r_sl g (sl_whole _ rfl) (iha.e _ _ _ _ g h.1.1).1 (ihl.o _ _ _ _ g h.1.2) (ihh.o _ _ _ _ g h.2))
    · cases h
  | fld cs a f iha =>
    refine Snd.val (fun c τ X x g h => ?_) (by trivial) (by trivial) (by trivial) (by trivial) (by trivial) (by trivial) (fun _ _ => nofun)
    simp only [okE] at h
    split at h
    · simp only [Bool.and_eq_true, List.all_eq_true, decide_eq_true_eq] at h
      exact tst g rfl (r_fld (W0 := W0) g (fun k hk => h.1.2 k hk) (base_of h.1.1 _) (iha.e _ _ _ _ g h.2).1)
    · cases h
  | call s fr es ih =>
    refine Snd.val (fun c τ X x g h => ?_) (by trivial) (by trivial) (by trivial) (by trivial) (by trivial) (by trivial) (fun _ _ => nofun)
    simp only [okE] at h
    split at h
    · split at h
      · rename_i sg hs
        simp only [Bool.and_eq_true, decide_eq_true_eq] at h
        obtain ⟨⟨⟨⟨⟨⟨⟨⟨rfl, h1⟩, h2⟩, h3⟩, h4⟩, h5⟩, h6⟩, h7⟩, h8⟩ := h
        obtain ⟨g1, g2⟩ := gl_of g h1
        have q := ih.a _ _ _ _ _ g h8
        rw [h2] at q
        exact tst g rfl (r_call (W0 := W0) g hs h5 h2 h3 h4 g1 g2 h7 h6 q.1 q.2)
      · cases h
    · cases h
  | mk s es ih =>
    refine Snd.val (fun c τ X x g h => ?_) (by trivial) (by trivial) (by trivial) (by trivial) (by trivial) (by trivial) (fun _ _ => nofun)
    simp only [okE] at h
    split at h
    · split at h
      · rename_i k sg hs
        simp only [Bool.and_eq_true, decide_eq_true_eq] at h
        obtain ⟨⟨⟨⟨⟨⟨⟨⟨rfl, h1⟩, h2⟩, h3⟩, h4⟩, h5⟩, h6⟩, h7⟩, h8⟩ := h
        obtain ⟨g1, g2⟩ := gl_of g h1
        have q := ih.a _ _ _ _ _ g h8
        rw [h2] at q
        exact tst g rfl (r_mk (W0 := W0) g hs h5 h2 h3 h4 g1 g2 h7 h6 q.1 q.2)
      · cases h
    · cases h
  | bi b es ih =>
    refine Snd.val (fun c τ X x g h => ?_) (by trivial) (by trivial) (by trivial) (by trivial) (by trivial) (by trivial) (fun _ _ => nofun)
    simp only [okE] at h
    split at h
    · simp only [Bool.and_eq_true, decide_eq_true_eq] at h
      obtain ⟨⟨⟨⟨h0, rfl⟩, h1⟩, h2⟩, h3⟩ := h
      exact tst g rfl (r_bi (W0 := W0) g b h0 (gl_of g h1).1 (by rw [List.all_cons, h2]; rfl) (ih.es _ _ _ _ g h3))
    · split at h
      · rename_i h0
        simp only [Bool.and_eq_true, decide_eq_true_eq] at h
        obtain ⟨⟨⟨⟨rfl, h1⟩, h2⟩, h2'⟩, h3⟩ := h
        exact tst g rfl (r_bi (W0 := W0) g b h0 (gl_of g h1).1 (by rw [List.all_cons, List.all_cons, h2, h2']; rfl) (ih.es _ _ _ _ g h3))
      · rename_i q _ _
        simp only [Bool.and_eq_true, decide_eq_true_eq] at h
        obtain ⟨⟨⟨⟨⟨⟨rfl, h1⟩, h2⟩, h3⟩, h4⟩, h5⟩, h6⟩ := h
        refine tst g rfl ?_
        cases es with
        | cons a r =>
          cases r with
          | nil =>
            simp only [okEs, Bool.and_eq_true] at h6
            have pa := (ih.hd a .nil rfl _ _ _ _ g h6.1.2).1
            have hk : ∀ k, b = .isCls k → M.ok k := fun k e => by
              subst e
              exact W0.okc k (by simpa [isCl] using h4)
            cases q with
            | Name z p2 =>
              obtain ⟨g1, g2⟩ := gl_of g h5
              exact r_isa (W0 := W0) g b h3 hk (gl_of g h1).1 g1 g2 h2 pa
            | Tuple es2 k0 p3 =>
              cases b with
              | isSeq =>
                match es2, h3, h5 with
                | [.Name z p1, .Name y p2], h3, h5 =>
                  simp only [okCls, Bool.and_eq_true, decide_eq_true_eq] at h3
                  simp only [okQ, Bool.and_eq_true] at h5
                  obtain ⟨rfl, rfl⟩ := h3
                  exact r_isS (W0 := W0) g (gl_of g h1).1 (gl_of g h5.1).1 (gl_of g h5.2).1 h2 pa
                | [], h3, _ => simp [okCls] at h3
                | [_], h3, _ => simp [okCls] at h3
                | _ :: _ :: _ :: _, h3, _ => simp [okCls] at h3
              | _ => simp [okCls] at h3
            | _ => simp [okQ] at h5
          | _ => simp [okEs] at h6
        | _ => simp [okEs] at h6
    · cases h
  | nd tk =>
    refine Snd.val (fun c τ X x g h => ?_) (by trivial) (by trivial) (by trivial) (by trivial) (by trivial) (by trivial) (fun _ _ => nofun)
    simp only [okE] at h
    split at h
    · exact tst g rfl (r_nd tk)
    · cases h
  | dm m o a b iho iha ihb =>
    refine Snd.val (fun c τ X x g h => ?_) (by trivial) (by trivial) (by trivial) (by trivial) (by trivial) (by trivial) (fun _ _ => nofun)
    simp only [okE] at h
    split at h
    · simp only [Bool.and_eq_true, decide_eq_true_eq] at h
      obtain ⟨⟨⟨⟨⟨⟨hm, rfl⟩, h1⟩, h2⟩, h3⟩, h4⟩, h5⟩ := h
      refine tst g rfl ?_
      have m1 := m1_of (X := X) (y := dname m) (base_of h1 _) h2 h3
      cases m with
      | get1 => exact r_dmG1 g m1 (iho.e _ _ _ _ g h4).1 (iha.e _ _ _ _ g h5).1
      | pop1 => exact r_dmP1 g m1 (iho.e _ _ _ _ g h4).1 (iha.e _ _ _ _ g h5).1
      | get2 => exact absurd rfl hm
    · simp only [Bool.and_eq_true, decide_eq_true_eq] at h
      obtain ⟨⟨⟨⟨⟨⟨⟨⟨rfl, rfl⟩, h1⟩, h2⟩, h3⟩, h4⟩, h5⟩, h6⟩, h7⟩ := h
      refine tst g rfl ?_
      exact r_dmG2 g (m2_of (base_of h1 _) h2 h3 h4) (iho.e _ _ _ _ g h5).1 (iha.e _ _ _ _ g h6).1 (ihb.e _ _ _ _ g h7).1
    · cases h
  | join a b iha ihb =>
    refine Snd.val (fun c τ X x g h => ?_) (by trivial) (by trivial) (by trivial) (by trivial) (by trivial) (by trivial) (fun _ _ => nofun)
    simp only [okE] at h
    split at h
    · simp only [Bool.and_eq_true, decide_eq_true_eq] at h
      obtain ⟨⟨⟨⟨⟨rfl, h1⟩, h2⟩, h3⟩, h4⟩, h5⟩ := h
      refine tst g rfl ?_
      exact r_join g (base_of h1 _) h2 h3 (iha.e _ _ _ _ g h4).1 (ihb.e _ _ _ _ g h5).1
    · cases h
  | mt m o es iho ih =>
    refine Snd.val (fun c τ X x g h => ?_) (by trivial) (by trivial) (by trivial) (by trivial) (by trivial) (by trivial) (fun _ _ => nofun)
    simp only [okE] at h
    split at h
    · rename_i o' y apos args pos
      simp only [Bool.and_eq_true, decide_eq_true_eq] at h
      obtain ⟨⟨⟨⟨⟨⟨⟨rfl, h1⟩, h2⟩, h3⟩, h4⟩, h5⟩, h6⟩, h7⟩ := h
      refine tst g rfl ?_
      cases args with
      | nil =>
        have e : m = .pop0 := by simpa using h5
        subst e
        cases es with
        | nil => exact r_mt0 g (base_of h1 _) h2 (iho.e _ _ _ _ g h6).1
        | _ => simp [okEs] at h7
      | cons x xs => exact r_mt g m (base_of h1 _) h2 h3 (by simp at h4; omega) (iho.e _ _ _ _ g h6).1 (ih.es _ _ _ _ g h7)
    · cases h
  | iSeq a iha =>
    refine Snd.it (fun c τ X x tg g h => ?_) (by trivial) (by trivial) (by trivial) (by trivial) (by trivial) (by trivial) (fun _ _ => nofun)
    simp only [okI] at h
    exact i_seq g (iha.e _ _ _ _ g h).1
  | iRg1 a iha =>
    refine Snd.it (fun c τ X x tg g h => ?_) (by trivial) (by trivial) (by trivial) (by trivial) (by trivial) (by trivial) (fun _ _ => nofun)
    simp only [okI] at h
    split at h
    · simp only [Bool.and_eq_true, decide_eq_true_eq] at h
      obtain ⟨⟨⟨rfl, h1⟩, h2⟩, h3⟩ := h
      exact i_rg1 (W0 := W0) g (gl_of g h1).1 h2 (iha.e _ _ _ _ g h3).1
    · cases h
  | iRg2 a b iha ihb =>
    refine Snd.it (fun c τ X x tg g h => ?_) (by trivial) (by trivial) (by trivial) (by trivial) (by trivial) (by trivial) (fun _ _ => nofun)
    simp only [okI] at h
    split at h
    · simp only [Bool.and_eq_true, decide_eq_true_eq] at h
      obtain ⟨⟨⟨⟨⟨rfl, h1⟩, h2⟩, h2'⟩, h3⟩, h4⟩ := h
      exact i_rg2 (W0 := W0) g (gl_of g h1).1 h2 h2' (iha.e _ _ _ _ g h3).1 (ihb.e _ _ _ _ g h4).1
    · cases h
  | iEnum a iha =>
    refine Snd.it (fun c τ X x tg g h => ?_) (by trivial) (by trivial) (by trivial) (by trivial) (by trivial) (by trivial) (fun _ _ => nofun)
    simp only [okI] at h
    split at h
    · simp only [Bool.and_eq_true, decide_eq_true_eq] at h
      obtain ⟨⟨⟨⟨rfl, h1⟩, h2⟩, h2'⟩, h3⟩ := h
      cases tg with
      | Tuple elts kk tp => exact i_enum (W0 := W0) g (gl_of g h1).1 h2 (iha.e _ _ _ _ g h3).1
      | _ => simp [isTup] at h2'
    · cases h
end
end Mx
set_option Elab.async false
set_option linter.all false
set_option maxRecDepth 100000
set_option maxHeartbeats 4000000
namespace Mx
open PySem L2
/-! ### statements -/
/-- a context of a def's body -/
structure XS (T : Tb) (M : Rl) (prog : Program) (w : World) (mg : Str → Option Value) (base : Heap) (j : Nat) (c : Ct) (τ : XK → Prop) (X : Cx) : Prop extends XG T M prog w mg base j c τ X where
  po : PassesOwn (model X.prog X.w) X.A X.env X.xe
  kind : c.sc.kind = .function
  stk : X.stack = X.env :: X.outer
  frm : X.env.frame = some X.env.locals
  wo : ∃ Wo : WX, Takes X Wo ∧ ∀ W, τ W → ∀ c d σ H, σ.length = X.N.length → W c d H → Wo c d σ H
def PF (M : Rl) (D : Ends) : Fl → Hh → List Addr → Hp → Prop := fun fl _ ι' H' => match fl with
  | .nx m' => ∀ σ', EnR M ι' H' m' σ' → D.nx σ' H'
  | .rt d => ∀ v, Rp M ι' H' d v → D.rt v H'
  | .bk m' => ∀ σ', EnR M ι' H' m' σ' → D.bk σ' H'
  | .ct m' => ∀ σ', EnR M ι' H' m' σ' → D.ct σ' H'
def rdS (τ : XK → Prop) (M : Rl) (P : Pg) (F : Ph) (s : S) : TS := fun D σ H => ∃ ex W ι h m, τ W ∧ Sim (Mw M ex) ι h H ∧ EnR (Mw M ex) ι H m σ ∧ Po (Mw M ex) W ι H (evS P F s m h) (PF (Mw M ex) D)
/-! ### stores by values -/
section
variable {X : Cx} {M : Rl}
def iop : Bo → Operator := bop
theorem augD_ok (hK : X.K = M.K) (o : Bo) : PIp X (bop o) (rd2 M fun h => augD h o) := by
  intro pins s σ H x y v u Q I rx ry hh
  obtain ⟨W, ι, h, dx, dy, sim, r1, r2, po⟩ := hh
  have po : Po M W ι H (augD h o dx dy) (fun d _ ι' H' => ∀ v, Rp M ι' H' d v → Q v H') := po
  unfold augD at po
  split at po
  · cases r1.int_inv; cases r2.int_inv
    exact iop_add pins s σ H _ _ v u Q I rx ry ⟨_, _, rfl, rfl, po ι H sim.refl sim _ (.int _)⟩
  · cases r1.str_inv; cases r2.str_inv
    obtain ⟨hz, po⟩ := po.if_
    exact iop_add_str pins s σ H _ _ v u Q I rx ry ⟨_, _, rfl, rfl, by rw [line_eq]; exact hz, po ι H sim.refl sim _ (.str _)⟩
  · cases r1.int_inv; cases r2.int_inv
    exact iop_sub pins s σ H _ _ v u Q I rx ry ⟨_, _, rfl, rfl, po ι H sim.refl sim _ (.int _)⟩
  · cases r1.int_inv; cases r2.int_inv
    obtain ⟨hz, po⟩ := po.if_
    exact iop_mul pins s σ H _ _ v u Q I rx ry ⟨_, _, rfl, rfl, hz, po ι H sim.refl sim _ (.int _)⟩
  · cases r1.int_inv; cases r2.int_inv
    obtain ⟨hz, po⟩ := po.if_
    exact iop_fdiv pins s σ H _ _ v u Q I rx ry ⟨_, _, rfl, rfl, hz, po ι H sim.refl sim _ (.int _)⟩
  · cases r1.int_inv; cases r2.int_inv
    obtain ⟨hz, po⟩ := po.if_
    exact iop_mod pins s σ H _ _ v u Q I rx ry ⟨_, _, rfl, rfl, hz, po ι H sim.refl sim _ (.int _)⟩
  · exact False.elim po
def rdSet (M : Rl) : TSet := fun o i x H Q => ∃ (W : XK) (ι : List Addr) (h : Hh) (dO dI dx : D), Sim M ι h H ∧ Rp M ι H dO o ∧ Rp M ι H dI i ∧ Rp M ι H dx x ∧ Po M W ι H (setItemD h dO dI dx) (fun _ _ _ H' => Q H')
theorem setItem_ok (hu : X.A.units + 64 < cLine) : PSet X (rdSet M) := by
  intro pins s σ H o i v ov iv u Q I ro ri rv ⟨W, ι, h, dO, dI, dx, sim, r1, r2, r3, po⟩
  unfold setItemD at po
  split at po
  · split at po
    · rename_i xs e
      split at po
      · obtain ⟨k, ek, po⟩ := po.opt
        cases r2.int_inv
        obtain ⟨a, ws, rfl, ea, q, lx⟩ := sim.list r1 e
        obtain ⟨x1, s1⟩ := lst_set sim ea q (lx.set r3 k)
        exact set_list pins s σ H _ _ v ov iv u Q I ro ri rv ⟨a, ws, _, k, rfl, rfl, q, by rw [← lx.length]; exact ek, po ι _ x1 s1⟩
      · exact False.elim po
    · rename_i ks vs e
      obtain ⟨⟨hk, hz⟩, po⟩ := po.if_
      obtain ⟨a, rfl, ea⟩ := r1.ref_inv
      obtain ⟨kvs, hd, rfl, l⟩ := dct_at sim ea e
      obtain ⟨key, rfl, rfl⟩ := key_rp hk r2
      obtain ⟨x1, s1⟩ := dct_set sim ea hd (kvs' := putK kvs key v) putKs_rp (putVs_rp l r3)
      obtain rfl : ov = Value.ref a := ro
      rw [List.length_map] at hz
      exact d_setItem (A := X.A) (by omega) I (DPut.k hd (by rw [line_eq]; exact hz)) ri rv fun s' I' => ⟨_, I', po ι _ x1 s1⟩
    · exact False.elim po
  · exact False.elim po
def rGetL : V → V → Hp → VK → Prop := fun o i H Q => ∃ p xs k v, o = .ref p ∧ i = .int k ∧ H p = some (.lst xs) ∧ atI xs k = some v ∧ Q v H
theorem get_list : PGet X rGetL := by
  intro pins s σ H o i ov iv Q I ro ri h
  obtain ⟨p, xs, k, v, rfl, rfl, hp, he, q⟩ := h
  cases ro
  obtain ⟨t, rfl⟩ := ri
  obtain ⟨its, r, pl, hz⟩ := I.list (SqL.of hp)
  obtain ⟨j, h1, h2, h3, h4, h5⟩ := atI_get he
  obtain ⟨w, ew, rw'⟩ := r.get h2
  have hl := r.length
  have hn := line63
  have fin : EP X pins σ Q w s := ⟨v, H, I, rw', q⟩
  by_cases h0 : 0 ≤ k
  · have hj : k.toNat = j := by
      rw [seqIndex_of h0 h5] at h1
      exact Option.some.inj h1
    exact wpAny_mono (wpAny_getItem_list (Q := fun r s' => r = w ∧ EP X pins σ Q r s') pl.isList h0 (by omega) (by rw [hj]; simpa using ew) ⟨rfl, fin⟩) (fun _ _ z => z.2) fun _ _ z => z
  · have hj : (k + (its.toArray.size : Int)).toNat = j := by
      rw [seqIndex_neg (by omega) h4] at h1
      rw [List.size_toArray, ← hl]
      exact Option.some.inj h1
    exact wpAny_mono (wpAny_getItem_list_neg (Q := fun r s' => r = w ∧ EP X pins σ Q r s') pl.isList (by omega) (by rw [List.size_toArray] <;> omega) (by omega) (by rw [hj]; simpa using ew) ⟨rfl, fin⟩) (fun _ _ z => z.2) fun _ _ z => z
def rdGet (M : Rl) : V → V → Hp → VK → Prop := fun o i H Q => ∃ (W : XK) (ι : List Addr) (h : Hh) (dO dI : D), Sim M ι h H ∧ Rp M ι H dO o ∧ Rp M ι H dI i ∧ Po M W ι H (itemD h dO dI) (PV M Q)
theorem getItem_ok (hu : X.A.units + 64 < cLine) : PGet X (rdGet M) := by
  intro pins s σ H o i ov iv Q I ro ri ⟨W, ι, h, dO, dI, sim, r1, r2, po⟩
  unfold itemD at po
  split at po
  · split at po
    · rename_i xs e
      split at po
      · cases ed : L2.atI xs _ with
        | none => rw [ed] at po; exact False.elim po
        | some d =>
          rw [ed] at po
          cases r2.int_inv
          obtain ⟨a, ws, rfl, ea, q, lx⟩ := sim.list r1 e
          obtain ⟨w, ew, rw⟩ := atI_rp lx ed
          exact get_list pins s σ H _ _ ov iv Q I ro ri ⟨a, ws, _, w, rfl, rfl, q, ew, po ι H sim.refl sim w rw⟩
      · exact False.elim po
    · rename_i ks vs e
      obtain ⟨hk, po⟩ := po.if_
      obtain ⟨a, rfl, ea⟩ := r1.ref_inv
      obtain ⟨kvs, hd, rfl, l⟩ := dct_at sim ea e
      obtain ⟨key, rfl, rfl⟩ := key_rp hk r2
      obtain rfl : ov = Value.ref a := ro
      rcases get_rp (key := key) l with ⟨z1, z2⟩ | ⟨d4, v4, z1, z2, rp⟩
      · rw [z1] at po; exact False.elim po
      · rw [z1] at po
        have gd : DGet H a (kV key) (some v4) := .inl ⟨kvs, key, .inl hd, rfl, z2.symm⟩
        exact d_getItem (A := X.A) (by omega) I gd ri fun w' s' I' rw' => ⟨v4, H, I', rw', po ι H sim.refl sim _ rp⟩
    · exact False.elim po
  · exact False.elim po
theorem zip_put {f : Str} {v : V} : ∀ {fs : List Str} {vs : List V} {i : Nat}, fs.Nodup → fs[i]? = some f → i ≤ vs.length → putF f v (fs.zip vs) = if i < vs.length then fs.zip (vs.set i v) else fs.zip (vs ++ [v])
  | [], _, _, _, e, _ => by simp at e
  | g :: fs, [], 0, nd, e, _ => by
    simp at e; subst e
    simp [putF]
  | g :: fs, [], i + 1, nd, e, hl => by simp at hl
  | g :: fs, u :: vs, 0, nd, e, _ => by
    simp at e; subst e
    simp [putF]
  | g :: fs, u :: vs, i + 1, nd, e, hl => by
    have e' : fs[i]? = some f := by simpa using e
    have hne : g ≠ f := fun z => by
      subst z
      exact (List.nodup_cons.mp nd).1 (List.mem_of_getElem? e')
    have ih := zip_put (v := v) (vs := vs) (List.nodup_cons.mp nd).2 e' (by simpa using hl)
    simp only [List.zip_cons_cons, List.length_cons, Nat.add_lt_add_iff_right, List.set_cons_succ, List.cons_append]
    unfold putF
    rw [if_neg (fun z => hne z)]
    rw [ih]
    split <;> rfl
end
end Mx
set_option Elab.async false
set_option linter.all false
set_option maxRecDepth 100000
set_option maxHeartbeats 4000000
namespace Mx
open PySem L2
section
variable {T : Tb} {M : Rl} {prog : Program} {w : World} {mg : Str → Option Value} {base : Heap} {j : Nat} {F : Ph} {c : Ct} {τ : XK → Prop} {X : Cx} {pos : Pos} {a b e : E} {s s' : S} {a' b' x : Expr} {st : Stmt} {sts sts' : List Stmt}
theorem s_nop (p : PS X st tNext) : PS X st (rdS τ M T.pg F .nop) :=
  p.imp fun D σ H ⟨ex, W, ι, h, m, tk, sim, en, po⟩ => by
    simp only [evS] at po
    exact po ι H sim.refl sim σ en
theorem s_nil : PSs X [] (rdS τ M T.pg F .nop) :=
  pss_nil.imp fun D σ H ⟨ex, W, ι, h, m, tk, sim, en, po⟩ => by
    simp only [evS] at po
    exact po ι H sim.refl sim σ en
theorem s_seq (p : PS X st (rdS τ M T.pg F s)) (q : PSs X sts (rdS τ M T.pg F s')) : PSs X (st :: sts) (rdS τ M T.pg F (.seq s s')) :=
  (pss_cons p q).imp fun D σ H ⟨ex, W, ι, h, m, tk, sim, en, po⟩ => by
    simp only [evS] at po
    refine ⟨ex, W, ι, h, m, tk, sim, en, po.step fun fl h1 ι1 H1 x1 s1 po1 => ?_⟩
    cases fl with
    | nx m' => exact fun σ' en' => ⟨ex, W, ι1, h1, m', tk, s1, en', po1⟩
    | rt d => exact po1 ι1 H1 s1.refl s1
    | bk m' => exact po1 ι1 H1 s1.refl s1
    | ct m' => exact po1 ι1 H1 s1.refl s1
theorem s_ex (p : PE X x (rdE τ M T.pg F e)) (hs : swapsWith x none pos.line X.env = pure false) : PS X (.Expr x pos) (rdS τ M T.pg F (.ex e)) :=
  (ps_expr p hs).imp fun D σ H ⟨ex, W, ι, h, m, tk, sim, en, po⟩ => by
    simp only [evS] at po
    refine ⟨ex, W, ι, h, m, tk, sim, en, po.step fun d h1 ι1 H1 x1 s1 po1 v r => ?_⟩
    exact po1 ι1 H1 s1.refl s1 σ (en.mono x1)
theorem s_ret (p : PE X x (rdE τ M T.pg F e)) : PS X (.Return (some x) pos) (rdS τ M T.pg F (.ret e)) :=
  (ps_ret p).imp fun D σ H ⟨ex, W, ι, h, m, tk, sim, en, po⟩ => by
    simp only [evS] at po
    refine ⟨ex, W, ι, h, m, tk, sim, en, po.step fun d h1 ι1 H1 x1 s1 po1 v r => ?_⟩
    exact po1 ι1 H1 s1.refl s1 v r
theorem s_retN : PS X (.Return none pos) (rdS τ M T.pg F (.ret (.k .non))) :=
  ps_retN.imp fun D σ H ⟨ex, W, ι, h, m, tk, sim, en, po⟩ => by
    simp only [evS, ev, R.ok_bind] at po
    exact po ι H sim.refl sim _ .non
theorem s_brk : PS X (.Break pos) (rdS τ M T.pg F .brk) :=
  ps_break.imp fun D σ H ⟨ex, W, ι, h, m, tk, sim, en, po⟩ => by
    simp only [evS] at po
    exact po ι H sim.refl sim σ en
theorem s_cont : PS X (.Continue pos) (rdS τ M T.pg F .cont) :=
  ps_continue.imp fun D σ H ⟨ex, W, ι, h, m, tk, sim, en, po⟩ => by
    simp only [evS] at po
    exact po ι H sim.refl sim σ en
theorem s_ite (p : PT X x (rdT τ M T.pg F e)) (q : PSs X sts (rdS τ M T.pg F s)) (r : PSs X sts' (rdS τ M T.pg F s')) : PS X (.If x sts sts' pos) (rdS τ M T.pg F (.ite e s s')) :=
  (ps_if p q r).imp fun D σ H ⟨ex, W, ι, h, m, tk, sim, en, po⟩ => by
    simp only [evS] at po
    refine rd_test (k := fun m t h => if t = true then evS T.pg F s m h else evS T.pg F s' m h) (P := fun M => PF M D) (fun ex W ι h m t H tk sim en po => ?_) ⟨ex, W, ι, h, m, tk, sim, en, po⟩
    cases t with
    | true => exact ⟨ex, W, ι, h, m, tk, sim, en, by simpa using po⟩
    | false => exact ⟨ex, W, ι, h, m, tk, sim, en, by simpa using po⟩
/-- a store's reading -/
theorem asg_read {te : TE} {tg : TG} {t : Mx.T} {D : Ends} {σ : St} {H : Hp} (ht : ∀ v σ H Q, rdG M t v σ H Q → tg v σ H Q) (he : ∀ Q, rdE τ M T.pg F e σ H Q → te σ H Q)
    (q : rdS τ M T.pg F (.set t e) D σ H) : tAsg te tg D σ H := by
  obtain ⟨ex, W, ι, h, m, tk, sim, en, po⟩ := q
  simp only [evS] at po
  refine he _ ⟨ex, W, ι, h, m, tk, sim, en, po.step fun d h1 ι1 H1 x1 s1 po1 v r => ?_⟩
  obtain ⟨m', e1, po2⟩ := po1.opt
  exact ht _ _ _ _ ⟨ex, ι1, h1, m, d, m', s1, en.mono x1, r, e1, fun σ' en' _ => po2 ι1 H1 s1.refl s1 σ' en'⟩
theorem s_set {t : Mx.T} {tg : Expr} (p : PE X x (rdE τ M T.pg F e)) (q : PG X tg (rdG M t)) (hp : plainE tg = true) (hs : swapsWithSole [tg] x pos.line X.env = pure false) (hw : swappedStores [tg] x X.env = pure none) : PS X (.Assign [tg] x pos) (rdS τ M T.pg F (.set t e)) :=
  (ps_asg p q hs hw (by rw [assign_plain hp]; rfl)).imp fun D σ H q => asg_read (fun _ _ _ _ z => z) (fun _ z => z) q
theorem nl_read {m0 : Bool} {Q : VK} {σ : St} {H : Hp} (q : rdE τ M T.pg F (.nl m0 e) σ H Q) : rdN τ M T.pg F e σ H Q := by
  obtain ⟨ex, W, ι, h, m, tk, sim, en, po⟩ := q
  simp only [ev] at po
  refine ⟨ex, W, ι, h, m, tk, sim, en, po.step fun ds h1 ι1 H1 x1 s1 po1 p vs l n => ?_⟩
  cases m0 with
  | true =>
    obtain ⟨x2, s2⟩ := lst_push s1 l n
    simp only [if_true] at po1
    refine po1 _ _ x2 s2 _ (.ref ?_)
    rw [← s1.len, List.getElem?_append_right (Nat.le_refl _)]
    simp
  | false =>
    obtain ⟨x2, s2, t2⟩ := fls_new s1 l n
    exact po1 _ _ x2 s2 _ t2
theorem g_nm_read {i : Nat} {v : V} {σ : St} {H : Hp} {Q : St → Hp → Prop} (q : rdG M (.nm i) v σ H Q) : gName i v σ H Q := by
  obtain ⟨ex, ι, h, m, d, m', sim, en, rp, e, q⟩ := q
  simp only [setT] at e
  cases e
  exact q _ (en.put rp) fun ws hw => wipe_set (hw i (by simp [T.slots]))
theorem s_setLc {i : Nat} {m0 : Bool} {tg : Expr} (p : PS X (.Assign [tg] x pos) (tAsg (rdN τ M T.pg F e) (gName i))) : PS X (.Assign [tg] x pos) (rdS τ M T.pg F (.set (.nm i) (.nl m0 e))) :=
  p.imp fun D σ H q => asg_read (fun _ _ _ _ z => g_nm_read z) (fun _ z => nl_read z) q
/-- two or three plain local names at once -/
theorem par_read {i j : Nat} {D : Ends} {σ : St} {H : Hp} (q : rdS τ M T.pg F (.set (.tp (.cons (.nm i) (.cons (.nm j) .nil))) (.tup e)) D σ H) : tPar i j (rdEs τ M T.pg F e) D σ H := by
  obtain ⟨ex, W, ι, h, m, tk, sim, en, po⟩ := q
  simp only [evS, ev, R.bind_assoc] at po
  refine ⟨ex, W, ι, h, m, tk, sim, en, po.step fun ds h1 ι1 H1 x1 s1 po1 vs r => ?_⟩
  unfold rIf at po1
  split at po1
  · simp only [R.ok_bind] at po1
    obtain ⟨m', e1, po2⟩ := po1.opt
    match ds, e1 with
    | [d1, d2], e1 =>
      simp only [setT, setTs, Option.bind_some] at e1
      cases e1
      obtain ⟨v1, v2, rfl, r1, r2⟩ := r.two
      exact ⟨v1, v2, rfl, po2 ι1 H1 s1.refl s1 _ (((en.mono x1).put r1).put r2)⟩
    | [], e1 => simp [setT, setTs] at e1
    | [_], e1 => simp [setT, setTs] at e1
    | _ :: _ :: _ :: _, e1 => simp [setT, setTs] at e1
  · exact False.elim po1
theorem RpL.three {M : Rl} {ι : List Addr} {H : Hp} {d e f : D} {vs : List V} (l : RpL M ι H [d, e, f] vs) : ∃ v w u, vs = [v, w, u] ∧ Rp M ι H d v ∧ Rp M ι H e w ∧ Rp M ι H f u := by
  cases l with | cons r t => cases t with | cons r' t' => cases t' with | cons r'' t'' => cases t''; exact ⟨_, _, _, rfl, r, r', r''⟩
theorem par3_read {i j l : Nat} {D : Ends} {σ : St} {H : Hp} (q : rdS τ M T.pg F (.set (.tp (.cons (.nm i) (.cons (.nm j) (.cons (.nm l) .nil)))) (.tup e)) D σ H) : tPar3 i j l (rdEs τ M T.pg F e) D σ H := by
  obtain ⟨ex, W, ι, h, m, tk, sim, en, po⟩ := q
  simp only [evS, ev, R.bind_assoc] at po
  refine ⟨ex, W, ι, h, m, tk, sim, en, po.step fun ds h1 ι1 H1 x1 s1 po1 vs r => ?_⟩
  unfold rIf at po1
  split at po1
  · simp only [R.ok_bind] at po1
    obtain ⟨m', e1, po2⟩ := po1.opt
    match ds, e1 with
    | [d1, d2, d3], e1 =>
      simp only [setT, setTs, Option.bind_some] at e1
      cases e1
      obtain ⟨v1, v2, v3, rfl, r1, r2, r3⟩ := r.three
      exact ⟨v1, v2, v3, rfl, po2 ι1 H1 s1.refl s1 _ ((((en.mono x1).put r1).put r2).put r3)⟩
    | [], e1 => simp [setT, setTs] at e1
    | [_], e1 => simp [setT, setTs] at e1
    | [_, _], e1 => simp [setT, setTs] at e1
    | _ :: _ :: _ :: _ :: _, e1 => simp [setT, setTs] at e1
  · exact False.elim po1
theorem s_aug {i : Nat} {o : Bo} {y : Str} {p' : Pos} (g : XG T M prog w mg base j c τ X) (hN : c.N[i]? = some y) (hx : Loc c.sc y) (hf : c.own y = true ∨ c.sc.names.lookup y = some .local) (p : PE X x (rdE τ M T.pg F e)) : PS X (.AugAssign (.Name y p') (bop o) x pos) (rdS τ M T.pg F (.aug i o e)) :=
  (ps_aug (i := i) (ti := fun x y H Q => ∃ ex, rd2 (Mw M ex) (fun h => augD h o) x y H Q) (by rw [g.N]; exact g.nd) (by rw [g.N]; exact hN) (by rw [g.sc]; exact hx) p (fun pins s σ H x y v u Q I rx ry ⟨ex, q⟩ => augD_ok (M := Mw M ex) g.K o pins s σ H x y v u Q I rx ry q) (by rw [g.sc]; exact hf.imp (g.own y) id)).imp fun D σ H ⟨ex, W, ι, h, m, tk, sim, en, po⟩ => by
    simp only [evS] at po
    cases el : look m i with
    | none => rw [el] at po; exact False.elim po
    | some d0 =>
      rw [el] at po
      obtain ⟨v0, e0, r0⟩ := en.2 i d0 (look_some el)
      have po : Po (Mw M ex) W ι H ((ev T.pg F e m h).bind fun y h => (augD h o d0 y).bind fun z h => .ok (.nx (put m i z)) h) (PF (Mw M ex) D) := po
      refine ⟨v0, e0, ex, W, ι, h, m, tk, sim, en, po.step fun d h1 ι1 H1 x1 s1 po1 v r => ?_⟩
      refine ⟨ex, W, ι1, h1, d0, d, s1, r0.mono x1, r, po1.step fun z h2 ι2 H2 x2 s2 po2 u ru => ?_⟩
      exact po2 ι2 H2 s2.refl s2 _ (((en.mono x1).mono x2).put ru)
theorem asg_sub (hb : notSlice b' = true) {tpos : Pos} {env : Env} (v : Value) : assign (.Subscript a' b' tpos) env v = (do
      let ov ← holding [v] (eval a' env)
      let iv ← holding [v, ov] (eval b' env)
      standAt tpos
      holding [v, ov, iv] (setItem ov iv v)
      release [v, ov, iv] []) := by
  cases b' <;> first | (simp [notSlice] at hb; done) | rfl
theorem aug_sub (hb : notSlice b' = true) (ov iv new : Value) : augStore b' ov iv new = (do holding [new, ov, iv] (setItem ov iv new); release [new, ov, iv] []; pure .next) := by
  cases b' <;> first | (simp [notSlice] at hb; done) | rfl
theorem s_setIx {tpos : Pos} (hb : notSlice b' = true) (g : XG T M prog w mg base j c τ X) (po0 : PE X a' (rdE τ M T.pg F a)) (pi0 : PE X b' (rdE τ M T.pg F b)) (p : PE X x (rdE τ M T.pg F e)) (hs : swapsWithSole [.Subscript a' b' tpos] x pos.line X.env = pure false) : PS X (.Assign [.Subscript a' b' tpos] x pos) (rdS τ M T.pg F (.setIx a b e)) :=
  (ps_asg p (pg_sub (t := fun o i x H Q => ∃ ex, rdSet (Mw M ex) o i x H Q) po0 pi0 (fun pins s σ H o i v ov iv u Q I ro ri rv ⟨ex, q⟩ => setItem_ok (M := Mw M ex) g.room.units pins s σ H o i v ov iv u Q I ro ri rv q) (asg_sub hb)) hs (by rfl) (by rfl)).imp fun D σ H ⟨ex, W, ι, h, m, tk, sim, en, po⟩ => by
    simp only [evS] at po
    refine ⟨ex, W, ι, h, m, tk, sim, en, po.step fun d h1 ι1 H1 x1 s1 po1 v r => ⟨ex, W, ι1, h1, m, tk, s1, en.mono x1, po1.step fun l h2 ι2 H2 x2 s2 po2 v2 r2 => ⟨ex, W, ι2, h2, m, tk, s2, (en.mono x1).mono x2, po2.step fun k h3 ι3 H3 x3 s3 po3 v3 r3 => ?_⟩⟩⟩
    refine ⟨ex, W, ι3, h3, l, k, d, s3, r2.mono x3, r3, (r.mono x2).mono x3, po3.step fun _ h4 ι4 H4 x4 s4 po4 => ?_⟩
    exact po4 ι4 H4 s4.refl s4 σ ((((en.mono x1).mono x2).mono x3).mono x4)
theorem s_augIx {o : Bo} {tpos : Pos} (hb : notSlice b' = true) (g : XG T M prog w mg base j c τ X) (po0 : PE X a' (rdE τ M T.pg F a)) (pi0 : PE X b' (rdE τ M T.pg F b)) (p : PE X x (rdE τ M T.pg F e)) : PS X (.AugAssign (.Subscript a' b' tpos) (bop o) x pos) (rdS τ M T.pg F (.augIx o a b e)) :=
  (ps_augS (tget := fun o i H Q => ∃ ex, rdGet (Mw M ex) o i H Q) (tip := fun x y H Q => ∃ ex, rd2 (Mw M ex) (fun h => augD h o) x y H Q) (tset := fun o i x H Q => ∃ ex, rdSet (Mw M ex) o i x H Q) po0 pi0
    (fun pins s σ H o i ov iv Q I ro ri ⟨ex, q⟩ => getItem_ok (M := Mw M ex) g.room.units pins s σ H o i ov iv Q I ro ri q) p (fun pins s σ H x y v u Q I rx ry ⟨ex, q⟩ => augD_ok (M := Mw M ex) g.K o pins s σ H x y v u Q I rx ry q)
    (fun pins s σ H o i v ov iv u Q I ro ri rv ⟨ex, q⟩ => setItem_ok (M := Mw M ex) g.room.units pins s σ H o i v ov iv u Q I ro ri rv q) (aug_sub hb)).imp fun D σ H ⟨ex, W, ι, h, m, tk, sim, en, po⟩ => by
    simp only [evS] at po
    refine ⟨ex, W, ι, h, m, tk, sim, en, po.step fun l h1 ι1 H1 x1 s1 po1 v1 r1 => ⟨ex, W, ι1, h1, m, tk, s1, en.mono x1, po1.step fun k h2 ι2 H2 x2 s2 po2 v2 r2 => ?_⟩⟩
    refine ⟨ex, W, ι2, h2, l, k, s2, r1.mono x2, r2, po2.step fun z h3 ι3 H3 x3 s3 po3 v3 r3 => ⟨ex, W, ι3, h3, m, tk, s3, ((en.mono x1).mono x2).mono x3, po3.step fun y h4 ι4 H4 x4 s4 po4 v4 r4 => ?_⟩⟩
    refine ⟨ex, W, ι4, h4, z, y, s4, r3.mono x4, r4, po4.step fun n h5 ι5 H5 x5 s5 po5 v5 r5 => ?_⟩
    refine ⟨ex, W, ι5, h5, l, k, n, s5, (((r1.mono x2).mono x3).mono x4).mono x5, ((r2.mono x3).mono x4).mono x5, r5, po5.step fun _ h6 ι6 H6 x6 s6 po6 => ?_⟩
    exact po6 ι6 H6 s6.refl s6 σ ((((((en.mono x1).mono x2).mono x3).mono x4).mono x5).mono x6)
theorem s_setFld {W0 : Wd T M prog w mg base j F} {k f : Nat} {y : Str} {tpos : Pos} (g : XG T M prog w mg base j c τ X) (hk : (T.fl k)[f]? = some y ∧ (T.fl k).Nodup ∧ (T.fl k).length < 900) (hkc : M.ok k) (po0 : PE X a' (rdE τ M T.pg F a)) (p : PE X x (rdE τ M T.pg F e)) (hs : swapsWith x (some (.Attribute a' y tpos)) pos.line X.env = pure false) :
    PS X (.Assign [.Attribute a' y tpos] x pos) (rdS τ M T.pg F (.setFld k a f e)) :=
  (ps_fld po0 p hs).imp fun D σ H ⟨ex, W, ι, h, m, tk, sim, en, po⟩ => by
    simp only [evS] at po
    refine ⟨ex, W, ι, h, m, tk, sim, en, po.step fun d h1 ι1 H1 x1 s1 po1 v r => ⟨ex, W, ι1, h1, m, tk, s1, en.mono x1, po1.step fun l h2 ι2 H2 x2 s2 po2 v2 r2 => ?_⟩⟩
    rw [g.K]
    cases l with
    | ref r' =>
      obtain ⟨ad, rfl, e1⟩ := r2.ref_inv
      simp only [setFldD] at po2
      cases eo : h2[r']? with
      | none => rw [eo] at po2; exact False.elim po2
      | some o =>
        rw [eo] at po2
        cases o with
        | ins k' ds =>
          dsimp only at po2
          unfold rIf at po2
          split at po2
          · rename_i ek
            subst ek
            obtain ⟨ad', e2, ob⟩ := s2.at eo
            rw [e1] at e2; cases e2
            obtain ⟨dx, vs, ok, eH, hz, l⟩ := ob
            have hfl : (Mw M ex).fl k' = T.fl k' := W0.flds k' ok
            obtain ⟨c1, c2⟩ := W0.cls k' ok
            rw [hfl] at eH hz
            have rv := r.mono x2
            have hlen := l.length
            refine ⟨ad, _, dx, _, rfl, eH, c1, c2 y (List.mem_of_getElem? hk.1), by rw [List.length_zip]; omega, ?_⟩
            by_cases hlt : f < ds.length
            · rw [if_pos hlt] at po2
              simp only [R.ok_bind] at po2
              rw [zip_put hk.2.1 hk.1 (by omega), if_pos (by omega)]
              have x3 : Ext (Mw M ex) ι2 H2 ι2 (upd H2 ad (.ins ((Mw M ex).cl k') dx ((T.fl k').zip (vs.set f v)))) := .write s2 e1 (nf_ins eH)
              have s3 := s2.write (o := .ins ((Mw M ex).cl k') dx ((T.fl k').zip (vs.set f v))) (ob := .ins k' (ds.set f d)) e1 (nf_ins eH) ⟨dx, vs.set f v, ok, by rw [hfl]; exact upd_same, by rw [hfl, List.length_set]; exact hz, RpL.set (rv.mono x3) f (l.mono x3)⟩
              exact po2 _ _ x3 s3 σ (((en.mono x1).mono x2).mono x3)
            · rw [if_neg hlt] at po2
              by_cases hl2 : f = ds.length
              · rw [if_pos hl2] at po2
                simp only [R.ok_bind] at po2
                rw [zip_put hk.2.1 hk.1 (by omega), if_neg (by omega)]
                have x3 : Ext (Mw M ex) ι2 H2 ι2 (upd H2 ad (.ins ((Mw M ex).cl k') dx ((T.fl k').zip (vs ++ [v])))) := .write s2 e1 (nf_ins eH)
                have hfl2 : f < (T.fl k').length := (List.getElem?_eq_some_iff.mp hk.1).1
                have s3 := s2.write (o := .ins ((Mw M ex).cl k') dx ((T.fl k').zip (vs ++ [v]))) (ob := .ins k' (ds ++ [d])) e1 (nf_ins eH) ⟨dx, vs ++ [v], ok, by rw [hfl]; exact upd_same, by rw [hfl, List.length_append]; simp; omega, (l.mono x3).append (.cons (rv.mono x3) .nil)⟩
                exact po2 _ _ x3 s3 σ (((en.mono x1).mono x2).mono x3)
              · rw [if_neg hl2] at po2
                exact False.elim po2
          · exact False.elim po2
        | _ => exact False.elim po2
    | _ => exact False.elim po2
/-- loops -/
theorem s_while (g : XS T M prog w mg base j c τ X) (p : PT X x (rdT τ M T.pg F e)) (q : PSs X sts (rdS τ M T.pg F s)) : PS X (.While x sts [] pos) (rdS τ M T.pg F (.while_ e s)) :=
  (ps_while g.po p q).imp fun D σ H ⟨ex, W, ι, h, m, tk, sim, en, po⟩ => by
    simp only [evS] at po
    refine ⟨fun n σ H => ∃ ι h m, Sim (Mw M ex) ι h H ∧ EnR (Mw M ex) ι H m σ ∧ Po (Mw M ex) W ι H (wloop (fun σ h => (ev T.pg F e σ h).bind fun x h => rOpt (truth h x) h) (fun σ h => evS T.pg F s σ h) n m h) (PF (Mw M ex) D), ⟨FUEL, ι, h, m, sim, en, po⟩, ?_⟩
    rintro n σ H ⟨ι, h, m, sim, en, po⟩
    cases n with
    | zero => exact False.elim po
    | succ n =>
      simp only [wloop] at po
      refine ⟨ex, W, ι, h, m, tk, sim, en, po.step fun t h1 ι1 H1 x1 s1 po1 => ?_⟩
      cases t with
      | false =>
        simp only [Bool.false_eq_true, if_false] at po1 ⊢
        exact po1 ι1 H1 s1.refl s1 σ (en.mono x1)
      | true =>
        simp only [if_true] at po1 ⊢
        refine ⟨fun σ H => ∃ ι h m, Sim (Mw M ex) ι h H ∧ EnR (Mw M ex) ι H m σ ∧ Po (Mw M ex) W ι H (wloop _ _ n m h) (PF (Mw M ex) D), fun σ' H' q => ⟨n, Nat.lt_succ_self _, q⟩, ?_⟩
        refine ⟨ex, W, ι1, h1, m, tk, s1, en.mono x1, po1.step fun fl h2 ι2 H2 x2 s2 po2 => ?_⟩
        cases fl with
        | nx m' => exact fun σ' en' => ⟨ι2, h2, m', s2, en', po2⟩
        | ct m' => exact fun σ' en' => ⟨ι2, h2, m', s2, en', po2⟩
        | bk m' => exact fun σ' en' => po2 ι2 H2 s2.refl s2 σ' en'
        | rt d => exact fun v r => po2 ι2 H2 s2.refl s2 v r
/-- a loop, whatever is walked -/
theorem for_core {t : Mx.T} {D0 : Ends} {σ : St} {ex : List Addr} {W : XK} {ι1 : List Addr} {h1 : Hh} {H1 : Hp} {m : En} {xg : List D × Option (Nat × List D)} {J : It} (tk : τ W) (s1 : Sim (Mw M ex) ι1 h1 H1) (en : EnR (Mw M ex) ι1 H1 m σ)
    (po1 : Po (Mw M ex) W ι1 H1 (rIf (xg.1.length ≤ LINE) (floop (fun x σ h => bindT (setT t x σ) fun σ' => evS T.pg F s σ' h) (fun h => gok h xg.2) xg.1 m h1)) (PF (Mw M ex) D0)) (wk : Wk (Mw M ex) ι1 H1 xg.1 xg.2 J) :
    tFor (fun σ H R => R J H) (rdG M t) (rdS τ M T.pg F s) D0 σ H1 := by
  obtain ⟨hz, po2⟩ := po1.if_
  refine ⟨fun i mm σ H => mm = xg.1.length - i ∧ i ≤ xg.1.length ∧ ∃ ι h m, Ext (Mw M ex) ι1 H1 ι H ∧ Sim (Mw M ex) ι h H ∧ EnR (Mw M ex) ι H m σ ∧ Po (Mw M ex) W ι H (floop (fun x σ h => bindT (setT t x σ) fun σ' => evS T.pg F s σ' h) (fun h => gok h xg.2) (xg.1.drop i) m h) (PF (Mw M ex) D0),
    ⟨_, rfl, Nat.zero_le _, ι1, h1, m, s1.refl, s1, en, po2⟩, ?_⟩
  rintro i mm σ H ⟨rfl, hi, ι2, h2, m2, x2, s2, en2, po3⟩
  by_cases hlt : i < xg.1.length
  · rw [List.drop_eq_getElem_cons hlt] at po3
    simp only [floop] at po3
    obtain ⟨gk, po4⟩ := po3.if_
    refine .inr ⟨wk.go i ex ι2 h2 H hlt x2.pres s2 gk, fun σ' H' => ∃ ι h m, Ext (Mw M ex) ι1 H1 ι H' ∧ Sim (Mw M ex) ι h H' ∧ EnR (Mw M ex) ι H' m σ' ∧ Po (Mw M ex) W ι H' (floop (fun x σ h => bindT (setT t x σ) fun σ' => evS T.pg F s σ' h) (fun h => gok h xg.2) (xg.1.drop (i + 1)) m h) (PF (Mw M ex) D0),
      fun σ' H' n => ⟨xg.1.length - (i + 1), by omega, rfl, hlt, n⟩, fun x H3 y => ?_⟩
    obtain ⟨d, ed, x3, s3, r3⟩ := wk.yld i ex ι2 h2 H x H3 hlt x2.pres s2 gk y
    rw [List.getElem?_eq_getElem hlt] at ed; cases ed
    cases es : setT t xg.1[i] m2 with
    | none => rw [es] at po4; exact False.elim po4
    | some m' =>
      rw [es] at po4
      have po4 := po4.later x3
      refine ⟨ex, ι2, h2, m2, _, m', s3, en2.mono x3, r3, es, fun σ2 en4 _ => ?_⟩
      refine ⟨ex, W, ι2, h2, m', tk, s3, en4, Po.step (r := evS T.pg F s m' h2) po4 fun fl h5 ι5 H5 x5 s5 po5 => ?_⟩
      cases fl with
      | nx m5 => exact fun σ' en' => ⟨ι5, h5, m5, (x2.trans x3).trans x5, s5, en', po5⟩
      | ct m5 => exact fun σ' en' => ⟨ι5, h5, m5, (x2.trans x3).trans x5, s5, en', po5⟩
      | bk m5 => exact fun σ' en' => po5 ι5 H5 s5.refl s5 σ' en'
      | rt d => exact fun v r => po5 ι5 H5 s5.refl s5 v r
  · have ei : i = xg.1.length := by omega
    subst ei
    rw [List.drop_eq_nil_of_le (Nat.le_refl _)] at po3
    simp only [floop] at po3
    obtain ⟨gk, po4⟩ := po3.if_
    exact .inl ⟨wk.stop ex ι2 h2 H x2.pres s2 gk, po4 ι2 H s2.refl s2 σ en2⟩
theorem s_for {t : Mx.T} {it : E} {tg iter : Expr} (g : XS T M prog w mg base j c τ X) (p : PI X tg iter (rdI τ M T.pg F it)) (q : PG X tg (rdG M t)) (r : PSs X sts (rdS τ M T.pg F s)) (hs : ∀ x, foldedSetIterable iter X.env x = pure x) : PS X (.For tg iter sts [] pos) (rdS τ M T.pg F (.for_ t it s)) :=
  (ps_for g.po g.calm p q r hs).imp fun D σ H ⟨ex, W, ι, h, m, tk, sim, en, po⟩ => by
    simp only [evS] at po
    exact ⟨ex, W, ι, h, m, tk, sim, en, po.step fun xg h1 ι1 H1 x1 s1 po1 J wk => for_core (xg := xg) tk s1 (en.mono x1) po1 wk⟩
/-- a loop over a dict in a name -/
theorem s_forD {t : Mx.T} {dw : Dw} {i : Nat} {tg iter : Expr} (g : XS T M prog w mg base j c τ X) (p : PI X tg iter (tDw i dw)) (q : PG X tg (rdG M t)) (r : PSs X sts (rdS τ M T.pg F s)) (hs : ∀ x, foldedSetIterable iter X.env x = pure x) : PS X (.For tg iter sts [] pos) (rdS τ M T.pg F (.forD dw t i s)) := by
  have b := ps_for (pos := pos) g.po g.calm p q r hs
  refine (ps_or b (ps_lock b)).imp fun D0 σ H ⟨ex, W, ι, h, m, tk, sim, en, po⟩ => ?_
  simp only [evS] at po
  obtain ⟨q, eq, po⟩ := po.opt
  obtain ⟨a, kvs, ea, ek, l, hx, hq⟩ := lk_cases sim en eq
  rcases hq with ⟨od, hd, e1, e2⟩ | ⟨hd, la, sl⟩
  · left
    rw [e1, e2] at po
    have po2 : Po (Mw M ex) W ι H (rIf ((dwL dw q.1 q.2.1).length ≤ LINE) (floop (fun x σ h => bindT (setT t x σ) fun σ' => evS T.pg F s σ' h) (fun h => gok h none) (dwL dw q.1 q.2.1) m h)) (PF (Mw M ex) D0) := by
      have := po
      simp only [unl] at this
      rw [R.bind_pure] at this
      exact this
    exact ⟨a, od, kvs, ea, hd, for_core (xg := (dwL dw q.1 q.2.1, none)) tk sim en po2 (wk_dict hd ek l dw)⟩
  · right
    refine ⟨a, .dK kvs, hd, True.intro, fun od => ⟨a, od, kvs, ea, upd_same, ?_⟩⟩
    have xl : Ext (Mw M ex) ι H ι (upd H a (.frz od (.dK kvs))) := .lock sim hd
    refine for_core (xg := (dwL dw q.1 q.2.1, none)) tk (sl od) (en.mono xl) ?_ (wk_dict upd_same ek (l.mono xl) dw)
    refine (Po.unlock (od := od) sim hd la hx po).imp fun fl h' ι' H' x1 s1 ⟨ef, rel, pf⟩ => ?_
    have enu : ∀ m' σ', EnR (Mw M ex) ι' H' m' σ' → EnR (Mw M ex) ι' (upd H' a (.dK kvs)) m' σ' := fun m' σ' e => ⟨e.1, fun k d z => let ⟨v, z1, z2⟩ := e.2 k d z; ⟨v, z1, rel _ _ z2⟩⟩
    cases fl with
    | nx m' => exact fun σ' e => ⟨ef, pf σ' (enu _ _ e)⟩
    | rt d => exact fun v e => ⟨ef, pf v (rel _ _ e)⟩
    | bk m' => exact fun σ' e => ⟨ef, pf σ' (enu _ _ e)⟩
    | ct m' => exact fun σ' e => ⟨ef, pf σ' (enu _ _ e)⟩
end
end Mx
set_option Elab.async false
set_option linter.all false
set_option maxRecDepth 100000
set_option maxHeartbeats 4000000
namespace Mx
open PySem L2
/-! ### raise, try -/
theorem ps_len {X : Cx} {st : Stmt} {t t' : TS} (p : PS X st t) (h : ∀ D σ H, σ.length = X.N.length → t' D σ H → t D σ H) : PS X st t' := ⟨fun pins s σ H D I q => p.run pins s σ H D I (h D σ H I.len q)⟩
theorem takes_len {X : Cx} {W W' : WX} (tk : Takes X W) (h : ∀ c d σ H, σ.length = X.N.length → W' c d σ H → W c d σ H) : Takes X W' := fun u s' ⟨a, B, sI, pins, σ, H, cls, d, e, I, nb, up, sky, na, os, ag, w⟩ =>
  tk u s' ⟨a, B, sI, pins, σ, H, cls, d, e, I, nb, up, sky, na, os, ag, h cls d σ H I.len w⟩
/-- the exception's one argument, then the exception -/
def wMk (Q : XK) (C : Addr) (f : Str) : List V → Hp → Prop
  | [v], H1 => ∀ dx, H1 dx = none → Q (.ref C) (some dx) (upd H1 dx (.xd [(f, v)]))
  | _, _ => False
theorem pmk_x {X : Cx} {C : Addr} {f : Str} {D : XcD} {y : Str} {a' : Expr} {te : TE} {n : Nat} {p pos : Pos} (T : XcOk X.prog X.K C f D) (hr : Room (n + 1) X.A) (hsu : X.mg "super" = none) (hg : Gl X y) (gC : X.mg y = some (.ref C)) (hdb : (y == ("__debug__" : Str)) = false)
    (hp : plainE a' = true) (pa : PE X a' te) : PMk X (.Call (.Name y p) [a'] [] pos) (fun σ H Q => te σ H fun v H1 => wMk Q C f [v] H1) := by
  intro pins s σ H Q I h
  refine wpAny_Call_Name_kw (ld_glob I hg gC ?_ hdb)
  have ha : PA X [a'] (tCons te tNil) := pa_cons pa pa_nil (starEach_plain hp)
  refine PySem.W.callWith_K (h₀ := X.base) I.ok.mod.kin T.kC (thn (ha.run pos pins s σ H (wMk Q C f) I h) fun us s1 hh => ?_) (starEach_plain hp)
  obtain ⟨vs, H1, I1, r1, q1⟩ := hh
  refine ⟨I1.kIn, ?_⟩
  cases r1 with
  | nil => exact False.elim q1
  | cons ru rn =>
    cases rn with
    | nil =>
      rename_i u
      show wpAny _ _ (call (.ref C) [u]) _ _ _
      exact exc_make T I1 hr hsu ru q1
    | cons _ _ => exact False.elim q1
section
variable {T : Tb} {M : Rl} {prog : Program} {w : World} {mg : Str → Option Value} {base : Heap} {j : Nat} {F : Ph} {c : Ct} {τ : XK → Prop} {X : Cx} {pos : Pos} {e : E} {s : S} {a' x : Expr} {sts : List Stmt}
theorem s_raise (W0 : Wd T M prog w mg base j F) (g : XS T M prog w mg base j c τ X) {k : Nat} (hk : k ∈ T.xl) {y : Str} {p p2 : Pos} (hy : y = T.cn k) (hg : Gl X y) (hdb : (y == ("__debug__" : Str)) = false) (hp : plainE a' = true) (pa : PE X a' (rdE τ M T.pg F e)) :
    PS X (.Raise (some (.Call (.Name y p) [a'] [] p2)) none pos) (rdS τ M T.pg F (.raise_ k e)) := by
  subst hy
  obtain ⟨Wo, tk, le⟩ := g.wo
  obtain ⟨f, D, hf1, hf2, ok, hno, xf, hm⟩ := W0.xcs k hk
  have gg := g.toXG
  have ok2 : XcOk X.prog X.K (M.cl k) f D := by rw [gg.prog, gg.K]; exact ok
  refine ps_len (ps_raise gg.calm tk (pmk_x ok2 gg.room (by rw [gg.mg]; exact W0.sup) hg (by rw [gg.mg]; exact hm) hdb hp pa)) fun DD σ H hl ⟨ex, W, ι, h, m, tW, sim, en, po⟩ => ?_
  simp only [evS] at po
  refine ⟨ex, W, ι, h, m, tW, sim, en, po.step fun d1 h1 ι1 H1 x1 s1 po1 v1 r1 dx n => ?_⟩
  have xx := Ext.hid (o := .xd [(f, v1)]) s1 n
  exact le W tW _ _ _ _ hl (po1 ι1 _ dx f v1 xx (s1.hid n) ((W0.xks k).mpr hk) hf2 upd_same (s1.fresh n) (r1.mono xx))
/-! ### what a clause hands back -/
def rdH (M : Rl) (P : Nat → Str → Prop) (i : Nat) (a : Addr) (cls : Value) (d : Option Addr) (he : HE) : TE := fun σ H Q => ∃ ex ι h dx f v vd c, Sim (Mw M ex) ι h H ∧ M.xk c ∧ cls = .ref (M.cl c) ∧ P c f ∧ d = some dx ∧ H dx = some (.xd [(f, v)]) ∧ dx ∉ ι ∧ Rp (Mw M ex) ι H vd v ∧ σ[i]? = some (some (.ref a)) ∧
  ∀ H' v', Ext (Mw M ex) ι H ι H' → Sim (Mw M ex) ι h H' → Rp (Mw M ex) ι H' (heD vd he) v' → Q v' H'
def rdHs (M : Rl) (P : Nat → Str → Prop) (i : Nat) (a : Addr) (cls : Value) (d : Option Addr) (he : HE) : TA := fun σ H Q => ∃ ex ι h dx f v vd c, Sim (Mw M ex) ι h H ∧ M.xk c ∧ cls = .ref (M.cl c) ∧ P c f ∧ d = some dx ∧ H dx = some (.xd [(f, v)]) ∧ dx ∉ ι ∧ Rp (Mw M ex) ι H vd v ∧ σ[i]? = some (some (.ref a)) ∧
  ∀ H' vs, Ext (Mw M ex) ι H ι H' → Sim (Mw M ex) ι h H' → RpL (Mw M ex) ι H' (heL vd he) vs → Q vs H'
mutual
def okH (F : Str → Bool) (n : Str) : HE → Expr → Bool
  | .fld, x => match x with
    | .Attribute (.Name z _) y _ => decide (z = n) && F y
    | _ => false
  | .k d, x => okK d x
  | .tp r, x => match x with
    | .Tuple xs _ _ => decide (xs.length < 100) && okHs F n r xs
    | _ => false
  | _, _ => false
def okHs (F : Str → Bool) (n : Str) : HE → List Expr → Bool
  | .nil, [] => true
  | .cons a r, x :: xs => plainE x && okH F n a x && okHs F n r xs
  | _, _ => false
end
theorem hl_len {F : Str → Bool} {n : Str} {v : D} : ∀ {he : HE} {xs : List Expr}, okHs F n he xs = true → (heL v he).length = xs.length
  | .nil, [], _ => rfl
  | .cons a r, x :: xs, h => by
    simp only [okHs, Bool.and_eq_true] at h
    simp only [heL, List.length_cons, hl_len h.2]
  | .nil, _ :: _, h => by simp [okHs] at h
  | .cons _ _, [], h => by simp [okHs] at h
  | .fld, _, h => by simp [okHs] at h
  | .k _, _, h => by simp [okHs] at h
  | .tp _, _, h => by simp [okHs] at h
theorem k_tc {d : D} {x : Expr} {X : Cx} (h : okK d x = true) : ∃ v, PE X x (tC v) ∧ ∀ M ι H, Rp M ι H d v := by
  unfold okK at h
  split at h
  · exact ⟨_, pe_non, fun _ _ _ => .non⟩
  · rw [eq_of_beq h]; exact ⟨_, pe_bl, fun _ _ _ => .bl _⟩
  · rw [of_decide_eq_true h]; exact ⟨_, pe_int, fun _ _ _ => .int _⟩
  · rw [of_decide_eq_true h]; exact ⟨_, pe_str, fun _ _ _ => .str _⟩
  · cases h
section
variable {P : Nat → Str → Prop} {Fb : Str → Bool} {n : Str} {i : Nat} {a : Addr} {oe : Obj} {cls : Value} {d : Option Addr} {pn : List (Addr × Obj)}
mutual
theorem he_ok (g : XS T M prog w mg base j c τ X) (hP : ∀ y, Fb y = true → ∀ k f, P k f → f = y) (xf : ∀ c f, P c f → XfC M.K (M.cl c) ∧ PySem.W.findIn M.K (.ref (M.cl c)) f = some none)
    (hN : c.N[i]? = some n) (hv : Vis c.sc n) (hd1 : (n == ("__debug__" : Str)) = false) (hd2 : (n == ("__classdict__" : Str)) = false) (hz : Zc cls d oe) (hf : ∃ vs, oe.data = .fields vs) :
    ∀ (he : HE) (x : Expr), okH Fb n he x = true → PE (X.suite a ((a, oe) :: pn)) x (rdH M P i a cls d he)
  | .fld, x, h => by
    simp only [okH] at h
    split at h
    · rename_i z p y p2
      simp only [Bool.and_eq_true, decide_eq_true_eq] at h
      obtain ⟨rfl, hy⟩ := h
      refine ⟨fun pins s σ H Q I ⟨ex, ι, hh, dx, f, v, vd, k, sim, hk, hc, pf, ed, eH, nd, rv, es, q⟩ => ?_⟩
      obtain rfl := hP y hy k f pf
      obtain ⟨xk, xno⟩ := xf k f pf
      have gg := g.toXG
      have pv : PE (X.suite a ((a, oe) :: pn)) (.Name z p) (tVar i) := pe_var (by show X.N[i]? = _; rw [gg.N]; exact hN) (by show Vis X.env.scope z; rw [gg.sc]; exact hv) hd1 hd2
      refine (pe_xf (C := M.cl k) (by rw [gg.K]; exact xk) (by rw [gg.K]; exact xno) hz hf pv).run pins s σ H Q I ?_
      exact ⟨_, es, rfl, hc, dx, _, v, ed, eH, by simp [List.lookup], q H v sim.refl sim rv⟩
    · cases h
  | .k dk, x, h => by
    simp only [okH] at h
    obtain ⟨v, p, r⟩ := k_tc (X := X.suite a ((a, oe) :: pn)) h
    exact p.imp fun σ H Q ⟨ex, ι, hh, dx, f, v, vd, k, sim, hk, hc, pf, ed, eH, nd, rv, es, q⟩ => q H _ sim.refl sim (r _ _ _)
  | .tp r, x, h => by
    simp only [okH] at h
    split at h
    · rename_i xs _ _
      simp only [Bool.and_eq_true, decide_eq_true_eq] at h
      refine (pe_tup (hl_ok g hP xf hN hv hd1 hd2 hz hf r xs h.2)).imp fun σ H Q ⟨ex, ι, hh, dx, f, v, vd, k, sim, hk, hc, pf, ed, eH, nd, rv, es, q⟩ => ?_
      refine ⟨ex, ι, hh, dx, f, v, vd, k, sim, hk, hc, pf, ed, eH, nd, rv, es, fun H' vs x1 s1 rl => ⟨?_, fun p0 n0 => ?_⟩⟩
      · rw [← rl.length, hl_len h.2, sizeLine_eq]
        omega
      · obtain ⟨x2, s2, t2⟩ := tup_new s1 rl n0
        exact q _ _ (x1.trans x2) s2 (by simp only [heD]; exact t2)
    · cases h
  | .nil, x, h => by simp [okH] at h
  | .cons _ _, x, h => by simp [okH] at h
theorem hl_ok (g : XS T M prog w mg base j c τ X) (hP : ∀ y, Fb y = true → ∀ k f, P k f → f = y) (xf : ∀ c f, P c f → XfC M.K (M.cl c) ∧ PySem.W.findIn M.K (.ref (M.cl c)) f = some none)
    (hN : c.N[i]? = some n) (hv : Vis c.sc n) (hd1 : (n == ("__debug__" : Str)) = false) (hd2 : (n == ("__classdict__" : Str)) = false) (hz : Zc cls d oe) (hf : ∃ vs, oe.data = .fields vs) :
    ∀ (he : HE) (xs : List Expr), okHs Fb n he xs = true → PA (X.suite a ((a, oe) :: pn)) xs (rdHs M P i a cls d he)
  | .nil, [], _ => pa_nil.imp fun σ H Q ⟨ex, ι, hh, dx, f, v, vd, k, sim, hk, hc, pf, ed, eH, nd, rv, es, q⟩ => q H [] sim.refl sim (by simp only [heL]; exact .nil)
  | .cons a0 r, x :: xs, h => by
    simp only [okHs, Bool.and_eq_true] at h
    refine (pa_cons (he_ok g hP xf hN hv hd1 hd2 hz hf a0 x h.1.2) (hl_ok g hP xf hN hv hd1 hd2 hz hf r xs h.2) (starEach_plain h.1.1)).imp fun σ H Q ⟨ex, ι, hh, dx, f, v, vd, k, sim, hk, hc, pf, ed, eH, nd, rv, es, q⟩ => ?_
    refine ⟨ex, ι, hh, dx, f, v, vd, k, sim, hk, hc, pf, ed, eH, nd, rv, es, fun H' v' x1 s1 r1 => ⟨ex, ι, hh, dx, f, v, vd, k, s1, hk, hc, pf, ed, (x1.keep dx _ nd eH).nd rfl, nd, rv.mono x1, es, fun H2 vs x2 s2 r2 => ?_⟩⟩
    exact q H2 (v' :: vs) (x1.trans x2) s2 (by simp only [heL]; exact .cons (r1.mono x2) r2)
  | .nil, _ :: _, h => by simp [okHs] at h
  | .cons _ _, [], h => by simp [okHs] at h
  | .fld, _, h => by simp [okHs] at h
  | .k _, _, h => by simp [okHs] at h
  | .tp _, _, h => by simp [okHs] at h
end
end
/-- the context of a try suite -/
theorem XS.tr (g : XS T M prog w mg base j c τ X) {W : WX} {pn : List (Addr × Obj)} {xe : Value → Shared → Prop} (tk : Takes (X.tr pn xe) W) (po : PassesOwn (model X.prog X.w) X.A X.env xe) :
    XS T M prog w mg base j c (fun W' => ∀ c d σ H, σ.length = X.N.length → W' c d H → W c d σ H) (X.tr pn xe) where
  tk := fun W' h => takes_len tk h
  prog := g.prog
  w := g.w
  K := g.K
  mg := g.mg
  base := g.base
  N := g.N
  nd := g.nd
  sc := g.sc
  own := g.own
  calm := g.calm
  gd := g.gd
  room := g.room
  po := po
  kind := g.kind
  stk := g.stk
  frm := g.frm
  wo := ⟨W, tk, fun W' h c d σ H l q => h c d σ H l q⟩
theorem s_try_as (W0 : Wd T M prog w mg base j F) (g : XS T M prog w mg base j c τ X) {b : S} {c0 : Nat} {he : HE} {y n : Str} {np p1 pos' : Pos} {body : List Stmt} {i : Nat} {Fb : Str → Bool} (ih : ∀ τ' X', XS T M prog w mg base j c τ' X' → PSs X' body (rdS τ' M T.pg F b))
    (hy : y = T.cn c0) (hc0 : c0 ∈ T.xc) (hg : Gl X y) (hdb : (y == ("__debug__" : Str)) = false) (hN : c.N[i]? = some n) (hl : c.sc.names.lookup n = some .local) (hd1 : (n == ("__debug__" : Str)) = false) (hd2 : (n == ("__classdict__" : Str)) = false)
    (hx : okH Fb n he x = true) (hP : ∀ k ∈ T.xl, T.pg.sub k c0 = true → ∀ y, Fb y = true → T.fl k = [y]) :
    PS X (.Try body [.ExceptHandler (some (.Name y np)) (some n) [.Return (some x) p1] pos'] [] [] pos) (rdS τ M T.pg F (.try_ b [(c0, he)])) := by
  subst hy
  obtain ⟨Wo, tk, le⟩ := g.wo
  have gg := g.toXG
  have hP2 : ∀ y, Fb y = true → ∀ k f, (k ∈ T.xl ∧ T.pg.sub k c0 = true ∧ M.fl k = [f]) → f = y := fun y hy k f ⟨h1, h2, h3⟩ => by
    obtain ⟨f2, D, q1, q2, _⟩ := W0.xcs k h1
    rw [hP k h1 h2 y hy] at q1
    rw [q2] at h3
    cases h3; cases q1; rfl
  have xf : ∀ k f, (k ∈ T.xl ∧ T.pg.sub k c0 = true ∧ M.fl k = [f]) → XfC M.K (M.cl k) ∧ PySem.W.findIn M.K (.ref (M.cl k)) f = some none := fun k f ⟨h1, h2, h3⟩ => by
    obtain ⟨f2, D, q1, q2, ok, hno, xf, _⟩ := W0.xcs k h1
    rw [q2] at h3
    cases h3
    exact ⟨xf, hno⟩
  refine ps_len (ps_try_as (i := i) (c := .ref (M.cl c0)) g.stk g.frm (by rw [gg.N]; exact gg.nd) (by rw [gg.N]; exact hN) (by unfold Env.kindOf; rw [gg.sc]; exact hl) ⟨hg, hdb, .inl (by rw [gg.mg]; exact W0.xnm c0 hc0)⟩ tk
    (tb := fun W => rdS (fun W' => ∀ c d σ H, σ.length = X.N.length → W' c d H → W c d σ H) M T.pg F b)
    (ts := fun a cls d => tRet (rdH M (fun k f => k ∈ T.xl ∧ T.pg.sub k c0 = true ∧ M.fl k = [f]) i a cls d he))
    (fun W pn xe tkW po => ih _ _ (g.tr tkW po)) (fun a oe cls d pn hz hf => pss_one (ps_ret (he_ok g hP2 xf hN (.inl hl) hd1 hd2 hz hf he x hx)))) fun D σ H hl ⟨ex, W, ι, h, m, tW, sim, en, po⟩ => ?_
  simp only [evS] at po
  refine ⟨ex, fun cls d H' => ∀ σ', σ'.length = X.N.length → wAs X.K (.ref (M.cl c0)) i _ Wo D cls d σ' H', ι, h, m, fun c d σ H l q => q σ l, sim, en, ?_⟩
  cases e : evS T.pg F b m h with
  | bad => rw [e] at po; exact False.elim po
  | ok fl h1 => rw [e] at po; exact po
  | exc k v h1 =>
    rw [e] at po
    intro ι1 H1 dx f u x1 s1 hxk hfl eH nd rv σ' hl'
    have hk := (W0.xks k).mp hxk
    refine ⟨T.pg.sub k c0, by rw [gg.K]; exact W0.exm k hk c0 hc0, fun hb a na => ?_, fun hb => ?_⟩
    · have po : Po (Mw M ex) W ι H (.ok (.rt (heD v he)) h1) (PF (Mw M ex) D) := by simpa only [R.catch_, hand, hb, if_true] using po
      have hi : i < σ'.length := by rw [hl', gg.N]; exact (List.getElem?_eq_some_iff.mp hN).1
      exact ⟨ex, ι1, h1, dx, f, u, v, k, s1, hxk, rfl, ⟨hk, hb, hfl⟩, rfl, eH, nd, rv, by simp [hi], fun H' v' x2 s2 r2 => po ι1 H' (x1.trans x2) s2 v' r2⟩
    · have po : Po (Mw M ex) W ι H (.exc k v h1) (PF (Mw M ex) D) := by simpa only [R.catch_, hand, hb, Bool.false_eq_true, if_false] using po
      exact le W tW _ _ σ' H1 hl' (po ι1 H1 dx f u x1 s1 hxk hfl eH nd rv)
end
end Mx
set_option Elab.async false
set_option linter.all false
set_option maxRecDepth 100000
set_option maxHeartbeats 4000000
namespace Mx
open PySem L2
def notComp : Expr → Bool
  | .ListComp _ _ _ _ => false
  | .SetComp _ _ _ _ => false
  | .DictComp _ _ _ _ _ => false
  | _ => true
theorem swaps_plain {x : Expr} (h : notComp x = true) (tg : Option Expr) (l : Nat) (env : Env) : swapsWith x tg l env = pure false := by
  cases x <;> first | (simp [notComp] at h; done) | rfl
theorem swaps_tg {x tg : Expr} (h : (match tg with | .Name _ _ => true | _ => false) = false) (l : Nat) (env : Env) : swapsWith x (some tg) l env = pure false := by
  cases tg <;> first | (simp at h; done) | (cases x <;> rfl)
theorem sole (tg x : Expr) (l : Nat) (env : Env) : swapsWithSole [tg] x l env = swapsWith x (some tg) l env := by
  unfold swapsWithSole
  rfl
def swapB (c : Ct) (y : Str) (py xp : Pos) (scope : Scope) : Bool := (match c.sc.names.lookup y with | some .local => true | _ => false) && (py.line == xp.line) && !(scope.names.any fun (n, k) => n == y && (k == .local || k == .cell))
theorem swaps_lc {c : Ct} {env : Env} (hs : env.scope = c.sc) (hk : c.sc.kind = .function) (elt : Expr) (gens : List Comprehension) (scope : Scope) (p py : Pos) (y : Str) (l : Nat) :
    swapsWith (.ListComp elt gens scope p) (some (.Name y py)) l env = pure (swapB c y py p scope) := by
  have ky : env.kindOf y = c.sc.names.lookup y := by unfold Env.kindOf; rw [hs]
  have hb : env.blockKind = .function := by unfold Env.blockKind; rw [hs, hk]; rfl
  unfold swapsWith swapB
  simp only [hb, ky, Expr.pos]
  cases h : c.sc.names.lookup y with
  | none => rfl
  | some k => cases k <;> rfl
def swTT (c : Ct) (ts vs : List Expr) : Option (Option (List Str)) :=
  if (!(ts.length == 2 || ts.length == 3) || vs.length != ts.length) = true then some none else
  if (vs.any fun | .Starred .. => true | _ => false) = true then some none else
  let names := ts.filterMap fun
    | .Name id pos => if (match c.sc.names.lookup id with | some .local => true | _ => false) && pos.line == (ts.head?.map (·.pos.line)).getD 0 then some id else none
    | _ => none
  if (names.length != ts.length || names.eraseDups.length != names.length) = true then some none else
  if vs.all (foldedForSure 8) = true then some none else
  if vs.all (constantsAlone 8) = true then none else some (some names)
theorem loc_beq (o : Option NameKind) : (o == some NameKind.local) = (match o with | some .local => true | _ => false) := by
  cases o with
  | none => rfl
  | some k => cases k <;> rfl
theorem sw_tt {c : Ct} {env : Env} (hs : env.scope = c.sc) (hk : c.sc.kind = .function) {ts vs : List Expr} {k k2 : Nat} {p p2 : Pos} {r : Option (List Str)} (h : swTT c ts vs = some r) :
    swappedStores [.Tuple ts k p] (.Tuple vs k2 p2) env = pure r := by
  have ky : ∀ y, env.kindOf y = c.sc.names.lookup y := fun y => by unfold Env.kindOf; rw [hs]
  have hb : env.blockKind = .function := by unfold Env.blockKind; rw [hs, hk]; rfl
  have hb2 : (env.blockKind != ScopeKind.function) = false := by rw [hb]; rfl
  unfold swTT at h
  unfold swappedStores
  simp only [hb2, Bool.or_false, ky, loc_beq]
  split at h
  · rename_i h1
    cases h
    exact if_pos h1
  · rename_i h1
    refine (if_neg h1).trans ?_
    split at h
    · rename_i h2
      cases h
      exact if_pos h2
    · rename_i h2
      refine (if_neg h2).trans ?_
      dsimp only at h
      split at h
      · rename_i h3
        cases h
        exact if_pos h3
      · rename_i h3
        refine (if_neg h3).trans ?_
        split at h
        · rename_i h4
          cases h
          exact if_pos h4
        · rename_i h4
          refine (if_neg h4).trans ?_
          split at h
          · cases h
          · rename_i h5
            cases h
            exact if_neg h5
theorem sw_none {tg x : Expr} {env : Env} (h : isTup tg = true ∨ (match tg with | .Name _ _ => true | _ => false) = true) (h2 : (isTup tg && isTup x) = false) : swappedStores [tg] x env = pure none := by
  cases tg <;> first
    | rfl
    | (cases x <;> first | rfl | (simp [isTup] at h2; done))
    | (simp [isTup] at h; done)
/-- names of one's own, plain ones -/
def par2 (c : Ct) : Mx.T → List Expr → List Str → Bool
  | .cons (.nm i) (.cons (.nm j) .nil), [.Name x _, .Name y _], [x', y'] => decide (c.N[i]? = some x) && decide (c.N[j]? = some y) && decide (i ≠ j) && (match c.sc.names.lookup x with | some .local => true | _ => false) && (match c.sc.names.lookup y with | some .local => true | _ => false) && decide (x' = x) && decide (y' = y)
  | _, _, _ => false
def par3 (c : Ct) : Mx.T → List Expr → List Str → Bool
  | .cons (.nm i) (.cons (.nm j) (.cons (.nm l) .nil)), [.Name x _, .Name y _, .Name z _], [x', y', z'] => decide (c.N[i]? = some x) && decide (c.N[j]? = some y) && decide (c.N[l]? = some z) && decide (i ≠ j) && decide (i ≠ l) && decide (j ≠ l) && (match c.sc.names.lookup x with | some .local => true | _ => false) && (match c.sc.names.lookup y with | some .local => true | _ => false) && (match c.sc.names.lookup z with | some .local => true | _ => false) && decide (x' = x) && decide (y' = y) && decide (z' = z)
  | _, _, _ => false
/-- an assignment to a name or a tuple of names -/
def okAsg (T : Tb) (c : Ct) (t : Mx.T) (e : E) (tg x : Expr) : Bool :=
  match tg with
  | .Name y py => (match x with
    | .ListComp elt gens scope p => if swapB c y py p scope = true then (match t, e with
      | .nm i, .nl _ e' => decide (c.N[i]? = some y) && (match c.sc.names.lookup y with | some .local => true | _ => false) && okN T e' c x
      | _, _ => false) else okT t c tg && okE T e c x
    | x => notComp x && okT t c tg && okE T e c x)
  | .Tuple ts _ _ => (match x with
    | .Tuple vs _ _ => (match swTT c ts vs with
      | none => false
      | some none => okT t c tg && okE T e c x
      | some (some names) => (match t, e with
        | .tp t', .tup es => (par2 c t' ts names || par3 c t' ts names) && okEs T es c vs
        | _, _ => false))
    | x => okT t c tg && okE T e c x)
  | _ => false
def okS (T : Tb) : S → Ct → List Stmt → Bool
  | .nop, c, sts => match sts with
    | [] => true
    | [.Pass _] => true
    | [.Expr (.Constant (.str _) _ _) _] => true
    | _ => false
  | .seq a b, c, sts => match sts with
    | x :: y :: r => okS T a c [x] && okS T b c (y :: r)
    | _ => false
  | .ex e, c, sts => match sts with
    | [.Expr x _] => notComp x && okE T e c x
    | _ => false
  | .set t e, c, sts => match sts with
    | [.Assign [tg] x _] => okAsg T c t e tg x
    | _ => false
  | .aug i o e, c, sts => match sts with
    | [.AugAssign (.Name z _) op x _] => decide (op = bop o) && locC c i z && okE T e c x
    | _ => false
  | .setIx a b e, c, sts => match sts with
    | [.Assign [.Subscript a' b' _] x _] => notSlice b' && okE T a c a' && okE T b c b' && okE T e c x
    | _ => false
  | .augIx o a b e, c, sts => match sts with
    | [.AugAssign (.Subscript a' b' _) op x _] => decide (op = bop o) && notSlice b' && okE T a c a' && okE T b c b' && okE T e c x
    | _ => false
  | .setFld k a f e, c, sts => match sts with
    | [.Assign [.Attribute a' y _] x _] => decide ((T.fl k)[f]? = some y) && decide (T.fl k).Nodup && decide ((T.fl k).length < 900) && T.cl.contains k && okE T a c a' && okE T e c x
    | _ => false
  | .ret e, c, sts => match sts with
    | [.Return (some x) _] => okE T e c x
    | [.Return none _] => (match e with
      | .k .non => true
      | _ => false)
    | _ => false
  | .ite e a b, c, sts => match sts with
    | [.If x p q _] => okE T e c x && okS T a c p && okS T b c q
    | _ => false
  | .for_ t it b, c, sts => match sts with
    | [.For tg iter body [] _] => notSet iter && okI T it c iter tg && okT t c tg && okS T b c body
    | _ => false
  | .forD w t i b, c, sts => match sts with
    | [.For tg iter body [] _] => notSet iter && okW c i tg w iter && okT t c tg && okS T b c body
    | _ => false
  | .while_ e b, c, sts => match sts with
    | [.While x body [] _] => okE T e c x && okS T b c body
    | _ => false
  | .brk, c, sts => match sts with
    | [.Break _] => true
    | _ => false
  | .cont, c, sts => match sts with
    | [.Continue _] => true
    | _ => false
  | .raise_ k e, c, sts => match sts with
    | [.Raise (some (.Call (.Name y _) [x] [] _)) none _] => T.xl.contains k && decide (y = T.cn k) && glC c y && plainE x && okE T e c x
    | _ => false
  | .try_ b hs, c, sts => match sts with
    | [.Try body [.ExceptHandler (some (.Name y _)) (some n) [.Return (some x) _] _] [] [] _] => (match hs with
      | [(c0, he)] => okS T b c body && decide (y = T.cn c0) && T.xc.contains c0 && glC c y && decide (c.N[c.N.idxOf n]? = some n) && (match c.sc.names.lookup n with | some .local => true | _ => false) && !(n == ("__debug__" : Str)) && !(n == ("__classdict__" : Str)) &&
        okH (fun z => T.xl.all fun k => !(T.pg.sub k c0) || decide (T.fl k = [z])) n he x
      | _ => false)
    | _ => false
section
variable {T : Tb} {M : Rl} {prog : Program} {w : World} {mg : Str → Option Value} {base : Heap} {j : Nat} {F : Ph} {c : Ct} {τ : XK → Prop} {X : Cx}
theorem loc_look {c : Ct} {x : Str} (h : (match c.sc.names.lookup x with | some .local => true | _ => false) = true) : c.sc.names.lookup x = some .local := by
  split at h
  · assumption
  · cases h
theorem asg_ok (W0 : Wd T M prog w mg base j F) (g : XS T M prog w mg base j c τ X) {t : Mx.T} {e : E} {tg x : Expr} {pos : Pos} (h : okAsg T c t e tg x = true) : PS X (.Assign [tg] x pos) (rdS τ M T.pg F (.set t e)) := by
  have gx := g.toXG
  unfold okAsg at h
  split at h
  · rename_i y py
    split at h
    · rename_i elt gens scope p
      split at h
      · rename_i hsw
        split at h
        · rename_i i m0 e'
          simp only [Bool.and_eq_true, decide_eq_true_eq] at h
          exact s_setLc ((expr_ok W0 e').lc c τ X elt gens scope p i y py pos gx h.2 h.1.1 (loc_look h.1.2) (by rw [swaps_lc gx.sc g.kind, hsw]))
        · cases h
      · rename_i hsw
        simp only [Bool.and_eq_true] at h
        have hsw' : swapB c y py p scope = false := by simpa using hsw
        exact s_set ((expr_ok W0 e).e c τ X _ gx h.2).1 (tg_ok t gx h.1) rfl (by rw [sole, swaps_lc gx.sc g.kind, hsw']) rfl
    · simp only [Bool.and_eq_true] at h
      exact s_set ((expr_ok W0 e).e c τ X _ gx h.2).1 (tg_ok t gx h.1.2) rfl (by rw [sole]; exact swaps_plain h.1.1 _ _ _) rfl
  · rename_i ts k p
    split at h
    · rename_i vs k2 p2
      split at h
      · cases h
      · rename_i hsw
        simp only [Bool.and_eq_true] at h
        exact s_set ((expr_ok W0 e).e c τ X _ gx h.2).1 (tg_ok t gx h.1) rfl rfl (sw_tt gx.sc g.kind hsw)
      · rename_i names hsw
        split at h
        · rename_i t' es
          simp only [Bool.and_eq_true, Bool.or_eq_true] at h
          have pa := (expr_ok W0 es).es c τ X _ gx h.2
          rcases h.1 with h1 | h1
          · unfold par2 at h1
            split at h1
            · rename_i i j' x px y py x' y'
              simp only [Bool.and_eq_true, decide_eq_true_eq] at h1
              obtain ⟨⟨⟨⟨⟨⟨h1, h2⟩, h3⟩, h4⟩, h5⟩, rfl⟩, rfl⟩ := h1
              match vs, hsw, pa with
              | [a, b], hsw, pa =>
                exact (ps_par (i := i) (j := j') gx.calm (by rw [gx.N]; exact gx.nd) (by rw [gx.N]; exact h1) (by rw [gx.N]; exact h2) h3 (by rw [gx.sc]; exact loc_look h4) (by rw [gx.sc]; exact loc_look h5) pa (sw_tt gx.sc g.kind hsw) rfl).imp fun D σ H q => par_read q
              | [], hsw, _ => simp [swTT] at hsw
              | [_], hsw, _ => simp [swTT] at hsw
              | _ :: _ :: _ :: _, hsw, _ => simp [swTT] at hsw
            · cases h1
          · unfold par3 at h1
            split at h1
            · rename_i i j' l x px y py z pz x' y' z'
              simp only [Bool.and_eq_true, decide_eq_true_eq] at h1
              obtain ⟨⟨⟨⟨⟨⟨⟨⟨⟨⟨⟨h1, h2⟩, h3⟩, h4⟩, h5⟩, h6⟩, h7⟩, h8⟩, h9⟩, rfl⟩, rfl⟩, rfl⟩ := h1
              match vs, hsw, pa with
              | [a, b, d], hsw, pa =>
                exact (ps_par3 (i := i) (j := j') (l := l) gx.calm (by rw [gx.N]; exact gx.nd) (by rw [gx.N]; exact h1) (by rw [gx.N]; exact h2) (by rw [gx.N]; exact h3) h4 h5 h6 (by rw [gx.sc]; exact loc_look h7) (by rw [gx.sc]; exact loc_look h8) (by rw [gx.sc]; exact loc_look h9) pa (sw_tt gx.sc g.kind hsw) rfl).imp fun D σ H q => par3_read q
              | [], hsw, _ => simp [swTT] at hsw
              | [_], hsw, _ => simp [swTT] at hsw
              | [_, _], hsw, _ => simp [swTT] at hsw
              | _ :: _ :: _ :: _ :: _, hsw, _ => simp [swTT] at hsw
            · cases h1
        · cases h
    · rename_i hx
      simp only [Bool.and_eq_true] at h
      have hx' : isTup x = false := by
        cases x <;> first | rfl | (exact (hx _ _ _ rfl).elim)
      exact s_set ((expr_ok W0 e).e c τ X _ gx h.2).1 (tg_ok t gx h.1) rfl (by rw [sole]; exact swaps_tg rfl _ _) (sw_none (.inl rfl) (by rw [hx']; rfl))
  · cases h
structure SndS (T : Tb) (M : Rl) (prog : Program) (w : World) (mg : Str → Option Value) (base : Heap) (j : Nat) (F : Ph) (s : S) : Prop where
  one : ∀ c τ X x, XS T M prog w mg base j c τ X → okS T s c [x] = true → PS X x (rdS τ M T.pg F s)
  many : ∀ c τ X sts, XS T M prog w mg base j c τ X → okS T s c sts = true → PSs X sts (rdS τ M T.pg F s)
/-- a statement alone -/
theorem SndS.single {s : S} (h : ∀ c τ X x, XS T M prog w mg base j c τ X → okS T s c [x] = true → PS X x (rdS τ M T.pg F s)) (h0 : ∀ c sts, okS T s c sts = true → ∃ x, sts = [x]) : SndS T M prog w mg base j F s where
  one := h
  many := fun c τ X sts g q => by
    obtain ⟨x, rfl⟩ := h0 c sts q
    exact pss_one (h c τ X x g q)
theorem stmt_ok (W0 : Wd T M prog w mg base j F) (s : S) : SndS T M prog w mg base j F s := by
  induction s with
  | nop =>
    refine ⟨fun c τ X x g h => ?_, fun c τ X sts g h => ?_⟩
    · simp only [okS] at h
      split at h
      · rename_i e; cases e
      · rename_i e; cases e; exact s_nop ps_pass
      · rename_i e; cases e; exact s_nop ps_doc
      · cases h
    · simp only [okS] at h
      split at h
      · exact s_nil
      · exact pss_one (s_nop ps_pass)
      · exact pss_one (s_nop ps_doc)
      · cases h
  | seq a b iha ihb =>
    refine ⟨fun c τ X x g h => ?_, fun c τ X sts g h => ?_⟩
    · simp [okS] at h
    · simp only [okS] at h
      split at h
      · simp only [Bool.and_eq_true] at h
        exact s_seq (iha.one c τ X _ g h.1) (ihb.many c τ X _ g h.2)
      · cases h
  | ex e =>
    refine SndS.single (fun c τ X x g h => ?_) fun c sts h => ?_
    · simp only [okS] at h
      split at h
      · rename_i e0; cases e0
        simp only [Bool.and_eq_true] at h
        exact s_ex ((expr_ok W0 e).e c τ X _ g.toXG h.2).1 (swaps_plain h.1 _ _ _)
      · cases h
    · simp only [okS] at h
      split at h
      · exact ⟨_, rfl⟩
      · cases h
  | set t e =>
    refine SndS.single (fun c τ X x g h => ?_) fun c sts h => ?_
    · simp only [okS] at h
      split at h
      · rename_i e0; cases e0
        exact asg_ok W0 g h
      · cases h
    · simp only [okS] at h
      split at h
      · exact ⟨_, rfl⟩
      · cases h
  | aug i o e =>
    refine SndS.single (fun c τ X x g h => ?_) fun c sts h => ?_
    · simp only [okS] at h
      split at h
      · rename_i e0; cases e0
        simp only [Bool.and_eq_true, decide_eq_true_eq] at h
        obtain ⟨⟨rfl, h1⟩, h2⟩ := h
        obtain ⟨l1, l2, l3⟩ := loc_of h1
        exact s_aug g.toXG l1 l2 l3 ((expr_ok W0 e).e c τ X _ g.toXG h2).1
      · cases h
    · simp only [okS] at h
      split at h
      · exact ⟨_, rfl⟩
      · cases h
  | setIx a b e =>
    refine SndS.single (fun c τ X x g h => ?_) fun c sts h => ?_
    · simp only [okS] at h
      split at h
      · rename_i e0; cases e0
        simp only [Bool.and_eq_true] at h
        exact s_setIx h.1.1.1 g.toXG ((expr_ok W0 a).e c τ X _ g.toXG h.1.1.2).1 ((expr_ok W0 b).e c τ X _ g.toXG h.1.2).1 ((expr_ok W0 e).e c τ X _ g.toXG h.2).1 (by rw [sole]; exact swaps_tg rfl _ _)
      · cases h
    · simp only [okS] at h
      split at h
      · exact ⟨_, rfl⟩
      · cases h
  | augIx o a b e =>
    refine SndS.single (fun c τ X x g h => ?_) fun c sts h => ?_
    · simp only [okS] at h
      split at h
      · rename_i e0; cases e0
        simp only [Bool.and_eq_true, decide_eq_true_eq] at h
        obtain ⟨⟨⟨⟨rfl, h1⟩, h2⟩, h3⟩, h4⟩ := h
        exact s_augIx h1 g.toXG ((expr_ok W0 a).e c τ X _ g.toXG h2).1 ((expr_ok W0 b).e c τ X _ g.toXG h3).1 ((expr_ok W0 e).e c τ X _ g.toXG h4).1
      · cases h
    · simp only [okS] at h
      split at h
      · exact ⟨_, rfl⟩
      · cases h
  | setFld k a f e =>
    refine SndS.single (fun c τ X x g h => ?_) fun c sts h => ?_
    · simp only [okS] at h
      split at h
      · rename_i e0; cases e0
        simp only [Bool.and_eq_true, decide_eq_true_eq] at h
        obtain ⟨⟨⟨⟨⟨h1, h2⟩, h3⟩, h4⟩, h5⟩, h6⟩ := h
        exact s_setFld (W0 := W0) g.toXG ⟨h1, h2, h3⟩ (W0.okc k (by simpa using h4)) ((expr_ok W0 a).e c τ X _ g.toXG h5).1 ((expr_ok W0 e).e c τ X _ g.toXG h6).1 (swaps_tg rfl _ _)
      · cases h
    · simp only [okS] at h
      split at h
      · exact ⟨_, rfl⟩
      · cases h
  | ret e =>
    refine SndS.single (fun c τ X x g h => ?_) fun c sts h => ?_
    · simp only [okS] at h
      split at h
      · rename_i e0; cases e0
        exact s_ret ((expr_ok W0 e).e c τ X _ g.toXG h).1
      · rename_i e0; cases e0
        split at h
        · exact s_retN
        · cases h
      · cases h
    · simp only [okS] at h
      split at h
      · exact ⟨_, rfl⟩
      · exact ⟨_, rfl⟩
      · cases h
  | ite e a b iha ihb =>
    refine SndS.single (fun c τ X x g h => ?_) fun c sts h => ?_
    · simp only [okS] at h
      split at h
      · rename_i e0; cases e0
        simp only [Bool.and_eq_true] at h
        exact s_ite ((expr_ok W0 e).e c τ X _ g.toXG h.1.1).2 (iha.many c τ X _ g h.1.2) (ihb.many c τ X _ g h.2)
      · cases h
    · simp only [okS] at h
      split at h
      · exact ⟨_, rfl⟩
      · cases h
  | for_ t it b ih =>
    refine SndS.single (fun c τ X x g h => ?_) fun c sts h => ?_
    · simp only [okS] at h
      split at h
      · rename_i e0; cases e0
        simp only [Bool.and_eq_true] at h
        exact s_for g ((expr_ok W0 it).i c τ X _ _ g.toXG h.1.1.2) (tg_ok t g.toXG h.1.2) (ih.many c τ X _ g h.2) (set_of h.1.1.1 _)
      · cases h
    · simp only [okS] at h
      split at h
      · exact ⟨_, rfl⟩
      · cases h
  | forD w0 t i b ih =>
    refine SndS.single (fun c τ X x g h => ?_) fun c sts h => ?_
    · simp only [okS] at h
      split at h
      · rename_i e0; cases e0
        simp only [Bool.and_eq_true] at h
        exact s_forD g (pi_okW g.toXG h.1.1.2) (tg_ok t g.toXG h.1.2) (ih.many c τ X _ g h.2) (set_of h.1.1.1 _)
      · cases h
    · simp only [okS] at h
      split at h
      · exact ⟨_, rfl⟩
      · cases h
  | while_ e b ih =>
    refine SndS.single (fun c τ X x g h => ?_) fun c sts h => ?_
    · simp only [okS] at h
      split at h
      · rename_i e0; cases e0
        simp only [Bool.and_eq_true] at h
        exact s_while g ((expr_ok W0 e).e c τ X _ g.toXG h.1).2 (ih.many c τ X _ g h.2)
      · cases h
    · simp only [okS] at h
      split at h
      · exact ⟨_, rfl⟩
      · cases h
  | brk =>
    refine SndS.single (fun c τ X x g h => ?_) fun c sts h => ?_
    · simp only [okS] at h
      split at h
      · rename_i e0; cases e0; exact s_brk
      · cases h
    · simp only [okS] at h
      split at h
      · exact ⟨_, rfl⟩
      · cases h
  | cont =>
    refine SndS.single (fun c τ X x g h => ?_) fun c sts h => ?_
    · simp only [okS] at h
      split at h
      · rename_i e0; cases e0; exact s_cont
      · cases h
    · simp only [okS] at h
      split at h
      · exact ⟨_, rfl⟩
      · cases h
  | raise_ k e =>
    refine SndS.single (fun c τ X x g h => ?_) fun c sts h => ?_
    · simp only [okS] at h
      split at h
      · rename_i y p1 x' p2 p3 e0
        cases e0
        simp only [Bool.and_eq_true, decide_eq_true_eq] at h
        obtain ⟨⟨⟨⟨h1, h2⟩, h3⟩, h4⟩, h5⟩ := h
        obtain ⟨g1, g2⟩ := gl_of g.toXG h3
        exact s_raise W0 g (by simpa using h1) h2 g1 g2 h4 ((expr_ok W0 e).e c τ X _ g.toXG h5).1
      · cases h
    · simp only [okS] at h
      split at h
      · exact ⟨_, rfl⟩
      · cases h
  | try_ b hs ih =>
    refine SndS.single (fun c τ X x g h => ?_) fun c sts h => ?_
    · simp only [okS] at h
      split at h
      · rename_i body y p1 n x' p2 p3 p4 e0
        cases e0
        split at h
        · rename_i c0 he
          simp only [Bool.and_eq_true, decide_eq_true_eq, Bool.not_eq_true'] at h
          obtain ⟨⟨⟨⟨⟨⟨⟨⟨h1, h2⟩, h3⟩, h4⟩, h5⟩, h6⟩, h7⟩, h8⟩, h9⟩ := h
          obtain ⟨g1, g2⟩ := gl_of g.toXG h4
          refine s_try_as W0 g (fun τ' X' g' => ih.many c τ' X' body g' h1) h2 (by simpa using h3) g1 g2 h5 (loc_look h6) h7 h8 h9 fun k hk hs z hz => ?_
          have := List.all_eq_true.mp hz k hk
          simpa [hs] using this
        · cases h
      · cases h
    · simp only [okS] at h
      split at h
      · exact ⟨_, rfl⟩
      · cases h
end
end Mx
set_option Elab.async false
set_option linter.all false
set_option maxRecDepth 100000
set_option maxHeartbeats 4000000
namespace Mx
open PySem L2
/-! ### the program -/
/-- a def of the text -/
structure Df where
  ps : List Str
  N : List Str
  sc : Scope
  body : List Stmt
def okSc (d : Df) : Bool := (match d.sc.kind with | .function => true | _ => false) && !d.sc.isCoroutine && !d.sc.isGenerator && decide d.N.Nodup && decide (d.N.take d.ps.length = d.ps) &&
  d.ps.all (fun x => match d.sc.names.lookup x with | some .local => true | some .cell => true | _ => false) && d.sc.names.all (fun y => match y.2 with | .free => false | _ => true)
theorem okSc_ok {d : Df} (h : okSc d = true) : FnScope d.N d.ps d.sc := by
  unfold okSc at h
  simp only [Bool.and_eq_true, decide_eq_true_eq, Bool.not_eq_true', List.all_eq_true] at h
  obtain ⟨⟨⟨⟨⟨⟨h1, h2⟩, h3⟩, h4⟩, h5⟩, h6⟩, h7⟩ := h
  refine ⟨?_, h2, h3, h4, h5, fun x hx => ?_, fun y hy => ?_⟩
  · split at h1
    · assumption
    · cases h1
  · have q := h6 x hx
    split at q
    · exact .inl (by assumption)
    · exact .inr (by assumption)
    · cases q
  · intro z
    have q := h7 y hy
    rw [z] at q
    cases q
def okDf (T : Tb) (fn : Fn) (d : Df) : Bool := decide (fn.np = d.ps.length) && decide (fn.nn = d.N.length) && okSc d && okS T fn.body ⟨d.N, d.sc, fun _ => true⟩ d.body
/-- what the program's head says -/
structure Fx (T : Tb) (M : Rl) (prog : Program) (mg : Str → Option Value) (ds : Nat → Option Df) (fa : Nat → Addr) (fd : Nat → FuncData) : Prop extends Ws T M prog mg where
  okd : ∀ i fn, T.pg.fns i = some fn → ∃ d, ds i = some d ∧ okDf T fn d = true
  def_ : ∀ i d, ds i = some d → ∃ name qual params dvs kws, FunD M.K name qual params d.body d.sc dvs kws (fa i) (fd i)
  sgs : ∀ s g, T.pg.sgs s = some g → mg (T.fn g.f) = some (.ref (fa g.f)) ∧ ∃ d, ds g.f = some d ∧ Bd M.K (fd g.f) d.ps g.n g.ks g.pm
  mks : ∀ s c g, T.pg.mks s = some (c, g) → M.ok c ∧ Mk M.K (M.cl c) (fa g.f) ∧ ∃ d, ds g.f = some d ∧ Bd M.K (fd g.f) d.ps (g.n + 1) g.ks g.pm
section
variable {T : Tb} {M : Rl} {prog : Program} {w : World} {mg : Str → Option Value} {base : Heap} {ds : Nat → Option Df} {fa : Nat → Addr} {fd : Nat → FuncData}
theorem start_en {M : Rl} {ι : List Addr} {H : Hp} {xs : List D} {vs : List V} {N : List Str} (r : RpL M ι H xs vs) (hl : xs.length ≤ N.length) : EnR M ι H (xs.map some ++ List.replicate (N.length - xs.length) none) (L2.start N vs) := by
  refine ⟨by simp [L2.start, r.length], fun i d e => ?_⟩
  by_cases hi : i < xs.length
  · rw [List.getElem?_append_left (by simpa using hi), List.getElem?_map] at e
    cases q : xs[i]? with
    | none => rw [q] at e; cases e
    | some x =>
      rw [q] at e
      cases e
      obtain ⟨v, h1, h2⟩ := r.get q
      refine ⟨v, ?_, h2⟩
      unfold L2.start
      rw [List.getElem?_append_left (by simpa [← r.length] using hi), List.getElem?_map, h1]
      rfl
  · rw [List.getElem?_append_right (by simpa using hi), List.getElem?_replicate] at e
    split at e <;> cases e
/-- a def of the program does what the machine's one does -/
theorem fn_ok (fx : Fx T M prog mg ds fa fd) (k : Nat) (ih : Wd T M prog w mg base (2 * k) (callN T.pg k)) {i : Nat} {d : Df} (hd : ds i = some d) :
    FnG prog w M.K mg base (2 * k + 2) (fa i) (fd i) d.ps (spF M (callN T.pg (k + 1)) i d.ps.length) := by
  obtain ⟨name, qual, params, dvs, kws, FD⟩ := fx.def_ i d hd
  obtain ⟨oc, od, dV, kV, doc, pm, an, cdv, ct, osl, e, lk, hcd, _, _⟩ := FD.ex
  cases hf : T.pg.fns i with
  | none =>
    refine ⟨fun vs H Q E h => h.1, fun A outer s H args us vs Q E _ _ _ _ _ ⟨_, ex, ι, h, xs, _, _, po⟩ => ?_⟩
    simp only [callN, hf] at po
    exact False.elim po
  | some fn =>
    obtain ⟨d', hd', ok⟩ := fx.okd i fn hf
    rw [hd] at hd'; cases hd'
    unfold okDf at ok
    simp only [Bool.and_eq_true, decide_eq_true_eq] at ok
    obtain ⟨⟨⟨ok1, ok2⟩, ok3⟩, ok4⟩ := ok
    have S := okSc_ok ok3
    rw [e] at lk ⊢
    refine fnG_of lk hcd S (fun vs H Q E h => h.1) fun A outer s H vs Q E hr hgu ⟨hl, ex, ι, h, xs, sim, rl, po⟩ => ?_
    have hpl : d.ps.length ≤ d.N.length := by have := congrArg List.length S.pre; rw [List.length_take] at this; omega
    have g : XS T M prog w mg base (2 * k) ⟨d.N, d.sc, fun _ => true⟩ (fun W => W = E) (cxOf (L2.CX prog w) prog w M.K mg base d.N qual d.sc (fa i) cdv A outer s H E) := {
      tk := fun W hW => by subst hW; exact takes_of rfl rfl rfl rfl
      prog := rfl
      w := rfl
      K := rfl
      mg := rfl
      base := rfl
      N := rfl
      nd := S.nd
      sc := rfl
      own := fun _ _ => rfl
      calm := rfl
      gd := hgu
      room := hr
      po := passes_of rfl
      kind := S.kind
      stk := rfl
      frm := rfl
      wo := ⟨fun c d _ H => E c d H, takes_of rfl rfl rfl rfl, fun W hW c d σ H _ q => by subst hW; exact q⟩ }
    refine ⟨_, (stmt_ok ih fn.body).many _ _ _ _ g ok4, ex, E, ι, h, _, rfl, sim, start_en rl (by rw [rl.length, hl]; exact hpl), ?_⟩
    have hx : xs.length = fn.np := by rw [rl.length, hl, ok1]
    simp only [callN, hf] at po
    rw [if_pos hx, ok2] at po
    refine po.step fun fl h1 ι1 H1 x1 s1 po1 => ?_
    cases fl with
    | nx m' => exact fun σ' en' => po1 ι1 H1 s1.refl s1 _ .non
    | rt dd => exact fun v r => po1 ι1 H1 s1.refl s1 v r
    | bk m' => exact False.elim po1
    | ct m' => exact False.elim po1
theorem wd_zero (fx : Fx T M prog mg ds fa fd) : Wd T M prog w mg base 0 (callN T.pg 0) := by
  have bad : ∀ {i n vs H Q E}, spF M (callN T.pg 0) i n vs H Q E → False := fun ⟨_, ex, ι, h, xs, _, _, po⟩ => by
    simp only [callN] at po
    exact po
  refine { toWs := fx.toWs, fns := fun s g e => ?_, mks := fun s c g e => ?_ }
  · obtain ⟨h1, d, h2, h3⟩ := fx.sgs s g e
    obtain ⟨name, qual, params, dvs, kws, FD⟩ := fx.def_ _ d h2
    exact ⟨_, _, _, h1, FD.kp, ⟨fun vs H Q E h => h.1, fun _ _ _ _ _ _ _ _ _ _ _ _ _ _ q => (bad q).elim⟩, h3⟩
  · obtain ⟨h0, h1, d, h2, h3⟩ := fx.mks s c g e
    exact ⟨h0, _, _, _, h1, ⟨fun vs H Q E h => h.1, fun _ _ _ _ _ _ _ _ _ _ _ _ _ _ q => (bad q).elim⟩, h3⟩
theorem wd_all (fx : Fx T M prog mg ds fa fd) : ∀ k : Nat, Wd T M prog w mg base (2 * k) (callN T.pg k)
  | 0 => wd_zero fx
  | k + 1 => by
    have ih := wd_all fx k
    refine { toWs := fx.toWs, fns := fun s g e => ?_, mks := fun s c g e => ?_ }
    · obtain ⟨h1, d, h2, h3⟩ := fx.sgs s g e
      obtain ⟨name, qual, params, dvs, kws, FD⟩ := fx.def_ _ d h2
      exact ⟨_, _, _, h1, FD.kp, fn_ok fx k ih h2, h3⟩
    · obtain ⟨h0, h1, d, h2, h3⟩ := fx.mks s c g e
      exact ⟨h0, _, _, _, h1, fn_ok fx k ih h2, h3⟩
/-- the law's def: at every k -/
theorem law_fn (fx : Fx T M prog mg ds fa fd) (k : Nat) {i : Nat} {d : Df} (hd : ds i = some d) : FnG prog w M.K mg base (2 * k + 2) (fa i) (fd i) d.ps (spF M (callN T.pg (k + 1)) i d.ps.length) := fn_ok fx k (wd_all fx k) hd
end
end Mx
set_option Elab.async false
set_option linter.all false
set_option maxRecDepth 100000
set_option maxHeartbeats 4000000
namespace Mx
open PySem L2 PySem.Spec PyProof.Rows
/-! ### the exceptions' __init__, as the head sees them -/
abbrev FnW2 : Type := Option (Str × Str × Arguments × FuncBody × Scope × Addr × List Str × Addr)
def fnW2 (K : PySem.W.Frag) (p : Str × Option Str) : FnW2 := match K.lookup (He.fAd K p) with
  | some ⟨_, _, .func fd, _⟩ => some (fd.name, fd.qualname, fd.params, fd.body, fd.scope, fd.globals, fd.closure.map (·.1), fd.builtins)
  | _ => none
/-- an exception class: its name, the field that it keeps, its __init__ -/
structure XcI where
  cn : Str
  f : Str
  d : XcD
def XcI.val (i : XcI) : FnW2 := some ("__init__", i.d.qual, i.d.params, .stmts (i.d.body i.f), i.d.scope, mainGlobals, ["__class__"], builtinsNs)
/-- from the class's statement -/
def xcOf : Stmt → Option XcI
  | .ClassDef cn _ _ body _ _ _ _ _ _ _ => match body.getLast? with
    | some (.FunctionDef _ params [.Expr (.Call (.Attribute (.Call (.Name _ p0) [] [] p1) _ p2) [.Constant (.str txt) k p3] [] p4) p5, .Assign [.Attribute (.Name sf p6) f p7] (.Name x p8) p9] _ _ _ scope _ _ _) =>
      some ⟨cn, f, ⟨0, 0, 0, cn ++ ".__init__", params, scope, .none, .none, .none, .none, .none, .none, none, none, #[], sf, x, txt, k, p0, p1, p2, p3, p4, p5, p6, p7, p8, p9⟩⟩
    | _ => none
  | _ => none
def isLoc (sc : Scope) (x : Str) : Bool := match sc.names.lookup x with
  | some .local => true
  | _ => false
def okXc (d : XcD) : Bool := (match d.scope.kind with | .function => true | _ => false) && !d.scope.isCoroutine && !d.scope.isGenerator && d.scope.names.all (fun y => match y.2 with | .cell => false | _ => true) && isLoc d.scope d.sf && isLoc d.scope d.x &&
  (match d.scope.names.lookup ("super" : Str) with | some .globalImplicit => true | _ => false) && (match d.scope.names.lookup ("__class__" : Str) with | some .free => true | _ => false) && !(d.sf == ("__debug__" : Str)) && !(d.x == ("__debug__" : Str)) && decide (d.sf ≠ d.x) &&
  (d.p2.endLine == d.p4.line) && decide ((d.params.posonlyargs ++ d.params.args).map (·.arg) = [d.sf, d.x])
def cellB (K : PySem.W.Frag) (cc C : Addr) : Bool := match K.lookup cc with
  | some ⟨_, _, .cell (some (.ref D)), _⟩ => decide (D = C)
  | _ => false
def fileB (K : PySem.W.Frag) (cda : Addr) (file : Str) : Bool := match K.lookup cda with
  | some ⟨_, _, .fields vs, _⟩ => (match (vs[2]? : Option Value) with
    | some (.str z _) => file == z
    | _ => false)
  | _ => false
def initB (K : PySem.W.Frag) (file qual : Str) (C f : Addr) : Bool := match K.lookup f with
  | some ⟨.type c, _, .func fd, _⟩ => decide (c = "function") && (match fd.defaults with | .none => true | _ => false) && ((match fd.code with
    | .ref cda => PySem.W.codeIn K (.ref cda) qual && fileB K cda file
    | _ => false) && (match fd.closure with
    | [(_, cc)] => cellB K cc C
    | _ => false))
  | _ => false
def xcB (file : Str) (i : XcI) (K : PySem.W.Frag) : Bool :=
  PySem.W.excInitIn K (He.ga K i.cn) exB "Exception.__new__" && (PySem.W.excOver K (He.ga K i.cn) exB && (decide (PySem.W.findIn K (.ref (He.ga K i.cn)) "__setattr__" = some (some (.builtin "object.__setattr__"))) && (PySem.W.hasDictIn K (He.ga K i.cn) &&
  (decide (PySem.W.takerIn K (He.ga K i.cn) i.f = some none) && (decide (PySem.W.subIn K (.ref (He.ga K i.cn)) (.type "BaseException") = some true) && (decide (PySem.W.subIn K (.ref (He.ga K i.cn)) (.type "Exception") = some true) && (decide (PySem.W.typeIn K (.ref (He.ga K i.cn)) = some (.type "type")) &&
  (PySem.W.keepIn K (.ref (He.ga K i.cn)) && (decide (PySem.W.mroIn K (He.ga K i.cn) (.ref (He.ga K i.cn)) = some true) && ((PySem.W.clsIn K (He.ga K i.cn)).isSome && (decide (PySem.W.ks_superIn K (He.ga K i.cn) (He.ga K i.cn) "__init__" = some (some (.builtin "Exception.__init__"))) &&
  (decide (PySem.W.nsIn K cStatics "thirdparty.any" = some none) && (decide (PySem.W.findIn K (.ref (He.ga K i.cn)) "__init__" = some (some (.ref (He.ma K (He.ga K i.cn) "__init__")))) && (decide (PySem.W.findIn K (.ref (He.ga K i.cn)) i.f = some none) && (xfB K (He.ga K i.cn) &&
  (decide (PySem.W.nsIn K mainGlobals i.cn = some (some (.ref (He.ga K i.cn)))) && initB K file i.d.qual (He.ga K i.cn) (He.fAd K (i.cn, some "__init__"))))))))))))))))))
/-- how its two arguments come in -/
def XcI.Bd2 (i : XcI) : Prop := ∀ (cc : Addr) (kV doc pm cdv ct : Value) (an : Option Addr) (s : Shared) (a u : Value), BindsTo s (PySem.W.ksFn "__init__" i.d.qual i.d.params (i.d.body i.f) i.d.scope .none kV doc pm an cdv ct cc) ⟨[a, u], []⟩ [(i.d.sf, a), (i.d.x, u)]
theorem isLoc_ok {sc : Scope} {x : Str} (h : isLoc sc x = true) : sc.names.lookup x = some .local := by
  unfold isLoc at h
  split at h
  · assumption
  · cases h
theorem xc_ok {prog : Program} {K : PySem.W.Frag} {i : XcI} (hv : fnW2 K (i.cn, some "__init__") = i.val) (hb : xcB prog.main.file i K = true) (hs : okXc i.d = true) (hbd : i.Bd2) (ht : (prog.main.scope.names.lookup ("super" : Str)).isSome = false) :
    ∃ D, XcOk prog K (He.ga K i.cn) i.f D := by
  unfold xcB at hb
  simp only [Bool.and_eq_true, decide_eq_true_eq] at hb
  obtain ⟨b1, b2, b3, b4, b5, b6, b7, b8, b9, b10, b11, b12, b13, b14, b15, b16, b17, b18⟩ := hb
  unfold okXc at hs
  simp only [Bool.and_eq_true, decide_eq_true_eq, Bool.not_eq_true'] at hs
  obtain ⟨⟨⟨⟨⟨⟨⟨⟨⟨⟨⟨⟨s1, s2⟩, s3⟩, s4⟩, s5⟩, s6⟩, s7⟩, s8⟩, s9⟩, s10⟩, s11⟩, s12⟩, s13⟩ := hs
  unfold initB at b18
  unfold fnW2 at hv
  split at b18
  · rename_i c od fd osl lk
    rw [lk] at hv
    obtain ⟨n1, n2, n3, n4, n5, n6, n7, n8, n9, n10, n11, n12, n13, n14, n15⟩ := fd
    simp only [Bool.and_eq_true, decide_eq_true_eq] at b18
    obtain ⟨⟨c1, c0⟩, c2, c3⟩ := b18
    simp only [XcI.val, Option.some.injEq, Prod.mk.injEq] at hv
    obtain ⟨h1, h2, h3, h4, h5, h6, h7, h8⟩ := hv
    have h9 : n8 = .none := by
      cases n8 <;> first | rfl | (cases c0; done)
    subst h9
    split at c2
    · rename_i cda
      simp only [Bool.and_eq_true] at c2
      split at c3
      · rename_i zn cc
        subst h1 h2 h3 h4 h5 h6 h8
        simp only [List.map_cons, List.map_nil, List.cons.injEq, and_true] at h7
        subst h7
        refine ⟨{ i.d with fI := He.fAd K (i.cn, some "__init__"), cc := cc, cda := cda, dV := .none, kV := n9, doc := n10, pm := n11, ct := n14, oc := .type c, an := n12, od := od, osl := osl }, ?_⟩
        exact {
          q := b1, ov := b2, sa := b3, hd := b4, tk := b5, exC := b6, exE := b7, tyC := b8, kC := b9, mr := b10
          cl := Option.isSome_iff_exists.mp b11
          su := b12, st := b13, top := ht
          fi := b14
          lk := lk
          oc := by rw [c1]
          cd := c2.1
          bd := fun s a u => hbd _ _ _ _ _ _ _ s a u
          hp := by
            have q := congrArg List.head? s13
            rw [List.head?_map] at q
            exact q
          ne := s11
          kind := by
            split at s1
            · assumption
            · cases s1
          co := s2
          gen := s3
          nocell := fun y hy z => by
            have q := List.all_eq_true.mp s4 y hy
            rw [z] at q
            cases q
          l1 := isLoc_ok s5
          l2 := isLoc_ok s6
          lsu := by
            split at s7
            · assumption
            · cases s7
          lcl := by
            split at s8
            · assumption
            · cases s8
          ln := s12
          dbg1 := s9
          dbg2 := s10
          cod := by
            have q := c2.2
            unfold fileB at q
            split at q
            · rename_i oc2 od2 vs sl2 lk2
              split at q
              · rename_i zf tf hz
                exact ⟨_, _, _, _, _, _, lk2, hz, q⟩
              · cases q
            · cases q
          cel := by
            unfold cellB at c3
            split at c3
            · rename_i oc2 od2 D2 sl2 lk2
              have := of_decide_eq_true c3
              subst this
              exact ⟨_, _, _, lk2⟩
            · cases c3 }
      · cases c3
    · cases c2
  · cases b18
end Mx
set_option Elab.async false
set_option linter.all false
set_option maxRecDepth 100000
set_option maxHeartbeats 4000000
namespace Mx
open PySem L2 PySem.Spec PyProof.Rows
/-! ### the head -/
def psOf (a : Arguments) : List Str := (a.posonlyargs ++ a.args ++ a.kwonlyargs).map (·.arg)
/-- a law's head: its functions with their names, its classes -/
structure Hd where
  cn : List Str
  fl : List (List Str)
  cs : List (Str × D)
  cl : List Nat
  xi : List (Nat × XcI)
  xc : List Nat
  fn : List He.DefD
  N : List (List Str)
  fnl : List Fn
  sgl : List Sg
  mkl : List (Nat × Sg)
  sub : List (Nat × Nat)
def Hd.pg (h : Hd) : Pg := { fns := fun i => h.fnl[i]?, sgs := fun i => h.sgl[i]?, mks := fun i => h.mkl[i]?, sub := fun a b => h.sub.contains (a, b) }
def Hd.T (h : Hd) : Tb := { fn := fun i => ((h.fn[i]?).map (·.at_.1)).getD Str.empty, cn := fun i => (h.cn[i]?).getD Str.empty, fl := fun i => (h.fl[i]?).getD [], cs := h.cs, cl := h.cl, xl := h.xi.map (·.1), xc := h.xc, pg := h.pg }
def Hd.df (h : Hd) (i : Nat) : Option Df := match h.fn[i]?, h.N[i]? with
  | some d, some n => some ⟨psOf d.params, n, d.scope, d.body⟩
  | _, _ => none
def dV : D → V
  | .bl b => .bl b
  | .int i => .int i
  | .str x => .str x
  | _ => .non
def flatC : D → Bool
  | .non => true | .bl _ => true | .int _ => true | .str _ => true
  | _ => false
theorem flatC_ok {d : D} (h : flatC d = true) (M : Rl) (ι : List Addr) (H : Hp) : Rp M ι H d (dV d) := by
  cases d <;> first | (cases h; done) | (simp only [dV]; constructor)
/-- a name that stands for an object -/
def gloB (K : PySem.W.Frag) (x : Str) : Bool := decide (PySem.W.nsIn K mainGlobals x = some (some (.ref (He.ga K x))))
def freeB (K : PySem.W.Frag) (x : Str) : Bool := decide (PySem.W.nsIn K mainGlobals x = some none)
def cstB (K : PySem.W.Frag) (p : Str × D) : Bool := flatC p.2 && (match PySem.W.nsIn K mainGlobals p.1 with
  | some (some u) => He.relB (dV p.2) u
  | _ => false)
def clfB (K : PySem.W.Frag) (C : Addr) : Bool :=
  PySem.W.plainGet K C Str.empty && (PySem.W.hasDictIn K C && (PySem.W.plainOver K C && (decide (PySem.W.findIn K (.ref C) "__setattr__" = some (some (.builtin "object.__setattr__"))) && (decide (PySem.W.findIn K (.ref C) "__class__" = some (some (.builtin "object.__class__"))) &&
  (decide (PySem.W.specialIn K (.builtin "object.__class__") "__get__" = some (some (.builtin "getset_descriptor.__get__"))) && (decide (PySem.W.takesIn K (.builtin "object.__class__") = some true) && (decide (PySem.W.mroIn K C (.type "object") = some true) && (decide (PySem.W.kitOne K (.ref C) (.ref C) = some true) &&
  ((["NoneType", "bool", "int", "str", "tuple", "list"].all fun T => decide (PySem.W.kitOne K (.type T) (.ref C) = some false)) && (["bool", "int", "str", "tuple", "list"].all fun T => decide (PySem.W.kitOne K (.ref C) (.type T) = some false)))))))))))
theorem clf_ok {K : PySem.W.Frag} {C : Addr} (h : clfB K C = true) : ClF K C ∧ Cls K C := by
  unfold clfB at h
  simp only [Bool.and_eq_true, decide_eq_true_eq, List.all_eq_true] at h
  obtain ⟨h1, h2, h3, h4, h5, h6, h7, h8, h9, h10, h11⟩ := h
  exact ⟨⟨⟨⟨h1, h2, h3, h4⟩, h5, h6, h7, h8, h9⟩, h10, h11⟩, h1, h2, h3, h4⟩
def mkB (K : PySem.W.Frag) (x : Str) : Bool := PySem.W.makesIn K (He.ga K x) && (decide (PySem.W.findIn K (.ref (He.ga K x)) "__init__" = some (some (.ref (He.ma K (He.ga K x) "__init__")))) && (PySem.W.isFn K (.ref (He.ma K (He.ga K x) "__init__")) && PySem.W.keepIn K (.ref (He.ga K x))))
/-- what the head shows of the written part -/
def Hd.ok (h : Hd) (file : Str) (K : PySem.W.Frag) : Bool :=
  (h.fn.all fun d => d.ok K) && ((h.sgl.all fun g => gloB K (h.T.fn g.f)) && ((bnames.all fun x => freeB K x) && (freeB K "super" && ((h.cs.all fun p => cstB K p) && ((h.cl.all fun c => clfB K (He.ga K (h.T.cn c)) && (gloB K (h.T.cn c) && (h.T.fl c).all fun f => decide (PySem.W.findIn K (.ref (He.ga K (h.T.cn c))) f = some none))) &&
  ((h.mkl.all fun p => mkB K (h.T.cn p.1)) && ((h.xi.all fun p => xcB file p.2 K) && ((h.xc.all fun c => gloB K (h.T.cn c)) && (h.xi.all fun p => h.xc.all fun c => decide (PySem.W.exmOne K (.ref (He.ga K p.2.cn)) (.ref (He.ga K (h.T.cn c))) = some (h.pg.sub p.1 c)))))))))))
/-- what is so of the text alone -/
def Hd.text (h : Hd) : Bool :=
  decide (h.fnl.length = h.fn.length) && (decide (h.N.length = h.fn.length) && ((h.fn.all fun d => d.dfl.isEmpty && d.kwd.isEmpty) && ((h.sgl.all fun g => (match h.fn[g.f]? with
    | some d => d.at_.2.isNone
    | none => false)) && ((h.mkl.all fun p => h.cl.contains p.1 && (match h.fn[p.2.f]? with
    | some d => decide (d.at_ = (h.T.cn p.1, some ("__init__" : Str)))
    | none => false)) && (h.xi.all fun p => decide (h.T.cn p.1 = p.2.cn) && (decide (h.T.fl p.1 = [p.2.f]) && okXc p.2.d))))))
/-- the texts are the machine's -/
def Hd.same (h : Hd) (i : Nat) : Bool := match h.fnl[i]?, h.df i with
  | some f, some d => okDf h.T f d
  | _, _ => false
def SgOk (h : Hd) (plus : Nat) (g : Sg) : Prop := ∀ d, h.fn[g.f]? = some d → ∀ K f fd, FunD K d.name d.qual d.params d.body d.scope [] [] f fd → Bd K fd (psOf d.params) (g.n + plus) g.ks g.pm
theorem bd_of {K : PySem.W.Frag} {x qual : Str} {params : Arguments} {body : List Stmt} {scope : Scope} {f : Addr} {fd : FuncData} {ps ks : List Str} {n : Nat} {pm : List Nat} (F : FunD K x qual params body scope [] [] f fd) (len : pm.length = ps.length)
    (h : ∀ kV doc pm' an cdv ct (us ws zs : List Value), us.length = n → ws.length = ks.length → pm.mapM (fun i => (us ++ ws)[i]?) = some zs → bindArgs (PySem.W.fnOf x qual params body scope .none kV doc pm' an cdv ct) ⟨us, ks.zip ws⟩ = pure (ps.zip zs)) : Bd K fd ps n ks pm := by
  obtain ⟨oc, od, dV, kV, doc, pm', an, cdv, ct, osl, rfl, lk, hcd, hD, hK⟩ := F.ex
  rcases hD with ⟨_, rfl⟩ | ⟨e, _⟩
  · exact ⟨len, fun s us ws zs _ h1 h2 h3 => .of_eq (h _ _ _ _ _ _ us ws zs h1 h2 h3)⟩
  · exact absurd rfl e
def asX (g : Addr → Option Obj) (n : Nat) : List Addr := cStatics :: He.asD g n
abbrev Al : Type := Bool × List He.FnW × List FnW2
def Hd.obs (h : Hd) (file : Str) (K : PySem.W.Frag) : Al := (h.ok file K, h.fn.map (fun d => He.fnW K d.at_), h.xi.map fun p => fnW2 K (p.2.cn, some "__init__"))
def Hd.val (h : Hd) : Al := (true, h.fn.map He.DefD.val, h.xi.map fun p => p.2.val)
def Hd.says (h : Hd) (file : Str) (K : PySem.W.Frag) : Prop := h.obs file K = h.val
def Hd.obsG (h : Hd) (file : Str) (n : Nat) (g : Addr → Option Obj) : Al := h.obs file (He.frG g (asX g n))
def Hd.hook (h : Hd) (file : Str) (n : Nat) : PySem.W.Hook where
  α := Al
  obs := fun s => h.obsG file n s.heap.get?
  val := fun _ => h.val
  says := fun _ hp => ∃ K : PySem.W.Frag, K.In hp ∧ h.says file K
  of := fun _ _ e => ⟨_, He.frG_in, e⟩
  keeps := fun _ _ _ ⟨K, hK, c⟩ k => ⟨K, PySem.W.Frag.In.keeps hK k, c⟩
theorem Hd.obsG_eq {h : Hd} {file : Str} {n : Nat} {g : Addr → Option Obj} {s : Shared} (e : ∀ a, g a = s.heap.get? a) : h.obsG file n g = (h.hook file n).obs s := by
  have e : g = s.heap.get? := funext e
  rw [e] <;> rfl
/-- the addresses -/
def Hd.M (h : Hd) (K : PySem.W.Frag) : Rl := { K := K, cl := fun c => He.ga K (h.T.cn c), fl := h.T.fl, ok := fun c => c ∈ h.cl, xk := fun c => c ∈ h.T.xl, ex := [] }
def Hd.fa (h : Hd) (K : PySem.W.Frag) (i : Nat) : Addr := He.fAd K (((h.fn[i]?).map (·.at_)).getD (Str.empty, none))
open Classical in
noncomputable def Hd.fd (h : Hd) (K : PySem.W.Frag) (i : Nat) : FuncData := match K.lookup (h.fa K i) with
  | some ⟨_, _, .func fd, _⟩ => fd
  | _ => PySem.W.fnOf Str.empty Str.empty { posonlyargs := [], args := [], vararg := none, kwonlyargs := [], kw_defaults := [], kwarg := none, defaults := [] } [] { kind := .function, names := [], isGenerator := false, isCoroutine := false } .none .none .none .none none .none .none
theorem fx_of {h : Hd} {prog : Program} {K : PySem.W.Frag} {hp : Heap} {mg : Str → Option Value} (X : K.In hp) (G : hp.Ns mainGlobals mg) (says : h.says prog.main.file K) (ht : (prog.main.scope.names.lookup ("super" : Str)).isSome = false)
    (text : h.text = true) (same : ∀ i, i < h.fn.length → h.same i = true) (sg : ∀ g ∈ h.sgl, SgOk h 0 g) (mk : ∀ p ∈ h.mkl, SgOk h 1 p.2) (xb : ∀ p ∈ h.xi, p.2.Bd2) : Fx h.T (h.M K) prog mg h.df (h.fa K) (h.fd K) := by
  have glo : ∀ {x : Str}, gloB K x = true → mg x = some (.ref (He.ga K x)) := fun c => PySem.W.mg_of X G (of_decide_eq_true c)
  have fre : ∀ {x : Str}, freeB K x = true → mg x = none := fun c => PySem.W.mg_none_of X G (of_decide_eq_true c)
  have e1 : h.ok prog.main.file K = true := congrArg (fun z : Al => z.1) says
  have e2 : h.fn.map (fun d => He.fnW K d.at_) = h.fn.map He.DefD.val := congrArg (fun z : Al => z.2.1) says
  have e3 : h.xi.map (fun p => fnW2 K (p.2.cn, some "__init__")) = h.xi.map fun p => p.2.val := congrArg (fun z : Al => z.2.2) says
  unfold Hd.ok at e1
  simp only [Bool.and_eq_true, List.all_eq_true] at e1
  obtain ⟨o1, o2, o3, o4, o5, o6, o7, o8, o9, o10⟩ := e1
  unfold Hd.text at text
  simp only [Bool.and_eq_true, List.all_eq_true, decide_eq_true_eq] at text
  obtain ⟨t1, t2, t3, t4, t5, t6⟩ := text
  have fund : ∀ {i : Nat} {d : He.DefD}, h.fn[i]? = some d → FunD K d.name d.qual d.params d.body d.scope [] [] (h.fa K i) (h.fd K i) := fun {i d} e => by
    have e4 : (h.fn.map fun d => He.fnW K d.at_)[i]? = (h.fn.map He.DefD.val)[i]? := by rw [e2]
    rw [List.getElem?_map, List.getElem?_map, e] at e4
    have hd := o1 d (List.mem_of_getElem? e)
    obtain ⟨fd, F⟩ := He.DefD.funD (Option.some.inj e4) hd
    have t := t3 d (List.mem_of_getElem? e)
    have d1 : d.dvs K = [] := by unfold He.DefD.dvs; rw [List.isEmpty_iff.mp t.1]; rfl
    have d2 : d.kws K = [] := by unfold He.DefD.kws; rw [List.isEmpty_iff.mp t.2]; rfl
    rw [d1, d2] at F
    have ea : h.fa K i = He.fAd K d.at_ := by unfold Hd.fa; rw [e]; rfl
    have ef : h.fd K i = fd := by
      obtain ⟨oc, od, dV, kV, doc, pm, an, cdv, ct, osl, _, lk, _⟩ := F.ex
      unfold Hd.fd
      rw [ea, lk]
    rw [ea, ef]
    exact F
  have xcs : ∀ p ∈ h.xi, ∃ D, XcOk prog K (He.ga K p.2.cn) p.2.f D := fun p hp => by
    have e5 := List.map_inj_left.mp e3 p hp
    have t := t6 p hp
    exact xc_ok e5 (o8 p hp) t.2.2 (xb p hp) ht
  have xis : ∀ c ∈ h.T.xl, ∃ p ∈ h.xi, p.1 = c ∧ h.T.cn c = p.2.cn ∧ h.T.fl c = [p.2.f] := fun c hc => by
    obtain ⟨p, hp, rfl⟩ := List.mem_map.mp hc
    have t := t6 p hp
    exact ⟨p, hp, rfl, t.1, t.2.1⟩
  have dfs : ∀ {i : Nat} {d : Df}, h.df i = some d → ∃ d' n, h.fn[i]? = some d' ∧ h.N[i]? = some n ∧ d = ⟨psOf d'.params, n, d'.scope, d'.body⟩ := fun {i d} e => by
    unfold Hd.df at e
    split at e
    · rename_i d' n q1 q2
      cases e
      exact ⟨d', n, q1, q2, rfl⟩
    · cases e
  have dfof : ∀ {i : Nat} {d : He.DefD}, h.fn[i]? = some d → ∃ n, h.df i = some ⟨psOf d.params, n, d.scope, d.body⟩ := fun {i d} e => by
    have hi : i < h.N.length := by rw [t2]; exact (List.getElem?_eq_some_iff.mp e).1
    refine ⟨h.N[i], ?_⟩
    unfold Hd.df
    rw [e, List.getElem?_eq_getElem hi]
  exact {
    flds := fun c _ => rfl
    cls := fun c hc => ⟨(clf_ok (o6 c hc).1).2, fun f hf => by have q := of_decide_eq_true ((o6 c hc).2.2 f hf); exact q⟩
    clf := fun c hc => (clf_ok (o6 c hc).1).1
    okc := fun c hc => hc
    nm := fun c hc => glo (o6 c hc).2.1
    free := fun x hx => fre (o3 x hx)
    cst := fun p hp => by
      have q := o5 p hp
      unfold cstB at q
      rw [Bool.and_eq_true] at q
      obtain ⟨q1, q2⟩ := q
      split at q2
      · rename_i u hu
        exact ⟨u, dV p.2, PySem.W.mg_of X G hu, He.relB_ok q2, fun M ι H => flatC_ok q1 M ι H⟩
      · cases q2
    sup := fre o4
    xks := fun c => Iff.rfl
    xcs := fun c hc => by
      obtain ⟨p, hp, rfl, q1, q2⟩ := xis c hc
      obtain ⟨D, ok⟩ := xcs p hp
      have b := o8 p hp
      unfold xcB at b
      simp only [Bool.and_eq_true, decide_eq_true_eq] at b
      obtain ⟨_, _, _, _, _, _, _, _, _, _, _, _, _, _, b15, b16, b17, _⟩ := b
      refine ⟨p.2.f, D, q2, q2, ?_, ?_, ?_, ?_⟩
      · show XcOk prog K (He.ga K (h.T.cn p.1)) p.2.f D
        rw [q1]; exact ok
      · show PySem.W.findIn K (.ref (He.ga K (h.T.cn p.1))) p.2.f = _
        rw [q1]; exact b15
      · show XfC K (He.ga K (h.T.cn p.1))
        rw [q1]; exact xfB_ok b16
      · show mg (h.T.cn p.1) = some (.ref (He.ga K (h.T.cn p.1)))
        rw [q1]; exact PySem.W.mg_of X G b17
    exm := fun c hc c0 hc0 => by
      obtain ⟨p, hp, rfl, q1, q2⟩ := xis c hc
      have b := o10 p hp c0 hc0
      show PySem.W.exmOne K (.ref (He.ga K (h.T.cn p.1))) (.ref (He.ga K (h.T.cn c0))) = _
      rw [q1]
      exact of_decide_eq_true b
    xnm := fun c hc => glo (o9 c hc)
    okd := fun i fn e => by
      have hi : i < h.fn.length := by rw [← t1]; exact (List.getElem?_eq_some_iff.mp e).1
      have q := same i hi
      unfold Hd.same at q
      have e' : h.fnl[i]? = some fn := e
      rw [e'] at q
      split at q
      · rename_i f d q1 q2
        cases q1
        exact ⟨d, q2, q⟩
      · cases q
    def_ := fun i d e => by
      obtain ⟨d', n, q1, q2, rfl⟩ := dfs e
      exact ⟨_, _, _, _, _, fund q1⟩
    sgs := fun s g e => by
      have e' : h.sgl[s]? = some g := e
      have hg := List.mem_of_getElem? e'
      have q := t4 g hg
      split at q
      · rename_i d hd
        obtain ⟨n, hn⟩ := dfof hd
        refine ⟨?_, _, hn, sg g hg d hd _ _ _ (fund hd)⟩
        have z := glo (o2 g hg)
        have e5 : h.T.fn g.f = d.at_.1 := by show ((h.fn[g.f]?).map (·.at_.1)).getD Str.empty = _; rw [hd]; rfl
        have e6 : h.fa K g.f = He.ga K d.at_.1 := by
          unfold Hd.fa He.fAd
          rw [hd]
          show (match d.at_.2 with | none => He.ga K d.at_.1 | some m => _) = _
          rw [Option.isNone_iff_eq_none.mp q]
        rw [e6, ← e5]
        exact z
      · cases q
    mks := fun s c g e => by
      have e' : h.mkl[s]? = some (c, g) := e
      have hg := List.mem_of_getElem? e'
      have q := t5 (c, g) hg
      obtain ⟨q0, q⟩ := q
      split at q
      · rename_i d hd
        obtain ⟨n, hn⟩ := dfof hd
        have b := o7 (c, g) hg
        unfold mkB at b
        simp only [Bool.and_eq_true, decide_eq_true_eq] at b
        obtain ⟨b1, b2, b3, b4⟩ := b
        have e6 : h.fa K g.f = He.ma K (He.ga K (h.T.cn c)) "__init__" := by
          unfold Hd.fa He.fAd
          rw [hd]
          show (match d.at_.2 with | none => He.ga K d.at_.1 | some m => He.ma K (He.ga K d.at_.1) m) = _
          rw [of_decide_eq_true q]
        have q0 : c ∈ h.cl := by simpa using q0
        refine ⟨q0, ?_, _, hn, mk (c, g) hg d hd _ _ _ (fund hd)⟩
        rw [e6]
        exact ⟨b1, b2, b3, b4⟩
      · cases q }
end Mx
set_option Elab.async false
set_option linter.all false
set_option maxRecDepth 100000
set_option maxHeartbeats 4000000
namespace Mx
open PySem L2 PySem.Spec PyProof.Rows
/-! ### a law's end -/
/-- the law's call, from what the machine's law gives (L2.law_call, for a promise under no guards) -/
theorem law_callG {P : Program} {w : World} {K : PySem.W.Frag} {mg mb : Str → Option Value} {k : Nat} {fa a : Addr} {fd : FuncData} {x : Str} {sp : Sp} {s₁ : Shared} {vs : List Value} {ns : List Int}
    (KX : K.In s₁.heap) (hns : s₁.heap.Ns mainGlobals mg) (hb : s₁.heap.Ns builtinsNs mb) (hbb : ∀ x : Str, x ≠ "__name__" → mb x = bootBuiltins x) (hlim : s₁.heap.NoLimit) (hg : s₁.gens = #[])
    (ha : s₁.heap.get? a = some { cls := .type "list", data := .seq vs.toArray }) (hi : IntsAre vs ns) (hl : ns.length ≤ sizeLine) (hr : Room k callerA)
    (F : ∀ base : Heap, K.In base → base.Ns mainGlobals mg → FnG P w K mg base k fa fd [x] sp) (hbind : BindsTo s₁ fd ⟨[.ref a], []⟩ [(x, .ref a)])
    (hsp : ∀ H : Hp, Only H → SqL K H a (ns.map V.int) → sp [.ref a] H (fun v _ => v = .bl true) fun _ _ _ => False) :
    codeAny (model P w) callerA (.call (.ref fa) ⟨[.ref a], []⟩) (fun r s' => r = .ok (.ret (.bool true)) ∧ OldK s₁.heap s'.heap ∧ s'.os = s₁.os ∧ AllBare s'.gens) s₁ := by
  have rv := vals_ints hi
  have lenV := hi.length
  have core : ∀ H : Hp, Only H → SqL K H a (ns.map V.int) → HOk P w H s₁.heap → (∀ b, H b ≠ none → b = a) → (H a ≠ none → K.lookup a = none) →
      codeAny (model P w) callerA (.call (.ref fa) ⟨[.ref a], []⟩) (fun r s' => r = .ok (.ret (.bool true)) ∧ OldK s₁.heap s'.heap ∧ s'.os = s₁.os ∧ AllBare s'.gens) s₁ := by
    intro H hO hS hok hA hK
    have base_of : ∀ {b : Addr} {o : Obj}, s₁.heap.get? b = some o → H b = none → (hidT s₁.heap H).get? b = some o := fun e n => hidT_get e n
    have noA : ∀ {b : Addr} {o : Obj} {es : Array DictEntry} {ep : Nat}, s₁.heap.get? b = some o → o.data = .dict es ep → H b = none := fun {b o es ep} e d => by
      cases q : H b with
      | none => rfl
      | some u =>
        have e' : b = a := hA b (by rw [q]; simp)
        subst e'
        rw [ha] at e; cases e
        have d' : Data.seq vs.toArray _ = Data.dict es ep := d
        cases d'
    have nsK : ∀ {b : Addr} {m : Str → Option Value}, s₁.heap.Ns b m → (hidT s₁.heap H).Ns b m := fun {b m} ⟨o, es, ep, e, d, r⟩ => ⟨o, es, ep, base_of e (noA e d), d, r⟩
    have hKb : K.In (hidT s₁.heap H) := fun b o e => base_of (KX b o e) (by
      cases q : H b with
      | none => rfl
      | some u =>
        have e' : b = a := hA b (by rw [q]; simp)
        subst e'
        rw [hK (by rw [q]; simp)] at e; cases e)
    have hM : Mod K mg (hidT s₁.heap H) := ⟨hKb, nsK hns, ⟨mb, nsK hb, hbb⟩, let ⟨mc, h1, h2⟩ := hlim; ⟨mc, nsK h1, h2⟩⟩
    have e0 : Env0 P w K mg (hidT s₁.heap H) callerA [] s₁ H := ⟨rfl, hM, fun b o e => of_hidT e, Nat.le_of_eq (hidT_size _ _), trivial, fun b hb => absurd (show b ∈ ([] : List Addr) from hb) (by simp), hok, .of_eq hg⟩
    refine codeAny_mono ((F _ hKb (nsK hns)).run callerA [] s₁ H ⟨[.ref a], []⟩ [.ref a] [.ref a] _ _ hr rfl e0 hbind (.cons rfl .nil) (hsp H hO hS)) fun r s' h => ?_
    cases r with
    | error e =>
      obtain ⟨_, _, _, _, _, _, _, _, _, _, _, _, z⟩ := h
      exact z.elim
    | ok fl =>
      cases fl with
      | next => exact False.elim h
      | brk => exact False.elim h
      | cont => exact False.elim h
      | ret u =>
        obtain ⟨v, H', os, bare, un, hok', r', q⟩ := h
        have q' : v = .bl true := q
        subst q'
        obtain rfl : u = Value.bool true := r'
        refine ⟨rfl, OldK.of_keep fun b o e => ?_, os, bare⟩
        cases q : H b with
        | none => exact un.keep b o e q (by intro z; exact absurd (show b ∈ ([] : List Addr) from z) (by simp)) (by simp)
        | some u =>
          rcases hO b with z | ⟨ob, xs, z⟩
          · rw [q] at z; cases z
          · have z2 := un.frzs b ob _ z
            obtain ⟨e1, _⟩ := hok b _ z
            obtain ⟨e2, _⟩ := hok' b _ z2
            rw [e] at e1; cases e1
            exact e2
  cases hk : K.lookup a with
  | some o =>
    have e := KX a o hk
    rw [ha] at e
    cases e
    refine core (fun _ => none) (fun _ => .inl rfl) (.inr ⟨_, vs.toArray, _, hk, rfl, rfl, rfl, by rw [List.size_toArray, lenV]; exact hl, by simpa using rv⟩) (fun b u z => by have z' : (none : Option HO) = some u := z; cases z') (fun b z => absurd rfl z) fun z => absurd rfl z
  | none =>
    refine core (fun b => if b = a then some (.frz { cls := .type "list", data := .seq vs.toArray } (.lst (ns.map V.int))) else none) (fun b => ?_) (.inl (.inr ⟨{ cls := .type "list", data := .seq vs.toArray }, if_pos rfl⟩)) (fun b u z => ?_) (fun b z => ?_) fun _ => hk
    · by_cases hb : b = a
      · exact .inr ⟨_, _, if_pos hb⟩
      · exact .inl (if_neg hb)
    · by_cases hb : b = a
      · have z' := (if_pos hb).symm.trans z
        cases z'
        subst hb
        exact ⟨ha, by rw [List.length_map]; exact hl, vs, _, rv, ha⟩
      · have z' := (if_neg hb).symm.trans z
        cases z'
    · by_cases hb : b = a
      · exact hb
      · exact absurd (if_neg hb) z
/-- the machine's law at a script -/
theorem law_sp {M : Rl} {F : Ph} {i : Nat} {ns : List Int} {h' : Hh} {H : Hp} {a : Addr} (e : F i [.scr (ns.map D.int)] [] = .ok (.bl true) h') (hO : Only H) (hS : SqL M.K H a (ns.map V.int)) :
    spF M F i 1 [.ref a] H (fun v _ => v = .bl true) fun _ _ _ => False := by
  have sc : Sc M.K H a (ns.map V.int) := by
    rcases hS with (z | ⟨o, z⟩) | z
    · rcases hO a with q | ⟨o, xs, q⟩
      · rw [q] at z; cases z
      · rw [q] at z; cases z
    · exact .inl ⟨o, z⟩
    · exact .inr z
  refine ⟨rfl, [], [], [], [.scr (ns.map D.int)], ⟨List.nodup_nil, (fun a ha => by cases ha), rfl, (fun i a o e1 _ => by simp at e1)⟩, .cons (.scr sc (RpL.ofInts ns)) .nil, ?_⟩
  rw [e]
  intro ι' H' x s v r
  exact r.bl_inv
/-- a law of the machine's -/
theorem walk_ofM {l : PySem.W.OpenLaw} {n : Nat} (h : Hd) (k i : Nat) {q : Program} {loose : List Str} {XP : (Str → Option Value) → Heap → Prop} {YP : World → Heap → Prop} {d : DefRec} {x : Str}
    (hn : l.most = some n) (hn2 : n ≤ sizeLine) (hdf : d.params.defaults = []) (hr : Room (2 * k + 2) callerA)
    (hY : ∀ w hp, YP w hp → ∃ K : PySem.W.Frag, K.In hp ∧ h.says l.prog.main.file K)
    (ht : (l.prog.main.scope.names.lookup ("super" : Str)).isSome = false) (text : h.text = true) (same : ∀ i, i < h.fn.length → h.same i = true) (sg : ∀ g ∈ h.sgl, SgOk h 0 g) (mk : ∀ p ∈ h.mkl, SgOk h 1 p.2) (xb : ∀ p ∈ h.xi, p.2.Bd2)
    (s : Nat) (hs : h.sgl[s]? = some ⟨i, 1, [], [0]⟩) (hi : (h.fn[i]?).map (fun dd => (dd.at_, psOf dd.params)) = some ((d.name, none), [x]))
    (law : ∀ ns : List Int, ns.length ≤ n → (∀ z ∈ ns, Builtin.Int.intBits z ≤ 1048576) → ∃ h', callN h.pg (k + 1) i [.scr (ns.map D.int)] [] = .ok (.bl true) h') :
    PySem.W.WalkO q loose XP YP l.row.toRowW d [] (fun f vs => PySem.call f vs) := by
  refine Att.attach_callB hn hdf fun w s₀ s₁ mg mb fa o pm cd doc a vs ns G Y ho hd hcd hmg hobj hints hlen hbits hg => ?_
  obtain ⟨K, KX, says⟩ := hY w _ Y
  obtain ⟨dd, e1, e3⟩ := Option.map_eq_some_iff.mp hi
  obtain ⟨e3, e4⟩ := Prod.mk.inj e3
  have fx := fx_of KX G.T.g says ht text same sg mk xb
  obtain ⟨h', el⟩ := law ns hlen hbits
  obtain ⟨hm1, df, hdf', bd⟩ := fx.sgs s _ hs
  have en : h.T.fn i = d.name := by show ((h.fn[i]?).map (·.at_.1)).getD Str.empty = _; rw [e1]; show dd.at_.1 = _; rw [e3]
  have efa : h.fa K i = fa := by
    have hm2 : mg (h.T.fn i) = some (.ref (h.fa K i)) := hm1
    rw [en, hmg] at hm2
    cases hm2
    rfl
  have eps : df.ps = [x] := by
    have q : h.df i = some df := hdf'
    unfold Hd.df at q
    rw [e1] at q
    split at q
    · rename_i d0 n0 q1 q2
      cases q1
      cases q
      exact e4
    · cases q
  have F : ∀ base : Heap, K.In base → base.Ns mainGlobals mg → FnG l.prog w K mg base (2 * k + 2) fa (h.fd K i) [x] (spF (h.M K) (callN h.pg (k + 1)) i 1) := fun base hb hm => by
    have f := law_fn (w := w) (base := base) fx k hdf'
    rw [efa, eps] at f
    exact f
  rw [eps] at bd
  exact law_callG KX G.T.g G.T.b G.T.builtins G.T.nolimit hg hobj hints (Nat.le_trans hlen hn2) hr F (bd.to s₁ [.ref a] [] [.ref a] KX rfl rfl rfl) fun H hO hS => law_sp el hO hS
end Mx
set_option Elab.async false
set_option linter.all false
set_option maxRecDepth 100000
set_option maxHeartbeats 4000000
namespace Mx
open PySem L2
/-! ### small words for a law's own part -/
def noXc : XcI := ⟨Str.empty, Str.empty, ⟨0, 0, 0, Str.empty, { posonlyargs := [], args := [], vararg := none, kwonlyargs := [], kw_defaults := [], kwarg := none, defaults := [] }, { kind := .function, names := [], isGenerator := false, isCoroutine := false }, .none, .none, .none, .none, .none, .none, none, none, #[], Str.empty, Str.empty, Str.empty, 0,
  ⟨0, 0, 0, 0⟩, ⟨0, 0, 0, 0⟩, ⟨0, 0, 0, 0⟩, ⟨0, 0, 0, 0⟩, ⟨0, 0, 0, 0⟩, ⟨0, 0, 0, 0⟩, ⟨0, 0, 0, 0⟩, ⟨0, 0, 0, 0⟩, ⟨0, 0, 0, 0⟩, ⟨0, 0, 0, 0⟩⟩⟩
/-- a class's defs -/
def metsOf : Stmt → List Stmt
  | .ClassDef _ _ _ b _ _ _ _ _ _ _ => b
  | _ => []
def xcAt (s : Stmt) : XcI := (xcOf s).getD noXc
theorem all_cons {α : Type} {P : α → Prop} {a : α} {l : List α} (h : P a) (t : ∀ x ∈ l, P x) : ∀ x ∈ a :: l, P x := fun x hx => by
  rcases List.mem_cons.mp hx with rfl | hx
  · exact h
  · exact t x hx
end Mx
set_option Elab.async false
set_option linter.all false
set_option maxRecDepth 100000
set_option maxHeartbeats 4000000
namespace K49
open PySem L2 Mx
abbrev RW : PySem.W.OpenLaw := PySem.Challenge.rw_staysdeep_k49_whole_a_further_stack
def top (i : Nat) : Stmt := PySem.Challenge.pw_staysdeep_k49_whole_a_further_stack.main.body.getD i (.Pass ⟨0, 0, 0, 0⟩)
def met (i j : Nat) : Stmt := (metsOf (top i)).getD j (.Pass ⟨0, 0, 0, 0⟩)
/-- is_integer(value); names 0 value -/
def B_is_integer : S :=
  (.ret (.and_ (.bi .isInt (.cons (.v 0) .nil)) (.not_ (.bi .isBool (.cons (.v 0) .nil)))))
def N_is_integer : List PySem.Str := [(PySem.Str.ofString "value")]
/-- is_below(value, bound); names 0 value, 1 bound -/
def B_is_below : S :=
  (.ret (.and_ (.call 0 true (.cons (.v 0) .nil)) (.ch .le .lt (.k (.int 0)) (.v 0) (.v 1))))
def N_is_below : List PySem.Str := [(PySem.Str.ofString "value"), (PySem.Str.ofString "bound")]
/-- is_sequence(value); names 0 value -/
def B_is_sequence : S :=
  (.ret (.bi .isSeq (.cons (.v 0) .nil)))
def N_is_sequence : List PySem.Str := [(PySem.Str.ofString "value")]
/-- lot_of(things); names 0 things -/
def B_lot_of : S :=
  (.ret (.bi .tuple (.cons (.nl false (.srtS (.v 0))) .nil)))
def N_lot_of : List PySem.Str := [(PySem.Str.ofString "things")]
/-- Yard.__init__(self, heights); names 0 self, 1 heights, 2 at, 3 height -/
def B_Yard___init__ : S :=
  (.seq (.ite (.or_ (.not_ (.call 1 true (.cons (.v 1) .nil))) (.not_ (.ch .le .le (.g (PySem.Str.ofString "FEWEST") (.int 3)) (.bi .len (.cons (.v 1) .nil)) (.g (PySem.Str.ofString "MOST") (.int 12))))) (.raise_ 1 (.neg (.k (.int 1)))) .nop)
  (.seq (.for_ (.tp (.cons (.nm 2) (.cons (.nm 3) .nil))) (.iEnum (.v 1)) (.ite (.or_ (.not_ (.call 2 true (.cons (.v 3) (.cons (.bin .add (.g (PySem.Str.ofString "MOST") (.int 12)) (.k (.int 1))) .nil)))) (.cmp .eq (.v 3) (.k (.int 0)))) (.raise_ 1 (.v 2)) .nop))
  (.setFld 2 (.v 0) 0 (.bi .tuple (.cons (.v 1) .nil)))))
def N_Yard___init__ : List PySem.Str := [(PySem.Str.ofString "self"), (PySem.Str.ofString "heights"), (PySem.Str.ofString "at"), (PySem.Str.ofString "height")]
/-- Yard.__eq__(self, other); names 0 self, 1 other -/
def B_Yard___eq__ : S :=
  (.ret (.and_ (.bi (.isCls 2) (.cons (.v 1) .nil)) (.cmp .eq (.fld [2] (.v 0) 0) (.fld [2] (.v 1) 0))))
def N_Yard___eq__ : List PySem.Str := [(PySem.Str.ofString "self"), (PySem.Str.ofString "other")]
/-- places(yard); names 0 yard -/
def B_places : S :=
  (.ret (.bi .sum (.cons (.fld [2] (.v 0) 0) .nil)))
def N_places : List PySem.Str := [(PySem.Str.ofString "yard")]
/-- all_boxes(yard); names 0 yard -/
def B_all_boxes : S :=
  (.ret (.bin .sub (.bin .add (.call 3 true (.cons (.v 0) .nil)) (.k (.int 1))) (.bi .max1 (.cons (.fld [2] (.v 0) 0) .nil))))
def N_all_boxes : List PySem.Str := [(PySem.Str.ofString "yard")]
/-- presence_table(timetable); names 0 timetable, 1 table, 2 at, 3 word, 4 box -/
def B_presence_table : S :=
  (.seq (.set (.nm 1) (.nd false))
  (.seq (.for_ (.tp (.cons (.nm 2) (.cons (.tp (.cons (.nm 3) (.cons (.nm 4) .nil))) .nil))) (.iEnum (.v 0)) (.ite (.cmp .eq (.v 3) (.k (.str (PySem.Str.ofString "in")))) (.setIx (.v 1) (.v 4) (.tup (.cons (.bin .add (.v 2) (.k (.int 1))) (.cons (.bi .len (.cons (.v 0) .nil)) .nil)))) (.setIx (.v 1) (.v 4) (.tup (.cons (.ix (.ix (.v 1) (.v 4)) (.k (.int 0))) (.cons (.v 2) .nil))))))
  (.ret (.v 1))))
def N_presence_table : List PySem.Str := [(PySem.Str.ofString "timetable"), (PySem.Str.ofString "table"), (PySem.Str.ofString "at"), (PySem.Str.ofString "word"), (PySem.Str.ofString "box")]
/-- rows_below(counts, cover); names 0 counts, 1 cover, 2 found, 3 first, 4 state, 5 free -/
def B_rows_below : S :=
  (.seq (.set (.tp (.cons (.nm 2) (.cons (.nm 3) .nil))) (.tup (.cons (.nl true (.dis .nil)) (.cons (.k .non) .nil))))
  (.seq (.for_ (.tp (.cons (.nm 4) (.cons (.nm 5) .nil))) (.iEnum (.v 0)) (.seq (.ite (.and_ (.cmp .le (.v 5) (.v 1)) (.cmp .is_ (.v 3) (.k .non))) (.set (.nm 3) (.v 4)) .nop)
  (.ite (.and_ (.cmp .gt (.v 5) (.v 1)) (.cmp .isn (.v 3) (.k .non))) (.seq (.ex (.mt .append (.v 2) (.cons (.tup (.cons (.v 3) (.cons (.bin .sub (.v 4) (.k (.int 1))) .nil))) .nil)))
  (.set (.nm 3) (.k .non))) .nop)))
  (.seq (.ite (.cmp .isn (.v 3) (.k .non)) (.ex (.mt .append (.v 2) (.cons (.tup (.cons (.v 3) (.cons (.bin .sub (.bi .len (.cons (.v 0) .nil)) (.k (.int 1))) .nil))) .nil))) .nop)
  (.ret (.v 2)))))
def N_rows_below : List PySem.Str := [(PySem.Str.ofString "counts"), (PySem.Str.ofString "cover"), (PySem.Str.ofString "found"), (PySem.Str.ofString "first"), (PySem.Str.ofString "state"), (PySem.Str.ofString "free")]
/-- staying(table, stretch); names 0 table, 1 stretch, 2 first, 3 last, 4 box, 5 come, 6 leave -/
def B_staying : S :=
  (.seq (.set (.tp (.cons (.nm 2) (.cons (.nm 3) .nil))) (.v 1))
  (.ret (.call 4 true (.cons (.nl false (.compD .items [4, 5, 6] (.tp (.cons (.nm 4) (.cons (.tp (.cons (.nm 5) (.cons (.nm 6) .nil))) .nil))) 0 (.cons (.and_ (.cmp .le (.v 5) (.v 2)) (.cmp .le (.v 3) (.v 6))) .nil) (.v 4))) .nil))))
def N_staying : List PySem.Str := [(PySem.Str.ofString "table"), (PySem.Str.ofString "stretch"), (PySem.Str.ofString "first"), (PySem.Str.ofString "last"), (PySem.Str.ofString "box"), (PySem.Str.ofString "come"), (PySem.Str.ofString "leave")]
/-- stay_row(timetable); names 0 timetable, 1 counts, 2 table, 3 absent, 4 word, 5 box, 6 count, 7 boxes, 8 stretch -/
def B_stay_row : S :=
  (.seq (.set (.nm 1) (.nl true (.dis (.cons (.k (.int 0)) .nil))))
  (.seq (.for_ (.tp (.cons (.nm 4) (.cons (.nm 5) .nil))) (.iSeq (.v 0)) (.ex (.mt .append (.v 1) (.cons (.ite (.cmp .eq (.v 4) (.k (.str (PySem.Str.ofString "in")))) (.bin .add (.ix (.v 1) (.neg (.k (.int 1)))) (.k (.int 1))) (.bin .sub (.ix (.v 1) (.neg (.k (.int 1)))) (.k (.int 1)))) .nil))))
  (.seq (.set (.nm 2) (.call 5 true (.cons (.v 0) .nil)))
  (.seq (.set (.nm 3) (.nl false (.comp [6] (.nm 6) (.iSeq (.v 1)) .nil (.neg (.v 6)))))
  (.ret (.bi .tuple (.cons (.nl false (.comp [7] (.nm 7) (.iRg2 (.k (.int 1)) (.bin .add (.bi .max1 (.cons (.v 1) .nil)) (.k (.int 1)))) .nil (.bi .min1 (.cons (.nl false (.comp [8] (.nm 8) (.iSeq (.call 6 true (.cons (.v 3) (.cons (.neg (.v 7)) .nil)))) .nil (.bi .len (.cons (.call 7 true (.cons (.v 2) (.cons (.v 8) .nil))) .nil)))) .nil)))) .nil)))))))
def N_stay_row : List PySem.Str := [(PySem.Str.ofString "timetable"), (PySem.Str.ofString "counts"), (PySem.Str.ofString "table"), (PySem.Str.ofString "absent"), (PySem.Str.ofString "word"), (PySem.Str.ofString "box"), (PySem.Str.ofString "count"), (PySem.Str.ofString "boxes"), (PySem.Str.ofString "stretch")]
/-- deep_number(heights, boxes); names 0 heights, 1 boxes, 2 free, 3 height -/
def B_deep_number : S :=
  (.seq (.set (.nm 2) (.bin .sub (.bi .sum (.cons (.v 0) .nil)) (.v 1)))
  (.ret (.bi .sum (.cons (.nl false (.comp [3] (.nm 3) (.iSeq (.v 0)) .nil (.bi .max2 (.cons (.k (.int 0)) (.cons (.bin .sub (.v 3) (.v 2)) .nil))))) .nil))))
def N_deep_number : List PySem.Str := [(PySem.Str.ofString "heights"), (PySem.Str.ofString "boxes"), (PySem.Str.ofString "free"), (PySem.Str.ofString "height")]
/-- suffices(heights, row); names 0 heights, 1 row, 2 before, 3 stay -/
def B_suffices : S :=
  (.seq (.ite (.cmp .gt (.bi .len (.cons (.v 1) .nil)) (.bi .sum (.cons (.v 0) .nil))) (.ret (.k (.bl false))) .nop)
  (.ret (.bi .all (.cons (.nl false (.comp [2, 3] (.tp (.cons (.nm 2) (.cons (.nm 3) .nil))) (.iEnum (.v 1)) .nil (.cmp .le (.call 8 true (.cons (.v 0) (.cons (.bin .add (.v 2) (.k (.int 1))) .nil))) (.v 3)))) .nil))))
def N_suffices : List PySem.Str := [(PySem.Str.ofString "heights"), (PySem.Str.ofString "row"), (PySem.Str.ofString "before"), (PySem.Str.ofString "stay")]
/-- further_stack(yard, events); names 0 yard, 1 events, 2 height, 3 row, 4 total, 5 before, 6 stay -/
def B_further_stack : S :=
  (.seq (.set (.tp (.cons (.nm 3) (.cons (.nm 4) .nil))) (.tup (.cons (.call 9 true (.cons (.v 1) .nil)) (.cons (.call 3 true (.cons (.v 0) .nil)) .nil))))
  (.seq (.ite (.bi .any (.cons (.nl false (.comp [5, 6] (.tp (.cons (.nm 5) (.cons (.nm 6) .nil))) (.iEnum (.v 3)) .nil (.cmp .lt (.v 6) (.bin .sub (.bin .add (.v 5) (.k (.int 1))) (.v 4))))) .nil)) (.ret (.k .non)) .nop)
  (.seq (.set (.nm 2) (.bi .max2 (.cons (.k (.int 0)) (.cons (.bin .sub (.bi .len (.cons (.v 3) .nil)) (.v 4)) .nil))))
  (.seq (.while_ (.not_ (.call 10 true (.cons (.bin .add (.fld [2] (.v 0) 0) (.tup (.cons (.v 2) .nil))) (.cons (.v 3) .nil)))) (.aug 2 .add (.k (.int 1))))
  (.ret (.v 2))))))
def N_further_stack : List PySem.Str := [(PySem.Str.ofString "yard"), (PySem.Str.ofString "events"), (PySem.Str.ofString "height"), (PySem.Str.ofString "row"), (PySem.Str.ofString "total"), (PySem.Str.ofString "before"), (PySem.Str.ofString "stay")]
/-- _law_deal(_law_script, _law_base); names 0 _law_script, 1 _law_base, 2 _law_cells, 3 _law_mix, 4 _law_cell -/
def B_law_deal : S :=
  (.seq (.set (.nm 2) (.nl false (.comp [4] (.nm 4) (.iSeq (.nl false (.lsl (.v 0) .nil (.cons (.k (.int 63)) .nil)))) .nil (.bi .abs (.cons (.bi .int (.cons (.v 4) .nil)) .nil)))))
  (.seq (.set (.nm 3) (.bin .add (.bin .mul (.k (.int 37199)) (.v 1)) (.k (.int 613))))
  (.seq (.for_ (.nm 4) (.iSeq (.v 2)) (.set (.nm 3) (.bin .mod (.bi .int (.cons (.bin .add (.bin .add (.bin .mul (.v 3) (.k (.int 48271))) (.bin .mod (.v 4) (.k (.int 2147483579)))) (.k (.int 71))) .nil)) (.k (.int 2147483647)))))
  (.ret (.nl true (.dis (.cons (.nl true (.lrv (.nl false (.comp [4] (.nm 4) (.iSeq (.v 2)) (.cons (.cmp .ge (.v 4) (.bin .pow (.k (.int 10)) (.k (.int 18)))) .nil) (.v 4))))) (.cons (.v 3) .nil))))))))
def N_law_deal : List PySem.Str := [(PySem.Str.ofString "_law_script"), (PySem.Str.ofString "_law_base"), (PySem.Str.ofString "_law_cells"), (PySem.Str.ofString "_law_mix"), (PySem.Str.ofString "_law_cell")]
/-- _law_any(_law_deal_here, _law_bound); names 0 _law_deal_here, 1 _law_bound, 2 _law_rest -/
def B_law_any : S :=
  (.seq (.while_ (.and_ (.cmp .ne (.ix (.v 0) (.k (.int 0))) (.nl false (.dis .nil))) (.cmp .eq (.ix (.ix (.v 0) (.k (.int 0))) (.neg (.k (.int 1)))) (.k (.int 0)))) (.ex (.mt .pop0 (.ix (.v 0) (.k (.int 0))) .nil)))
  (.seq (.ite (.cmp .ne (.ix (.v 0) (.k (.int 0))) (.nl false (.dis .nil))) (.seq (.set (.nm 2) (.bi .int (.cons (.mt .pop0 (.ix (.v 0) (.k (.int 0))) .nil) .nil)))
  (.seq (.ex (.mt .append (.ix (.v 0) (.k (.int 0))) (.cons (.bin .fdiv (.v 2) (.v 1)) .nil)))
  (.ret (.bin .mod (.v 2) (.v 1))))) .nop)
  (.seq (.setIx (.v 0) (.k (.int 1)) (.bin .mod (.bi .int (.cons (.bin .add (.bin .mul (.ix (.v 0) (.k (.int 1))) (.k (.int 48271))) (.k (.int 97))) .nil)) (.k (.int 2147483647))))
  (.ret (.bin .mod (.bi .int (.cons (.bin .fdiv (.ix (.v 0) (.k (.int 1))) (.k (.int 64))) .nil)) (.v 1))))))
def N_law_any : List PySem.Str := [(PySem.Str.ofString "_law_deal_here"), (PySem.Str.ofString "_law_bound"), (PySem.Str.ofString "_law_rest")]
/-- _law_of(_law_deal_here, _law_some); names 0 _law_deal_here, 1 _law_some -/
def B_law_of : S :=
  (.ret (.ix (.v 1) (.call 11 true (.cons (.v 0) (.cons (.bi .len (.cons (.v 1) .nil)) .nil)))))
def N_law_of : List PySem.Str := [(PySem.Str.ofString "_law_deal_here"), (PySem.Str.ofString "_law_some")]
/-- _law_mixed(_law_deal_here, _law_some); names 0 _law_deal_here, 1 _law_some, 2 _law_turn, 3 _law_left, 4 _law_found -/
def B_law_mixed : S :=
  (.seq (.set (.tp (.cons (.nm 3) (.cons (.nm 4) .nil))) (.tup (.cons (.nl true (.lof (.v 1))) (.cons (.nl true (.dis .nil)) .nil))))
  (.seq (.for_ (.nm 2) (.iRg1 (.bi .len (.cons (.v 1) .nil))) (.ex (.mt .append (.v 4) (.cons (.mt .pop1 (.v 3) (.cons (.call 11 true (.cons (.v 0) (.cons (.bi .len (.cons (.v 3) .nil)) .nil))) .nil)) .nil))))
  (.ret (.v 4))))
def N_law_mixed : List PySem.Str := [(PySem.Str.ofString "_law_deal_here"), (PySem.Str.ofString "_law_some"), (PySem.Str.ofString "_law_turn"), (PySem.Str.ofString "_law_left"), (PySem.Str.ofString "_law_found")]
/-- _law_names(_law_deal_here, _law_many); names 0 _law_deal_here, 1 _law_many, 2 _law_letters, 3 _law_stem, 4 _law_found, 5 _law_turn, 6 _law_place, 7 _law_first, 8 _law_loose, 9 _law_rest, 10 _law_name -/
def B_law_names : S :=
  (.seq (.set (.nm 2) (.k (.str (PySem.Str.ofString "abcdefghijklmnopqrstuvwxyz"))))
  (.seq (.set (.nm 3) (.nl false (.comp [5] (.nm 5) (.iRg1 (.bin .add (.k (.int 1)) (.call 12 true (.cons (.v 0) (.cons (.nl false (.dis (.cons (.k (.int 0)) (.cons (.k (.int 1)) (.cons (.k (.int 2)) (.cons (.ite (.cmp .gt (.v 1) (.k (.int 26))) (.k (.int 6)) (.k (.int 7))) .nil)))))) .nil))))) .nil (.call 12 true (.cons (.v 0) (.cons (.v 2) .nil))))))
  (.seq (.set (.tp (.cons (.nm 6) (.cons (.nm 7) (.cons (.nm 8) .nil)))) (.tup (.cons (.call 11 true (.cons (.v 0) (.cons (.bi .len (.cons (.v 3) .nil)) .nil))) (.cons (.call 11 true (.cons (.v 0) (.cons (.k (.int 26)) .nil))) (.cons (.call 11 true (.cons (.v 0) (.cons (.k (.int 2)) .nil))) .nil)))))
  (.seq (.set (.nm 4) (.nl true (.dis .nil)))
  (.seq (.for_ (.nm 5) (.iRg1 (.v 1)) (.seq (.set (.nm 9) (.nl false (.lsl (.v 3) (.cons (.bin .add (.v 6) (.k (.int 1))) .nil) .nil)))
  (.seq (.ite (.and_ (.cmp .eq (.v 8) (.k (.int 1))) (.cmp .lt (.v 1) (.k (.int 27)))) (.set (.nm 9) (.nl false (.lsl (.v 3) .nil (.cons (.call 11 true (.cons (.v 0) (.cons (.bin .sub (.k (.int 8)) (.v 6)) .nil))) .nil)))) .nop)
  (.seq (.set (.nm 10) (.join (.k (.str (PySem.Str.ofString ""))) (.nl false (.lcat (.nl false (.lcat (.nl false (.lsl (.v 3) .nil (.cons (.v 6) .nil))) (.nl false (.dis (.cons (.ix (.v 2) (.bin .mod (.bi .int (.cons (.bin .add (.v 7) (.v 5)) .nil)) (.k (.int 26)))) .nil))))) (.v 9)))))
  (.ex (.mt .append (.v 4) (.cons (.ite (.cmp .lt (.v 5) (.k (.int 26))) (.v 10) (.bin .add (.v 10) (.ix (.v 2) (.bin .fdiv (.v 5) (.k (.int 26)))))) .nil)))))))
  (.ret (.call 13 true (.cons (.v 0) (.cons (.v 4) .nil)))))))))
def N_law_names : List PySem.Str := [(PySem.Str.ofString "_law_deal_here"), (PySem.Str.ofString "_law_many"), (PySem.Str.ofString "_law_letters"), (PySem.Str.ofString "_law_stem"), (PySem.Str.ofString "_law_found"), (PySem.Str.ofString "_law_turn"), (PySem.Str.ofString "_law_place"), (PySem.Str.ofString "_law_first"), (PySem.Str.ofString "_law_loose"), (PySem.Str.ofString "_law_rest"), (PySem.Str.ofString "_law_name")]
/-- _law_heights(_law_deal_here, _law_sizes, _law_tall, _law_most_here); names 0 _law_deal_here, 1 _law_sizes, 2 _law_tall, 3 _law_most_here, 4 _law_found, 5 _law_turn, 6 _law_many, 7 _law_form -/
def B_law_heights : S :=
  (.seq (.set (.tp (.cons (.nm 6) (.cons (.nm 7) .nil))) (.tup (.cons (.call 12 true (.cons (.v 0) (.cons (.v 1) .nil))) (.cons (.call 11 true (.cons (.v 0) (.cons (.k (.int 5)) .nil))) .nil))))
  (.seq (.set (.nm 4) (.nl true (.comp [5] (.nm 5) (.iRg1 (.v 6)) .nil (.bin .add (.k (.int 1)) (.call 11 true (.cons (.v 0) (.cons (.v 2) .nil)))))))
  (.seq (.ite (.cmp .eq (.v 7) (.k (.int 0))) (.set (.nm 4) (.nl true (.lrep (.nl false (.dis (.cons (.ix (.v 4) (.k (.int 0))) .nil))) (.v 6)))) .nop)
  (.seq (.ite (.cmp .eq (.v 7) (.k (.int 1))) (.seq (.set (.nm 4) (.nl true (.lrep (.nl false (.dis (.cons (.k (.int 1)) .nil))) (.v 6))))
  (.setIx (.v 4) (.call 11 true (.cons (.v 0) (.cons (.v 6) .nil))) (.v 2))) .nop)
  (.seq (.for_ (.nm 5) (.iRg1 (.bin .mul (.k (.int 12)) (.v 6))) (.ite (.cmp .gt (.bi .sum (.cons (.v 4) .nil)) (.bi .max2 (.cons (.v 6) (.cons (.v 3) .nil)))) (.augIx .sub (.v 4) (.mt .index (.v 4) (.cons (.bi .max1 (.cons (.v 4) .nil)) .nil)) (.k (.int 1))) .nop))
  (.ret (.bi .tuple (.cons (.v 4) .nil))))))))
def N_law_heights : List PySem.Str := [(PySem.Str.ofString "_law_deal_here"), (PySem.Str.ofString "_law_sizes"), (PySem.Str.ofString "_law_tall"), (PySem.Str.ofString "_law_most_here"), (PySem.Str.ofString "_law_found"), (PySem.Str.ofString "_law_turn"), (PySem.Str.ofString "_law_many"), (PySem.Str.ofString "_law_form")]
/-- _law_deeps(_law_heights_here); names 0 _law_heights_here, 1 _law_found, 2 _law_boxes, 3 _law_height -/
def B_law_deeps : S :=
  (.seq (.set (.nm 1) (.nl true (.dis .nil)))
  (.seq (.for_ (.nm 2) (.iRg1 (.bin .add (.bi .sum (.cons (.v 0) .nil)) (.k (.int 1)))) (.ex (.mt .append (.v 1) (.cons (.bi .sum (.cons (.nl false (.comp [3] (.nm 3) (.iSeq (.v 0)) .nil (.bi .max2 (.cons (.k (.int 0)) (.cons (.bin .add (.bin .sub (.v 3) (.bi .sum (.cons (.v 0) .nil))) (.v 2)) .nil))))) .nil)) .nil))))
  (.ret (.v 1))))
def N_law_deeps : List PySem.Str := [(PySem.Str.ofString "_law_heights_here"), (PySem.Str.ofString "_law_found"), (PySem.Str.ofString "_law_boxes"), (PySem.Str.ofString "_law_height")]
/-- _law_done(_law_heights_here, _law_events_here); names 0 _law_heights_here, 1 _law_events_here, 2 _law_deeps_here, 3 _law_lows, 4 _law_word, 5 _law_box, 6 _law_many, 7 _law_other, 8 _law_boxes, 9 _law_row, 10 _law_stay -/
def B_law_done : S :=
  (.seq (.set (.tp (.cons (.nm 2) (.cons (.nm 3) .nil))) (.tup (.cons (.call 14 true (.cons (.v 0) .nil)) (.cons (.nd false) .nil))))
  (.seq (.for_ (.tp (.cons (.nm 4) (.cons (.nm 5) .nil))) (.iSeq (.v 1)) (.seq (.set (.nm 6) (.bi .len (.cons (.v 3) .nil)))
  (.ite (.cmp .eq (.v 4) (.k (.str (PySem.Str.ofString "in")))) (.seq (.setIx (.v 3) (.v 5) (.v 6))
  (.ite (.cmp .eq (.v 6) (.bi .sum (.cons (.v 0) .nil))) (.ret (.k (.bl false))) .nop)) (.seq (.ex (.dm .pop1 (.v 3) (.v 5) .nil))
  (.seq (.for_ (.nm 7) (.iSeq (.nl false (.lof (.v 3)))) (.setIx (.v 3) (.v 7) (.bi .min2 (.cons (.ix (.v 3) (.v 7)) (.cons (.bin .sub (.v 6) (.k (.int 1))) .nil)))))
  (.seq (.set (.tp (.cons (.nm 9) (.cons (.nm 10) .nil))) (.tup (.cons (.nl false (.srtV (.v 3))) (.cons (.k (.int 0)) .nil))))
  (.for_ (.nm 8) (.iRg2 (.k (.int 1)) (.v 6)) (.seq (.while_ (.and_ (.cmp .lt (.v 10) (.bi .len (.cons (.v 9) .nil))) (.cmp .lt (.ix (.v 9) (.v 10)) (.v 8))) (.aug 10 .add (.k (.int 1))))
  (.ite (.cmp .lt (.v 10) (.ix (.v 2) (.v 8))) (.ret (.k (.bl false))) .nop)))))))))
  (.ret (.k (.bl true)))))
def N_law_done : List PySem.Str := [(PySem.Str.ofString "_law_heights_here"), (PySem.Str.ofString "_law_events_here"), (PySem.Str.ofString "_law_deeps_here"), (PySem.Str.ofString "_law_lows"), (PySem.Str.ofString "_law_word"), (PySem.Str.ofString "_law_box"), (PySem.Str.ofString "_law_many"), (PySem.Str.ofString "_law_other"), (PySem.Str.ofString "_law_boxes"), (PySem.Str.ofString "_law_row"), (PySem.Str.ofString "_law_stay")]
/-- _law_events(_law_deal_here, _law_names_here, _law_most_here, _law_many); names 0 _law_deal_here, 1 _law_names_here, 2 _law_most_here, 3 _law_many, 4 _law_turn, 5 _law_level, 6 _law_there, 7 _law_fresh, 8 _law_events_here, 9 _law_keep, 10 _law_wild, 11 _law_coming, 12 _law_at -/
def B_law_events : S :=
  (.seq (.set (.tp (.cons (.nm 5) (.cons (.nm 6) (.cons (.nm 7) (.cons (.nm 8) .nil))))) (.tup (.cons (.bin .add (.k (.int 1)) (.call 11 true (.cons (.v 0) (.cons (.v 2) .nil)))) (.cons (.nl true (.dis .nil)) (.cons (.nl true (.lof (.v 1))) (.cons (.nl true (.dis .nil)) .nil))))))
  (.seq (.set (.tp (.cons (.nm 9) (.cons (.nm 10) .nil))) (.tup (.cons (.call 11 true (.cons (.v 0) (.cons (.k (.int 4)) .nil))) (.cons (.call 12 true (.cons (.v 0) (.cons (.nl false (.dis (.cons (.k (.int 0)) (.cons (.k (.int 0)) (.cons (.k (.int 1)) (.cons (.k (.int 3)) .nil)))))) .nil))) .nil))))
  (.seq (.for_ (.nm 4) (.iRg1 (.v 3)) (.seq (.set (.nm 11) (.or_ (.cmp .lt (.bi .len (.cons (.v 6) .nil)) (.v 5)) (.and_ (.cmp .lt (.bi .len (.cons (.v 6) .nil)) (.v 2)) (.cmp .eq (.call 11 true (.cons (.v 0) (.cons (.k (.int 2)) .nil))) (.k (.int 0))))))
  (.ite (.and_ (.v 11) (.cmp .ne (.v 7) (.nl false (.dis .nil)))) (.seq (.ex (.mt .append (.v 6) (.cons (.mt .pop0 (.v 7) .nil) .nil)))
  (.ex (.mt .append (.v 8) (.cons (.tup (.cons (.k (.str (PySem.Str.ofString "in"))) (.cons (.ix (.v 6) (.neg (.k (.int 1)))) .nil))) .nil)))) (.ite (.cmp .ne (.v 6) (.nl false (.dis .nil))) (.seq (.set (.nm 12) (.ite (.cmp .ge (.call 11 true (.cons (.v 0) (.cons (.k (.int 4)) .nil))) (.v 10)) (.bi .min2 (.cons (.v 9) (.cons (.bin .sub (.bi .len (.cons (.v 6) .nil)) (.k (.int 1))) .nil))) (.call 11 true (.cons (.v 0) (.cons (.bi .len (.cons (.v 6) .nil)) .nil)))))
  (.ex (.mt .append (.v 8) (.cons (.tup (.cons (.k (.str (PySem.Str.ofString "out"))) (.cons (.mt .pop1 (.v 6) (.cons (.v 12) .nil)) .nil))) .nil)))) .nop))))
  (.ret (.bi .tuple (.cons (.v 8) .nil))))))
def N_law_events : List PySem.Str := [(PySem.Str.ofString "_law_deal_here"), (PySem.Str.ofString "_law_names_here"), (PySem.Str.ofString "_law_most_here"), (PySem.Str.ofString "_law_many"), (PySem.Str.ofString "_law_turn"), (PySem.Str.ofString "_law_level"), (PySem.Str.ofString "_law_there"), (PySem.Str.ofString "_law_fresh"), (PySem.Str.ofString "_law_events_here"), (PySem.Str.ofString "_law_keep"), (PySem.Str.ofString "_law_wild"), (PySem.Str.ofString "_law_coming"), (PySem.Str.ofString "_law_at")]
/-- _law_with(_law_heights_here, _law_more); names 0 _law_heights_here, 1 _law_more -/
def B_law_with : S :=
  (.ret (.bin .add (.bi .tuple (.cons (.v 0) .nil)) (.ite (.cmp .gt (.v 1) (.k (.int 0))) (.tup (.cons (.v 1) .nil)) (.tup .nil))))
def N_law_with : List PySem.Str := [(PySem.Str.ofString "_law_heights_here"), (PySem.Str.ofString "_law_more")]
/-- _law_most(_law_events_here); names 0 _law_events_here, 1 _law_counts, 2 _law_word, 3 _law_box -/
def B_law_most : S :=
  (.seq (.set (.nm 1) (.nl true (.dis (.cons (.k (.int 0)) .nil))))
  (.seq (.for_ (.tp (.cons (.nm 2) (.cons (.nm 3) .nil))) (.iSeq (.v 0)) (.ex (.mt .append (.v 1) (.cons (.ite (.cmp .eq (.v 2) (.k (.str (PySem.Str.ofString "in")))) (.bin .add (.ix (.v 1) (.neg (.k (.int 1)))) (.k (.int 1))) (.bin .sub (.ix (.v 1) (.neg (.k (.int 1)))) (.k (.int 1)))) .nil))))
  (.ret (.bi .max1 (.cons (.v 1) .nil)))))
def N_law_most : List PySem.Str := [(PySem.Str.ofString "_law_events_here"), (PySem.Str.ofString "_law_counts"), (PySem.Str.ofString "_law_word"), (PySem.Str.ofString "_law_box")]
/-- law(_law_script); names 0 _law_script, 1 _law_deal_here, 2 _law_turn, 3 _law_heights_here, 4 _law_most_here, 5 _law_events_here, 6 _law_lack, 7 _law_more, 8 _law_many, 9 _law_height, 10 _law_at, 11 _law_stay, 12 _law_box -/
def L0 : S :=
  (.set (.nm 1) (.call 15 false (.cons (.v 0) (.cons (.k (.int 49)) .nil))))
def L1 : S :=
  (.for_ (.nm 2) (.iRg1 (.k (.int 4))) (.seq (.set (.nm 3) (.call 16 true (.cons (.v 1) (.cons (.nl false (.dis (.cons (.k (.int 3)) (.cons (.k (.int 3)) (.cons (.k (.int 4)) (.cons (.k (.int 5)) (.cons (.k (.int 12)) .nil))))))) (.cons (.bin .add (.k (.int 1)) (.call 11 true (.cons (.v 1) (.cons (.k (.int 12)) .nil)))) (.cons (.call 12 true (.cons (.v 1) (.cons (.nl false (.dis (.cons (.k (.int 3)) (.cons (.k (.int 5)) (.cons (.k (.int 7)) (.cons (.k (.int 9)) (.cons (.k (.int 14)) .nil))))))) .nil))) .nil))))))
  (.seq (.set (.nm 4) (.bi .max2 (.cons (.k (.int 2)) (.cons (.bin .add (.bi .sum (.cons (.v 3) .nil)) (.call 12 true (.cons (.v 1) (.cons (.nl false (.dis (.cons (.k (.int 0)) (.cons (.k (.int 0)) (.cons (.neg (.k (.int 1))) (.cons (.neg (.k (.int 2))) (.cons (.k (.int 1)) (.cons (.k (.int 2)) (.cons (.k (.int 8)) .nil))))))))) .nil)))) .nil))))
  (.seq (.set (.nm 5) (.call 17 true (.cons (.v 1) (.cons (.call 18 true (.cons (.v 1) (.cons (.k (.int 26)) .nil))) (.cons (.bi .min2 (.cons (.v 4) (.cons (.k (.int 20)) .nil))) (.cons (.call 11 true (.cons (.v 1) (.cons (.k (.int 41)) .nil))) .nil))))))
  (.seq (.ite (.cmp .eq (.call 11 true (.cons (.v 1) (.cons (.k (.int 8)) .nil))) (.k (.int 0))) (.set (.nm 5) (.sl (.bi .tuple (.cons (.nl false (.comp [12] (.nm 12) (.iSeq (.call 18 true (.cons (.v 1) (.cons (.k (.int 40)) .nil)))) .nil (.tup (.cons (.k (.str (PySem.Str.ofString "in"))) (.cons (.v 12) .nil))))) .nil)) .nil (.cons (.call 11 true (.cons (.v 1) (.cons (.k (.int 41)) .nil))) .nil))) .nop)
  (.seq (.set (.tp (.cons (.nm 7) (.cons (.nm 8) .nil))) (.tup (.cons (.call 19 true (.cons (.mk 0 (.cons (.v 3) .nil)) (.cons (.v 5) .nil))) (.cons (.call 20 true (.cons (.v 5) .nil)) .nil))))
  (.seq (.ite (.cmp .ne (.bi .repr (.cons (.call 21 true (.cons (.v 5) (.cons (.mk 0 (.cons (.nl false (.lof (.v 3))) .nil)) .nil))) .nil)) (.bi .repr (.cons (.v 7) .nil))) (.ret (.k (.bl false))) .nop)
  (.seq (.set (.nm 6) (.nl false (.comp [10, 11] (.tp (.cons (.nm 10) (.cons (.nm 11) .nil))) (.iEnum (.call 9 true (.cons (.v 5) .nil))) (.cons (.cmp .lt (.v 11) (.bin .sub (.bin .add (.v 10) (.k (.int 1))) (.bi .sum (.cons (.v 3) .nil)))) .nil) (.v 10))))
  (.seq (.ite (.cmp .ne (.cmp .is_ (.v 7) (.k .non)) (.cmp .ne (.v 6) (.nl false (.dis .nil)))) (.ret (.k (.bl false))) .nop)
  (.ite (.cmp .is_ (.v 7) (.k .non)) (.for_ (.nm 9) (.iSeq (.nl false (.dis (.cons (.k (.int 1)) (.cons (.k (.int 6)) (.cons (.k (.int 12)) (.cons (.v 8) (.cons (.bin .add (.bin .add (.v 8) (.k (.int 1))) (.call 11 true (.cons (.v 1) (.cons (.k (.int 50)) .nil)))) .nil)))))))) (.ite (.call 22 true (.cons (.call 23 true (.cons (.v 3) (.cons (.v 9) .nil))) (.cons (.v 5) .nil))) (.ret (.k (.bl false))) .nop)) (.seq (.ite (.or_ (.not_ (.bi .isInt (.cons (.v 7) .nil))) (.or_ (.bi .isBool (.cons (.v 7) .nil)) (.not_ (.ch .le .le (.k (.int 0)) (.v 7) (.bi .max2 (.cons (.k (.int 0)) (.cons (.bin .sub (.v 8) (.call 24 true (.cons (.mk 0 (.cons (.v 3) .nil)) .nil))) .nil))))))) (.ret (.k (.bl false))) .nop)
  (.seq (.for_ (.nm 9) (.iSeq (.nl false (.dis (.cons (.v 7) (.cons (.bin .add (.v 7) (.k (.int 1))) (.cons (.bin .add (.bin .add (.v 7) (.k (.int 2))) (.call 11 true (.cons (.v 1) (.cons (.k (.int 20)) .nil)))) .nil)))))) (.ite (.not_ (.call 22 true (.cons (.call 23 true (.cons (.v 3) (.cons (.v 9) .nil))) (.cons (.v 5) .nil)))) (.ret (.k (.bl false))) .nop))
  (.for_ (.nm 9) (.iRg2 (.bi .max2 (.cons (.k (.int 0)) (.cons (.bin .sub (.v 7) (.k (.int 3))) .nil))) (.v 7)) (.ite (.call 22 true (.cons (.call 23 true (.cons (.v 3) (.cons (.v 9) .nil))) (.cons (.v 5) .nil))) (.ret (.k (.bl false))) .nop))))))))))))))
def L2 : S :=
  (.ret (.k (.bl true)))
def B_law : S :=
  (.seq L0
  (.seq L1
  L2))
def N_law : List PySem.Str := [(PySem.Str.ofString "_law_script"), (PySem.Str.ofString "_law_deal_here"), (PySem.Str.ofString "_law_turn"), (PySem.Str.ofString "_law_heights_here"), (PySem.Str.ofString "_law_most_here"), (PySem.Str.ofString "_law_events_here"), (PySem.Str.ofString "_law_lack"), (PySem.Str.ofString "_law_more"), (PySem.Str.ofString "_law_many"), (PySem.Str.ofString "_law_height"), (PySem.Str.ofString "_law_at"), (PySem.Str.ofString "_law_stay"), (PySem.Str.ofString "_law_box")]
def fnl : List Fn := [⟨1, 1, B_is_integer⟩, ⟨2, 2, B_is_below⟩, ⟨1, 1, B_is_sequence⟩, ⟨1, 1, B_lot_of⟩, ⟨2, 4, B_Yard___init__⟩, ⟨2, 2, B_Yard___eq__⟩, ⟨1, 1, B_places⟩, ⟨1, 1, B_all_boxes⟩, ⟨1, 5, B_presence_table⟩, ⟨2, 6, B_rows_below⟩, ⟨2, 7, B_staying⟩, ⟨1, 9, B_stay_row⟩, ⟨2, 4, B_deep_number⟩, ⟨2, 4, B_suffices⟩, ⟨2, 7, B_further_stack⟩, ⟨2, 5, B_law_deal⟩, ⟨2, 3, B_law_any⟩, ⟨2, 2, B_law_of⟩, ⟨2, 5, B_law_mixed⟩, ⟨2, 11, B_law_names⟩, ⟨4, 8, B_law_heights⟩, ⟨1, 4, B_law_deeps⟩, ⟨2, 11, B_law_done⟩, ⟨4, 13, B_law_events⟩, ⟨2, 2, B_law_with⟩, ⟨1, 4, B_law_most⟩, ⟨1, 13, B_law⟩]
def sgl : List Sg := [⟨0, 1, [], [0]⟩, ⟨2, 1, [], [0]⟩, ⟨1, 2, [], [0, 1]⟩, ⟨6, 1, [], [0]⟩, ⟨3, 1, [], [0]⟩, ⟨8, 1, [], [0]⟩, ⟨9, 2, [], [0, 1]⟩, ⟨10, 2, [], [0, 1]⟩, ⟨12, 2, [], [0, 1]⟩, ⟨11, 1, [], [0]⟩, ⟨13, 2, [], [0, 1]⟩, ⟨16, 2, [], [0, 1]⟩, ⟨17, 2, [], [0, 1]⟩, ⟨18, 2, [], [0, 1]⟩, ⟨21, 1, [], [0]⟩, ⟨15, 2, [], [0, 1]⟩, ⟨20, 4, [], [0, 1, 2, 3]⟩, ⟨23, 4, [], [0, 1, 2, 3]⟩, ⟨19, 2, [], [0, 1]⟩, ⟨14, 2, [], [0, 1]⟩, ⟨25, 1, [], [0]⟩, ⟨14, 0, [(PySem.Str.ofString "events"), (PySem.Str.ofString "yard")], [1, 0]⟩, ⟨22, 2, [], [0, 1]⟩, ⟨24, 2, [], [0, 1]⟩, ⟨7, 1, [], [0]⟩, ⟨26, 1, [], [0]⟩]
def mkl : List (Nat × Sg) := [(2, ⟨4, 1, [], [0, 1]⟩)]
def fnd : List He.DefD := [⟨((PySem.Str.ofString "is_integer"), none), (PySem.Str.ofString "is_integer"), (PySem.Str.ofString "is_integer"), defArgs (top 4), defBody (top 4), defScope (top 4), [], []⟩,
  ⟨((PySem.Str.ofString "is_below"), none), (PySem.Str.ofString "is_below"), (PySem.Str.ofString "is_below"), defArgs (top 5), defBody (top 5), defScope (top 5), [], []⟩,
  ⟨((PySem.Str.ofString "is_sequence"), none), (PySem.Str.ofString "is_sequence"), (PySem.Str.ofString "is_sequence"), defArgs (top 6), defBody (top 6), defScope (top 6), [], []⟩,
  ⟨((PySem.Str.ofString "lot_of"), none), (PySem.Str.ofString "lot_of"), (PySem.Str.ofString "lot_of"), defArgs (top 7), defBody (top 7), defScope (top 7), [], []⟩,
  ⟨((PySem.Str.ofString "Yard"), some (PySem.Str.ofString "__init__")), (PySem.Str.ofString "__init__"), (PySem.Str.ofString "Yard.__init__"), defArgs (met 11 0), defBody (met 11 0), defScope (met 11 0), [], []⟩,
  ⟨((PySem.Str.ofString "Yard"), some (PySem.Str.ofString "__eq__")), (PySem.Str.ofString "__eq__"), (PySem.Str.ofString "Yard.__eq__"), defArgs (met 11 1), defBody (met 11 1), defScope (met 11 1), [], []⟩,
  ⟨((PySem.Str.ofString "places"), none), (PySem.Str.ofString "places"), (PySem.Str.ofString "places"), defArgs (top 12), defBody (top 12), defScope (top 12), [], []⟩,
  ⟨((PySem.Str.ofString "all_boxes"), none), (PySem.Str.ofString "all_boxes"), (PySem.Str.ofString "all_boxes"), defArgs (top 14), defBody (top 14), defScope (top 14), [], []⟩,
  ⟨((PySem.Str.ofString "presence_table"), none), (PySem.Str.ofString "presence_table"), (PySem.Str.ofString "presence_table"), defArgs (top 16), defBody (top 16), defScope (top 16), [], []⟩,
  ⟨((PySem.Str.ofString "rows_below"), none), (PySem.Str.ofString "rows_below"), (PySem.Str.ofString "rows_below"), defArgs (top 18), defBody (top 18), defScope (top 18), [], []⟩,
  ⟨((PySem.Str.ofString "staying"), none), (PySem.Str.ofString "staying"), (PySem.Str.ofString "staying"), defArgs (top 19), defBody (top 19), defScope (top 19), [], []⟩,
  ⟨((PySem.Str.ofString "stay_row"), none), (PySem.Str.ofString "stay_row"), (PySem.Str.ofString "stay_row"), defArgs (top 21), defBody (top 21), defScope (top 21), [], []⟩,
  ⟨((PySem.Str.ofString "deep_number"), none), (PySem.Str.ofString "deep_number"), (PySem.Str.ofString "deep_number"), defArgs (top 22), defBody (top 22), defScope (top 22), [], []⟩,
  ⟨((PySem.Str.ofString "suffices"), none), (PySem.Str.ofString "suffices"), (PySem.Str.ofString "suffices"), defArgs (top 23), defBody (top 23), defScope (top 23), [], []⟩,
  ⟨((PySem.Str.ofString "further_stack"), none), (PySem.Str.ofString "further_stack"), (PySem.Str.ofString "further_stack"), defArgs (top 24), defBody (top 24), defScope (top 24), [], []⟩,
  ⟨((PySem.Str.ofString "_law_deal"), none), (PySem.Str.ofString "_law_deal"), (PySem.Str.ofString "_law_deal"), defArgs (top 26), defBody (top 26), defScope (top 26), [], []⟩,
  ⟨((PySem.Str.ofString "_law_any"), none), (PySem.Str.ofString "_law_any"), (PySem.Str.ofString "_law_any"), defArgs (top 27), defBody (top 27), defScope (top 27), [], []⟩,
  ⟨((PySem.Str.ofString "_law_of"), none), (PySem.Str.ofString "_law_of"), (PySem.Str.ofString "_law_of"), defArgs (top 28), defBody (top 28), defScope (top 28), [], []⟩,
  ⟨((PySem.Str.ofString "_law_mixed"), none), (PySem.Str.ofString "_law_mixed"), (PySem.Str.ofString "_law_mixed"), defArgs (top 29), defBody (top 29), defScope (top 29), [], []⟩,
  ⟨((PySem.Str.ofString "_law_names"), none), (PySem.Str.ofString "_law_names"), (PySem.Str.ofString "_law_names"), defArgs (top 30), defBody (top 30), defScope (top 30), [], []⟩,
  ⟨((PySem.Str.ofString "_law_heights"), none), (PySem.Str.ofString "_law_heights"), (PySem.Str.ofString "_law_heights"), defArgs (top 31), defBody (top 31), defScope (top 31), [], []⟩,
  ⟨((PySem.Str.ofString "_law_deeps"), none), (PySem.Str.ofString "_law_deeps"), (PySem.Str.ofString "_law_deeps"), defArgs (top 32), defBody (top 32), defScope (top 32), [], []⟩,
  ⟨((PySem.Str.ofString "_law_done"), none), (PySem.Str.ofString "_law_done"), (PySem.Str.ofString "_law_done"), defArgs (top 33), defBody (top 33), defScope (top 33), [], []⟩,
  ⟨((PySem.Str.ofString "_law_events"), none), (PySem.Str.ofString "_law_events"), (PySem.Str.ofString "_law_events"), defArgs (top 34), defBody (top 34), defScope (top 34), [], []⟩,
  ⟨((PySem.Str.ofString "_law_with"), none), (PySem.Str.ofString "_law_with"), (PySem.Str.ofString "_law_with"), defArgs (top 35), defBody (top 35), defScope (top 35), [], []⟩,
  ⟨((PySem.Str.ofString "_law_most"), none), (PySem.Str.ofString "_law_most"), (PySem.Str.ofString "_law_most"), defArgs (top 36), defBody (top 36), defScope (top 36), [], []⟩,
  ⟨((PySem.Str.ofString "law"), none), (PySem.Str.ofString "law"), (PySem.Str.ofString "law"), defArgs (top 37), defBody (top 37), defScope (top 37), [], []⟩]
def hd : Hd where
  cn := [(PySem.Str.ofString "YardError"), (PySem.Str.ofString "InvalidYard"), (PySem.Str.ofString "Yard")]
  fl := [[], [(PySem.Str.ofString "at")], [(PySem.Str.ofString "heights")]]
  cs := [((PySem.Str.ofString "FEWEST"), (.int 3)), ((PySem.Str.ofString "MOST"), (.int 12))]
  cl := [2]
  xi := [(1, xcAt (top 2))]
  xc := []
  fn := fnd
  N := [N_is_integer, N_is_below, N_is_sequence, N_lot_of, N_Yard___init__, N_Yard___eq__, N_places, N_all_boxes, N_presence_table, N_rows_below, N_staying, N_stay_row, N_deep_number, N_suffices, N_further_stack, N_law_deal, N_law_any, N_law_of, N_law_mixed, N_law_names, N_law_heights, N_law_deeps, N_law_done, N_law_events, N_law_with, N_law_most, N_law]
  fnl := fnl
  sgl := sgl
  mkl := mkl
  sub := [(0, 0), (1, 1), (1, 0), (2, 2)]
-- functions: 0 is_integer, 1 is_below, 2 is_sequence, 3 lot_of, 4 Yard.__init__, 5 Yard.__eq__, 6 places, 7 all_boxes, 8 presence_table, 9 rows_below, 10 staying, 11 stay_row, 12 deep_number, 13 suffices, 14 further_stack, 15 _law_deal, 16 _law_any, 17 _law_of, 18 _law_mixed, 19 _law_names, 20 _law_heights, 21 _law_deeps, 22 _law_done, 23 _law_events, 24 _law_with, 25 _law_most, 26 law
-- classes: 0 YardError [], 1 InvalidYard ['at'], 2 Yard ['heights']
-- signatures: 0 ('is_integer', 1, (), (0,)), 1 ('is_sequence', 1, (), (0,)), 2 ('is_below', 2, (), (0, 1)), 3 ('places', 1, (), (0,)), 4 ('lot_of', 1, (), (0,)), 5 ('presence_table', 1, (), (0,)), 6 ('rows_below', 2, (), (0, 1)), 7 ('staying', 2, (), (0, 1)), 8 ('deep_number', 2, (), (0, 1)), 9 ('stay_row', 1, (), (0,)), 10 ('suffices', 2, (), (0, 1)), 11 ('_law_any', 2, (), (0, 1)), 12 ('_law_of', 2, (), (0, 1)), 13 ('_law_mixed', 2, (), (0, 1)), 14 ('_law_deeps', 1, (), (0,)), 15 ('_law_deal', 2, (), (0, 1)), 16 ('_law_heights', 4, (), (0, 1, 2, 3)), 17 ('_law_events', 4, (), (0, 1, 2, 3)), 18 ('_law_names', 2, (), (0, 1)), 19 ('further_stack', 2, (), (0, 1)), 20 ('_law_most', 1, (), (0,)), 21 ('further_stack', 0, ('events', 'yard'), (1, 0)), 22 ('_law_done', 2, (), (0, 1)), 23 ('_law_with', 2, (), (0, 1)), 24 ('all_boxes', 1, (), (0,)), 25 ('law', 1, (), (0,))
-- makes: 0 ('Yard.__init__', 1, (), (0, 1))
theorem sgs : ∀ g ∈ hd.sgl, SgOk hd 0 g := (all_cons (fun d e K f fd F => by
    cases e
    exact bd_of F rfl fun kV doc pm an cdv ct us ws zs h1 h2 h3 => match us, h1, ws, h2, h3 with
      | [_], _, [], _, h3 => by cases h3; rfl)
  (all_cons (fun d e K f fd F => by
    cases e
    exact bd_of F rfl fun kV doc pm an cdv ct us ws zs h1 h2 h3 => match us, h1, ws, h2, h3 with
      | [_], _, [], _, h3 => by cases h3; rfl)
  (all_cons (fun d e K f fd F => by
    cases e
    exact bd_of F rfl fun kV doc pm an cdv ct us ws zs h1 h2 h3 => match us, h1, ws, h2, h3 with
      | [_, _], _, [], _, h3 => by cases h3; rfl)
  (all_cons (fun d e K f fd F => by
    cases e
    exact bd_of F rfl fun kV doc pm an cdv ct us ws zs h1 h2 h3 => match us, h1, ws, h2, h3 with
      | [_], _, [], _, h3 => by cases h3; rfl)
  (all_cons (fun d e K f fd F => by
    cases e
    exact bd_of F rfl fun kV doc pm an cdv ct us ws zs h1 h2 h3 => match us, h1, ws, h2, h3 with
      | [_], _, [], _, h3 => by cases h3; rfl)
  (all_cons (fun d e K f fd F => by
    cases e
    exact bd_of F rfl fun kV doc pm an cdv ct us ws zs h1 h2 h3 => match us, h1, ws, h2, h3 with
      | [_], _, [], _, h3 => by cases h3; rfl)
  (all_cons (fun d e K f fd F => by
    cases e
    exact bd_of F rfl fun kV doc pm an cdv ct us ws zs h1 h2 h3 => match us, h1, ws, h2, h3 with
      | [_, _], _, [], _, h3 => by cases h3; rfl)
  (all_cons (fun d e K f fd F => by
    cases e
    exact bd_of F rfl fun kV doc pm an cdv ct us ws zs h1 h2 h3 => match us, h1, ws, h2, h3 with
      | [_, _], _, [], _, h3 => by cases h3; rfl)
  (all_cons (fun d e K f fd F => by
    cases e
    exact bd_of F rfl fun kV doc pm an cdv ct us ws zs h1 h2 h3 => match us, h1, ws, h2, h3 with
      | [_, _], _, [], _, h3 => by cases h3; rfl)
  (all_cons (fun d e K f fd F => by
    cases e
    exact bd_of F rfl fun kV doc pm an cdv ct us ws zs h1 h2 h3 => match us, h1, ws, h2, h3 with
      | [_], _, [], _, h3 => by cases h3; rfl)
  (all_cons (fun d e K f fd F => by
    cases e
    exact bd_of F rfl fun kV doc pm an cdv ct us ws zs h1 h2 h3 => match us, h1, ws, h2, h3 with
      | [_, _], _, [], _, h3 => by cases h3; rfl)
  (all_cons (fun d e K f fd F => by
    cases e
    exact bd_of F rfl fun kV doc pm an cdv ct us ws zs h1 h2 h3 => match us, h1, ws, h2, h3 with
      | [_, _], _, [], _, h3 => by cases h3; rfl)
  (all_cons (fun d e K f fd F => by
    cases e
    exact bd_of F rfl fun kV doc pm an cdv ct us ws zs h1 h2 h3 => match us, h1, ws, h2, h3 with
      | [_, _], _, [], _, h3 => by cases h3; rfl)
  (all_cons (fun d e K f fd F => by
    cases e
    exact bd_of F rfl fun kV doc pm an cdv ct us ws zs h1 h2 h3 => match us, h1, ws, h2, h3 with
      | [_, _], _, [], _, h3 => by cases h3; rfl)
  (all_cons (fun d e K f fd F => by
    cases e
    exact bd_of F rfl fun kV doc pm an cdv ct us ws zs h1 h2 h3 => match us, h1, ws, h2, h3 with
      | [_], _, [], _, h3 => by cases h3; rfl)
  (all_cons (fun d e K f fd F => by
    cases e
    exact bd_of F rfl fun kV doc pm an cdv ct us ws zs h1 h2 h3 => match us, h1, ws, h2, h3 with
      | [_, _], _, [], _, h3 => by cases h3; rfl)
  (all_cons (fun d e K f fd F => by
    cases e
    exact bd_of F rfl fun kV doc pm an cdv ct us ws zs h1 h2 h3 => match us, h1, ws, h2, h3 with
      | [_, _, _, _], _, [], _, h3 => by cases h3; rfl)
  (all_cons (fun d e K f fd F => by
    cases e
    exact bd_of F rfl fun kV doc pm an cdv ct us ws zs h1 h2 h3 => match us, h1, ws, h2, h3 with
      | [_, _, _, _], _, [], _, h3 => by cases h3; rfl)
  (all_cons (fun d e K f fd F => by
    cases e
    exact bd_of F rfl fun kV doc pm an cdv ct us ws zs h1 h2 h3 => match us, h1, ws, h2, h3 with
      | [_, _], _, [], _, h3 => by cases h3; rfl)
  (all_cons (fun d e K f fd F => by
    cases e
    exact bd_of F rfl fun kV doc pm an cdv ct us ws zs h1 h2 h3 => match us, h1, ws, h2, h3 with
      | [_, _], _, [], _, h3 => by cases h3; rfl)
  (all_cons (fun d e K f fd F => by
    cases e
    exact bd_of F rfl fun kV doc pm an cdv ct us ws zs h1 h2 h3 => match us, h1, ws, h2, h3 with
      | [_], _, [], _, h3 => by cases h3; rfl)
  (all_cons (fun d e K f fd F => by
    cases e
    exact bd_of F rfl fun kV doc pm an cdv ct us ws zs h1 h2 h3 => match us, h1, ws, h2, h3 with
      | [], _, [_, _], _, h3 => by cases h3; rfl)
  (all_cons (fun d e K f fd F => by
    cases e
    exact bd_of F rfl fun kV doc pm an cdv ct us ws zs h1 h2 h3 => match us, h1, ws, h2, h3 with
      | [_, _], _, [], _, h3 => by cases h3; rfl)
  (all_cons (fun d e K f fd F => by
    cases e
    exact bd_of F rfl fun kV doc pm an cdv ct us ws zs h1 h2 h3 => match us, h1, ws, h2, h3 with
      | [_, _], _, [], _, h3 => by cases h3; rfl)
  (all_cons (fun d e K f fd F => by
    cases e
    exact bd_of F rfl fun kV doc pm an cdv ct us ws zs h1 h2 h3 => match us, h1, ws, h2, h3 with
      | [_], _, [], _, h3 => by cases h3; rfl)
  (all_cons (fun d e K f fd F => by
    cases e
    exact bd_of F rfl fun kV doc pm an cdv ct us ws zs h1 h2 h3 => match us, h1, ws, h2, h3 with
      | [_], _, [], _, h3 => by cases h3; rfl)
  (fun _ h => nomatch h)))))))))))))))))))))))))))
theorem mks : ∀ p ∈ hd.mkl, SgOk hd 1 p.2 := (all_cons (fun d e K f fd F => by
    cases e
    exact bd_of F rfl fun kV doc pm an cdv ct us ws zs h1 h2 h3 => match us, h1, ws, h2, h3 with
      | [_, _], _, [], _, h3 => by cases h3; rfl)
  (fun _ h => nomatch h))
theorem xbs : ∀ p ∈ hd.xi, p.2.Bd2 := (all_cons (fun cc kV doc pm cdv ct an s a u => .of_eq rfl) (fun _ h => nomatch h))
theorem text : hd.text = true := by decide +kernel
end K49
set_option Elab.async false
set_option linter.all false
set_option maxRecDepth 100000
set_option maxHeartbeats 1000000
/-! Pa: the machine, plainly: what a run ends with. -/
namespace Mx.Pl
open PySem
section
variable {α β : Type} {P : Pg} {F : Ph} {Q Q' : α → Hh → Prop} {E E' : Nat → D → Hh → Prop} {h h' : Hh} {r : R α}
/-- a run ends with Q, or lets an exception out with E -/
def wp (r : R α) (Q : α → Hh → Prop) (E : Nat → D → Hh → Prop) : Prop := match r with
  | .ok a h => Q a h
  | .exc c v h => E c v h
  | .bad => False
theorem wp_ok {a : α} : wp (.ok a h) Q E ↔ Q a h := Iff.rfl
theorem wp_exc {c : Nat} {v : D} : wp (.exc c v h : R α) Q E ↔ E c v h := Iff.rfl
theorem wp_bad : wp (.bad : R α) Q E ↔ False := Iff.rfl
theorem wp_bind {k : α → Hh → R β} {Q : β → Hh → Prop} : wp (r.bind k) Q E ↔ wp r (fun a h => wp (k a h) Q E) E := by cases r <;> exact Iff.rfl
theorem wp_rIf {c : Prop} : wp (rIf c r) Q E ↔ c ∧ wp r Q E := by
  unfold rIf
  by_cases hc : c
  · rw [if_pos hc]; exact ⟨fun z => ⟨hc, z⟩, fun z => z.2⟩
  · rw [if_neg hc]; exact ⟨fun z => z.elim, fun z => hc z.1⟩
theorem wp_some {a : α} : wp (rOpt (some a) h) Q E ↔ Q a h := Iff.rfl
theorem wp_none : wp (rOpt (none : Option α) h) Q E ↔ False := Iff.rfl
theorem wp_opt {o : Option α} : wp (rOpt o h) Q E ↔ ∃ a, o = some a ∧ Q a h := by
  cases o with
  | none => simp [rOpt, wp]
  | some a => simp [rOpt, wp]
theorem wp_ite {c : Prop} [Decidable c] {r s : R α} : wp (if c then r else s) Q E ↔ (if c then wp r Q E else wp s Q E) := by
  by_cases hc : c
  · rw [if_pos hc, if_pos hc]
  · rw [if_neg hc, if_neg hc]
theorem wp.mono (w : wp r Q E) (q : ∀ a h, Q a h → Q' a h) (e : ∀ c v h, E c v h → E' c v h) : wp r Q' E' := by
  cases r with
  | ok a h => exact q _ _ w
  | exc c v h => exact e _ _ _ w
  | bad => exact w
theorem wp.imp (w : wp r Q E) (q : ∀ a h, Q a h → Q' a h) : wp r Q' E := w.mono q fun _ _ _ x => x
/-- nothing is let out -/
abbrev NX : Nat → D → Hh → Prop := fun _ _ _ => False
theorem wp.nx (w : wp r Q NX) : wp r Q E := w.mono (fun _ _ x => x) fun _ _ _ x => x.elim
/-! ### calls -/
def fin (Q : D → Hh → Prop) : Fl → Hh → Prop
  | .nx _, h => Q .non h
  | .rt d, h => Q d h
  | _, _ => False
theorem wp_callN {k f : Nat} {fn : Fn} {xs : List D} {Q : D → Hh → Prop} (hf : P.fns f = some fn) (hl : xs.length = fn.np) :
    wp (callN P (k + 1) f xs h) Q E ↔ wp (evS P (callN P k) fn.body (xs.map some ++ List.replicate (fn.nn - xs.length) none) h) (fin Q) E := by
  simp only [callN, hf]
  rw [if_pos hl, wp_bind]
  constructor
  · intro w
    refine w.imp fun fl h' q => ?_
    cases fl <;> exact q
  · intro w
    refine w.imp fun fl h' q => ?_
    cases fl <;> exact q
theorem ev_call {s : Nat} {fr : Bool} {es : Mx.E} {σ : En} {g : Sg} (hs : P.sgs s = some g) :
    ev P F (.call s fr es) σ h = (evs P F es σ h).bind fun xs h => (rOpt (perm g.pm xs) h).bind fun ys h => if fr = true then settle h (F g.f ys h) else F g.f ys h := by
  simp only [ev, hs]
theorem ev_mk {s c : Nat} {es : Mx.E} {σ : En} {g : Sg} (hs : P.mks s = some (c, g)) :
    ev P F (.mk s es) σ h = (evs P F es σ h).bind fun xs h => (rOpt (perm g.pm (.ref h.length :: xs)) h).bind fun ys h => settle h ((F g.f ys (h ++ [.ins c []])).bind fun d h' => mkEnd h.length d h') := by
  simp only [ev, hs]
/-- what is let go changes nothing that stands -/
theorem wp_settle {r : R D} {Q : D → Hh → Prop} (w : wp r (fun d h' => ∃ d', frz 8 h' h.length d = some d' ∧ h.length ≤ h'.length ∧ settled h h' ∧ Q d' (h'.take h.length)) (fun c d h' => ∃ d', frz 8 h' h.length d = some d' ∧ h.length ≤ h'.length ∧ settled h h' ∧ E c d' (h'.take h.length))) : wp (settle h r) Q E := by
  cases r with
  | bad => exact w
  | ok d h' =>
    obtain ⟨d', e, a, b, q⟩ := w
    simp only [settle, e]
    exact wp_rIf.mpr ⟨⟨a, b⟩, q⟩
  | exc c d h' =>
    obtain ⟨d', e, a, b, q⟩ := w
    simp only [settle, e]
    exact wp_rIf.mpr ⟨⟨a, b⟩, q⟩
theorem settled_refl : settled h h := fun i o _ e => .inl e
theorem settled_app {t : Hh} : settled h (h ++ t) := fun i o hi e => .inl (by rw [List.getElem?_append_left hi] at e; exact e)
/-- a call that leaves the heap as it was, a value without lists of its own -/
theorem wp_settle0 {r : R D} {Q : D → Hh → Prop} (w : wp r (fun d h' => h' = h ∧ frz 8 h h.length d = some d ∧ Q d h) (fun c d h' => h' = h ∧ frz 8 h h.length d = some d ∧ E c d h)) : wp (settle h r) Q E := by
  refine wp_settle (w.mono (fun d h' q => ?_) fun c d h' q => ?_)
  · obtain ⟨rfl, e, q⟩ := q
    exact ⟨d, e, Nat.le_refl _, settled_refl, by rw [List.take_length]; exact q⟩
  · obtain ⟨rfl, e, q⟩ := q
    exact ⟨d, e, Nat.le_refl _, settled_refl, by rw [List.take_length]; exact q⟩
theorem settle_ok {d : D} (e : frz 8 h h.length d = some d) : settle h (.ok d h) = .ok d h := by
  simp only [settle, e]
  unfold rIf
  rw [if_pos ⟨Nat.le_refl _, settled_refl⟩, List.take_length]
theorem frz_int {k n : Nat} {i : Int} : frz (k + 1) h n (.int i) = some (.int i) := by simp only [frz]
theorem frz_bl {k n : Nat} {i : Bool} : frz (k + 1) h n (.bl i) = some (.bl i) := by simp only [frz]
theorem frz_str {k n : Nat} {i : Str} : frz (k + 1) h n (.str i) = some (.str i) := by simp only [frz]
theorem frz_non {k n : Nat} : frz (k + 1) h n .non = some .non := by simp only [frz]
theorem mapM_id {f : D → Option D} : ∀ {xs : List D}, (∀ x ∈ xs, f x = some x) → xs.mapM f = some xs
  | [], _ => by simp
  | x :: xs, e => by
    rw [List.mapM_cons, e x List.mem_cons_self, mapM_id fun y hy => e y (List.mem_cons_of_mem _ hy)]
    rfl
theorem frz_ints {k n : Nat} {ns : List Int} : (ns.map D.int).mapM (frz (k + 1) h n) = some (ns.map D.int) := mapM_id fun x hx => by
  obtain ⟨i, _, rfl⟩ := List.mem_map.mp hx
  exact frz_int
theorem frz_tupI {k n : Nat} {ns : List Int} : frz (k + 2) h n (.tup (ns.map D.int)) = some (.tup (ns.map D.int)) := by
  show ((ns.map D.int).mapM (frz (k + 1) h n)).map D.tup = _
  rw [frz_ints]; rfl
theorem frz_flsI {k n : Nat} {ns : List Int} : frz (k + 2) h n (.fls (ns.map D.int)) = some (.fls (ns.map D.int)) := by
  show ((ns.map D.int).mapM (frz (k + 1) h n)).map D.fls = _
  rw [frz_ints]; rfl
/-! ### loops -/
/-- what a loop's body leaves: on it goes, or away -/
def step (I : En → Hh → Prop) (Q : Fl → Hh → Prop) : Fl → Hh → Prop
  | .nx σ, h => I σ h
  | .ct σ, h => I σ h
  | .bk σ, h => Q (.nx σ) h
  | .rt d, h => Q (.rt d) h
theorem wp_floop {f : D → En → Hh → R Fl} {g : Hh → Prop} {Q : Fl → Hh → Prop} {xs : List D} (I : Nat → En → Hh → Prop) (hg : ∀ i σ h, i ≤ xs.length → I i σ h → g h)
    (hs : ∀ i σ h, (hi : i < xs.length) → I i σ h → wp (f xs[i] σ h) (step (I (i + 1)) Q) E) (hq : ∀ σ h, I xs.length σ h → Q (.nx σ) h) {σ : En} (h0 : I 0 σ h) : wp (floop f g xs σ h) Q E := by
  have key : ∀ (n i : Nat) (σ : En) (h : Hh), i + n = xs.length → I i σ h → wp (floop f g (xs.drop i) σ h) Q E := by
    intro n
    induction n with
    | zero =>
      intro i σ h e hI
      rw [List.drop_eq_nil_of_le (by omega)]
      simp only [floop]
      refine wp_rIf.mpr ⟨hg i σ h (by omega) hI, ?_⟩
      have : i = xs.length := by omega
      subst this
      exact hq σ h hI
    | succ n ih =>
      intro i σ h e hI
      have hi : i < xs.length := by omega
      rw [List.drop_eq_getElem_cons hi]
      simp only [floop]
      refine wp_rIf.mpr ⟨hg i σ h (by omega) hI, wp_bind.mpr ((hs i σ h hi hI).imp fun fl h' q => ?_)⟩
      cases fl with
      | nx σ' => exact ih (i + 1) σ' h' (by omega) q
      | ct σ' => exact ih (i + 1) σ' h' (by omega) q
      | bk σ' => exact q
      | rt d => exact q
  exact key xs.length 0 σ h (by omega) h0
/-- a loop over a mapped list (a range, a list of numbers) -/
theorem wp_wloop {c : En → Hh → R Bool} {f : En → Hh → R Fl} {Q : Fl → Hh → Prop} (I : Nat → En → Hh → Prop)
    (hs : ∀ n σ h, I n σ h → wp (c σ h) (fun b h1 => if b = true then wp (f σ h1) (step (fun σ' h2 => ∃ m, m < n ∧ I m σ' h2) Q) E else Q (.nx σ) h1) E) : ∀ (N n : Nat) (σ : En) (h : Hh), n < N → I n σ h → wp (wloop c f N σ h) Q E := by
  intro N
  induction N with
  | zero => intro n σ h hn; omega
  | succ N ih =>
    intro n σ h hn hI
    simp only [wloop]
    refine wp_bind.mpr ((hs n σ h hI).imp fun b h1 q => ?_)
    cases b with
    | false =>
      rw [if_neg (by decide)] at q ⊢
      exact q
    | true =>
      rw [if_pos rfl] at q ⊢
      refine wp_bind.mpr (q.imp fun fl h2 q2 => ?_)
      cases fl with
      | nx σ' => obtain ⟨m, hm, hI2⟩ := q2; exact ih m σ' h2 (by omega) hI2
      | ct σ' => obtain ⟨m, hm, hI2⟩ := q2; exact ih m σ' h2 (by omega) hI2
      | bk σ' => exact q2
      | rt d => exact q2
theorem wp_cloop {f : D → Hh → R (Option D)} {g : Hh → Prop} {Q : List D → Hh → Prop} {xs : List D} (I : Nat → List D → Hh → Prop) (hg : ∀ i acc h, i ≤ xs.length → I i acc h → g h)
    (hs : ∀ i acc h, (hi : i < xs.length) → I i acc h → wp (f xs[i] h) (fun o h' => I (i + 1) (match o with | some y => acc ++ [y] | none => acc) h') E) (hq : ∀ acc h, I xs.length acc h → Q acc h) {acc : List D} (h0 : I 0 acc h) : wp (cloop f g xs acc h) Q E := by
  have key : ∀ (n i : Nat) (acc : List D) (h : Hh), i + n = xs.length → I i acc h → wp (cloop f g (xs.drop i) acc h) Q E := by
    intro n
    induction n with
    | zero =>
      intro i acc h e hI
      rw [List.drop_eq_nil_of_le (by omega)]
      simp only [cloop]
      refine wp_rIf.mpr ⟨hg i acc h (by omega) hI, ?_⟩
      have : i = xs.length := by omega
      subst this
      exact hq acc h hI
    | succ n ih =>
      intro i acc h e hI
      have hi : i < xs.length := by omega
      rw [List.drop_eq_getElem_cons hi]
      simp only [cloop]
      refine wp_rIf.mpr ⟨hg i acc h (by omega) hI, wp_bind.mpr ((hs i acc h hi hI).imp fun o h' q => ?_)⟩
      cases o with
      | none => exact ih (i + 1) acc h' (by omega) q
      | some y => exact ih (i + 1) (acc ++ [y]) h' (by omega) q
  exact key xs.length 0 acc h (by omega) h0
theorem wp_quiet (w : wp r Q NX) : wp r.quiet Q E := by
  cases r with
  | ok a h => exact w
  | exc c v h => exact w.elim
  | bad => exact w
end
end Mx.Pl
set_option Elab.async false
set_option linter.all false
set_option maxRecDepth 100000
set_option maxHeartbeats 1000000
/-! Pb: one step of the machine, each. -/
namespace Mx.Pl
open PySem
section
variable {α β : Type} {P : Pg} {F : Ph} {h : Hh} {σ : En} {a b c e i es : E} {x y z : D} {k n f s : Nat}
/-- a call's end -/
def endR : Fl → Hh → R D
  | .nx _, h => .ok .non h
  | .rt d, h => .ok d h
  | _, _ => .bad
@[simp] theorem endR_nx : endR (.nx σ) h = .ok .non h := id rfl
@[simp] theorem endR_rt : endR (.rt x) h = .ok x h := id rfl
theorem callN_eq {fn : Fn} {xs : List D} (hf : P.fns f = some fn) (hl : xs.length = fn.np) : callN P (k + 1) f xs h = (evS P (callN P k) fn.body (xs.map some ++ List.replicate (fn.nn - xs.length) none) h).bind endR := by
  simp only [callN, hf]
  rw [if_pos hl]
  congr 1
  funext fl h'
  cases fl <;> rfl
@[simp] theorem ok_bind (a : α) (h : Hh) (k : α → Hh → R β) : (R.ok a h).bind k = k a h := id rfl
@[simp] theorem exc_bind (c : Nat) (v : D) (h : Hh) (k : α → Hh → R β) : (R.exc c v h).bind k = .exc c v h := id rfl
@[simp] theorem some_opt (a : α) (h : Hh) : rOpt (some a) h = .ok a h := id rfl
theorem rIf_pos {c : Prop} (hc : c) (r : R α) : rIf c r = r := by unfold rIf; rw [if_pos hc]
@[simp] theorem rIf_true (r : R α) : rIf True r = r := rIf_pos True.intro r
@[simp] theorem perm1 : perm [0] [x] = some [x] := id rfl
@[simp] theorem perm2 : perm [0, 1] [x, y] = some [x, y] := id rfl
@[simp] theorem perm3 : perm [0, 1, 2] [x, y, z] = some [x, y, z] := id rfl
@[simp] theorem perm4 {w : D} : perm [0, 1, 2, 3] [x, y, z, w] = some [x, y, z, w] := id rfl
@[simp] theorem perm10 : perm [1, 0] [x, y] = some [y, x] := id rfl
/-! names -/
@[simp] theorem look_z {o : Option D} : look (o :: σ) 0 = o := by cases o <;> rfl
@[simp] theorem look_s {o : Option D} {i : Nat} : look (o :: σ) (i + 1) = look σ i := by simp [look]
@[simp] theorem put_z {o : Option D} : put (o :: σ) 0 x = some x :: σ := id rfl
@[simp] theorem put_s {o : Option D} {i : Nat} : put (o :: σ) (i + 1) x = o :: put σ i x := id rfl
/-! expressions -/
@[simp] theorem ev_k : ev P F (.k x) σ h = .ok x h := by simp only [ev]
@[simp] theorem ev_g {n : Str} : ev P F (.g n x) σ h = .ok x h := by simp only [ev]
@[simp] theorem ev_v {i : Nat} : ev P F (.v i) σ h = rOpt (look σ i) h := by simp only [ev]
@[simp] theorem ev_bin {o : Bo} : ev P F (.bin o a b) σ h = (ev P F a σ h).bind fun x h => (ev P F b σ h).bind fun y h => binD h o x y := by simp only [ev]
def negD : D → Hh → R D
  | .int i, h => .ok (.int (-i)) h
  | _, _ => .bad
@[simp] theorem negD_int {i : Int} : negD (.int i) h = .ok (.int (-i)) h := id rfl
@[simp] theorem ev_neg : ev P F (.neg a) σ h = (ev P F a σ h).bind negD := by
  simp only [ev]
  congr 1
  funext x h
  cases x <;> rfl
@[simp] theorem ev_cmp {o : Co} : ev P F (.cmp o a b) σ h = (ev P F a σ h).bind fun x h => (ev P F b σ h).bind fun y h => (rOpt (cmpD h o x y) h).bind fun c h => .ok (.bl c) h := by simp only [ev]
@[simp] theorem ev_ch {o p : Co} : ev P F (.ch o p a b c) σ h = (ev P F a σ h).bind fun x h => (ev P F b σ h).bind fun y h => (rOpt (cmpD h o x y) h).bind fun t h =>
      if t = true then (ev P F c σ h).bind fun z h => (rOpt (cmpD h p y z) h).bind fun u h => .ok (.bl u) h else .ok (.bl false) h := by simp only [ev]
@[simp] theorem ev_and : ev P F (.and_ a b) σ h = (ev P F a σ h).bind fun x h => (rOpt (truth h x) h).bind fun t h => if t = true then ev P F b σ h else .ok x h := by simp only [ev]
@[simp] theorem ev_or : ev P F (.or_ a b) σ h = (ev P F a σ h).bind fun x h => (rOpt (truth h x) h).bind fun t h => if t = true then .ok x h else ev P F b σ h := by simp only [ev]
@[simp] theorem ev_not : ev P F (.not_ a) σ h = (ev P F a σ h).bind fun x h => (rOpt (truth h x) h).bind fun t h => .ok (.bl (!t)) h := by simp only [ev]
@[simp] theorem ev_ite : ev P F (.ite c a b) σ h = (ev P F c σ h).bind fun x h => (rOpt (truth h x) h).bind fun t h => if t = true then ev P F a σ h else ev P F b σ h := by simp only [ev]
@[simp] theorem ev_tup : ev P F (.tup es) σ h = (evs P F es σ h).bind fun xs h => rIf (xs.length ≤ LINE) (.ok (.tup xs) h) := by simp only [ev]
@[simp] theorem ev_nlT : ev P F (.nl true e) σ h = (evN P F e σ h).bind fun xs h => .ok (.ref h.length) (h ++ [.lst xs]) := by simp only [ev, if_true]
@[simp] theorem ev_nlF : ev P F (.nl false e) σ h = (evN P F e σ h).bind fun xs h => .ok (.fls xs) h := by
  simp only [ev]
  congr 1
@[simp] theorem ev_ix : ev P F (.ix a i) σ h = (ev P F a σ h).bind fun x h => (ev P F i σ h).bind fun y h => ixR h x y := by simp only [ev]
@[simp] theorem ev_sl {lo hi : E} : ev P F (.sl a lo hi) σ h = (ev P F a σ h).bind fun x h => (evO P F lo σ h).bind fun l h => (evO P F hi σ h).bind fun u h => slR h x l u := by simp only [ev]
def fldD (cs : List Nat) (f : Nat) (x : D) (h : Hh) : R D := match x with
  | .obj c fs => if c ∈ cs then rOpt (fs[f]?) h else .bad
  | .ref r => (match h[r]? with
    | some (.ins c fs) => if c ∈ cs then rOpt (fs[f]?) h else .bad
    | _ => .bad)
  | _ => .bad
@[simp] theorem fldD_obj {cs : List Nat} {c : Nat} {fs : List D} : fldD cs f (.obj c fs) h = if c ∈ cs then rOpt (fs[f]?) h else .bad := id rfl
open Classical in
theorem rIf_dec {c : Prop} [inst : Decidable c] {r : R α} : rIf c r = if c then r else .bad := by
  unfold rIf
  by_cases hc : c
  · rw [if_pos hc, if_pos hc]
  · rw [if_neg hc, if_neg hc]
@[simp] theorem ev_fld {cs : List Nat} : ev P F (.fld cs a f) σ h = (ev P F a σ h).bind (fldD cs f) := by
  simp only [ev]
  congr 1
  funext x h
  cases x with
  | obj c fs => exact rIf_dec
  | ref r =>
    simp only [fldD]
    cases h[r]? with
    | none => rfl
    | some o => cases o <;> first | rfl | exact rIf_dec
  | _ => rfl
@[simp] theorem ev_bi {b : Bi} : ev P F (.bi b es) σ h = (evs P F es σ h).bind fun xs h => biD h b xs := by simp only [ev]
@[simp] theorem ev_mt {m : Mt} {o : E} : ev P F (.mt m o es) σ h = (ev P F o σ h).bind fun x h => rIf ((lstOf h x).isSome = true) ((evs P F es σ h).bind fun ys h => mtD h m x ys) := by simp only [ev]
@[simp] theorem evs_nil : evs P F .nil σ h = .ok [] h := by simp only [evs]
@[simp] theorem evs_cons : evs P F (.cons a b) σ h = (ev P F a σ h).bind fun x h => (evs P F b σ h).bind fun xs h => .ok (x :: xs) h := by simp only [evs]
@[simp] theorem evO_nil : evO P F .nil σ h = .ok none h := by simp only [evO]
def intO : D → Hh → R (Option Int)
  | .int i, h => .ok (some i) h
  | _, _ => .bad
@[simp] theorem intO_int {i : Int} : intO (.int i) h = .ok (some i) h := id rfl
@[simp] theorem evO_cons : evO P F (.cons a b) σ h = (ev P F a σ h).bind intO := by
  simp only [evO]
  congr 1
  funext x h
  cases x <;> rfl
@[simp] theorem evN_dis : evN P F (.dis es) σ h = (evs P F es σ h).bind fun xs h => rIf (xs.length ≤ LINE) (.ok xs h) := by simp only [evN]
@[simp] theorem evN_lcat : evN P F (.lcat a b) σ h = (ev P F a σ h).bind fun x h => (ev P F b σ h).bind fun y h => lcatR h x y := by simp only [evN]
@[simp] theorem evN_lrep : evN P F (.lrep a b) σ h = (ev P F a σ h).bind fun x h => (ev P F b σ h).bind fun y h => lrepR h x y := by simp only [evN]
@[simp] theorem evN_lof : evN P F (.lof a) σ h = (ev P F a σ h).bind fun x h => lofR h x := by simp only [evN]
@[simp] theorem evN_lsl {lo hi : E} : evN P F (.lsl a lo hi) σ h = (ev P F a σ h).bind fun x h => (evO P F lo σ h).bind fun l h => (evO P F hi σ h).bind fun u h => lslR h x l u := by simp only [evN]
@[simp] theorem evN_lrv : evN P F (.lrv a) σ h = (ev P F a σ h).bind fun x h => (rOpt (lstS h x) h).bind fun xs h => .ok xs.reverse h := by simp only [evN]
/-- a comprehension's turn -/
noncomputable def turn (P : Pg) (F : Ph) (ws : List Nat) (t : T) (c e : E) (σ : En) (x : D) (h : Hh) : R (Option D) := match setT t x (wipe σ ws) with
  | some σ' => (match c with
    | .nil => ((ev P F e σ' h).bind fun y h => .ok (some y) h).quiet
    | .cons c _ => ((ev P F c σ' h).bind fun t h => (rOpt (truth h t) h).bind fun t h => if t = true then (ev P F e σ' h).bind fun y h => .ok (some y) h else .ok none h).quiet
    | _ => .bad)
  | none => .bad
theorem evN_comp {ws : List Nat} {t : T} {it : E} : evN P F (.comp ws t it c e) σ h = (evI P F it σ h).bind fun xg h => rIf (xg.1.length ≤ LINE) (cloop (turn P F ws t c e σ) (fun h => gok h xg.2) xg.1 [] h) := by
  rw [evN]
  refine congrArg (fun f => (evI P F it σ h).bind f) ?_
  funext xg h
  refine congrArg (fun f => rIf (xg.1.length ≤ LINE) (cloop f (fun h => gok h xg.2) xg.1 [] h)) ?_
  funext x h
  unfold turn
  cases setT t x (wipe σ ws) with
  | none => rfl
  | some σ' => cases c <;> rfl
@[simp] theorem evI_seq : evI P F (.iSeq a) σ h = (ev P F a σ h).bind fun x h => rOpt (iterOf h x) h := by simp only [evI]
def rg1 : D → Hh → R (List D × Option (Nat × List D))
  | .int n, h => if -(2 ^ 62) ≤ n ∧ n < 16777216 then .ok ((List.range n.toNat).map fun i : Nat => D.int i, none) h else .bad
  | _, _ => .bad
@[simp] theorem evI_rg1 : evI P F (.iRg1 a) σ h = (ev P F a σ h).bind rg1 := by
  simp only [evI]
  congr 1
  funext x h
  cases x <;> first | rfl | exact rIf_dec
theorem rg1_int {n : Int} (h1 : -(2 ^ 62) ≤ n) (h2 : n < 16777216) : rg1 (.int n) h = .ok ((List.range n.toNat).map fun i : Nat => D.int i, none) h := by
  exact if_pos ⟨h1, h2⟩
def rg2 : D → D → Hh → R (List D × Option (Nat × List D))
  | .int m, .int n, h => if -(2 ^ 62) ≤ m ∧ m < 2 ^ 62 ∧ -(2 ^ 62) ≤ n ∧ n < 2 ^ 62 ∧ n - m ≤ 16777216 then .ok ((List.range (n - m).toNat).map fun i : Nat => D.int (m + i), none) h else .bad
  | _, _, _ => .bad
@[simp] theorem evI_rg2 : evI P F (.iRg2 a b) σ h = (ev P F a σ h).bind fun x h => (ev P F b σ h).bind fun y h => rg2 x y h := by
  simp only [evI]
  congr 1
  funext x h
  congr 1
  funext y h
  cases x <;> cases y <;> first | rfl | exact rIf_dec
theorem rg2_int {m n : Int} (h1 : -(2 ^ 62) ≤ m ∧ m < 2 ^ 62 ∧ -(2 ^ 62) ≤ n ∧ n < 2 ^ 62 ∧ n - m ≤ 16777216) : rg2 (.int m) (.int n) h = .ok ((List.range (n - m).toNat).map fun i : Nat => D.int (m + i), none) h := by
  exact if_pos h1
def enumL (xs : List D) : List D := (List.range xs.length).zipWith (fun (i : Nat) x => D.tup [.int i, x]) xs
def enumD : D → Hh → R (List D × Option (Nat × List D))
  | .fls xs, h => .ok (enumL xs, none) h
  | .tup xs, h => .ok (enumL xs, none) h
  | .ref r, h => (match h[r]? with
    | some (.lst xs) => .ok (enumL xs, some (r, xs)) h
    | _ => .bad)
  | _, _ => .bad
@[simp] theorem evI_enum : evI P F (.iEnum a) σ h = (ev P F a σ h).bind enumD := by
  simp only [evI]
  congr 1
  funext x h
  cases x with
  | ref r =>
    simp only [enumD]
    cases h[r]? with
    | none => rfl
    | some o => cases o <;> rfl
  | _ => rfl
/-! statements -/
@[simp] theorem evS_nop : evS P F .nop σ h = .ok (.nx σ) h := by simp only [evS]
/-- what stands behind a statement -/
noncomputable def next (P : Pg) (F : Ph) (b : S) : Fl → Hh → R Fl
  | .nx σ, h => evS P F b σ h
  | fl, h => .ok fl h
@[simp] theorem next_nx {b : S} : next P F b (.nx σ) h = evS P F b σ h := id rfl
@[simp] theorem next_rt {b : S} : next P F b (.rt x) h = .ok (.rt x) h := id rfl
@[simp] theorem next_bk {b : S} : next P F b (.bk σ) h = .ok (.bk σ) h := id rfl
@[simp] theorem next_ct {b : S} : next P F b (.ct σ) h = .ok (.ct σ) h := id rfl
@[simp] theorem evS_seq {a b : S} : evS P F (.seq a b) σ h = (evS P F a σ h).bind (next P F b) := by
  simp only [evS]
  congr 1
  funext fl h
  cases fl <;> rfl
@[simp] theorem evS_ex : evS P F (.ex e) σ h = (ev P F e σ h).bind fun _ h => .ok (.nx σ) h := by simp only [evS]
@[simp] theorem evS_set {t : T} : evS P F (.set t e) σ h = (ev P F e σ h).bind fun x h => (rOpt (setT t x σ) h).bind fun σ h => .ok (.nx σ) h := by simp only [evS]
@[simp] theorem evS_aug {i : Nat} {o : Bo} : evS P F (.aug i o e) σ h = (rOpt (look σ i) h).bind fun x h => (ev P F e σ h).bind fun y h => (augD h o x y).bind fun z h => .ok (.nx (put σ i z)) h := by simp only [evS]
@[simp] theorem evS_setIx {o : E} : evS P F (.setIx o i e) σ h = (ev P F e σ h).bind fun x h => (ev P F o σ h).bind fun l h => (ev P F i σ h).bind fun j h => (setItemD h l j x).bind fun _ h => .ok (.nx σ) h := by simp only [evS]
@[simp] theorem evS_augIx {o : E} {p : Bo} : evS P F (.augIx p o i e) σ h = (ev P F o σ h).bind fun l h => (ev P F i σ h).bind fun j h => (itemD h l j).bind fun x h => (ev P F e σ h).bind fun y h => (augD h p x y).bind fun z h => (setItemD h l j z).bind fun _ h => .ok (.nx σ) h := by simp only [evS]
@[simp] theorem evS_setFld {c' : Nat} {o : E} : evS P F (.setFld c' o f e) σ h = (ev P F e σ h).bind fun x h => (ev P F o σ h).bind fun l h => (setFldD h c' f l x).bind fun _ h => .ok (.nx σ) h := by simp only [evS]
@[simp] theorem evS_ret : evS P F (.ret e) σ h = (ev P F e σ h).bind fun x h => .ok (.rt x) h := by simp only [evS]
@[simp] theorem evS_ite {a b : S} : evS P F (.ite c a b) σ h = (ev P F c σ h).bind fun x h => (rOpt (truth h x) h).bind fun t h => if t = true then evS P F a σ h else evS P F b σ h := by simp only [evS]
theorem evS_for {t : T} {it : E} {b : S} : evS P F (.for_ t it b) σ h = (evI P F it σ h).bind fun xg h => rIf (xg.1.length ≤ LINE) (floop (fun x σ h => bindT (setT t x σ) fun σ' => evS P F b σ' h) (fun h => gok h xg.2) xg.1 σ h) := by simp only [evS]
theorem evS_while {b : S} : evS P F (.while_ c b) σ h = wloop (fun σ h => (ev P F c σ h).bind fun x h => rOpt (truth h x) h) (fun σ h => evS P F b σ h) FUEL σ h := by simp only [evS]
@[simp] theorem evS_brk : evS P F .brk σ h = .ok (.bk σ) h := by simp only [evS]
@[simp] theorem evS_cont : evS P F .cont σ h = .ok (.ct σ) h := by simp only [evS]
@[simp] theorem evS_raise {c : Nat} : evS P F (.raise_ c e) σ h = (ev P F e σ h).bind fun x h => .exc c x h := by simp only [evS]
theorem evS_try {b : S} {hs : List (Nat × HE)} : evS P F (.try_ b hs) σ h = (evS P F b σ h).catch_ fun c v h => hand P c v h hs := by simp only [evS]
@[simp] theorem setT_nm {i : Nat} : setT (.nm i) x σ = some (put σ i x) := by simp only [setT]
@[simp] theorem setT_tp {t : T} {xs : List D} : setT (.tp t) (.tup xs) σ = setTs t xs σ := by simp only [setT]
@[simp] theorem setTs_nil : setTs .nil [] σ = some σ := by simp only [setTs]
@[simp] theorem setTs_cons {t r : T} {xs : List D} : setTs (.cons t r) (x :: xs) σ = (setT t x σ).bind (setTs r xs) := by simp only [setTs]
@[simp] theorem bindT_some {σ' : En} {k : En → R α} : bindT (some σ') k = k σ' := id rfl
/-! truth, comparisons, numbers -/
@[simp] theorem truth_bl {t : Bool} : truth h (.bl t) = some t := id rfl
@[simp] theorem truth_int {i : Int} : truth h (.int i) = some (i != 0) := id rfl
@[simp] theorem truth_tup {xs : List D} : truth h (.tup xs) = some (!xs.isEmpty) := id rfl
@[simp] theorem truth_fls {xs : List D} : truth h (.fls xs) = some (!xs.isEmpty) := id rfl
@[simp] theorem truth_non : truth h .non = some false := id rfl
@[simp] theorem cmp_lt {i j : Int} : cmpD h .lt (.int i) (.int j) = some (decide (i < j)) := id rfl
@[simp] theorem cmp_le {i j : Int} : cmpD h .le (.int i) (.int j) = some (decide (i ≤ j)) := id rfl
@[simp] theorem cmp_gt {i j : Int} : cmpD h .gt (.int i) (.int j) = some (decide (j < i)) := id rfl
@[simp] theorem cmp_ge {i j : Int} : cmpD h .ge (.int i) (.int j) = some (decide (j ≤ i)) := id rfl
@[simp] theorem cmp_eq : cmpD h .eq x y = eqD h x y := id rfl
@[simp] theorem cmp_ne : cmpD h .ne x y = (eqD h x y).map (!·) := id rfl
@[simp] theorem eqD_int {i j : Int} : eqD h (.int i) (.int j) = some (decide (i = j)) := id rfl
@[simp] theorem eqD_str {i j : Str} : eqD h (.str i) (.str j) = some (decide (i = j)) := id rfl
@[simp] theorem eqD_non : eqD h .non .non = some true := id rfl
@[simp] theorem bin_addI {i j : Int} : binD h .add (.int i) (.int j) = .ok (.int (i + j)) h := id rfl
@[simp] theorem bin_subI {i j : Int} : binD h .sub (.int i) (.int j) = .ok (.int (i - j)) h := id rfl
theorem bin_mulI {i j : Int} (q : mulOk i j) : binD h .mul (.int i) (.int j) = .ok (.int (i * j)) h := rIf_pos q _
theorem bin_fdivI {i j : Int} (q : 0 < j ∧ j < 1073741824) : binD h .fdiv (.int i) (.int j) = .ok (.int (i / j)) h := rIf_pos q _
theorem bin_modI {i j : Int} (q : 0 < j) : binD h .mod (.int i) (.int j) = .ok (.int (i % j)) h := rIf_pos q _
theorem bin_addT {xs ys : List D} (q : xs.length + ys.length ≤ LINE) : binD h .add (.tup xs) (.tup ys) = .ok (.tup (xs ++ ys)) h := rIf_pos q _
theorem bin_mulT {xs : List D} {n : Int} (q : -(2 ^ 63) ≤ n ∧ n ≤ 1000 ∧ xs.length ≤ 1000) : binD h .mul (.tup xs) (.int n) = .ok (.tup (List.replicate n.toNat xs).flatten) h := rIf_pos q _
@[simp] theorem aug_addI {i j : Int} : augD h .add (.int i) (.int j) = .ok (.int (i + j)) h := id rfl
@[simp] theorem aug_subI {i j : Int} : augD h .sub (.int i) (.int j) = .ok (.int (i - j)) h := id rfl
/-! what is no dict -/
theorem dctOf_lst {r : Nat} {xs : List D} (e : h[r]? = some (.lst xs)) : dctOf h (.ref r) = none := by simp [dctOf, e]
@[simp] theorem dctOf_fls {xs : List D} : dctOf h (.fls xs) = none := id rfl
@[simp] theorem dctOf_tup {xs : List D} : dctOf h (.tup xs) = none := id rfl
@[simp] theorem dctOf_scr {xs : List D} : dctOf h (.scr xs) = none := id rfl
@[simp] theorem dctOf_int {i : Int} : dctOf h (.int i) = none := id rfl
@[simp] theorem dctOf_str {i : Str} : dctOf h (.str i) = none := id rfl
/-! built-ins -/
@[simp] theorem bi_isInt {i : Int} : biD h .isInt [.int i] = .ok (.bl true) h := id rfl
@[simp] theorem bi_isBoolI {i : Int} : biD h .isBool [.int i] = .ok (.bl false) h := id rfl
@[simp] theorem bi_isSeqT {xs : List D} : biD h .isSeq [.tup xs] = .ok (.bl true) h := id rfl
@[simp] theorem bi_isSeqF {xs : List D} : biD h .isSeq [.fls xs] = .ok (.bl true) h := id rfl
@[simp] theorem bi_lenT {xs : List D} : biD h .len [.tup xs] = .ok (.int xs.length) h := id rfl
@[simp] theorem bi_lenF {xs : List D} : biD h .len [.fls xs] = .ok (.int xs.length) h := id rfl
@[simp] theorem bi_max2 {i j : Int} : biD h .max2 [.int i, .int j] = .ok (.int (if j > i then j else i)) h := id rfl
@[simp] theorem bi_min2 {i j : Int} : biD h .min2 [.int i, .int j] = .ok (.int (if j < i then j else i)) h := id rfl
@[simp] theorem bi_int {i : Int} : biD h .int [.int i] = .ok (.int i) h := id rfl
@[simp] theorem bi_abs {i : Int} : biD h .abs [.int i] = .ok (.int (if i < 0 then -i else i)) h := id rfl
@[simp] theorem bi_tupleT {xs : List D} : biD h .tuple [.tup xs] = .ok (.tup xs) h := id rfl
@[simp] theorem bi_tupleF {xs : List D} : biD h .tuple [.fls xs] = .ok (.tup xs) h := id rfl
@[simp] theorem asI_ints : ∀ {ns : List Int}, asI (ns.map D.int) = some ns
  | [] => rfl
  | n :: ns => by simp only [List.map_cons, asI, asI_ints, Option.map_some]
@[simp] theorem bi_sumT {ns : List Int} : biD h .sum [.tup (ns.map D.int)] = .ok (.int ns.sum) h := by simp [biD, biSum, seqOf]
@[simp] theorem bi_sumF {ns : List Int} : biD h .sum [.fls (ns.map D.int)] = .ok (.int ns.sum) h := by simp [biD, biSum, seqOf]
end
end Mx.Pl
set_option Elab.async false
set_option linter.all false
set_option maxRecDepth 100000
set_option maxHeartbeats 1000000
/-! Pc: small functions of the package, at whole numbers. -/
namespace Mx.Pl
open PySem
section
variable {P : Pg} {F : Ph} {h : Hh} {k f f0 f1 f2 f3 s s0 s1 s2 s3 : Nat}
theorem settle_int {i : Int} : settle h (.ok (.int i) h) = .ok (.int i) h := settle_ok frz_int
theorem settle_bl {i : Bool} : settle h (.ok (.bl i) h) = .ok (.bl i) h := settle_ok frz_bl
theorem settle_non : settle h (.ok .non h) = .ok .non h := settle_ok frz_non
theorem settle_str {i : Str} : settle h (.ok (.str i) h) = .ok (.str i) h := settle_ok frz_str
theorem settle_tupI {ns : List Int} : settle h (.ok (.tup (ns.map D.int)) h) = .ok (.tup (ns.map D.int)) h := settle_ok frz_tupI
theorem settle_flsI {ns : List Int} : settle h (.ok (.fls (ns.map D.int)) h) = .ok (.fls (ns.map D.int)) h := settle_ok frz_flsI
theorem frz_objI {k n c : Nat} {ns : List Int} : frz (k + 3) h n (.obj c [.tup (ns.map D.int)]) = some (.obj c [.tup (ns.map D.int)]) := by
  show (([D.tup (ns.map D.int)] : List D).mapM (frz (k + 2) h n)).map (D.obj c) = _
  rw [mapM_id fun x hx => by
    rcases List.mem_singleton.mp hx with rfl
    exact frz_tupI]
  rfl
theorem frz_lst {k n r : Nat} {xs : List D} (hr : ¬ r < n) (e : h[r]? = some (.lst xs)) : frz (k + 1) h n (.ref r) = (xs.mapM (frz k h n)).map D.fls := by simp only [frz, if_neg hr, e]
theorem frz_ins {k n r c : Nat} {xs : List D} (hr : ¬ r < n) (e : h[r]? = some (.ins c xs)) : frz (k + 1) h n (.ref r) = (xs.mapM (frz k h n)).map (D.obj c) := by simp only [frz, if_neg hr, e]
theorem frz_old {k n r : Nat} (hr : r < n) : frz (k + 1) h n (.ref r) = some (.ref r) := by simp only [frz, if_pos hr]
theorem settle_exc {c : Nat} {v : D} (e : frz 8 h h.length v = some v) : settle h (.exc c v h) = .exc c v h := by
  simp only [settle, e]
  unfold rIf
  rw [if_pos ⟨Nat.le_refl _, settled_refl⟩, List.take_length]
def bInt : S := .ret (.and_ (.bi .isInt (.cons (.v 0) .nil)) (.not_ (.bi .isBool (.cons (.v 0) .nil))))
theorem is_integer_eq (hf : P.fns f = some ⟨1, 1, bInt⟩) (i : Int) : callN P (k + 1) f [.int i] h = .ok (.bl true) h := by
  rw [callN_eq hf rfl]
  simp [bInt]
def bBelow (s : Nat) : S := .ret (.and_ (.call s true (.cons (.v 0) .nil)) (.ch .le .lt (.k (.int 0)) (.v 0) (.v 1)))
theorem is_below_eq (hf : P.fns f = some ⟨2, 2, bBelow s⟩) (hs : P.sgs s = some ⟨f0, 1, [], [0]⟩) (h0 : P.fns f0 = some ⟨1, 1, bInt⟩) (v b : Int) : callN P (k + 2) f [.int v, .int b] h = .ok (.bl (decide (0 ≤ v ∧ v < b))) h := by
  rw [callN_eq hf rfl]
  by_cases hv : 0 ≤ v <;> simp [bBelow, ev_call hs, is_integer_eq h0, settle_bl, hv]
def bSeq : S := .ret (.bi .isSeq (.cons (.v 0) .nil))
theorem is_seqT (hf : P.fns f = some ⟨1, 1, bSeq⟩) (xs : List D) : callN P (k + 1) f [.tup xs] h = .ok (.bl true) h := by
  rw [callN_eq hf rfl]
  simp [bSeq]
theorem is_seqF (hf : P.fns f = some ⟨1, 1, bSeq⟩) (xs : List D) : callN P (k + 1) f [.fls xs] h = .ok (.bl true) h := by
  rw [callN_eq hf rfl]
  simp [bSeq]
theorem is_seqR (hf : P.fns f = some ⟨1, 1, bSeq⟩) {r : Nat} {xs : List D} (e : h[r]? = some (.lst xs)) : callN P (k + 1) f [.ref r] h = .ok (.bl true) h := by
  rw [callN_eq hf rfl]
  simp [bSeq, biD, biIsa, kdOf, e, isaK]
/-- need_number(value, bound, word) -/
def bNeed (s c : Nat) : S := .ite (.not_ (.call s true (.cons (.v 0) (.cons (.v 1) .nil)))) (.raise_ c (.v 2)) .nop
theorem need_eq {c : Nat} (hf : P.fns f = some ⟨3, 3, bNeed s c⟩) (hs : P.sgs s = some ⟨f1, 2, [], [0, 1]⟩) (h1 : P.fns f1 = some ⟨2, 2, bBelow s0⟩) (hs0 : P.sgs s0 = some ⟨f0, 1, [], [0]⟩) (h0 : P.fns f0 = some ⟨1, 1, bInt⟩) (v b : Int) (w : Str) :
    callN P (k + 3) f [.int v, .int b, .str w] h = if 0 ≤ v ∧ v < b then .ok .non h else .exc c (.str w) h := by
  rw [callN_eq hf rfl]
  by_cases hv : 0 ≤ v ∧ v < b <;> simp [bNeed, ev_call hs, is_below_eq h1 hs0 h0, settle_bl, hv]
theorem wp_get {α : Type} {r : R α} {Q : α → Hh → Prop} (w : wp r Q NX) : ∃ a h', r = .ok a h' ∧ Q a h' := by
  cases r with
  | ok a h' => exact ⟨a, h', rfl, w⟩
  | exc c v h' => exact w.elim
  | bad => exact w.elim
theorem wp_of {α : Type} {r : R α} {Q : α → Hh → Prop} {E : Nat → D → Hh → Prop} {a : α} {h' : Hh} (e : r = .ok a h') (q : Q a h') : wp r Q E := by rw [e]; exact q
/-- Yard(heights) -/
def bYardFor (s1 cI : Nat) : S := .for_ (.tp (.cons (.nm 2) (.cons (.nm 3) .nil))) (.iEnum (.v 1)) (.ite (.or_ (.not_ (.call s1 true (.cons (.v 3) (.cons (.bin .add (.g (PySem.Str.ofString "MOST") (.int 12)) (.k (.int 1))) .nil)))) (.cmp .eq (.v 3) (.k (.int 0)))) (.raise_ cI (.v 2)) .nop)
def bYard (s2 s1 cI cY : Nat) : S :=
  .seq (.ite (.or_ (.not_ (.call s2 true (.cons (.v 1) .nil))) (.not_ (.ch .le .le (.g (PySem.Str.ofString "FEWEST") (.int 3)) (.bi .len (.cons (.v 1) .nil)) (.g (PySem.Str.ofString "MOST") (.int 12))))) (.raise_ cI (.neg (.k (.int 1)))) .nop)
  (.seq (bYardFor s1 cI)
  (.setFld cY (.v 0) 0 (.bi .tuple (.cons (.v 1) .nil))))
/-- the heights of a yard -/
def YardH (hs : List Int) : Prop := 3 ≤ hs.length ∧ hs.length ≤ 12 ∧ ∀ x ∈ hs, 1 ≤ x ∧ x ≤ 12
theorem enumL_len {xs : List D} : (enumL xs).length = xs.length := by simp [enumL]
theorem enumL_get {xs : List D} {i : Nat} (hi : i < (enumL xs).length) : (enumL xs)[i] = .tup [.int i, xs[i]'(by rw [enumL_len] at hi; exact hi)] := by
  simp [enumL, List.getElem_zipWith]
/-- a sequence of heights, and where it stands -/
inductive IsSq (h : Hh) (xs : List D) : D → Option (Nat × List D) → Prop
  | tup : IsSq h xs (.tup xs) none
  | fls : IsSq h xs (.fls xs) none
  | ref {r : Nat} : h[r]? = some (.lst xs) → IsSq h xs (.ref r) (some (r, xs))
theorem IsSq.len {xs : List D} {d : D} {o : Option (Nat × List D)} (s : IsSq h xs d o) : biD h .len [d] = .ok (.int xs.length) h := by
  cases s with
  | tup => rfl
  | fls => rfl
  | ref e => simp [biD, biLen, seqOf, e, dctOf_lst e]
theorem IsSq.tuple {xs : List D} {d : D} {o : Option (Nat × List D)} (s : IsSq h xs d o) : biD h .tuple [d] = .ok (.tup xs) h := by
  cases s with
  | tup => rfl
  | fls => rfl
  | ref e => simp [biD, biTuple, seqOf, e]
theorem IsSq.enum {xs : List D} {d : D} {o : Option (Nat × List D)} (s : IsSq h xs d o) : enumD d h = .ok (enumL xs, o) h := by
  cases s with
  | tup => rfl
  | fls => rfl
  | ref e => simp [enumD, e]
theorem IsSq.gok {xs : List D} {d : D} {o : Option (Nat × List D)} (s : IsSq h xs d o) : Mx.gok h o := by
  cases s with
  | tup => trivial
  | fls => trivial
  | ref e => exact e
theorem IsSq.isq (hf : P.fns f = some ⟨1, 1, bSeq⟩) {xs : List D} {d : D} {o : Option (Nat × List D)} (s : IsSq h xs d o) : callN P (k + 1) f [d] h = .ok (.bl true) h := by
  cases s with
  | tup => exact is_seqT hf _
  | fls => exact is_seqF hf _
  | ref e => exact is_seqR hf e
theorem yard_eq {cI cY : Nat} {hs : List Int} {d : D} {o : Option (Nat × List D)} {r : Nat} (hf : P.fns f = some ⟨2, 4, bYard s2 s1 cI cY⟩) (hs2 : P.sgs s2 = some ⟨f2, 1, [], [0]⟩) (h2 : P.fns f2 = some ⟨1, 1, bSeq⟩)
    (hs1 : P.sgs s1 = some ⟨f1, 2, [], [0, 1]⟩) (h1 : P.fns f1 = some ⟨2, 2, bBelow s0⟩) (hs0 : P.sgs s0 = some ⟨f0, 1, [], [0]⟩) (h0 : P.fns f0 = some ⟨1, 1, bInt⟩) (y : YardH hs) (sq : IsSq h (hs.map D.int) d o) (er : h[r]? = some (.ins cY [])) :
    callN P (k + 3) f [.ref r, d] h = .ok .non (h.set r (.ins cY [.tup (hs.map D.int)])) := by
  obtain ⟨y1, y2, y3⟩ := y
  rw [callN_eq hf rfl]
  have e1 : ((3 : Int) ≤ (hs.length : Int)) := by omega
  have e2 : ((hs.length : Int) ≤ 12) := by omega
  have eL : (enumL (hs.map D.int)).length ≤ LINE := by rw [enumL_len, List.length_map]; unfold LINE; omega
  obtain ⟨fl, h', ef, a, b, rfl, rfl⟩ := wp_get (r := evS P (callN P (k + 2)) (bYardFor s1 cI) [some (.ref r), some d, none, none] h) (Q := fun fl h' => ∃ a b, fl = .nx [some (.ref r), some d, a, b] ∧ h' = h) (by
    rw [bYardFor, evS_for]
    simp only [evI_enum, ev_v, look_s, look_z, some_opt, ok_bind, sq.enum, rIf_pos eL]
    refine wp_floop (fun _ σ h' => h' = h ∧ ∃ a b, σ = [some (.ref r), some d, a, b]) (fun i σ h' _ z => by rw [z.1]; exact sq.gok) (fun i σ h' hi z => ?_) (fun σ h' z => ?_) ⟨rfl, _, _, rfl⟩
    · obtain ⟨rfl, a, b, rfl⟩ := z
      rw [enumL_get hi]
      have hi' : i < hs.length := by simpa [enumL_len] using hi
      have hx := y3 hs[i] (List.getElem_mem hi')
      have b2 : ¬ hs[i] = 0 := by omega
      have b3 : hs[i] < 13 := by omega
      have b4 : ¬ 13 ≤ hs[i] := by omega
      have b5 : 0 ≤ hs[i] := by omega
      simp [ev_call hs1, is_below_eq h1 hs0 h0, settle_bl, b2, b3, b4, b5, wp_ok, step]
    · obtain ⟨rfl, a, b, rfl⟩ := z
      exact ⟨a, b, rfl, rfl⟩)
  simp [bYard, ev_call hs2, sq.isq h2, settle_bl, sq.len, e1, e2, ef, sq.tuple, setFldD, er, rIf_pos]
/-- the class's call -/
theorem mk_yard {cI cY sm : Nat} {hs : List Int} {d : D} {o : Option (Nat × List D)} {es : E} {σ : En} (hm : P.mks sm = some (cY, ⟨f, 1, [], [0, 1]⟩)) (hf : P.fns f = some ⟨2, 4, bYard s2 s1 cI cY⟩) (hs2 : P.sgs s2 = some ⟨f2, 1, [], [0]⟩) (h2 : P.fns f2 = some ⟨1, 1, bSeq⟩)
    (hs1 : P.sgs s1 = some ⟨f1, 2, [], [0, 1]⟩) (h1 : P.fns f1 = some ⟨2, 2, bBelow s0⟩) (hs0 : P.sgs s0 = some ⟨f0, 1, [], [0]⟩) (h0 : P.fns f0 = some ⟨1, 1, bInt⟩) (y : YardH hs) (sq : IsSq h (hs.map D.int) d o) :
    settle h ((callN P (k + 3) f [.ref h.length, d] (h ++ [.ins cY []])).bind fun d h' => mkEnd h.length d h') = .ok (.obj cY [.tup (hs.map D.int)]) h := by
  have sq' : IsSq (h ++ [.ins cY []]) (hs.map D.int) d o := by
    cases sq with
    | tup => exact .tup
    | fls => exact .fls
    | ref e => exact .ref (by rw [List.getElem?_append_left (List.getElem?_eq_some_iff.mp e).1]; exact e)
  rw [yard_eq hf hs2 h2 hs1 h1 hs0 h0 y sq' (by simp)]
  have e1 : (h ++ [O.ins cY []]).set h.length (.ins cY [.tup (hs.map D.int)]) = h ++ [.ins cY [.tup (hs.map D.int)]] := by simp
  rw [e1, ok_bind]
  show settle h (.ok (.ref h.length) _) = _
  have e2 : frz 8 (h ++ [O.ins cY [.tup (hs.map D.int)]]) h.length (.ref h.length) = some (.obj cY [.tup (hs.map D.int)]) := by
    have q : (h ++ [O.ins cY [.tup (hs.map D.int)]])[h.length]? = some (.ins cY [.tup (hs.map D.int)]) := by simp
    have m : ([D.tup (hs.map D.int)] : List D).mapM (frz 7 (h ++ [O.ins cY [.tup (hs.map D.int)]]) h.length) = some [D.tup (hs.map D.int)] := mapM_id fun x hx => by
      rcases List.mem_singleton.mp hx with rfl
      exact frz_tupI
    rw [frz_ins (Nat.lt_irrefl _) q, m]
    rfl
  simp only [settle, e2]
  unfold rIf
  rw [if_pos ⟨by simp, settled_app⟩]
  simp
end
end Mx.Pl
set_option Elab.async false
set_option linter.all false
set_option maxRecDepth 100000
set_option maxHeartbeats 1000000
/-! Pd: lists of numbers compared and shown; the draws. -/
namespace Mx.Pl
open PySem
section
variable {P : Pg} {F : Ph} {h : Hh} {k f f0 f1 f2 f3 s s0 s1 s2 s3 : Nat}
theorem mapM_some {α β : Type} {f : α → Option β} {g : α → β} : ∀ {xs : List α}, (∀ x ∈ xs, f x = some (g x)) → xs.mapM f = some (xs.map g)
  | [], _ => by simp
  | x :: xs, e => by
    rw [List.mapM_cons, e x List.mem_cons_self, mapM_some fun y hy => e y (List.mem_cons_of_mem _ hy)]
    rfl
theorem pdF_ints {k : Nat} {ns : List Int} : (ns.map D.int).mapM (pdF (k + 1) h) = some (ns.map PyData.int) := by
  induction ns with
  | nil => rfl
  | cons n ns ih =>
    rw [List.map_cons, List.mapM_cons, ih]
    rfl
theorem pd_tupI {ns : List Int} : pd h (.tup (ns.map D.int)) = some (.tuple (ns.map PyData.int)) := by
  show ((ns.map D.int).mapM (pdF 11 h)).map PyData.tuple = _
  rw [pdF_ints]; rfl
theorem pd_flsI {ns : List Int} : pd h (.fls (ns.map D.int)) = some (.list (ns.map PyData.int)) := by
  show ((ns.map D.int).mapM (pdF 11 h)).map PyData.list = _
  rw [pdF_ints]; rfl
theorem pd_refI {ns : List Int} {r : Nat} (e : h[r]? = some (.lst (ns.map D.int))) : pd h (.ref r) = some (.list (ns.map PyData.int)) := by
  show (match h[r]? with | some (.lst xs) => (xs.mapM (pdF 11 h)).map PyData.list | _ => none) = _
  rw [e]
  show ((ns.map D.int).mapM (pdF 11 h)).map PyData.list = _
  rw [pdF_ints]; rfl
theorem canLay_ints : ∀ ns : List Int, PyData.canLayAll0 (ns.map PyData.int) = true
  | [] => rfl
  | n :: ns => by simp [PyData.canLayAll0, PyData.canLay0, canLay_ints ns]
theorem depth_ints : ∀ ns : List Int, PyData.depthAll (ns.map PyData.int) = 0
  | [] => rfl
  | n :: ns => by simp [PyData.depthAll, PyData.depth, depth_ints ns]
theorem shaped_tupI {ns : List Int} : SeqAt.shaped (.tuple (ns.map PyData.int)) = true := by simp [SeqAt.shaped, PyData.canLay0, canLay_ints, PyData.depth, depth_ints]
theorem shaped_lstI {ns : List Int} : SeqAt.shaped (.list (ns.map PyData.int)) = true := by simp [SeqAt.shaped, PyData.canLay0, canLay_ints, PyData.depth, depth_ints]
theorem eqv_ints : ∀ {as bs : List Int}, PyData.eqvAll (as.map PyData.int) (bs.map PyData.int) = decide (as = bs)
  | [], [] => by simp [PyData.eqvAll]
  | [], b :: bs => by simp [PyData.eqvAll]
  | a :: as, [] => by simp [PyData.eqvAll]
  | a :: as, b :: bs => by
    simp only [List.map_cons, PyData.eqvAll, PyData.eqv, eqv_ints (as := as) (bs := bs)]
    by_cases h1 : a = b <;> by_cases h2 : as = bs <;> simp [h1, h2]
theorem eqD_tupI {as bs : List Int} : eqD h (.tup (as.map D.int)) (.tup (bs.map D.int)) = some (decide (as = bs)) := by
  simp only [eqD, pd_tupI, shaped_tupI, and_self, if_true, PyData.eqv, eqv_ints]
theorem eqD_refI {as bs : List Int} {r : Nat} (e : h[r]? = some (.lst (as.map D.int))) : eqD h (.ref r) (.fls (bs.map D.int)) = some (decide (as = bs)) := by
  simp only [eqD, pd_refI e, pd_flsI, shaped_lstI, and_self, if_true, PyData.eqv, eqv_ints]
theorem eqD_ref0 {as : List Int} {r : Nat} (e : h[r]? = some (.lst (as.map D.int))) : eqD h (.ref r) (.fls []) = some (decide (as = [])) := eqD_refI (bs := []) e
/-! repr -/
theorem piled_le {c : Nat} : ∀ {ts : List Str}, (∀ t ∈ ts, t.length ≤ c) → piled ts ≤ ts.length * (c + 2)
  | [], _ => by simp [piled]
  | t :: ts, q => by
    have h1 := q t List.mem_cons_self
    have h2 := piled_le (c := c) (ts := ts) fun x hx => q x (List.mem_cons_of_mem _ hx)
    rw [piled_cons, List.length_cons, Nat.add_mul, Nat.one_mul]
    omega
theorem shown_ints : ∀ ns : List Int, PyData.shownAll (ns.map PyData.int) = ns.map fun i => (toString i : Str)
  | [] => rfl
  | n :: ns => by simp [PyData.shownAll, PyData.shown, shown_ints ns]
theorem showable_ints : ∀ {ns : List Int}, (∀ x ∈ ns, x.natAbs.log2 < 1920) → PyData.showableAll (ns.map PyData.int) = true
  | [], _ => rfl
  | n :: ns, q => by
    have h1 := q n List.mem_cons_self
    simp [PyData.showableAll, PyData.showable, h1, showable_ints (ns := ns) fun x hx => q x (List.mem_cons_of_mem _ hx)]
theorem hasDict_ints : ∀ ns : List Int, PyData.hasDictAll (ns.map PyData.int) = false
  | [] => rfl
  | n :: ns => by simp [PyData.hasDictAll, PyData.hasDict, hasDict_ints ns]
theorem small_text : ∀ n : Nat, n < 13 → ((toString (n : Int) : Str)).length ≤ 2 := by decide +kernel
theorem small_log : ∀ n : Nat, n < 13 → n.log2 < 1920 := by decide +kernel
/-- a row of heights, shown -/
theorem repr_hs {ns : List Int} (h1 : ns.length ≤ 12) (h2 : ∀ x ∈ ns, 0 ≤ x ∧ x ≤ 12) : biD h .repr [.tup (ns.map D.int)] = .ok (.str (PyData.tuple (ns.map PyData.int)).shown) h := by
  have e1 : (PyData.tuple (ns.map PyData.int)).showable = true := by
    simp only [PyData.showable]
    refine showable_ints fun x hx => small_log _ ?_
    have := h2 x hx
    omega
  have e2 : (PyData.tuple (ns.map PyData.int)).hasDict = false := by simp [PyData.hasDict, hasDict_ints]
  have e3 : (PyData.tuple (ns.map PyData.int)).depth ≤ 40 := by simp [PyData.depth, depth_ints]
  have e4 : (PyData.tuple (ns.map PyData.int)).shown.length ≤ LINE := by
    simp only [PyData.shown, shown_ints]
    have q : piled (ns.map fun i => (toString i : Str)) ≤ (ns.map fun i => (toString i : Str)).length * (2 + 2) := piled_le fun t ht => by
      obtain ⟨i, hi, rfl⟩ := List.mem_map.mp ht
      have hb := h2 i hi
      obtain ⟨n, rfl⟩ := Int.eq_ofNat_of_zero_le hb.1
      exact small_text n (by omega)
    rw [List.length_map] at q
    unfold tupleText
    rw [PySem.Str.length_append, PySem.Str.length_append]
    have e5 : (("(" : Str)).length = 1 := by decide +kernel
    have e6 : ((if (ns.map fun i => (toString i : Str)).length == 1 then ",)" else ")" : String) : Str).length ≤ 2 := by split <;> decide +kernel
    have e7 : (Str.join ", " (ns.map fun i => (toString i : Str))).length ≤ 48 := by
      cases ns with
      | nil => decide +kernel
      | cons n ns =>
        have := join_length_add ((n :: ns).map fun i => (toString i : Str)) (by simp)
        omega
    unfold LINE
    omega
  show (rOpt (pd h (.tup (ns.map D.int))) h).bind _ = _
  rw [pd_tupI, some_opt, ok_bind, rIf_pos ⟨e1, e2, e3, e4⟩]
end
end Mx.Pl
set_option Elab.async false
set_option linter.all false
set_option maxRecDepth 100000
set_option maxHeartbeats 1000000
/-! Pe: the draws. -/
namespace Mx.Pl
open PySem
section
variable {P : Pg} {F : Ph} {h t : Hh} {k f f0 f1 f2 f3 s s0 s1 s2 s3 : Nat} {α : Type}
theorem atI_nat {xs : List α} {i : Nat} (hi : i < xs.length) : L2.atI xs (i : Int) = xs[i]? := by
  unfold L2.atI L2.ixN
  rw [if_pos (by omega), if_pos (by omega)]
  rfl
theorem atI_int {xs : List α} {i : Int} (h0 : 0 ≤ i) (hi : i < xs.length) : L2.atI xs i = xs[i.toNat]? := by
  unfold L2.atI L2.ixN
  rw [if_pos h0, if_pos hi]
  rfl
theorem atI_zero {x : α} {xs : List α} : L2.atI (x :: xs) 0 = some x := by
  rw [atI_int (by omega) (by simp)]; rfl
theorem atI_one {x y : α} {xs : List α} : L2.atI (x :: y :: xs) 1 = some y := by
  rw [atI_int (by omega) (by simp; omega)]; rfl
theorem atI_last {xs : List α} (hn : xs ≠ []) : L2.atI xs (-1) = some (xs.getLast hn) := by
  have hl : 0 < xs.length := List.length_pos_iff.mpr hn
  unfold L2.atI L2.ixN
  rw [if_neg (by omega), if_pos (by omega)]
  have e : (-1 + (xs.length : Int)).toNat = xs.length - 1 := by omega
  rw [Option.bind_some, e, List.getLast_eq_getElem, List.getElem?_eq_getElem (by omega)]
/-- the deal: two objects, then others -/
def dl (cells : List Int) (m : Int) (t : Hh) : Hh := .lst (cells.map D.int) :: .lst [.ref 0, .int m] :: t
@[simp] theorem dl_0 {cells : List Int} {m : Int} : (dl cells m t)[0]? = some (.lst (cells.map D.int)) := rfl
@[simp] theorem dl_1 {cells : List Int} {m : Int} : (dl cells m t)[1]? = some (.lst [.ref 0, .int m]) := rfl
@[simp] theorem dl_set0 {cells cs : List Int} {m : Int} : (dl cells m t).set 0 (.lst (cs.map D.int)) = dl cs m t := rfl
@[simp] theorem dl_set1 {cells : List Int} {m m' : Int} : (dl cells m t).set 1 (.lst [.ref 0, .int m']) = dl cells m' t := rfl
theorem below_ints {n : Nat} : ∀ ns : List Int, (ns.map D.int).all (below n) = true
  | [] => rfl
  | i :: ns => by rw [List.map_cons, List.all_cons, below_ints ns]; simp [below]
/-- a call with the deal -/
theorem settle_dl {cells cs : List Int} {m m' : Int} {d : D} (e : frz 8 (dl cs m' t) (dl cells m t).length d = some d) : settle (dl cells m t) (.ok d (dl cs m' t)) = .ok d (dl cs m' t) := by
  simp only [settle, e]
  have q : settled (dl cells m t) (dl cs m' t) := fun i o hi e => by
    match i, e with
    | 0, e => rw [dl_0] at e; cases e; exact .inr (below_ints cs)
    | 1, e => rw [dl_1] at e; cases e; exact .inr (by simp [belowO, below, dl])
    | i + 2, e => exact .inl e
  rw [rIf_pos ⟨by simp [dl], q⟩]
  have : (dl cs m' t).take (dl cells m t).length = dl cs m' t := by rw [show (dl cells m t).length = (dl cs m' t).length by simp [dl]]; exact List.take_length
  rw [this]
def bAnyW : S := .while_ (.and_ (.cmp .ne (.ix (.v 0) (.k (.int 0))) (.nl false (.dis .nil))) (.cmp .eq (.ix (.ix (.v 0) (.k (.int 0))) (.neg (.k (.int 1)))) (.k (.int 0)))) (.ex (.mt .pop0 (.ix (.v 0) (.k (.int 0))) .nil))
def bAny : S := .seq bAnyW
  (.seq (.ite (.cmp .ne (.ix (.v 0) (.k (.int 0))) (.nl false (.dis .nil))) (.seq (.set (.nm 2) (.bi .int (.cons (.mt .pop0 (.ix (.v 0) (.k (.int 0))) .nil) .nil)))
  (.seq (.ex (.mt .append (.ix (.v 0) (.k (.int 0))) (.cons (.bin .fdiv (.v 2) (.v 1)) .nil)))
  (.ret (.bin .mod (.v 2) (.v 1))))) .nop)
  (.seq (.setIx (.v 0) (.k (.int 1)) (.bin .mod (.bi .int (.cons (.bin .add (.bin .mul (.ix (.v 0) (.k (.int 1))) (.k (.int 48271))) (.k (.int 97))) .nil)) (.k (.int 2147483647))))
  (.ret (.bin .mod (.bi .int (.cons (.bin .fdiv (.ix (.v 0) (.k (.int 1))) (.k (.int 64))) .nil)) (.v 1)))))
@[simp] theorem len0 : (0 : Nat) ≤ LINE := Nat.zero_le _
theorem ixR_deal0 {cells : List Int} {m : Int} : ixR (dl cells m t) (.ref 1) (.int 0) = .ok (.ref 0) (dl cells m t) := by
  simp [ixR, ixD, seqOf, atI_zero, dctOf_lst dl_1]
theorem ixR_deal1 {cells : List Int} {m : Int} : ixR (dl cells m t) (.ref 1) (.int 1) = .ok (.int m) (dl cells m t) := by
  simp [ixR, ixD, seqOf, atI_one, dctOf_lst dl_1]
theorem ixR_last {cells : List Int} {m : Int} (hn : cells ≠ []) : ixR (dl cells m t) (.ref 0) (.int (-1)) = .ok (.int (cells.getLast hn)) (dl cells m t) := by
  have hn' : cells.map D.int ≠ [] := by simpa using hn
  simp [ixR, ixD, seqOf, atI_last hn', List.getLast_map, dctOf_lst dl_0]
theorem pop_last {cells : List Int} {m : Int} (hn : cells ≠ []) : mtD (dl cells m t) .pop0 (.ref 0) [] = .ok (.int (cells.getLast hn)) (dl cells.dropLast m t) := by
  have hl : 0 < cells.length := List.length_pos_iff.mpr hn
  have e : (cells.map D.int)[(cells.map D.int).length - 1]? = some (.int (cells.getLast hn)) := by
    rw [List.getElem?_map, List.length_map, List.getElem?_eq_getElem (by omega), List.getLast_eq_getElem]
    rfl
  have e2 : (cells.map D.int).dropLast = cells.dropLast.map D.int := by rw [List.map_dropLast]
  simp only [mtD, mtPop0, dl_0, e, some_opt, ok_bind, e2, dl_set0]
theorem push_last {cells : List Int} {m : Int} {i : Int} (hl : cells.length < LINE) : mtD (dl cells m t) .append (.ref 0) [.int i] = .ok .non (dl (cells ++ [i]) m t) := by
  have e2 : cells.map D.int ++ [.int i] = (cells ++ [i]).map D.int := by simp
  simp only [mtD, mtAppend, dl_0, e2, dl_set0]
  rw [rIf_pos (by simpa using hl)]
theorem law_any_ok (hf : P.fns f = some ⟨2, 3, bAny⟩) {cells : List Int} {m b : Int} (hc : cells.length ≤ 63) (hb : 0 < b) (hb2 : b < 1073741824) :
    ∃ cs m' v, cs.length ≤ 63 ∧ 0 ≤ v ∧ v < b ∧ callN P (k + 1) f [.ref 1, .int b] (dl cells m t) = .ok (.int v) (dl cs m' t) := by
  rw [callN_eq hf rfl]
  obtain ⟨fl, h', ew, cs, rfl, rfl, hl⟩ := wp_get (r := evS P (callN P k) bAnyW [some (.ref 1), some (.int b), none] (dl cells m t)) (Q := fun fl h' => ∃ cs : List Int, fl = .nx [some (.ref 1), some (.int b), none] ∧ h' = dl cs m t ∧ cs.length ≤ 63) (by
    rw [bAnyW, evS_while]
    refine wp_wloop (fun n σ h' => σ = [some (.ref 1), some (.int b), none] ∧ ∃ cs : List Int, h' = dl cs m t ∧ cs.length = n ∧ n ≤ 63) (fun n σ h' ⟨e1, cs, e2, e3, e4⟩ => ?_) FUEL cells.length _ _ (by unfold FUEL; omega) ⟨rfl, cells, rfl, rfl, hc⟩
    subst e1 e2
    by_cases hn : cs = []
    · subst hn
      simp [ixR_deal0, eqD_ref0 (as := []) dl_0, wp_ok]
      exact ⟨[], rfl, by simp⟩
    · have hlen : 0 < cs.length := List.length_pos_iff.mpr hn
      by_cases hz : cs.getLast hn = 0
      · simp [ixR_deal0, eqD_ref0 (as := cs) dl_0, ixR_last hn, hn, hz, lstOf, pop_last hn, wp_ok, step]
        exact ⟨cs.length - 1, by omega, cs.dropLast, rfl, by simp, by omega⟩
      · simp [ixR_deal0, eqD_ref0 (as := cs) dl_0, ixR_last hn, hn, hz, wp_ok]
        exact ⟨cs, rfl, by omega⟩)
  by_cases hn : cs = []
  · subst hn
    refine ⟨[], (m * 48271 + 97) % 2147483647, ((m * 48271 + 97) % 2147483647 / 64) % b, by simp, Int.emod_nonneg _ (by omega), Int.emod_lt_of_pos _ hb, ?_⟩
    have q1 : mulOk m 48271 := .inr (by omega)
    simp [bAny, ew, ixR_deal0, ixR_deal1, eqD_ref0 (as := []) dl_0, bin_mulI q1, bin_modI, bin_fdivI, hb, setItemD, L2.ixN]
  · have hlen : 0 < cs.length := List.length_pos_iff.mpr hn
    refine ⟨cs.dropLast ++ [cs.getLast hn / b], m, cs.getLast hn % b, by simp; omega, Int.emod_nonneg _ (by omega), Int.emod_lt_of_pos _ hb, ?_⟩
    have q2 : cs.dropLast.length < LINE := by simp; unfold LINE; omega
    simp [bAny, ew, ixR_deal0, eqD_ref0 (as := cs) dl_0, hn, lstOf, pop_last hn, bin_fdivI ⟨hb, hb2⟩, bin_modI hb, push_last q2]
/-! comprehensions that draw nothing -/
theorem cloop_pure {f : D → Hh → R (Option D)} {g : Hh → Prop} {p : D → Option D} (hg : g h) : ∀ {xs acc : List D}, (∀ x ∈ xs, f x h = .ok (p x) h) → cloop f g xs acc h = .ok (acc ++ xs.filterMap p) h
  | [], acc, _ => by simp [cloop, rIf_pos hg]
  | x :: xs, acc, e => by
    have e1 := e x List.mem_cons_self
    have ih := fun acc => cloop_pure hg (xs := xs) (acc := acc) fun y hy => e y (List.mem_cons_of_mem _ hy)
    simp only [cloop, rIf_pos hg, e1, ok_bind]
    cases q : p x with
    | none => simp only [List.filterMap_cons, q]; exact ih acc
    | some y =>
      simp only [List.filterMap_cons, q]
      have := ih (acc ++ [y])
      simpa using this
theorem comp_pure {ws : List Nat} {tg : T} {it c e : E} {σ : En} {xs : List D} {g : Option (Nat × List D)} {p : D → Option D} (hi : evI P F it σ h = .ok (xs, g) h) (hl : xs.length ≤ LINE) (hg : gok h g) (ht : ∀ x ∈ xs, turn P F ws tg c e σ x h = .ok (p x) h) :
    evN P F (.comp ws tg it c e) σ h = .ok (xs.filterMap p) h := by
  rw [evN_comp, hi, ok_bind, rIf_pos hl, cloop_pure hg ht]
  rfl
@[simp] theorem quiet_ok (a : α) (h : Hh) : (R.ok a h).quiet = .ok a h := rfl
theorem turn_nm {ws : List Nat} {i : Nat} {e : E} {σ : En} {x : D} : turn P F ws (.nm i) .nil e σ x h = ((ev P F e (put (wipe σ ws) i x) h).bind fun y h => .ok (some y) h).quiet := by simp [turn]
theorem turn_nmC {ws : List Nat} {i : Nat} {c r e : E} {σ : En} {x : D} : turn P F ws (.nm i) (.cons c r) e σ x h = ((ev P F c (put (wipe σ ws) i x) h).bind fun t h => (rOpt (truth h t) h).bind fun t h => if t = true then (ev P F e (put (wipe σ ws) i x) h).bind fun y h => .ok (some y) h else .ok none h).quiet := by simp [turn]
theorem filterMap_some {β : Type} {g : α → β} : ∀ xs : List α, xs.filterMap (fun x => some (g x)) = xs.map g
  | [] => rfl
  | x :: xs => by simp
/-- .. over numbers, to numbers -/
theorem comp_ints {ws : List Nat} {i : Nat} {it e : E} {σ : En} {ns : List Int} {g : Option (Nat × List D)} {p : Int → Int} (hi : evI P F it σ h = .ok (ns.map D.int, g) h) (hl : ns.length ≤ LINE) (hg : gok h g)
    (ht : ∀ n ∈ ns, ev P F e (put (wipe σ ws) i (.int n)) h = .ok (.int (p n)) h) : evN P F (.comp ws (.nm i) it .nil e) σ h = .ok ((ns.map p).map D.int) h := by
  rw [comp_pure (p := fun x => match x with | .int n => some (.int (p n)) | _ => none) hi (by simpa using hl) hg fun x hx => ?_]
  · rw [List.filterMap_map, List.map_map]
    congr 1
    exact filterMap_some ns
  · obtain ⟨n, hn, rfl⟩ := List.mem_map.mp hx
    rw [turn_nm, ht n hn]
    rfl
theorem comp_intsC {ws : List Nat} {i : Nat} {it c r e : E} {σ : En} {ns : List Int} {g : Option (Nat × List D)} {q : Int → Bool} {p : Int → Int} (hi : evI P F it σ h = .ok (ns.map D.int, g) h) (hl : ns.length ≤ LINE) (hg : gok h g)
    (hc : ∀ n ∈ ns, ev P F c (put (wipe σ ws) i (.int n)) h = .ok (.bl (q n)) h) (ht : ∀ n ∈ ns, q n = true → ev P F e (put (wipe σ ws) i (.int n)) h = .ok (.int (p n)) h) : evN P F (.comp ws (.nm i) it (.cons c r) e) σ h = .ok (((ns.filter q).map p).map D.int) h := by
  rw [comp_pure (p := fun x => match x with | .int n => if q n = true then some (.int (p n)) else none | _ => none) hi (by simpa using hl) hg fun x hx => ?_]
  · rw [List.filterMap_map, List.map_map]
    congr 1
    clear hi hl hc ht
    induction ns with
    | nil => rfl
    | cons n ns ih =>
      cases e : q n with
      | true => simp [List.filterMap_cons, List.filter_cons, e] at ih ⊢; exact ih
      | false => simp [List.filterMap_cons, List.filter_cons, e] at ih ⊢; exact ih
  · obtain ⟨n, hn, rfl⟩ := List.mem_map.mp hx
    rw [turn_nmC, hc n hn]
    cases e : q n with
    | true =>
      simp [ht n hn e, e]
    | false => simp [e]
/-- one of some numbers -/
def bOf (s : Nat) : S := .ret (.ix (.v 1) (.call s true (.cons (.v 0) (.cons (.bi .len (.cons (.v 1) .nil)) .nil))))
theorem law_of_ok (hf : P.fns f = some ⟨2, 2, bOf s⟩) (hs : P.sgs s = some ⟨f0, 2, [], [0, 1]⟩) (h0 : P.fns f0 = some ⟨2, 3, bAny⟩) {cells ns : List Int} {m : Int} (hc : cells.length ≤ 63) (hn : ns ≠ []) (hl : ns.length < 1073741824) :
    ∃ cs m' v, cs.length ≤ 63 ∧ v ∈ ns ∧ callN P (k + 2) f [.ref 1, .fls (ns.map D.int)] (dl cells m t) = .ok (.int v) (dl cs m' t) := by
  have hl0 : 0 < ns.length := List.length_pos_iff.mpr hn
  obtain ⟨cs, m', v, h1, h2, h3, e⟩ := law_any_ok (k := k) (t := t) h0 (m := m) (b := ns.length) hc (by omega) (by omega)
  have hi : v.toNat < ns.length := by omega
  refine ⟨cs, m', ns[v.toNat], h1, List.getElem_mem hi, ?_⟩
  rw [callN_eq hf rfl]
  simp [bOf, ev_call hs, e, settle_dl frz_int, ixR, ixD, seqOf, atI_int h2 (show v < ((ns.map D.int).length : Int) by simp; omega), hi]
/-! the deal -/
def bDealC1 : E := .nl false (.comp [4] (.nm 4) (.iSeq (.nl false (.lsl (.v 0) .nil (.cons (.k (.int 63)) .nil)))) .nil (.bi .abs (.cons (.bi .int (.cons (.v 4) .nil)) .nil)))
def bDealF : S := .for_ (.nm 4) (.iSeq (.v 2)) (.set (.nm 3) (.bin .mod (.bi .int (.cons (.bin .add (.bin .add (.bin .mul (.v 3) (.k (.int 48271))) (.bin .mod (.v 4) (.k (.int 2147483579)))) (.k (.int 71))) .nil)) (.k (.int 2147483647))))
def bDealC2 : E := .comp [4] (.nm 4) (.iSeq (.v 2)) (.cons (.cmp .ge (.v 4) (.bin .pow (.k (.int 10)) (.k (.int 18)))) .nil) (.v 4)
def bDeal : S := .seq (.set (.nm 2) bDealC1)
  (.seq (.set (.nm 3) (.bin .add (.bin .mul (.k (.int 37199)) (.v 1)) (.k (.int 613))))
  (.seq bDealF
  (.ret (.nl true (.dis (.cons (.nl true (.lrv (.nl false bDealC2))) (.cons (.v 3) .nil)))))))
theorem law_deal_ok (hf : P.fns f = some ⟨2, 5, bDeal⟩) {ns : List Int} {b : Int} (hl : ns.length ≤ 63) : ∃ cs m, cs.length ≤ 63 ∧ callN P (k + 1) f [.scr (ns.map D.int), .int b] [] = .ok (.ref 1) (dl cs m []) := by
  have ll : ∀ n : Nat, n ≤ 63 → n ≤ LINE := fun n hn => by unfold LINE; omega
  rw [callN_eq hf rfl]
  obtain ⟨as, hA⟩ : ∃ as, as = ns.map (fun n => if n < 0 then -n else n) := ⟨_, rfl⟩
  have hla : as.length ≤ 63 := by rw [hA]; simpa using hl
  have e1 : ev P (callN P k) bDealC1 [some (.scr (ns.map D.int)), some (.int b), none, none, none] [] = .ok (.fls (as.map D.int)) [] := by
    rw [hA, bDealC1, ev_nlF, comp_ints (ns := ns) (g := none) (p := fun n => if n < 0 then -n else n) ?_ (ll _ hl) trivial fun n hn => ?_]
    · rfl
    · have c : cutD (ns.map D.int) none (some 63) = ns.map D.int := by
        unfold cutD
        have e : HT.sIx (ns.map D.int).length (ns.map D.int).length (some 63) = (ns.map D.int).length := by
          simp [HT.sIx]; omega
        rw [e, HT.sIx_none]
        exact List.take_of_length_le (by simp)
      simp [lslR, lstS, c, iterOf]
    · simp [wipe]
  have q1 : mulOk 37199 b := .inl (by omega)
  obtain ⟨fl, h', e2, m, c, rfl, rfl⟩ := wp_get (r := evS P (callN P k) bDealF [some (.scr (ns.map D.int)), some (.int b), some (.fls (as.map D.int)), some (.int (37199 * b + 613)), none] [])
    (Q := fun fl h' => ∃ m c, fl = .nx [some (.scr (ns.map D.int)), some (.int b), some (.fls (as.map D.int)), some (.int m), c] ∧ h' = []) (by
      rw [bDealF, evS_for]
      simp only [evI_seq, ev_v, look_s, look_z, some_opt, ok_bind, iterOf]
      rw [rIf_pos (by simpa using ll _ hla)]
      refine wp_floop (fun _ σ h' => h' = [] ∧ ∃ m c, σ = [some (.scr (ns.map D.int)), some (.int b), some (.fls (as.map D.int)), some (.int m), c]) (fun i σ h' _ z => trivial) (fun i σ h' hi z => ?_) (fun σ h' z => ?_) ⟨rfl, _, _, rfl⟩
      · obtain ⟨rfl, m, c, rfl⟩ := z
        have q2 : mulOk m 48271 := .inr (by omega)
        simp [List.getElem_map, bin_mulI q2, bin_modI, wp_ok, step]
      · obtain ⟨rfl, m, c, rfl⟩ := z
        exact ⟨m, c, rfl, rfl⟩)
  have e3 : evN P (callN P k) bDealC2 [some (.scr (ns.map D.int)), some (.int b), some (.fls (as.map D.int)), some (.int m), c] [] = .ok (((as.filter fun n => decide (10 ^ 18 ≤ n)).map id).map D.int) [] := by
    rw [bDealC2, comp_intsC (ns := as) (g := none) (q := fun n => decide (10 ^ 18 ≤ n)) (p := id) ?_ (ll _ hla) trivial (fun n hn => ?_) fun n hn _ => ?_]
    · simp [iterOf]
    · have q3 : binD ([] : Hh) .pow (.int 10) (.int 18) = .ok (.int (10 ^ 18)) [] := rIf_pos (by decide) _
      simp [wipe, q3]
    · simp [wipe]
  refine ⟨((as.filter fun n => decide (10 ^ 18 ≤ n))).reverse, m, ?_, ?_⟩
  · rw [List.length_reverse]
    exact Nat.le_trans (List.length_filter_le _ _) hla
  · have q4 : (2 : Nat) ≤ LINE := by decide
    simp [bDeal, e1, bin_mulI q1, e2, e3, lstS, lstOf, rIf_pos q4, dl]
end
end Mx.Pl
set_option Elab.async false
set_option linter.all false
set_option maxRecDepth 100000
set_option maxHeartbeats 1000000
/-! Pf: heights drawn. -/
namespace Mx.Pl
open PySem
theorem maxL_mem : ∀ {ns : List Int}, ns ≠ [] → maxL ns ∈ ns
  | [x], _ => by simp [maxL]
  | x :: y :: r, _ => by
    have ih := maxL_mem (ns := y :: r) (by simp)
    show max x (maxL (y :: r)) ∈ _
    by_cases q : maxL (y :: r) ≤ x
    · rw [Int.max_eq_left q]; exact List.mem_cons_self
    · rw [Int.max_eq_right (by omega)]; exact List.mem_cons_of_mem _ ih
theorem le_maxL : ∀ {ns : List Int} {x : Int}, x ∈ ns → x ≤ maxL ns
  | [y], x, h => by simp at h; subst h; exact Int.le_refl _
  | y :: z :: r, x, h => by
    show x ≤ max y (maxL (z :: r))
    rcases List.mem_cons.mp h with rfl | h
    · exact Int.le_max_left _ _
    · exact Int.le_trans (le_maxL h) (Int.le_max_right _ _)
theorem minL_mem : ∀ {ns : List Int}, ns ≠ [] → minL ns ∈ ns
  | [x], _ => by simp [minL]
  | x :: y :: r, _ => by
    have ih := minL_mem (ns := y :: r) (by simp)
    show min x (minL (y :: r)) ∈ _
    by_cases q : x ≤ minL (y :: r)
    · rw [Int.min_eq_left q]; exact List.mem_cons_self
    · rw [Int.min_eq_right (by omega)]; exact List.mem_cons_of_mem _ ih
theorem minL_le : ∀ {ns : List Int} {x : Int}, x ∈ ns → minL ns ≤ x
  | [y], x, h => by simp at h; subst h; exact Int.le_refl _
  | y :: z :: r, x, h => by
    show min y (minL (z :: r)) ≤ x
    rcases List.mem_cons.mp h with rfl | h
    · exact Int.min_le_left _ _
    · exact Int.le_trans (Int.min_le_right _ _) (minL_le h)
theorem sum_le {c : Int} : ∀ {ns : List Int}, (∀ x ∈ ns, x ≤ c) → ns.sum ≤ ns.length * c
  | [], _ => by simp
  | n :: ns, q => by
    have h1 := q n List.mem_cons_self
    have h2 := sum_le (c := c) (ns := ns) fun x hx => q x (List.mem_cons_of_mem _ hx)
    simp only [List.sum_cons, List.length_cons]
    have : ((ns.length + 1 : Nat) : Int) * c = ns.length * c + c := by rw [Int.natCast_add, Int.add_mul]; simp
    omega
theorem le_sum {c : Int} : ∀ {ns : List Int}, (∀ x ∈ ns, c ≤ x) → ns.length * c ≤ ns.sum
  | [], _ => by simp
  | n :: ns, q => by
    have h1 := q n List.mem_cons_self
    have h2 := le_sum (c := c) (ns := ns) fun x hx => q x (List.mem_cons_of_mem _ hx)
    simp only [List.sum_cons, List.length_cons]
    have : ((ns.length + 1 : Nat) : Int) * c = ns.length * c + c := by rw [Int.natCast_add, Int.add_mul]; simp
    omega
theorem sum_set {v : Int} : ∀ {ns : List Int} {i : Nat} (hi : i < ns.length), (ns.set i v).sum = ns.sum - ns[i] + v
  | n :: ns, 0, _ => by simp; omega
  | n :: ns, i + 1, hi => by
    have := sum_set (v := v) (ns := ns) (i := i) (by simpa using hi)
    simp only [List.set_cons_succ, List.sum_cons, this, List.getElem_cons_succ]
    omega
section
variable {P : Pg} {F : Ph} {h t u : Hh} {k f f0 f1 f2 f3 s s0 s1 s2 s3 : Nat} {α : Type}
@[simp] theorem dl_app {c : List Int} {m : Int} : dl c m t ++ u = dl c m (t ++ u) := rfl
@[simp] theorem dl_len {c : List Int} {m : Int} : (dl c m t).length = t.length + 2 := rfl
theorem dl_get {c : List Int} {m : Int} {o : O} : (dl c m (t ++ o :: u))[t.length + 2]? = some o := by simp [dl]
theorem dl_set {c : List Int} {m : Int} {o o' : O} : (dl c m (t ++ o :: u)).set (t.length + 2) o' = dl c m (t ++ o' :: u) := by simp [dl]
theorem settle_dlT {cells cs : List Int} {m m' : Int} {d : D} (e : frz 8 (dl cs m' (t ++ u)) (t.length + 2) d = some d) : settle (dl cells m t) (.ok d (dl cs m' (t ++ u))) = .ok d (dl cs m' t) := by
  simp only [settle, dl_len, e]
  have q : settled (dl cells m t) (dl cs m' (t ++ u)) := fun i o hi e => by
    match i, hi, e with
    | 0, _, e => rw [dl_0] at e; cases e; exact .inr (below_ints cs)
    | 1, _, e => rw [dl_1] at e; cases e; exact .inr (by simp [belowO, below])
    | i + 2, hi, e =>
      have e : (t ++ u)[i]? = some o := e
      have hi : i < t.length := by simpa using hi
      rw [List.getElem?_append_left hi] at e
      exact .inl e
  rw [rIf_pos ⟨by simp, q⟩]
  have : (dl cs m' (t ++ u)).take (t.length + 2) = dl cs m' t := by simp [dl]
  rw [this]
theorem ixN_int {n : Nat} {i : Int} (h0 : 0 ≤ i) (hi : i < n) : L2.ixN n i = some i.toNat := by
  unfold L2.ixN
  rw [if_pos h0, if_pos hi]
theorem ixN_nat {n i : Nat} (hi : i < n) : L2.ixN n (i : Int) = some i := ixN_int (by omega) (by omega)
@[simp] theorem seqOf_ref {r : Nat} {xs : List D} (e : h[r]? = some (.lst xs)) : seqOf h (.ref r) = some xs := by simp [seqOf, e]
@[simp] theorem lstOf_ref {r : Nat} {xs : List D} (e : h[r]? = some (.lst xs)) : lstOf h (.ref r) = some xs := by simp [lstOf, e]
theorem sum_ref {r : Nat} {ns : List Int} (e : h[r]? = some (.lst (ns.map D.int))) : biD h .sum [.ref r] = .ok (.int ns.sum) h := by simp [biD, biSum, seqOf, e]
theorem len_ref {r : Nat} {xs : List D} (e : h[r]? = some (.lst xs)) : biD h .len [.ref r] = .ok (.int xs.length) h := by simp [biD, biLen, seqOf, e, dctOf_lst e]
theorem tuple_ref {r : Nat} {xs : List D} (e : h[r]? = some (.lst xs)) : biD h .tuple [.ref r] = .ok (.tup xs) h := by simp [biD, biTuple, seqOf, e]
theorem max1_ref {r : Nat} {ns : List Int} (e : h[r]? = some (.lst (ns.map D.int))) (hn : ns ≠ []) : biD h .max1 [.ref r] = .ok (.int (maxL ns)) h := by
  have : 0 < ns.length := List.length_pos_iff.mpr hn
  simp [biD, biMax1, seqOf, e, rIf_pos this]
theorem min1_ref {r : Nat} {ns : List Int} (e : h[r]? = some (.lst (ns.map D.int))) (hn : ns ≠ []) : biD h .min1 [.ref r] = .ok (.int (minL ns)) h := by
  have : 0 < ns.length := List.length_pos_iff.mpr hn
  simp [biD, biMin1, seqOf, e, rIf_pos this]
theorem index_ref {r : Nat} {ns : List Int} {i : Int} (e : h[r]? = some (.lst (ns.map D.int))) (hi : i ∈ ns) : mtD h .index (.ref r) [.int i] = .ok (.int (ns.idxOf i : Nat)) h := by
  simp [mtD, mtIndex, lstOf, e, rIf_pos hi]
theorem item_ref {r : Nat} {ns : List Int} {i : Nat} (e : h[r]? = some (.lst (ns.map D.int))) (hi : i < ns.length) : itemD h (.ref r) (.int i) = .ok (.int ns[i]) h := by
  simp only [itemD, e]
  rw [atI_nat (by simpa using hi)]
  simp [hi]
theorem setItem_ref {r : Nat} {ns : List Int} {i : Nat} {v : Int} (e : h[r]? = some (.lst (ns.map D.int))) (hi : i < ns.length) : setItemD h (.ref r) (.int i) (.int v) = .ok () (h.set r (.lst ((ns.set i v).map D.int))) := by
  have e2 : (ns.map D.int).set i (.int v) = (ns.set i v).map D.int := by rw [List.map_set]
  simp only [setItemD, e, List.length_map, ixN_nat hi, some_opt, ok_bind, e2]
/-- [1 + any(tall) for turn in range(many)] -/
def bHC (s : Nat) : E := .comp [5] (.nm 5) (.iRg1 (.v 6)) .nil (.bin .add (.k (.int 1)) (.call s true (.cons (.v 0) (.cons (.v 2) .nil))))
def bHF : S := .for_ (.nm 5) (.iRg1 (.bin .mul (.k (.int 12)) (.v 6))) (.ite (.cmp .gt (.bi .sum (.cons (.v 4) .nil)) (.bi .max2 (.cons (.v 6) (.cons (.v 3) .nil)))) (.augIx .sub (.v 4) (.mt .index (.v 4) (.cons (.bi .max1 (.cons (.v 4) .nil)) .nil)) (.k (.int 1))) .nop)
def bH1 (s : Nat) : S := .ite (.cmp .eq (.v 7) (.k (.int 1))) (.seq (.set (.nm 4) (.nl true (.lrep (.nl false (.dis (.cons (.k (.int 1)) .nil))) (.v 6))))
  (.setIx (.v 4) (.call s true (.cons (.v 0) (.cons (.v 6) .nil))) (.v 2))) .nop
def bH0 : S := .ite (.cmp .eq (.v 7) (.k (.int 0))) (.set (.nm 4) (.nl true (.lrep (.nl false (.dis (.cons (.ix (.v 4) (.k (.int 0))) .nil))) (.v 6)))) .nop
def bHeights (s1 s : Nat) : S := .seq (.set (.tp (.cons (.nm 6) (.cons (.nm 7) .nil))) (.tup (.cons (.call s1 true (.cons (.v 0) (.cons (.v 1) .nil))) (.cons (.call s true (.cons (.v 0) (.cons (.k (.int 5)) .nil))) .nil))))
  (.seq (.set (.nm 4) (.nl true (bHC s)))
  (.seq bH0
  (.seq (bH1 s)
  (.seq bHF
  (.ret (.bi .tuple (.cons (.v 4) .nil)))))))
/-- rows within bounds -/
def InB (n : Nat) (tall : Int) (l : List Int) : Prop := l.length = n ∧ ∀ x ∈ l, 1 ≤ x ∧ x ≤ tall
theorem map_rep {n : Nat} {x : Int} : (List.replicate n [D.int x]).flatten = (List.replicate n x).map D.int := by
  induction n with
  | zero => rfl
  | succ n ih => rw [List.replicate_succ, List.flatten_cons, ih, List.replicate_succ]; rfl
theorem rg1_nat {n : Nat} (hn : n ≤ 1000000) : rg1 (.int n) h = .ok ((List.range n).map fun i : Nat => D.int i, none) h := by
  rw [rg1_int (by omega) (by omega), Int.toNat_natCast]
theorem rng_le {n : Nat} (hn : n ≤ 1000000) : ((List.range n).map fun i : Nat => D.int i).length ≤ LINE := by
  rw [List.length_map, List.length_range]
  unfold LINE
  omega
theorem turnD {ws : List Nat} {i : Nat} {e : E} {σ : En} {x : D} {g : Option D → Hh → Prop} (w : wp (ev P F e (put (wipe σ ws) i x) h) (fun y h' => g (some y) h') NX) : wp (turn P F ws (.nm i) .nil e σ x h) g NX := by
  rw [turn_nm]
  exact wp_quiet (wp_bind.mpr w)
theorem heights_step (hs : P.sgs s = some ⟨f0, 2, [], [0, 1]⟩) (h0 : P.fns f0 = some ⟨2, 3, bAny⟩) {tall : Int} {σ : En} {cells : List Int} {m : Int} (ht1 : 1 ≤ tall) (ht2 : tall ≤ 1000) (hc : cells.length ≤ 63)
    (e0 : look σ 0 = some (.ref 1)) (e2 : look σ 2 = some (.int tall)) : ∃ cs m' v, cs.length ≤ 63 ∧ 1 ≤ v ∧ v ≤ tall ∧ ev P (callN P (k + 1)) (.bin .add (.k (.int 1)) (.call s true (.cons (.v 0) (.cons (.v 2) .nil)))) σ (dl cells m t) = .ok (.int v) (dl cs m' t) := by
  obtain ⟨cs2, m2, v, g1, g2, g3, g4⟩ := law_any_ok (k := k) (t := t) (m := m) (b := tall) h0 hc (by omega) (by omega)
  refine ⟨cs2, m2, 1 + v, g1, by omega, by omega, ?_⟩
  simp only [ev_bin, ev_k, ev_call hs, evs_cons, evs_nil, ev_v, e0, e2, some_opt, ok_bind, perm2, if_true, g4, settle_dl frz_int, bin_addI]
theorem heights_turn (hs : P.sgs s = some ⟨f0, 2, [], [0, 1]⟩) (h0 : P.fns f0 = some ⟨2, 3, bAny⟩) {tall : Int} {σ : En} {cells : List Int} {m : Int} {x : D} (ht1 : 1 ≤ tall) (ht2 : tall ≤ 1000) (hc : cells.length ≤ 63)
    (e0 : look (put (wipe σ [5]) 5 x) 0 = some (.ref 1)) (e2 : look (put (wipe σ [5]) 5 x) 2 = some (.int tall)) {g : Option D → Hh → Prop} (hg : ∀ cs m' v, cs.length ≤ 63 → 1 ≤ v → v ≤ tall → g (some (.int v)) (dl cs m' t)) :
    wp (turn P (callN P (k + 1)) [5] (.nm 5) .nil (.bin .add (.k (.int 1)) (.call s true (.cons (.v 0) (.cons (.v 2) .nil)))) σ x (dl cells m t)) g NX := by
  obtain ⟨cs2, m2, v, g1, g2, g3, g4⟩ := heights_step (k := k) (t := t) (m := m) hs h0 ht1 ht2 hc e0 e2
  exact turnD (wp_of g4 (hg cs2 m2 v g1 g2 g3))
theorem wp_comp {ws : List Nat} {tg : T} {it c e : E} {σ : En} {xs : List D} {g : Option (Nat × List D)} {Q : List D → Hh → Prop} {E : Nat → D → Hh → Prop} {h1 : Hh} (hi : evI P F it σ h = .ok (xs, g) h1) (hl : xs.length ≤ LINE) (w : wp (cloop (turn P F ws tg c e σ) (fun h => gok h g) xs [] h1) Q E) :
    wp (evN P F (.comp ws tg it c e) σ h) Q E := by
  rw [evN_comp, hi, ok_bind]
  exact wp_rIf.mpr ⟨hl, w⟩
theorem heights_rng {n : Nat} {σ : En} (hn : n ≤ 1000000) (e6 : look σ 6 = some (.int n)) : evI P F (.iRg1 (.v 6)) σ h = .ok ((List.range n).map fun i : Nat => D.int i, none) h := by
  rw [evI_rg1, ev_v, e6, some_opt, ok_bind]
  exact rg1_nat hn
theorem heights_comp (hs : P.sgs s = some ⟨f0, 2, [], [0, 1]⟩) (h0 : P.fns f0 = some ⟨2, 3, bAny⟩) {n : Nat} {tall : Int} {σ : En} {cells : List Int} {m : Int} (hn : n ≤ 1000000) (ht1 : 1 ≤ tall) (ht2 : tall ≤ 1000) (hc : cells.length ≤ 63)
    (e6 : look σ 6 = some (.int n)) (w0 : ∀ x, look (put (wipe σ [5]) 5 x) 0 = some (.ref 1)) (w2 : ∀ x, look (put (wipe σ [5]) 5 x) 2 = some (.int tall)) :
    wp (evN P (callN P (k + 1)) (bHC s) σ (dl cells m t)) (fun ds h' => ∃ cs m' l, ds = l.map D.int ∧ h' = dl cs m' t ∧ cs.length ≤ 63 ∧ InB n tall l) NX := by
  refine wp_comp (heights_rng hn e6) (rng_le hn) ?_
  have i0 : ∃ cs m' l, ([] : List D) = l.map D.int ∧ dl cells m t = dl cs m' t ∧ cs.length ≤ 63 ∧ InB 0 tall l := ⟨cells, m, [], rfl, rfl, hc, rfl, fun x hx => by cases hx⟩
  refine wp_cloop (fun i acc h' => ∃ cs m' l, acc = l.map D.int ∧ h' = dl cs m' t ∧ cs.length ≤ 63 ∧ InB i tall l) ?hg ?hs ?hq i0
  case hg => exact fun _ _ _ _ _ => True.intro
  case hq =>
    intro acc h' z
    obtain ⟨cs, m', l, e1, e2, h1, h2⟩ := z
    refine ⟨cs, m', l, e1, e2, h1, ?_, h2.2⟩
    have := h2.1
    rw [List.length_map, List.length_range] at this
    exact this
  intro i acc h' hi z
  obtain ⟨cs, m', l, e1, e2', h1, h2⟩ := z
  subst e1 e2'
  refine heights_turn hs h0 ht1 ht2 h1 (w0 _) (w2 _) fun cs2 m2 v g1 g2 g3 => ⟨cs2, m2, l ++ [v], by simp, rfl, g1, by simp [h2.1], fun x hx => ?_⟩
  rcases List.mem_append.mp hx with hx | hx
  · exact h2.2 x hx
  · rw [List.mem_singleton.mp hx]
    exact ⟨g2, g3⟩
theorem ixR_ref {r : Nat} {xs : List D} {i : Int} (e : h[r]? = some (.lst xs)) (h0 : 0 ≤ i) (hi : i < xs.length) : ixR h (.ref r) (.int i) = .ok (xs[i.toNat]'(by omega)) h := by
  simp only [ixR, ixD, dctOf_lst e, seqOf_ref e, Option.bind_some]
  rw [atI_int h0 hi, List.getElem?_eq_getElem (by omega), some_opt]
theorem get_new {o : O} : (h ++ [o])[h.length]? = some o := by simp
theorem get_old {o : O} {r : Nat} {x : O} (e : h[r]? = some x) : (h ++ [o])[r]? = some x := by
  rw [List.getElem?_append_left (List.getElem?_eq_some_iff.mp e).1]; exact e
theorem get_set {o o' : O} {r : Nat} (e : h[r]? = some o) : (h.set r o')[r]? = some o' := by
  rw [List.getElem?_set_self (List.getElem?_eq_some_iff.mp e).1]
/-- the deal, what stood, lists of one's own -/
def Own (t : Hh) (h : Hh) : Prop := ∃ cs m v, cs.length ≤ 63 ∧ h = dl cs m (t ++ v)
theorem Own.new {o : O} (w : Own t h) : Own t (h ++ [o]) := by
  obtain ⟨cs, m, v, hc, rfl⟩ := w
  exact ⟨cs, m, v ++ [o], hc, by simp⟩
theorem Own.set {o : O} {r : Nat} (w : Own t h) (hr : t.length + 2 ≤ r) : Own t (h.set r o) := by
  obtain ⟨cs, m, v, hc, rfl⟩ := w
  refine ⟨cs, m, v.set (r - 2 - t.length) o, hc, ?_⟩
  obtain ⟨i, rfl⟩ : ∃ i, r = i + 2 := ⟨r - 2, by omega⟩
  show _ :: _ :: (t ++ v).set i o = _
  rw [List.set_append, if_neg (by omega)]
  rfl
theorem Own.lt {r : Nat} (w : Own t h) : t.length + 2 ≤ h.length := by
  obtain ⟨cs, m, v, hc, rfl⟩ := w
  simp
theorem dl_any {c c' : List Int} {m m' : Int} {r : Nat} (hr : 2 ≤ r) : (dl c m t)[r]? = (dl c' m' t)[r]? := by
  obtain ⟨i, rfl⟩ : ∃ i, r = i + 2 := ⟨r - 2, by omega⟩
  rfl
/-- a call that draws -/
theorem Own.draw (hs : P.sgs s = some ⟨f0, 2, [], [0, 1]⟩) (h0 : P.fns f0 = some ⟨2, 3, bAny⟩) {b : Int} (hb : 0 < b) (hb2 : b < 1073741824) (w : Own t h) :
    ∃ v h', 0 ≤ v ∧ v < b ∧ Own t h' ∧ h'.length = h.length ∧ (∀ r, 2 ≤ r → h'[r]? = h[r]?) ∧ ∀ {σ : En} {x y : E}, ev P (callN P (k + 1)) x σ h = .ok (.ref 1) h → ev P (callN P (k + 1)) y σ h = .ok (.int b) h → ev P (callN P (k + 1)) (.call s true (.cons x (.cons y .nil))) σ h = .ok (.int v) h' := by
  obtain ⟨cs, m, u, hc, rfl⟩ := w
  obtain ⟨cs2, m2, v, g1, g2, g3, g4⟩ := law_any_ok (k := k) (t := t ++ u) (m := m) (b := b) h0 hc hb hb2
  refine ⟨v, dl cs2 m2 (t ++ u), g2, g3, ⟨cs2, m2, u, g1, rfl⟩, by simp, fun r hr => dl_any hr, fun {σ x y} e1 e2 => ?_⟩
  rw [ev_call hs]
  simp only [evs_cons, evs_nil, e1, e2, ok_bind, perm2, some_opt, if_true, g4, settle_dl frz_int]
/-- the end of a function with lists of its own -/
theorem Own.settle {cells : List Int} {m : Int} {d : D} (w : Own t h) (e : ∀ k n, frz (k + 3) h n d = some d) : ∃ cs m', cs.length ≤ 63 ∧ Mx.settle (dl cells m t) (.ok d h) = .ok d (dl cs m' t) := by
  obtain ⟨cs, m', u, hc, rfl⟩ := w
  exact ⟨cs, m', hc, settle_dlT (e 5 _)⟩
/-- the names of _law_heights -/
def fnd (r : Nat) (d1 : D) (tall most n form : Int) (o5 : Option D) : En := [some (.ref 1), some d1, some (.int tall), some (.int most), some (.ref r), o5, some (.int n), some (.int form)]
structure HS (t : Hh) (n : Nat) (tall : Int) (h : Hh) (r : Nat) (l : List Int) : Prop where
  own : Own t h
  le : t.length + 2 ≤ r
  at_ : h[r]? = some (.lst (l.map D.int))
  inb : InB n tall l
theorem h0_ok {n r : Nat} {tall most form : Int} {d1 : D} {o5 : Option D} {l : List Int} (w : HS t n tall h r l) (hn : 1 ≤ n) (hn2 : n ≤ 1000000) :
    ∃ h' r' l', HS t n tall h' r' l' ∧ evS P F bH0 (fnd r d1 tall most n form o5) h = .ok (.nx (fnd r' d1 tall most n form o5)) h' := by
  by_cases hf : form = 0
  · subst hf
    have hll : 0 < l.length := by rw [w.inb.1]; omega
    refine ⟨h ++ [.lst ((List.replicate n l[0]).map D.int)], h.length, List.replicate n l[0], ⟨w.own.new, w.own.lt (r := 0), get_new, by simp, fun x hx => ?_⟩, ?_⟩
    · rw [List.eq_of_mem_replicate hx]
      exact w.inb.2 _ (List.getElem_mem hll)
    · have e1 : ixR h (.ref r) (.int 0) = .ok (.int l[0]) h := by
        rw [ixR_ref w.at_ (by omega) (by simp; omega)]
        simp
      have q : (1 : Nat) ≤ LINE := by decide
      have q2 : -(2 ^ 63) ≤ (n : Int) ∧ (n : Int) < 2 ^ 63 ∧ 1 * (n : Int).toNat ≤ LINE := ⟨by omega, by omega, by rw [Int.toNat_natCast]; unfold LINE; omega⟩
      simp only [bH0, fnd, evS_ite, ev_cmp, ev_v, look_s, look_z, some_opt, ok_bind, ev_k, cmp_eq, eqD_int, decide_true, truth_bl, if_true, evS_set, ev_nlT, ev_nlF, evN_lrep, evN_dis, evs_cons, evs_nil, ev_ix, e1, List.length_cons, List.length_nil, Nat.zero_add, rIf_pos q, lrepR, setT_nm, put_s, put_z]
      rw [rIf_pos q2]
      simp only [ok_bind, some_opt, Int.toNat_natCast, map_rep]
  · refine ⟨h, r, l, w, ?_⟩
    simp [bH0, fnd, hf]
theorem inb_set {n : Nat} {tall v : Int} {l : List Int} {i : Nat} (w : InB n tall l) (hv : 1 ≤ v ∧ v ≤ tall) : InB n tall (l.set i v) :=
  ⟨by rw [List.length_set]; exact w.1, fun x hx => by
    rcases List.mem_or_eq_of_mem_set hx with q | q
    · exact w.2 x q
    · rw [q]; exact hv⟩
theorem h1_ok (hs : P.sgs s = some ⟨f0, 2, [], [0, 1]⟩) (h0 : P.fns f0 = some ⟨2, 3, bAny⟩) {n r : Nat} {tall most form : Int} {d1 : D} {o5 : Option D} {l : List Int} (w : HS t n tall h r l) (hn : 1 ≤ n) (hn2 : n ≤ 1000000) (ht : 1 ≤ tall) :
    ∃ h' r' l', HS t n tall h' r' l' ∧ evS P (callN P (k + 1)) (bH1 s) (fnd r d1 tall most n form o5) h = .ok (.nx (fnd r' d1 tall most n form o5)) h' := by
  by_cases hf : form = 1
  · subst hf
    have w1 : Own t (h ++ [.lst ((List.replicate n (1 : Int)).map D.int)]) := w.own.new
    obtain ⟨v, h2, g1, g2, g3, g4, g5, g6⟩ := w1.draw (k := k) hs h0 (b := n) (by omega) (by omega)
    have hr : 2 ≤ h.length := by have := w.own.lt (r := 0); omega
    have hr2 : t.length + 2 ≤ h.length := w.own.lt (r := 0)
    have a2 : h2[h.length]? = some (.lst ((List.replicate n (1 : Int)).map D.int)) := by rw [g5 _ hr]; exact get_new
    have hv : v.toNat < (List.replicate n (1 : Int)).length := by simp; omega
    refine ⟨h2.set h.length (.lst (((List.replicate n (1 : Int)).set v.toNat tall).map D.int)), h.length, (List.replicate n (1 : Int)).set v.toNat tall, ⟨g3.set hr2, hr2, get_set a2, ?_⟩, ?_⟩
    · exact inb_set ⟨by simp, fun x hx => by rw [List.eq_of_mem_replicate hx]; exact ⟨Int.le_refl _, ht⟩⟩ ⟨ht, Int.le_refl _⟩
    · have q : (1 : Nat) ≤ LINE := by decide
      have q2 : -(2 ^ 63) ≤ (n : Int) ∧ (n : Int) < 2 ^ 63 ∧ 1 * (n : Int).toNat ≤ LINE := ⟨by omega, by omega, by rw [Int.toNat_natCast]; unfold LINE; omega⟩
      have e3 := g6 (σ := [some (.ref 1), some d1, some (.int tall), some (.int most), some (.ref h.length), o5, some (.int n), some (.int 1)]) (x := .v 0) (y := .v 6) (by simp) (by simp)
      have e4 := setItem_ref (v := tall) a2 hv
      rw [Int.toNat_of_nonneg g1] at e4
      simp only [bH1, fnd, evS_ite, ev_cmp, ev_v, look_s, look_z, some_opt, ok_bind, ev_k, cmp_eq, eqD_int, decide_true, truth_bl, if_true, evS_seq, evS_set, ev_nlT, ev_nlF, evN_lrep, evN_dis, evs_cons, evs_nil, List.length_cons, List.length_nil, Nat.zero_add, rIf_pos q, lrepR, setT_nm, put_s, put_z]
      rw [rIf_pos q2]
      simp only [ok_bind, some_opt, Int.toNat_natCast, map_rep, next_nx, evS_setIx, ev_v, look_s, look_z, e3, e4]
  · refine ⟨h, r, l, w, ?_⟩
    simp [bH1, fnd, hf]
theorem hF_ok {n r : Nat} {tall most form : Int} {d1 : D} {o5 : Option D} {l : List Int} (w : HS t n tall h r l) (hn : 1 ≤ n) (hn2 : n ≤ 1000) :
    wp (evS P F bHF (fnd r d1 tall most n form o5) h) (fun fl h' => ∃ o l', HS t n tall h' r l' ∧ fl = .nx (fnd r d1 tall most n form o)) NX := by
  have hi : evI P F (.iRg1 (.bin .mul (.k (.int 12)) (.v 6))) (fnd r d1 tall most n form o5) h = .ok ((List.range (12 * n)).map fun i : Nat => D.int i, none) h := by
    have q : mulOk 12 (n : Int) := .inl (by omega)
    have e : (12 : Int) * (n : Int) = ((12 * n : Nat) : Int) := by simp
    rw [evI_rg1, ev_bin, ev_k, ok_bind, fnd, ev_v]
    simp only [look_s, look_z, some_opt, ok_bind, bin_mulI q, e]
    exact rg1_nat (by omega)
  rw [bHF, evS_for, hi, ok_bind, rIf_pos (rng_le (by omega))]
  refine wp_floop (fun _ σ h' => ∃ o l', HS t n tall h' r l' ∧ σ = fnd r d1 tall most n form o) (fun _ _ _ _ _ => True.intro) (fun i σ h' hi z => ?_) (fun σ h' z => ?_) ⟨o5, l, w, rfl⟩
  · obtain ⟨o, l', w', rfl⟩ := z
    generalize (List.map (fun i : Nat => D.int i) (List.range (12 * n)))[i] = x
    have hl0 : l' ≠ [] := by
      intro z
      have := w'.inb.1
      rw [z] at this
      simp at this
      omega
    by_cases hs : (if (most : Int) > (n : Int) then most else (n : Int)) < l'.sum
    · have hm := maxL_mem hl0
      have hi2 : l'.idxOf (maxL l') < l'.length := List.idxOf_lt_length_of_mem hm
      have hM : 2 ≤ maxL l' := by
        refine Int.not_lt.mp fun z => ?_
        have q := sum_le (c := 1) (ns := l') fun x hx => by have := le_maxL hx; omega
        rw [w'.inb.1] at q
        split at hs <;> omega
      have hM2 := (w'.inb.2 _ hm).2
      have gi : l'[l'.idxOf (maxL l')] = maxL l' := List.getElem_idxOf hi2
      have e1 := item_ref w'.at_ hi2
      have e2 := setItem_ref (v := maxL l' - 1) w'.at_ hi2
      rw [gi] at e1
      have lo : (lstOf h' (.ref r)).isSome = true := by rw [lstOf_ref w'.at_]; rfl
      refine wp_of (a := .nx (fnd r d1 tall most n form (some x))) (h' := h'.set r (.lst ((l'.set (l'.idxOf (maxL l')) (maxL l' - 1)).map D.int))) ?_ ⟨some x, l'.set (l'.idxOf (maxL l')) (maxL l' - 1), ⟨w'.own.set w'.le, w'.le, get_set w'.at_, inb_set w'.inb ⟨by omega, by omega⟩⟩, rfl⟩
      simp [fnd, sum_ref w'.at_, hs, index_ref w'.at_ hm, max1_ref w'.at_ hl0, e1, e2, rIf_pos lo]
    · refine wp_of (a := .nx (fnd r d1 tall most n form (some x))) (h' := h') ?_ ⟨some x, l', w', rfl⟩
      simp [fnd, sum_ref w'.at_, hs]
  · obtain ⟨o, l', w', rfl⟩ := z
    exact ⟨o, l', w', rfl⟩
/-- _law_heights(deal, sizes, tall, most) -/
theorem law_heights_ok (hf : P.fns f = some ⟨4, 8, bHeights s1 s⟩) (hs1 : P.sgs s1 = some ⟨f1, 2, [], [0, 1]⟩) (h1 : P.fns f1 = some ⟨2, 2, bOf s⟩) (hs : P.sgs s = some ⟨f0, 2, [], [0, 1]⟩) (h0 : P.fns f0 = some ⟨2, 3, bAny⟩) {cells sizes : List Int} {m tall most : Int}
    (hc : cells.length ≤ 63) (hz : sizes ≠ []) (hz2 : sizes.length < 1073741824) (hz3 : ∀ x ∈ sizes, 1 ≤ x ∧ x ≤ 1000) (ht : 1 ≤ tall) (ht2 : tall ≤ 1000) :
    ∃ (cs : List Int) (m' : Int) (l : List Int) (u : Hh), cs.length ≤ 63 ∧ (l.length : Int) ∈ sizes ∧ (∀ x ∈ l, 1 ≤ x ∧ x ≤ tall) ∧ callN P (k + 3) f [.ref 1, .fls (sizes.map D.int), .int tall, .int most] (dl cells m t) = .ok (.tup (l.map D.int)) (dl cs m' (t ++ u)) := by
  rw [callN_eq hf rfl]
  obtain ⟨c1, m1, v, g1, g2, g3⟩ := law_of_ok (k := k) (t := t) (m := m) h1 hs h0 hc hz hz2
  obtain ⟨n, rfl⟩ := Int.eq_ofNat_of_zero_le (show 0 ≤ v by have := hz3 v g2; omega)
  have hn := hz3 _ g2
  have hn1 : 1 ≤ n := by omega
  have hn2 : n ≤ 1000 := by omega
  have w0 : Own t (dl c1 m1 t) := ⟨c1, m1, [], g1, by simp⟩
  obtain ⟨form, h2, _, _, w2, _, _, g6⟩ := w0.draw (k := k + 1) hs h0 (b := 5) (by omega) (by omega)
  obtain ⟨c2, m2, u2, hc2, rfl⟩ := w2
  have hF := g6 (σ := [some (.ref 1), some (.fls (sizes.map D.int)), some (.int tall), some (.int most), none, none, none, none]) (x := .v 0) (y := .k (.int 5)) (by simp) (by simp)
  obtain ⟨ds, h3, e3, c3, m3, l3, rfl, rfl, hc3, i3⟩ := wp_get (heights_comp (k := k + 1) (n := n) (t := t ++ u2) (m := m2) (σ := [some (.ref 1), some (.fls (sizes.map D.int)), some (.int tall), some (.int most), none, none, some (.int n), some (.int form)]) hs h0 (by omega) ht ht2 hc2 (by simp) (fun x => by simp [wipe]) (fun x => by simp [wipe]))
  have w3 : HS t n tall (dl c3 m3 (t ++ u2) ++ [.lst (l3.map D.int)]) (dl c3 m3 (t ++ u2)).length l3 := ⟨Own.new ⟨c3, m3, u2, hc3, rfl⟩, by simp, get_new, i3⟩
  obtain ⟨h4, r4, l4, w4, e4⟩ := h0_ok (P := P) (F := callN P (k + 2)) (most := most) (form := form) (d1 := .fls (sizes.map D.int)) (o5 := none) w3 hn1 (by omega)
  obtain ⟨h5, r5, l5, w5, e5⟩ := h1_ok (k := k + 1) (most := most) (form := form) (d1 := .fls (sizes.map D.int)) (o5 := none) hs h0 w4 hn1 (by omega) ht
  obtain ⟨fl6, h6, e6, o6, l6, w6, rfl⟩ := wp_get (hF_ok (P := P) (F := callN P (k + 2)) (most := most) (form := form) (d1 := .fls (sizes.map D.int)) (o5 := none) w5 hn1 hn2)
  obtain ⟨cs, m6, u6, hc6, rfl⟩ := w6.own
  refine ⟨cs, m6, l6, u6, hc6, by rw [w6.inb.1]; exact g2, fun x hx => w6.inb.2 x hx, ?_⟩
  have q : (2 : Nat) ≤ LINE := by decide
  unfold fnd at e4 e5 e6
  have e7 : ev P (callN P (k + 2)) (.call s1 true (.cons (.v 0) (.cons (.v 1) .nil))) [some (.ref 1), some (.fls (sizes.map D.int)), some (.int tall), some (.int most), none, none, none, none] (dl cells m t) = .ok (.int n) (dl c1 m1 t) := by
    rw [ev_call hs1]
    simp only [evs_cons, evs_nil, ev_v, look_s, look_z, some_opt, ok_bind, perm2, if_true, g3, settle_dl frz_int]
  have e8 := tuple_ref w6.at_
  simp only [bHeights, List.map_cons, List.map_nil, List.length_cons, List.length_nil, List.cons_append, List.nil_append, List.replicate, evS_seq, evS_set, ev_tup, evs_cons, evs_nil, e7, hF, ok_bind, some_opt, rIf_pos q, setT_tp, setTs_cons, setTs_nil, setT_nm, Option.bind_some, put_s, put_z, next_nx, ev_nlT, e3, e4, e5, e6, evS_ret, ev_bi, ev_v, look_s, look_z, e8, endR_rt]
end
end Mx.Pl
set_option Elab.async false
set_option linter.all false
set_option maxRecDepth 100000
set_option maxHeartbeats 1000000
/-! Pg: yards. -/
namespace Mx.Pl
open PySem
/-- how much stands above f -/
def exc (f : Int) (xs : List Int) : Int := (xs.map fun x => if x - f > 0 then x - f else 0).sum
section
variable {P : Pg} {F : Ph} {h t u : Hh} {k f f0 f1 f2 f3 f4 f5 f6 s s0 s1 s2 s3 s4 s5 s6 cY cI cS : Nat} {α : Type}
theorem ll {n : Nat} (h : n ≤ 1000000) : n ≤ LINE := by unfold LINE; omega
def bPlaces (cY : Nat) : S := .ret (.bi .sum (.cons (.fld [cY] (.v 0) 0) .nil))
theorem places_eq (hf : P.fns f = some ⟨1, 1, bPlaces cY⟩) (hs : List Int) : callN P (k + 1) f [.obj cY [.tup (hs.map D.int)]] h = .ok (.int hs.sum) h := by
  rw [callN_eq hf rfl]
  simp [bPlaces]
def bRow (s3 s4 cY : Nat) (w : Str) : S :=
  .seq (.ex (.call s3 true (.cons (.v 1) (.cons (.bin .add (.call s4 true (.cons (.v 0) .nil)) (.k (.int 1))) (.cons (.k (.str w)) .nil)))))
  (.seq (.set (.nm 2) (.bin .sub (.call s4 true (.cons (.v 0) .nil)) (.v 1)))
  (.ret (.bi .tuple (.cons (.nl false (.comp [3] (.nm 3) (.iSeq (.fld [cY] (.v 0) 0)) .nil (.bi .max2 (.cons (.k (.int 0)) (.cons (.bin .sub (.v 3) (.v 2)) .nil))))) .nil))))
theorem deep_row_eq {w : Str} (hf : P.fns f = some ⟨2, 4, bRow s3 s4 cY w⟩) (hs3 : P.sgs s3 = some ⟨f3, 3, [], [0, 1, 2]⟩) (h3 : P.fns f3 = some ⟨3, 3, bNeed s1 cS⟩) (hs1 : P.sgs s1 = some ⟨f1, 2, [], [0, 1]⟩) (h1 : P.fns f1 = some ⟨2, 2, bBelow s0⟩)
    (hs0 : P.sgs s0 = some ⟨f0, 1, [], [0]⟩) (h0 : P.fns f0 = some ⟨1, 1, bInt⟩) (hs4 : P.sgs s4 = some ⟨f4, 1, [], [0]⟩) (h4 : P.fns f4 = some ⟨1, 1, bPlaces cY⟩) (hs : List Int) (hl : hs.length ≤ 1000) {b : Int} (hb : 0 ≤ b) (hb2 : b ≤ hs.sum) :
    callN P (k + 4) f [.obj cY [.tup (hs.map D.int)], .int b] h = .ok (.tup ((hs.map fun x => if x - (hs.sum - b) > 0 then x - (hs.sum - b) else 0).map D.int)) h := by
  rw [callN_eq hf rfl]
  have e4 : ∀ {k : Nat} {σ : En}, look σ 0 = some (.obj cY [.tup (hs.map D.int)]) → ev P (callN P (k + 1)) (.call s4 true (.cons (.v 0) .nil)) σ h = .ok (.int hs.sum) h := fun {k σ} e => by
    rw [ev_call hs4]
    simp only [evs_cons, evs_nil, ev_v, e, some_opt, ok_bind, perm1, if_true, places_eq h4, settle_int]
  have e5 : ev P (callN P (k + 3)) (.nl false (.comp [3] (.nm 3) (.iSeq (.fld [cY] (.v 0) 0)) .nil (.bi .max2 (.cons (.k (.int 0)) (.cons (.bin .sub (.v 3) (.v 2)) .nil))))) [some (.obj cY [.tup (hs.map D.int)]), some (.int b), some (.int (hs.sum - b)), none] h =
      .ok (.fls ((hs.map fun x => if x - (hs.sum - b) > 0 then x - (hs.sum - b) else 0).map D.int)) h := by
    rw [ev_nlF, comp_ints (ns := hs) (g := none) (p := fun x => if x - (hs.sum - b) > 0 then x - (hs.sum - b) else 0) ?_ (ll (by omega)) trivial fun n hn => ?_]
    · simp only [ok_bind]
    · simp [iterOf]
    · simp [wipe]
  have c : 0 ≤ b ∧ b < hs.sum + 1 := ⟨hb, by omega⟩
  simp only [bRow, List.map_cons, List.map_nil, List.length_cons, List.length_nil, List.cons_append, List.nil_append, List.replicate, evS_seq, evS_ex, ev_call hs3, evs_cons, evs_nil, ev_v, look_s, look_z, some_opt, ok_bind, ev_bin, e4, ev_k, bin_addI, perm3, if_true, need_eq h3 hs1 h1 hs0 h0, c, and_self, settle_non, next_nx, evS_set, bin_subI, setT_nm, put_s, put_z, evS_ret, ev_bi, e5, bi_tupleF, endR_rt]
def bCount (s5 : Nat) : S := .ret (.bi .sum (.cons (.call s5 true (.cons (.v 0) (.cons (.v 1) .nil))) .nil))
/-- what a package has of yards -/
structure Yd (P : Pg) (cY : Nat) where
  s0 : Nat
  f0 : Nat
  s1 : Nat
  f1 : Nat
  s3 : Nat
  f3 : Nat
  s4 : Nat
  f4 : Nat
  s5 : Nat
  f5 : Nat
  s6 : Nat
  f6 : Nat
  cS : Nat
  w : Str
  hs0 : P.sgs s0 = some ⟨f0, 1, [], [0]⟩
  h0 : P.fns f0 = some ⟨1, 1, bInt⟩
  hs1 : P.sgs s1 = some ⟨f1, 2, [], [0, 1]⟩
  h1 : P.fns f1 = some ⟨2, 2, bBelow s0⟩
  hs3 : P.sgs s3 = some ⟨f3, 3, [], [0, 1, 2]⟩
  h3 : P.fns f3 = some ⟨3, 3, bNeed s1 cS⟩
  hs4 : P.sgs s4 = some ⟨f4, 1, [], [0]⟩
  h4 : P.fns f4 = some ⟨1, 1, bPlaces cY⟩
  hs5 : P.sgs s5 = some ⟨f5, 2, [], [0, 1]⟩
  h5 : P.fns f5 = some ⟨2, 4, bRow s3 s4 cY w⟩
  hs6 : P.sgs s6 = some ⟨f6, 2, [], [0, 1]⟩
  h6 : P.fns f6 = some ⟨2, 2, bCount s5⟩
theorem deep_count_eq (y : Yd P cY) (hs : List Int) (hl : hs.length ≤ 1000) {b : Int} (hb : 0 ≤ b) (hb2 : b ≤ hs.sum) : callN P (k + 5) y.f6 [.obj cY [.tup (hs.map D.int)], .int b] h = .ok (.int (exc (hs.sum - b) hs)) h := by
  rw [callN_eq y.h6 rfl]
  simp only [bCount, List.map_cons, List.map_nil, List.length_cons, List.length_nil, List.cons_append, List.nil_append, List.replicate, evS_ret, ev_bi, evs_cons, evs_nil, ev_call y.hs5, ev_v, look_s, look_z, some_opt, ok_bind, perm2, if_true, deep_row_eq y.h5 y.hs3 y.h3 y.hs1 y.h1 y.hs0 y.h0 y.hs4 y.h4 hs hl hb hb2, settle_tupI, bi_sumT, endR_rt]
  rfl
def bCarries (s4 s6 : Nat) : S :=
  .seq (.set (.nm 2) (.call s4 true (.cons (.v 1) .nil)))
  (.ret (.and_ (.cmp .ge (.call s4 true (.cons (.v 0) .nil)) (.v 2)) (.bi .all (.cons (.nl false (.comp [3] (.nm 3) (.iRg1 (.v 2)) .nil (.cmp .le (.call s6 true (.cons (.v 0) (.cons (.v 3) .nil))) (.call s6 true (.cons (.v 1) (.cons (.v 3) .nil)))))) .nil))))
theorem asB_true : ∀ n : Nat, asB (List.replicate n (.bl true)) = some (List.replicate n true)
  | 0 => rfl
  | n + 1 => by simp only [List.replicate_succ, asB, asB_true n, Option.map_some]
/-- a yard that is better everywhere carries out all -/
theorem carries_eq (y : Yd P cY) (hf : P.fns f = some ⟨2, 4, bCarries y.s4 y.s6⟩) {as bs : List Int} (ha : as.length ≤ 1000) (hb : bs.length ≤ 1000) (hs : as.sum = bs.sum) (hs0 : 0 ≤ bs.sum) (hs1 : bs.sum ≤ 1000000) (he : ∀ f, 0 ≤ f → exc f as ≤ exc f bs) :
    callN P (k + 6) f [.obj cY [.tup (as.map D.int)], .obj cY [.tup (bs.map D.int)]] h = .ok (.bl true) h := by
  obtain ⟨n, hn⟩ := Int.eq_ofNat_of_zero_le hs0
  have hn2 : n ≤ 1000000 := by omega
  rw [callN_eq hf rfl]
  have e4 : ∀ {i : Nat} {xs : List Int} {σ : En}, look σ i = some (.obj cY [.tup (xs.map D.int)]) → ev P (callN P (k + 5)) (.call y.s4 true (.cons (.v i) .nil)) σ h = .ok (.int xs.sum) h := fun {i xs σ} e => by
    rw [ev_call y.hs4]
    simp only [evs_cons, evs_nil, ev_v, e, some_opt, ok_bind, perm1, if_true, places_eq y.h4, settle_int]
  have e6 : ∀ {i : Nat} {xs : List Int} {σ : En} {b : Int}, look σ i = some (.obj cY [.tup (xs.map D.int)]) → look σ 3 = some (.int b) → xs.length ≤ 1000 → 0 ≤ b → b ≤ xs.sum → ev P (callN P (k + 5)) (.call y.s6 true (.cons (.v i) (.cons (.v 3) .nil))) σ h = .ok (.int (exc (xs.sum - b) xs)) h := fun {i xs σ b} e e3 q1 q2 q3 => by
    rw [ev_call y.hs6]
    simp only [evs_cons, evs_nil, ev_v, e, e3, some_opt, ok_bind, perm2, if_true, deep_count_eq y xs q1 q2 q3, settle_int]
  have e5 : ev P (callN P (k + 5)) (.nl false (.comp [3] (.nm 3) (.iRg1 (.v 2)) .nil (.cmp .le (.call y.s6 true (.cons (.v 0) (.cons (.v 3) .nil))) (.call y.s6 true (.cons (.v 1) (.cons (.v 3) .nil)))))) [some (.obj cY [.tup (as.map D.int)]), some (.obj cY [.tup (bs.map D.int)]), some (.int n), none] h =
      .ok (.fls (List.replicate n (.bl true))) h := by
    have er : evI P (callN P (k + 5)) (.iRg1 (.v 2)) [some (.obj cY [.tup (as.map D.int)]), some (.obj cY [.tup (bs.map D.int)]), some (.int n), none] h = .ok ((List.range n).map fun i : Nat => D.int i, none) h := by
      rw [evI_rg1, ev_v]
      simp only [look_s, look_z, some_opt, ok_bind]
      exact rg1_nat hn2
    rw [ev_nlF, comp_pure (p := fun _ => some (.bl true)) er (rng_le hn2) trivial fun x hx => ?_]
    · have : ((List.range n).map fun i : Nat => D.int i).filterMap (fun _ => some (D.bl true)) = List.replicate n (D.bl true) := by
        rw [filterMap_some, List.map_map]
        show List.map (fun _ => D.bl true) (List.range n) = _
        rw [List.map_const', List.length_range]
      rw [this]
      simp only [ok_bind]
    · obtain ⟨i, hi, rfl⟩ := List.mem_map.mp hx
      have hi : i < n := by simpa using hi
      have le := he (bs.sum - i) (by omega)
      rw [turn_nm]
      have σ3 : put (wipe [some (.obj cY [.tup (as.map D.int)]), some (.obj cY [.tup (bs.map D.int)]), some (.int n), none] [3]) 3 (.int i) = [some (.obj cY [.tup (as.map D.int)]), some (.obj cY [.tup (bs.map D.int)]), some (.int n), some (.int i)] := rfl
      rw [σ3, ev_cmp, e6 (xs := as) (b := i) (by simp) (by simp) ha (by omega) (by omega)]
      simp only [ok_bind]
      rw [e6 (xs := bs) (b := i) (by simp) (by simp) hb (by omega) (by omega)]
      rw [hs]
      simp only [ok_bind, cmp_le, le, decide_true, some_opt, quiet_ok]
  have e7 : biD h .all [.fls (List.replicate n (.bl true))] = .ok (.bl true) h := by
    simp [biD, biAll, lstOf, asB_true]
  have e4a := e4 (i := 1) (xs := bs) (σ := [some (.obj cY [.tup (as.map D.int)]), some (.obj cY [.tup (bs.map D.int)]), none, none]) (by simp)
  have e4b := e4 (i := 0) (xs := as) (σ := [some (.obj cY [.tup (as.map D.int)]), some (.obj cY [.tup (bs.map D.int)]), some (.int n), none]) (by simp)
  rw [hn] at e4a
  rw [hs, hn] at e4b
  simp only [bCarries, List.map_cons, List.map_nil, List.length_cons, List.length_nil, List.cons_append, List.nil_append, List.replicate, evS_seq, evS_set, e4a, ok_bind, setT_nm, some_opt, put_s, put_z, next_nx, evS_ret, ev_and, ev_cmp, e4b, ev_v, look_s, look_z, cmp_ge, Int.le_refl, decide_true, truth_bl, if_true, ev_bi, evs_cons, evs_nil, e5, e7, endR_rt]
end
end Mx.Pl
set_option Elab.async false
set_option linter.all false
set_option maxRecDepth 100000
set_option maxHeartbeats 1000000
/-! Ph: laying places, plainly. -/
namespace Mx.Pl
theorem exc_cons {f x : Int} {xs : List Int} : exc f (x :: xs) = (if x - f > 0 then x - f else 0) + exc f xs := by simp [exc]
theorem exc_nil {f : Int} : exc f [] = 0 := rfl
theorem exc_app {f : Int} {xs ys : List Int} : exc f (xs ++ ys) = exc f xs + exc f ys := by simp [exc]
theorem exc_set {f v : Int} : ∀ {xs : List Int} {i : Nat} (hi : i < xs.length), exc f (xs.set i v) = exc f xs - (if xs[i] - f > 0 then xs[i] - f else 0) + (if v - f > 0 then v - f else 0)
  | x :: xs, 0, _ => by simp [exc_cons]; omega
  | x :: xs, i + 1, hi => by
    have := exc_set (f := f) (v := v) (xs := xs) (i := i) (by simpa using hi)
    simp only [List.set_cons_succ, exc_cons, this, List.getElem_cons_succ]
    omega
theorem exc_nonneg {f : Int} : ∀ xs : List Int, 0 ≤ exc f xs
  | [] => by simp [exc]
  | x :: xs => by
    have := exc_nonneg (f := f) xs
    rw [exc_cons]
    split <;> omega
theorem exc_zero {f : Int} : ∀ {xs : List Int}, (∀ x ∈ xs, x ≤ f) → exc f xs = 0
  | [], _ => rfl
  | x :: xs, q => by
    have h1 := q x List.mem_cons_self
    rw [exc_cons, exc_zero fun y hy => q y (List.mem_cons_of_mem _ hy), if_neg (by omega)]
    rfl
theorem le_exc {f : Int} : ∀ xs : List Int, xs.sum - xs.length * f ≤ exc f xs
  | [] => by simp [exc]
  | x :: xs => by
    have := le_exc (f := f) xs
    have e : ((xs.length + 1 : Nat) : Int) * f = xs.length * f + f := by rw [Int.natCast_add, Int.add_mul]; simp
    rw [exc_cons, List.sum_cons, List.length_cons, e]
    split <;> omega
theorem exc_eq {f : Int} : ∀ {xs : List Int}, (∀ x ∈ xs, f ≤ x) → exc f xs = xs.sum - xs.length * f
  | [], _ => by simp [exc]
  | x :: xs, q => by
    have h1 := q x List.mem_cons_self
    have := exc_eq (f := f) (xs := xs) fun y hy => q y (List.mem_cons_of_mem _ hy)
    have e : ((xs.length + 1 : Nat) : Int) * f = xs.length * f + f := by rw [Int.natCast_add, Int.add_mul]; simp
    rw [exc_cons, List.sum_cons, List.length_cons, e, this]
    split <;> omega
/-- o is nowhere below l -/
def Ge (o l : List Int) : Prop := o.length = l.length ∧ ∀ (i : Nat) (h1 : i < o.length) (h2 : i < l.length), l[i] ≤ o[i]
theorem Ge.refl (l : List Int) : Ge l l := ⟨rfl, fun _ _ _ => Int.le_refl _⟩
theorem Ge.tail {x y : Int} {o l : List Int} (g : Ge (x :: o) (y :: l)) : Ge o l := ⟨by simpa using g.1, fun i h1 h2 => by
  have := g.2 (i + 1) (by simp; omega) (by simp; omega)
  simpa using this⟩
theorem Ge.exc {f : Int} : ∀ {o l : List Int}, Ge o l → exc f l ≤ exc f o
  | [], [], _ => Int.le_refl _
  | x :: o, y :: l, g => by
    have h1 := g.2 0 (by simp) (by simp)
    have h2 := Ge.exc (f := f) g.tail
    simp at h1
    rw [exc_cons, exc_cons]
    split <;> split <;> omega
  | [], _ :: _, g => by simp [Ge] at g
  | _ :: _, [], g => by simp [Ge] at g
theorem Ge.sum : ∀ {o l : List Int}, Ge o l → l.sum ≤ o.sum
  | [], [], _ => Int.le_refl _
  | x :: o, y :: l, g => by
    have h1 := g.2 0 (by simp) (by simp)
    have h2 := Ge.sum g.tail
    simp at h1
    rw [List.sum_cons, List.sum_cons]
    omega
  | [], _ :: _, g => by simp [Ge] at g
  | _ :: _, [], g => by simp [Ge] at g
/-- raise the first least one -/
def lev1 (l : List Int) : List Int := l.set (l.idxOf (minL l)) (minL l + 1)
def levN : Nat → List Int → List Int
  | 0, l => l
  | m + 1, l => levN m (lev1 l)
theorem lev1_len {l : List Int} : (lev1 l).length = l.length := by simp [lev1]
theorem levN_len : ∀ {m : Nat} {l : List Int}, (levN m l).length = l.length
  | 0, _ => rfl
  | m + 1, l => by rw [levN, levN_len, lev1_len]
theorem min_at {l : List Int} (hn : l ≠ []) : ∃ hi : l.idxOf (minL l) < l.length, l[l.idxOf (minL l)] = minL l :=
  ⟨List.idxOf_lt_length_of_mem (minL_mem hn), List.getElem_idxOf _⟩
theorem lev1_sum {l : List Int} (hn : l ≠ []) : (lev1 l).sum = l.sum + 1 := by
  obtain ⟨hi, e⟩ := min_at hn
  rw [lev1, sum_set hi, e]
  omega
theorem levN_sum : ∀ {m : Nat} {l : List Int}, l ≠ [] → (levN m l).sum = l.sum + m
  | 0, _, _ => by simp [levN]
  | m + 1, l, hn => by
    have : lev1 l ≠ [] := fun z => hn (List.length_eq_zero_iff.mp (by rw [← lev1_len, z]; rfl))
    rw [levN, levN_sum this, lev1_sum hn]
    push_cast
    omega
theorem lev1_ge {l : List Int} (hn : l ≠ []) : Ge (lev1 l) l := by
  obtain ⟨hi, e⟩ := min_at hn
  refine ⟨lev1_len, fun i h1 h2 => ?_⟩
  simp only [lev1, List.getElem_set]
  split
  · rename_i q
    subst q
    rw [e]
    omega
  · exact Int.le_refl _
/-- THE LAW of laying places: nothing is better than the lowest ones first -/
theorem lev_best {f : Int} : ∀ {m : Nat} {l o : List Int}, l ≠ [] → Ge o l → o.sum = l.sum + m → exc f (levN m l) ≤ exc f o
  | 0, l, o, _, g, _ => g.exc
  | m + 1, l, o, hn, g, hs => by
    obtain ⟨hi, e⟩ := min_at hn
    have hn' : lev1 l ≠ [] := fun z => hn (List.length_eq_zero_iff.mp (by rw [← lev1_len, z]; rfl))
    have hsl := lev1_sum hn
    have hp : l.idxOf (minL l) < o.length := by rw [g.1]; exact hi
    have gp := g.2 _ hp hi
    rw [e] at gp
    by_cases hgt : minL l < o[l.idxOf (minL l)]
    · -- it is raised in o, too
      refine lev_best (m := m) hn' ⟨by rw [lev1_len]; exact g.1, fun i h1 h2 => ?_⟩ (by rw [hs, hsl]; push_cast; omega)
      simp only [lev1, List.getElem_set]
      split
      · rename_i q
        subst q
        omega
      · exact g.2 i h1 (by simpa [lev1] using h2)
    · have ep : o[l.idxOf (minL l)] = minL l := by omega
      -- another one is higher than in l
      obtain ⟨q, hq1, hq2, hq⟩ : ∃ (q : Nat) (h1 : q < o.length) (h2 : q < l.length), l[q] < o[q] := by
        refine Classical.byContradiction fun z => ?_
        have g2 : Ge l o := ⟨g.1.symm, fun i h1 h2 => Int.not_lt.mp fun w => z ⟨i, h2, h1, w⟩⟩
        have := g2.sum
        rw [hs] at this
        push_cast at this
        omega
      have hmin : minL l ≤ l[q] := minL_le (List.getElem_mem hq2)
      have hne : q ≠ l.idxOf (minL l) := fun z => by
        subst z
        rw [e, ep] at hq
        omega
      have hp2 : l.idxOf (minL l) < (o.set q (o[q] - 1)).length := by simpa using hp
      have gp2 : (o.set q (o[q] - 1))[l.idxOf (minL l)] = minL l := by rw [List.getElem_set_ne hne, ep]
      have s1 := sum_set (v := o[q] - 1) hq1
      have s2 := sum_set (v := minL l + 1) hp2
      have x1 := exc_set (f := f) (v := o[q] - 1) hq1
      have x2 := exc_set (f := f) (v := minL l + 1) hp2
      rw [gp2] at s2 x2
      refine Int.le_trans (lev_best (m := m) (l := lev1 l) (o := (o.set q (o[q] - 1)).set (l.idxOf (minL l)) (minL l + 1)) hn' ⟨by simp [lev1_len, g.1], fun i h1 h2 => ?_⟩ ?_) ?_
      · simp only [lev1, List.getElem_set]
        split
        · exact Int.le_refl _
        · split
          · rename_i w
            subst w
            omega
          · exact g.2 i (by simpa using h1) (by simpa [lev1] using h2)
      · rw [s2, s1, hs, hsl]
        push_cast
        omega
      · rw [x2, x1]
        split <;> split <;> split <;> split <;> omega
/-- as even as can be -/
def evn (t n : Int) : List Int := List.replicate (t % n).toNat (t / n + 1) ++ List.replicate (n - t % n).toNat (t / n)
theorem evn_len {t n : Int} (hn : 0 < n) : ((evn t n).length : Int) = n := by
  have h1 := Int.emod_nonneg t (show n ≠ 0 by omega)
  have h2 := Int.emod_lt_of_pos t hn
  simp [evn]
  omega
theorem sum_rep {n : Nat} {x : Int} : (List.replicate n x).sum = n * x := by
  induction n with
  | zero => simp
  | succ n ih => rw [List.replicate_succ, List.sum_cons, ih]; push_cast; rw [Int.add_mul]; omega
theorem evn_sum {t n : Int} (hn : 0 < n) : (evn t n).sum = t := by
  have h1 := Int.emod_nonneg t (show n ≠ 0 by omega)
  have h2 := Int.emod_lt_of_pos t hn
  have h3 := Int.emod_add_mul_ediv t n
  rw [evn, List.sum_append, sum_rep, sum_rep, Int.toNat_of_nonneg h1, Int.toNat_of_nonneg (by omega), Int.mul_add, Int.sub_mul]
  omega
theorem evn_mem {t n x : Int} (hx : x ∈ evn t n) : t / n ≤ x ∧ x ≤ t / n + 1 := by
  rcases List.mem_append.mp hx with q | q
  · rw [List.eq_of_mem_replicate q]; omega
  · rw [List.eq_of_mem_replicate q]; omega
theorem evn_best {t n f : Int} {row : List Int} (hn : 0 < n) (hf : 0 ≤ f) (hl : (row.length : Int) ≤ n) (hs : row.sum = t) : exc f (evn t n) ≤ exc f row := by
  by_cases q : f ≤ t / n
  · have e := exc_eq (f := f) (xs := evn t n) fun x hx => Int.le_trans q (evn_mem hx).1
    have l := le_exc (f := f) row
    rw [e, evn_sum hn, evn_len hn]
    have : (row.length : Int) * f ≤ n * f := Int.mul_le_mul_of_nonneg_right hl hf
    omega
  · rw [exc_zero (f := f) (xs := evn t n) fun x hx => by have := (evn_mem hx).2; omega]
    exact exc_nonneg row
end Mx.Pl
set_option Elab.async false
set_option linter.all false
set_option maxRecDepth 100000
set_option maxHeartbeats 1000000
/-! Pi: yards made. -/
namespace Mx.Pl
open PySem
/-- .. and of making them -/
structure Yd2 (P : Pg) (cY : Nat) extends Yd P cY where
  s2 : Nat
  f2 : Nat
  fY : Nat
  cI : Nat
  sm : Nat
  hs2 : P.sgs s2 = some ⟨f2, 1, [], [0]⟩
  h2 : P.fns f2 = some ⟨1, 1, bSeq⟩
  hm : P.mks sm = some (cY, ⟨fY, 1, [], [0, 1]⟩)
  hY : P.fns fY = some ⟨2, 4, bYard s2 s1 cI cY⟩
section
variable {P : Pg} {F : Ph} {h t u : Hh} {k f f0 f1 f2 f3 f4 f5 f6 f7 f8 s s0 s1 s2 s3 s4 s5 s6 s7 s8 cY cI cS : Nat} {α : Type}
theorem mk_eq (y : Yd2 P cY) {e : E} {σ : En} {d : D} {o : Option (Nat × List D)} {hs : List Int} {h0 : Hh} (he : ev P (callN P (k + 3)) e σ h0 = .ok d h) (yh : YardH hs) (sq : IsSq h (hs.map D.int) d o) :
    ev P (callN P (k + 3)) (.mk y.sm (.cons e .nil)) σ h0 = .ok (.obj cY [.tup (hs.map D.int)]) h := by
  rw [ev_mk y.hm]
  simp only [evs_cons, evs_nil, he, ok_bind, perm2, some_opt]
  exact mk_yard (es := .nil) (σ := []) y.hm y.hY y.hs2 y.h2 y.hs1 y.h1 y.hs0 y.h0 yh sq
theorem frz_yard {k n : Nat} {hs : List Int} : frz (k + 3) h n (.obj cY [.tup (hs.map D.int)]) = some (.obj cY [.tup (hs.map D.int)]) := frz_objI
theorem settle_yard {hs : List Int} : settle h (.ok (.obj cY [.tup (hs.map D.int)]) h) = .ok (.obj cY [.tup (hs.map D.int)]) h := settle_ok frz_yard
theorem settle_app {d : D} (e : frz 8 (h ++ u) h.length d = some d) : settle h (.ok d (h ++ u)) = .ok d h := by
  simp only [settle, e]
  rw [rIf_pos ⟨by simp, settled_app⟩]
  simp
def bEven : S := .seq (.ite (.cmp .eq (.v 1) (.k (.int 0))) (.ret (.tup .nil)) .nop)
  (.seq (.set (.tp (.cons (.nm 2) (.cons (.nm 3) .nil))) (.bi .divmod (.cons (.v 0) (.cons (.v 1) .nil))))
  (.ret (.bin .add (.bin .mul (.tup (.cons (.bin .add (.v 2) (.k (.int 1))) .nil)) (.v 3)) (.bin .mul (.tup (.cons (.v 2) .nil)) (.bin .sub (.v 1) (.v 3))))))
theorem even_eq (hf : P.fns f = some ⟨2, 4, bEven⟩) {tot st : Int} (h1 : 0 < st) (h2 : st ≤ 1000) : callN P (k + 1) f [.int tot, .int st] h = .ok (.tup ((evn tot st).map D.int)) h := by
  have m1 := Int.emod_nonneg tot (show st ≠ 0 by omega)
  have m2 := Int.emod_lt_of_pos tot h1
  have q0 : biD h .divmod [.int tot, .int st] = .ok (.tup [.int (tot / st), .int (tot % st)]) h := rIf_pos ⟨h1, by omega⟩ _
  have q : (1 : Nat) ≤ LINE := by decide
  have q1 := bin_mulT (h := h) (xs := [.int (tot / st + 1)]) (n := tot % st) ⟨by omega, by omega, by show 1 ≤ 1000; decide⟩
  have q2 := bin_mulT (h := h) (xs := [.int (tot / st)]) (n := st - tot % st) ⟨by omega, by omega, by show 1 ≤ 1000; decide⟩
  have q3 := bin_addT (h := h) (xs := (List.replicate (tot % st).toNat (tot / st + 1)).map D.int) (ys := (List.replicate (st - tot % st).toNat (tot / st)).map D.int) (by simp; unfold LINE; omega)
  have q4 : ¬ st = 0 := by omega
  rw [callN_eq hf rfl]
  simp only [bEven, List.map_cons, List.map_nil, List.length_cons, List.length_nil, List.cons_append, List.nil_append, List.replicate, evS_seq, evS_ite, ev_cmp, ev_v, look_s, look_z, some_opt, ok_bind, ev_k, cmp_eq, eqD_int, q4, decide_false, truth_bl, Bool.false_eq_true, if_false, evS_nop, next_nx, evS_set, ev_bi, evs_cons, evs_nil, q0, setT_tp, setTs_cons, setTs_nil, setT_nm, Option.bind_some, put_s, put_z, evS_ret, ev_bin, ev_tup, bin_addI, bin_subI, Nat.zero_add, rIf_pos q, q1, q2, map_rep, q3, endR_rt, evn, List.map_append]
def wStacks : Str := PySem.Str.ofString "stacks"
def wTotal : Str := PySem.Str.ofString "total"
def wMore : Str := PySem.Str.ofString "more"
def bNeedT (s0 cS : Nat) : S := .seq (.ite (.or_ (.not_ (.call s0 true (.cons (.v 1) .nil))) (.not_ (.ch .le .le (.g (PySem.Str.ofString "FEWEST") (.int 3)) (.v 1) (.g (PySem.Str.ofString "MOST") (.int 12))))) (.raise_ cS (.k (.str wStacks))) .nop)
  (.ite (.or_ (.not_ (.call s0 true (.cons (.v 0) .nil))) (.not_ (.ch .le .le (.v 1) (.v 0) (.bin .mul (.g (PySem.Str.ofString "MOST") (.int 12)) (.v 1))))) (.raise_ cS (.k (.str wTotal))) .nop)
theorem need_total_eq (hf : P.fns f = some ⟨2, 2, bNeedT s0 cS⟩) (hs0 : P.sgs s0 = some ⟨f0, 1, [], [0]⟩) (h0 : P.fns f0 = some ⟨1, 1, bInt⟩) (tot st : Int) : callN P (k + 2) f [.int tot, .int st] h =
    if 3 ≤ st ∧ st ≤ 12 then (if st ≤ tot ∧ tot ≤ 12 * st then .ok .non h else .exc cS (.str wTotal) h) else .exc cS (.str wStacks) h := by
  have q : mulOk 12 st := .inl (by omega)
  rw [callN_eq hf rfl]
  by_cases a : 3 ≤ st <;> by_cases b : st ≤ 12 <;> by_cases c : st ≤ tot <;> by_cases d : tot ≤ 12 * st <;> simp [bNeedT, ev_call hs0, is_integer_eq h0, settle_bl, bin_mulI q, a, b, c, d]
theorem frzW {k n : Nat} {w : Str} : frz (k + 1) h n (.str w) = some (.str w) := frz_str
def bBest (s7 s8 sm : Nat) : S := .seq (.ex (.call s7 true (.cons (.v 0) (.cons (.v 1) .nil)))) (.ret (.mk sm (.cons (.call s8 true (.cons (.v 0) (.cons (.v 1) .nil))) .nil)))
theorem yardH_evn {tot st : Int} (h1 : 3 ≤ st ∧ st ≤ 12) (h2 : st ≤ tot ∧ tot ≤ 12 * st) : YardH (evn tot st) := by
  have l := evn_len (t := tot) (n := st) (by omega)
  have d1 : 1 ≤ tot / st := (Int.le_ediv_iff_mul_le (by omega)).mpr (by omega)
  have d2 : tot / st ≤ 12 := Int.ediv_le_of_le_mul (by omega) h2.2
  refine ⟨by omega, by omega, fun x hx => ?_⟩
  have m := evn_mem hx
  refine ⟨by omega, ?_⟩
  by_cases e : tot / st = 12
  · -- then nothing is left over
    have e3 := Int.emod_add_mul_ediv tot st
    rw [e] at e3
    have m1 := Int.emod_nonneg tot (show st ≠ 0 by omega)
    have e4 : tot % st = 0 := by
      have : st * 12 = 12 * st := Int.mul_comm _ _
      omega
    rw [evn, e4, e] at hx
    simp at hx
    omega
  · omega
theorem best_eq (y : Yd2 P cY) (hf : P.fns f = some ⟨2, 2, bBest s7 s8 y.sm⟩) (hs7 : P.sgs s7 = some ⟨f7, 2, [], [0, 1]⟩) (h7 : P.fns f7 = some ⟨2, 2, bNeedT y.s0 cS⟩) (hs8 : P.sgs s8 = some ⟨f8, 2, [], [0, 1]⟩) (h8 : P.fns f8 = some ⟨2, 4, bEven⟩) (tot st : Int) :
    callN P (k + 4) f [.int tot, .int st] h = if 3 ≤ st ∧ st ≤ 12 then (if st ≤ tot ∧ tot ≤ 12 * st then .ok (.obj cY [.tup ((evn tot st).map D.int)]) h else .exc cS (.str wTotal) h) else .exc cS (.str wStacks) h := by
  rw [callN_eq hf rfl]
  show (evS P (callN P (k + 3)) (bBest s7 s8 y.sm) [some (.int tot), some (.int st)] h).bind endR = _
  by_cases a : 3 ≤ st ∧ st ≤ 12
  · by_cases b : st ≤ tot ∧ tot ≤ 12 * st
    · have e8 : ev P (callN P (k + 3)) (.call s8 true (.cons (.v 0) (.cons (.v 1) .nil))) [some (.int tot), some (.int st)] h = .ok (.tup ((evn tot st).map D.int)) h := by
        rw [ev_call hs8]
        simp only [evs_cons, evs_nil, ev_v, look_s, look_z, some_opt, ok_bind, perm2, if_true, even_eq h8 (show 0 < st by omega) (by omega), settle_tupI]
      have em := mk_eq (k := k) y e8 (yardH_evn a b) .tup
      simp only [bBest, evS_seq, evS_ex, ev_call hs7, evs_cons, evs_nil, ev_v, look_s, look_z, some_opt, ok_bind, perm2, if_true, need_total_eq h7 y.hs0 y.h0, a, b, and_self, settle_non, next_nx, evS_ret, em, endR_rt]
    · simp only [bBest, evS_seq, evS_ex, ev_call hs7, evs_cons, evs_nil, ev_v, look_s, look_z, some_opt, ok_bind, perm2, if_true, need_total_eq h7 y.hs0 y.h0, a, b, and_self, if_false, settle_exc frz_str, exc_bind]
  · simp only [bBest, evS_seq, evS_ex, ev_call hs7, evs_cons, evs_nil, ev_v, look_s, look_z, some_opt, ok_bind, perm2, if_true, need_total_eq h7 y.hs0 y.h0, a, if_false, settle_exc frz_str, exc_bind]
end
end Mx.Pl
set_option Elab.async false
set_option linter.all false
set_option maxRecDepth 100000
set_option maxHeartbeats 1000000
/-! Pj: places laid on yards. -/
namespace Mx.Pl
open PySem
theorem levN_succ : ∀ {m : Nat} {l : List Int}, levN (m + 1) l = lev1 (levN m l)
  | 0, l => rfl
  | m + 1, l => by
    show levN (m + 1) (lev1 l) = lev1 (levN m (lev1 l))
    exact levN_succ
theorem levN_ne {m : Nat} {l : List Int} (hn : l ≠ []) : levN m l ≠ [] := fun z => hn (List.length_eq_zero_iff.mp (by rw [← levN_len (m := m), z]; rfl))
theorem yardH_lev1 {l : List Int} (y : YardH l) (hs : l.sum < 12 * l.length) : YardH (lev1 l) := by
  have hn : l ≠ [] := fun z => by have := y.1; rw [z] at this; simp at this
  have hm := minL_mem hn
  have b := y.2.2 _ hm
  have lt : minL l < 12 := by
    refine Int.not_le.mp fun z => ?_
    have := le_sum (c := 12) (ns := l) fun x hx => Int.le_trans z (minL_le hx)
    omega
  refine ⟨by rw [lev1_len]; exact y.1, by rw [lev1_len]; exact y.2.1, fun x hx => ?_⟩
  rcases List.mem_or_eq_of_mem_set hx with q | q
  · exact y.2.2 x q
  · omega
theorem yardH_levN : ∀ {m : Nat} {l : List Int}, YardH l → l.sum + m ≤ 12 * l.length → YardH (levN m l)
  | 0, _, y, _ => y
  | m + 1, l, y, hs => by
    have hn : l ≠ [] := fun z => by have := y.1; rw [z] at this; simp at this
    push_cast at hs
    show YardH (levN m (lev1 l))
    exact yardH_levN (yardH_lev1 y (by omega)) (by rw [lev1_sum hn, lev1_len]; omega)
section
variable {P : Pg} {F : Ph} {h t u : Hh} {k f f0 f1 f2 f3 f4 f5 f6 f7 f8 s s0 s1 s2 s3 s4 s5 s6 s7 s8 cY cI cS : Nat} {α : Type}
/-- one place more on the first lowest stack: the statement -/
def bUp : S := .augIx .add (.v 2) (.mt .index (.v 2) (.cons (.bi .min1 (.cons (.v 2) .nil)) .nil)) (.k (.int 1))
theorem up_eq {r : Nat} {l : List Int} {σ : En} (e : look σ 2 = some (.ref r)) (at_ : h[r]? = some (.lst (l.map D.int))) (hn : l ≠ []) : evS P F bUp σ h = .ok (.nx σ) (h.set r (.lst ((lev1 l).map D.int))) := by
  obtain ⟨hi, gi⟩ := min_at hn
  have e1 := item_ref at_ hi
  have e2 := setItem_ref (v := minL l + 1) at_ hi
  rw [gi] at e1
  have lo : (lstOf h (.ref r)).isSome = true := by rw [lstOf_ref at_]; rfl
  simp only [bUp, evS_augIx, ev_v, e, some_opt, ok_bind, ev_mt, rIf_pos lo, evs_cons, evs_nil, ev_bi, min1_ref at_ hn, index_ref at_ (minL_mem hn), e1, ev_k, aug_addI, e2, lev1]
def bLevF : S := .for_ (.nm 3) (.iRg1 (.v 1)) bUp
theorem levF_ok {m : Nat} {l : List Int} {d0 : D} {o3 : Option D} (hn : l ≠ []) (hm : m ≤ 1000000) :
    wp (evS P F bLevF [some d0, some (.int m), some (.ref h.length), o3] (h ++ [.lst (l.map D.int)])) (fun fl h' => ∃ o, fl = .nx [some d0, some (.int m), some (.ref h.length), o] ∧ h' = h ++ [.lst ((levN m l).map D.int)]) NX := by
  have hi : evI P F (.iRg1 (.v 1)) [some d0, some (.int m), some (.ref h.length), o3] (h ++ [.lst (l.map D.int)]) = .ok ((List.range m).map fun i : Nat => D.int i, none) (h ++ [.lst (l.map D.int)]) := by
    rw [evI_rg1, ev_v]
    simp only [look_s, look_z, some_opt, ok_bind]
    exact rg1_nat hm
  rw [bLevF, evS_for, hi, ok_bind, rIf_pos (rng_le hm)]
  refine wp_floop (fun i σ h' => ∃ o, σ = [some d0, some (.int m), some (.ref h.length), o] ∧ h' = h ++ [.lst ((levN i l).map D.int)]) (fun _ _ _ _ _ => True.intro) (fun i σ h' hi z => ?_) (fun σ h' z => ?_) ⟨o3, rfl, rfl⟩
  · obtain ⟨o, rfl, rfl⟩ := z
    generalize (List.map (fun i : Nat => D.int i) (List.range m))[i] = x
    have e := up_eq (P := P) (F := F) (σ := [some d0, some (.int m), some (.ref h.length), some x]) (r := h.length) (by simp) (get_new (h := h) (o := .lst ((levN i l).map D.int))) (levN_ne hn)
    have e2 : (h ++ [O.lst ((levN i l).map D.int)]).set h.length (.lst ((lev1 (levN i l)).map D.int)) = h ++ [.lst ((levN (i + 1) l).map D.int)] := by rw [levN_succ]; simp
    rw [e2] at e
    refine wp_of (a := .nx [some d0, some (.int m), some (.ref h.length), some x]) ?_ ⟨some x, rfl, rfl⟩
    simp only [setT_nm, bindT_some, put_s, put_z, e]
  · obtain ⟨o, rfl, rfl⟩ := z
    rw [List.length_map, List.length_range]
    exact ⟨o, rfl, rfl⟩
def bLev (s3 s4 sm cY : Nat) : S := .seq (.ex (.call s3 true (.cons (.v 1) (.cons (.bin .add (.bin .sub (.bin .mul (.g (PySem.Str.ofString "MOST") (.int 12)) (.bi .len (.cons (.fld [cY] (.v 0) 0) .nil))) (.call s4 true (.cons (.v 0) .nil))) (.k (.int 1))) (.cons (.k (.str wMore)) .nil)))))
  (.seq (.set (.nm 2) (.nl true (.lof (.fld [cY] (.v 0) 0))))
  (.seq bLevF
  (.ret (.mk sm (.cons (.v 2) .nil)))))
theorem levelled_eq (y : Yd2 P cY) (hf : P.fns f = some ⟨2, 4, bLev y.s3 y.s4 y.sm cY⟩) {hs : List Int} (yh : YardH hs) (m : Int) :
    ∃ u, callN P (k + 4) f [.obj cY [.tup (hs.map D.int)], .int m] h = if 0 ≤ m ∧ m < 12 * hs.length - hs.sum + 1 then .ok (.obj cY [.tup ((levN m.toNat hs).map D.int)]) (h ++ u) else .exc y.cS (.str wMore) h := by
  have hn : hs ≠ [] := fun z => by have := yh.1; rw [z] at this; simp at this
  have q : mulOk 12 (hs.length : Int) := .inl (by omega)
  have e4 : ev P (callN P (k + 3)) (.call y.s4 true (.cons (.v 0) .nil)) [some (.obj cY [.tup (hs.map D.int)]), some (.int m), none, none] h = .ok (.int hs.sum) h := by
    rw [ev_call y.hs4]
    simp only [evs_cons, evs_nil, ev_v, look_z, some_opt, ok_bind, perm1, if_true, places_eq y.h4, settle_int]
  have ef : ∀ {σ : En} {h : Hh}, look σ 0 = some (.obj cY [.tup (hs.map D.int)]) → ev P (callN P (k + 3)) (.fld [cY] (.v 0) 0) σ h = .ok (.tup (hs.map D.int)) h := fun {σ h} e => by
    rw [ev_fld, ev_v, e]
    simp
  have ef0 := ef (σ := [some (.obj cY [.tup (hs.map D.int)]), some (.int m), none, none]) (h := h) (by simp)
  have en : ev P (callN P (k + 3)) (.call y.s3 true (.cons (.v 1) (.cons (.bin .add (.bin .sub (.bin .mul (.g (PySem.Str.ofString "MOST") (.int 12)) (.bi .len (.cons (.fld [cY] (.v 0) 0) .nil))) (.call y.s4 true (.cons (.v 0) .nil))) (.k (.int 1))) (.cons (.k (.str wMore)) .nil)))) [some (.obj cY [.tup (hs.map D.int)]), some (.int m), none, none] h =
      settle h (if 0 ≤ m ∧ m < 12 * (hs.length : Int) - hs.sum + 1 then .ok .non h else .exc y.cS (.str wMore) h) := by
    rw [ev_call y.hs3]
    simp only [evs_cons, evs_nil, ev_v, look_s, look_z, some_opt, ok_bind, ev_bin, ev_g, ev_bi, ef0, bi_lenT, List.length_map, bin_mulI q, e4, bin_subI, ev_k, bin_addI, perm3, if_true, need_eq y.h3 y.hs1 y.h1 y.hs0 y.h0]
  by_cases c : 0 ≤ m ∧ m < 12 * (hs.length : Int) - hs.sum + 1
  · obtain ⟨n, rfl⟩ := Int.eq_ofNat_of_zero_le c.1
    have hl := yh.2.1
    have h0 : 0 ≤ hs.sum := by
      have := le_sum (c := 0) (ns := hs) fun x hx => by have := yh.2.2 x hx; omega
      omega
    obtain ⟨fl, h', eF, o, rfl, rfl⟩ := wp_get (levF_ok (P := P) (F := callN P (k + 3)) (h := h) (m := n) (l := hs) (d0 := .obj cY [.tup (hs.map D.int)]) (o3 := none) hn (by omega))
    have em := mk_eq (k := k) y (h := h ++ [.lst ((levN n hs).map D.int)]) (h0 := h ++ [.lst ((levN n hs).map D.int)]) (e := .v 2) (σ := [some (.obj cY [.tup (hs.map D.int)]), some (.int n), some (.ref h.length), o]) (d := .ref h.length) (by simp) (yardH_levN yh (by omega)) (.ref get_new)
    refine ⟨[.lst ((levN n hs).map D.int)], ?_⟩
    rw [if_pos c, Int.toNat_natCast, callN_eq hf rfl]
    show (evS P (callN P (k + 3)) (bLev y.s3 y.s4 y.sm cY) [some (.obj cY [.tup (hs.map D.int)]), some (.int n), none, none] h).bind endR = _
    simp only [bLev, evS_seq, evS_ex, en, if_pos c, settle_non, ok_bind, next_nx, evS_set, ev_nlT, evN_lof, ef0, lofR, dctOf_tup, seqOf, some_opt, setT_nm, put_s, put_z, eF, evS_ret, em, endR_rt]
  · refine ⟨[], ?_⟩
    rw [if_neg c, callN_eq hf rfl]
    show (evS P (callN P (k + 3)) (bLev y.s3 y.s4 y.sm cY) [some (.obj cY [.tup (hs.map D.int)]), some (.int m), none, none] h).bind endR = _
    simp only [bLev, evS_seq, evS_ex, en, if_neg c, settle_exc frz_str, exc_bind]
end
end Mx.Pl
set_option Elab.async false
set_option linter.all false
set_option maxRecDepth 100000
set_option maxHeartbeats 1000000
/-! Pk: the law's own rows (k45). -/
namespace Mx.Pl
open PySem
section
variable {P : Pg} {F : Ph} {h t u : Hh} {k f f0 f1 f2 f3 f4 f5 f6 f7 f8 s s0 s1 s2 s3 s4 s5 s6 s7 s8 cY cI cS : Nat} {α : Type}
theorem IsSq.iter {xs : List D} {d : D} {o : Option (Nat × List D)} (s : IsSq h xs d o) : iterOf h d = some (xs, o) := by
  cases s with
  | tup => rfl
  | fls => rfl
  | ref e => simp [iterOf, e]
theorem IsSq.sum {xs : List Int} {d : D} {o : Option (Nat × List D)} (s : IsSq h (xs.map D.int) d o) : biD h .sum [d] = .ok (.int xs.sum) h := by
  cases s with
  | tup => exact bi_sumT
  | fls => exact bi_sumF
  | ref e => exact sum_ref e
/-- sum([max(0, height - free) for height in ..]) -/
def bExc (i : Nat) : E := .bi .sum (.cons (.nl false (.comp [3] (.nm 3) (.iSeq (.v i)) .nil (.bi .max2 (.cons (.k (.int 0)) (.cons (.bin .sub (.v 3) (.v 2)) .nil))))) .nil)
theorem exc_ev {i : Nat} {xs : List Int} {d : D} {o : Option (Nat × List D)} {σ : En} {fr : Int} (sq : IsSq h (xs.map D.int) d o) (hl : xs.length ≤ 1000000) (e : look σ i = some d) (e2 : ∀ x, look (put (wipe σ [3]) 3 x) 2 = some (.int fr)) (e3 : ∀ x, look (put (wipe σ [3]) 3 x) 3 = some x) :
    ev P F (bExc i) σ h = .ok (.int (exc fr xs)) h := by
  have e5 : ev P F (.nl false (.comp [3] (.nm 3) (.iSeq (.v i)) .nil (.bi .max2 (.cons (.k (.int 0)) (.cons (.bin .sub (.v 3) (.v 2)) .nil))))) σ h = .ok (.fls ((xs.map fun x => if x - fr > 0 then x - fr else 0).map D.int)) h := by
    rw [ev_nlF, comp_ints (ns := xs) (g := o) (p := fun x => if x - fr > 0 then x - fr else 0) ?_ (ll hl) sq.gok fun n hn => ?_]
    · simp only [ok_bind]
    · simp only [evI_seq, ev_v, e, some_opt, ok_bind, sq.iter]
    · simp only [ev_bi, evs_cons, evs_nil, ev_k, ok_bind, ev_bin, ev_v, e3, e2, some_opt, bin_subI, bi_max2]
  simp only [bExc, ev_bi, evs_cons, evs_nil, e5, ok_bind, bi_sumF]
  rfl
def bOverF : S := .for_ (.nm 2) (.iRg1 (.k (.int 12))) (.ite (.cmp .gt (bExc 0) (bExc 1)) (.ret (.k (.bl false))) .nop)
def bOver : S := .seq bOverF (.ret (.cmp .eq (.bi .sum (.cons (.v 0) .nil)) (.bi .sum (.cons (.v 1) .nil))))
theorem over_eq (hf : P.fns f = some ⟨2, 4, bOver⟩) {as bs : List Int} {d1 d2 : D} {o1 o2 : Option (Nat × List D)} (q1 : IsSq h (as.map D.int) d1 o1) (q2 : IsSq h (bs.map D.int) d2 o2) (h1 : as.length ≤ 1000000) (h2 : bs.length ≤ 1000000) (hs : as.sum = bs.sum) (he : ∀ f, 0 ≤ f → exc f as ≤ exc f bs) :
    callN P (k + 1) f [d1, d2] h = .ok (.bl true) h := by
  have hi : evI P (callN P k) (.iRg1 (.k (.int 12))) [some d1, some d2, none, none] h = .ok ((List.range 12).map fun i : Nat => D.int i, none) h := by
    rw [evI_rg1, ev_k, ok_bind]
    exact rg1_nat (n := 12) (by omega)
  obtain ⟨fl, h', ef, a, b, rfl, rfl⟩ := wp_get (r := evS P (callN P k) bOverF [some d1, some d2, none, none] h) (Q := fun fl h' => ∃ a b, fl = .nx [some d1, some d2, a, b] ∧ h' = h) (by
    rw [bOverF, evS_for, hi, ok_bind, rIf_pos (rng_le (by omega))]
    refine wp_floop (fun _ σ h' => ∃ a b, σ = [some d1, some d2, a, b] ∧ h' = h) (fun _ _ _ _ _ => True.intro) (fun i σ h' hi z => ?_) (fun σ h' z => z.elim fun a z => z.elim fun b z => ⟨a, b, by rw [z.1], z.2⟩) ⟨_, _, rfl, rfl⟩
    obtain ⟨a, b, rfl, rfl⟩ := z
    have hx : (List.map (fun i : Nat => D.int i) (List.range 12))[i] = .int i := by simp
    have x1 := exc_ev (P := P) (F := callN P k) (i := 0) (σ := [some d1, some d2, some (.int i), b]) (fr := i) q1 h1 (by simp) (fun x => by simp [wipe]) (fun x => by simp [wipe])
    have x2 := exc_ev (P := P) (F := callN P k) (i := 1) (σ := [some d1, some d2, some (.int i), b]) (fr := i) q2 h2 (by simp) (fun x => by simp [wipe]) (fun x => by simp [wipe])
    have le := he (i : Int) (by omega)
    have nl : ¬ exc i bs < exc i as := by omega
    refine wp_of (a := .nx [some d1, some d2, some (.int i), b]) (h' := h') ?_ ⟨_, _, rfl, rfl⟩
    rw [hx]
    simp only [setT_nm, bindT_some, put_s, put_z, evS_ite, ev_cmp, x1, x2, ok_bind, cmp_gt, nl, decide_false, some_opt, truth_bl, Bool.false_eq_true, if_false, evS_nop])
  rw [callN_eq hf rfl]
  show (evS P (callN P k) bOver [some d1, some d2, none, none] h').bind endR = _
  simp only [bOver, evS_seq, ef, ok_bind, next_nx, evS_ret, ev_cmp, ev_bi, evs_cons, evs_nil, ev_v, look_s, look_z, some_opt, q1.sum, q2.sum, cmp_eq, eqD_int, hs, decide_true, endR_rt]
/-- the first one with a value -/
theorem filt_head (m : Int) : ∀ (l : List Int) (o : Nat), m ∈ l → ∃ r, (List.range' o l.length).filter (fun i => decide (l[i - o]? = some m)) = (o + l.idxOf m) :: r
  | x :: xs, o, hm => by
    rw [List.length_cons, List.range'_succ, List.filter_cons]
    by_cases e : x = m
    · subst e
      simp
    · have hm' : m ∈ xs := by
        rcases List.mem_cons.mp hm with q | q
        · exact absurd q.symm e
        · exact q
      obtain ⟨r, hr⟩ := filt_head m xs (o + 1) hm'
      refine ⟨r, ?_⟩
      have c : (List.range' (o + 1) xs.length).filter (fun i => decide ((x :: xs)[i - o]? = some m)) = (List.range' (o + 1) xs.length).filter (fun i => decide (xs[i - (o + 1)]? = some m)) := by
        refine List.filter_congr fun i hi => ?_
        have hi := (List.mem_range'_1.mp hi).1
        have q : i - o = (i - (o + 1)) + 1 := by omega
        rw [q, List.getElem?_cons_succ]
      have hx : decide ((x :: xs)[o - o]? = some m) = false := by simp [e]
      have hidx : (x :: xs).idxOf m = xs.idxOf m + 1 := by
        rw [List.idxOf_cons]
        rw [show (x == m) = false by simpa using e]; rfl
      rw [hx, if_neg (by decide), c, hr, hidx]
      congr 1
      omega
theorem rng_ints {n : Nat} : ((List.range n).map fun i : Nat => D.int i) = ((List.range n).map fun i : Nat => (i : Int)).map D.int := by rw [List.map_map]; rfl
/-- [at for at in range(len(row)) if row[at] == min(row)][0] -/
def bFirst : E := .ix (.nl false (.comp [4] (.nm 4) (.iRg1 (.bi .len (.cons (.v 2) .nil))) (.cons (.cmp .eq (.ix (.v 2) (.v 4)) (.bi .min1 (.cons (.v 2) .nil))) .nil) (.v 4))) (.k (.int 0))
theorem first_ev {r : Nat} {l : List Int} {σ : En} (hn : l ≠ []) (hl : l.length ≤ 1000000) (at_ : h[r]? = some (.lst (l.map D.int))) (e : look σ 2 = some (.ref r)) (e2 : ∀ x, look (put (wipe σ [4]) 4 x) 2 = some (.ref r)) (e4 : ∀ x, look (put (wipe σ [4]) 4 x) 4 = some x) :
    ev P F bFirst σ h = .ok (.int (l.idxOf (minL l) : Nat)) h := by
  have hi : evI P F (.iRg1 (.bi .len (.cons (.v 2) .nil))) σ h = .ok (((List.range l.length).map fun i : Nat => (i : Int)).map D.int, none) h := by
    rw [evI_rg1]
    simp only [ev_bi, evs_cons, evs_nil, ev_v, e, some_opt, ok_bind, len_ref at_, List.length_map]
    rw [rg1_nat hl, rng_ints]
  obtain ⟨rr, hr⟩ := filt_head (minL l) l 0 (minL_mem hn)
  have ec : evN P F (.comp [4] (.nm 4) (.iRg1 (.bi .len (.cons (.v 2) .nil))) (.cons (.cmp .eq (.ix (.v 2) (.v 4)) (.bi .min1 (.cons (.v 2) .nil))) .nil) (.v 4)) σ h =
      .ok (((((List.range l.length).map fun i : Nat => (i : Int)).filter fun i => decide (l[i.toNat]? = some (minL l))).map id).map D.int) h := by
    refine comp_intsC (g := none) hi (by simpa using ll hl) True.intro (fun n hn2 => ?_) fun n hn2 _ => ?_
    · obtain ⟨i, hi2, rfl⟩ := List.mem_map.mp hn2
      have hi2 : i < l.length := by simpa using hi2
      have ex : ixR h (.ref r) (.int i) = .ok (.int l[i]) h := by
        rw [ixR_ref at_ (by omega) (by simp; omega)]
        simp
      simp only [ev_cmp, ev_ix, ev_v, e2, e4, some_opt, ok_bind, ex, ev_bi, evs_cons, evs_nil, min1_ref at_ hn, cmp_eq, eqD_int]
      congr 2
      simp [hi2]
    · simp only [ev_v, e4, some_opt, id]
  have es : (((List.range l.length).map fun i : Nat => (i : Int)).filter fun i => decide (l[i.toNat]? = some (minL l))).map id = (l.idxOf (minL l) : Int) :: rr.map fun i : Nat => (i : Int) := by
    rw [List.map_id, List.filter_map, List.range_eq_range']
    have : (fun i : Nat => decide (l[i - 0]? = some (minL l))) = ((fun i : Int => decide (l[i.toNat]? = some (minL l))) ∘ fun i : Nat => (i : Int)) := by
      funext i
      simp
    rw [← this, hr]
    simp
  rw [es] at ec
  have ex : ixR h (.fls (((l.idxOf (minL l) : Int) :: rr.map fun i : Nat => (i : Int)).map D.int)) (.int 0) = .ok (.int (l.idxOf (minL l) : Nat)) h := by
    show rOpt ((seqOf h (.fls _)).bind fun xs => L2.atI xs 0) h = _
    simp only [seqOf, Option.bind_some, List.map_cons, atI_zero, some_opt]
  simp only [bFirst, ev_ix, ev_nlF, ec, ok_bind, ev_k, ex]
def bLevelB : S := .seq (.set (.nm 4) bFirst) (.augIx .add (.v 2) (.v 4) (.k (.int 1)))
def bLevelF : S := .for_ (.nm 3) (.iRg1 (.v 1)) bLevelB
def bLevel : S := .seq (.set (.nm 2) (.nl true (.lof (.v 0)))) (.seq bLevelF (.ret (.bi .tuple (.cons (.v 2) .nil))))
theorem level_eq (hf : P.fns f = some ⟨2, 5, bLevel⟩) {l : List Int} {m : Nat} (hn : l ≠ []) (hl : l.length ≤ 1000000) (hm : m ≤ 1000000) : callN P (k + 1) f [.tup (l.map D.int), .int m] h = .ok (.tup ((levN m l).map D.int)) (h ++ [.lst ((levN m l).map D.int)]) := by
  have hi : evI P (callN P k) (.iRg1 (.v 1)) [some (.tup (l.map D.int)), some (.int m), some (.ref h.length), none, none] (h ++ [.lst (l.map D.int)]) = .ok ((List.range m).map fun i : Nat => D.int i, none) (h ++ [.lst (l.map D.int)]) := by
    rw [evI_rg1, ev_v]
    simp only [look_s, look_z, some_opt, ok_bind]
    exact rg1_nat hm
  obtain ⟨fl, h', ef, a, b, rfl, rfl⟩ := wp_get (r := evS P (callN P k) bLevelF [some (.tup (l.map D.int)), some (.int m), some (.ref h.length), none, none] (h ++ [.lst (l.map D.int)]))
    (Q := fun fl h' => ∃ a b, fl = .nx [some (.tup (l.map D.int)), some (.int m), some (.ref h.length), a, b] ∧ h' = h ++ [.lst ((levN m l).map D.int)]) (by
    rw [bLevelF, evS_for, hi, ok_bind, rIf_pos (rng_le hm)]
    refine wp_floop (fun i σ h' => ∃ a b, σ = [some (.tup (l.map D.int)), some (.int m), some (.ref h.length), a, b] ∧ h' = h ++ [.lst ((levN i l).map D.int)]) (fun _ _ _ _ _ => True.intro) (fun i σ h' hi z => ?_) (fun σ h' z => ?_) ⟨_, _, rfl, rfl⟩
    · obtain ⟨a, b, rfl, rfl⟩ := z
      generalize (List.map (fun i : Nat => D.int i) (List.range m))[i] = x
      have hn2 : levN i l ≠ [] := levN_ne hn
      have at_ : (h ++ [O.lst ((levN i l).map D.int)])[h.length]? = some (.lst ((levN i l).map D.int)) := get_new
      have e1 := first_ev (P := P) (F := callN P k) (r := h.length) (l := levN i l) (σ := [some (.tup (l.map D.int)), some (.int m), some (.ref h.length), some x, b]) hn2 (by rw [levN_len]; exact hl) at_ (by simp) (fun x => by simp [wipe]) (fun x => by simp [wipe])
      obtain ⟨hj, gj⟩ := min_at hn2
      have e2 := item_ref at_ hj
      have e3 := setItem_ref (v := minL (levN i l) + 1) at_ hj
      rw [gj] at e2
      have e5 : (h ++ [O.lst ((levN i l).map D.int)]).set h.length (.lst (((levN i l).set ((levN i l).idxOf (minL (levN i l))) (minL (levN i l) + 1)).map D.int)) = h ++ [.lst ((levN (i + 1) l).map D.int)] := by rw [levN_succ]; simp [lev1]
      rw [e5] at e3
      refine wp_of (a := .nx [some (.tup (l.map D.int)), some (.int m), some (.ref h.length), some x, some (.int ((levN i l).idxOf (minL (levN i l)) : Nat))]) ?_ ⟨_, _, rfl, rfl⟩
      simp only [setT_nm, bindT_some, put_s, put_z, bLevelB, evS_seq, evS_set, e1, ok_bind, some_opt, next_nx, evS_augIx, ev_v, look_s, look_z, e2, ev_k, aug_addI, e3]
    · obtain ⟨a, b, rfl, rfl⟩ := z
      rw [List.length_map, List.length_range]
      exact ⟨a, b, rfl, rfl⟩)
  rw [callN_eq hf rfl]
  show (evS P (callN P k) bLevel [some (.tup (l.map D.int)), some (.int m), none, none, none] h).bind endR = _
  simp only [bLevel, evS_seq, evS_set, ev_nlT, evN_lof, ev_v, look_z, look_s, some_opt, ok_bind, lofR, dctOf_tup, seqOf, setT_nm, put_s, put_z, next_nx, ef, evS_ret, ev_bi, evs_cons, evs_nil, tuple_ref (get_new (h := h) (o := .lst ((levN m l).map D.int))), endR_rt]
end
end Mx.Pl
set_option Elab.async false
set_option linter.all false
set_option maxRecDepth 100000
set_option maxHeartbeats 1000000
/-! Pl: places laid at random (k45), errors caught. -/
namespace Mx.Pl
open PySem
section
variable {P : Pg} {F : Ph} {h t u : Hh} {k f f0 f1 f2 f3 f4 f5 f6 f7 f8 s s0 s1 s2 s3 s4 s5 s6 s7 s8 cY cI cS : Nat} {α : Type}
theorem Own.drawOf (hs1 : P.sgs s1 = some ⟨f1, 2, [], [0, 1]⟩) (h1 : P.fns f1 = some ⟨2, 2, bOf s⟩) (hs : P.sgs s = some ⟨f0, 2, [], [0, 1]⟩) (h0 : P.fns f0 = some ⟨2, 3, bAny⟩) {ns : List Int} (hn : ns ≠ []) (hl : ns.length < 1073741824) (w : Own t h) :
    ∃ v h', v ∈ ns ∧ Own t h' ∧ h'.length = h.length ∧ (∀ r, 2 ≤ r → h'[r]? = h[r]?) ∧ ∀ {σ : En} {x y : E}, ev P (callN P (k + 2)) x σ h = .ok (.ref 1) h → ev P (callN P (k + 2)) y σ h = .ok (.fls (ns.map D.int)) h → ev P (callN P (k + 2)) (.call s1 true (.cons x (.cons y .nil))) σ h = .ok (.int v) h' := by
  obtain ⟨cs, m, u, hc, rfl⟩ := w
  obtain ⟨cs2, m2, v, g1, g2, g4⟩ := law_of_ok (k := k) (t := t ++ u) (m := m) h1 hs h0 hc hn hl
  refine ⟨v, dl cs2 m2 (t ++ u), g2, ⟨cs2, m2, u, g1, rfl⟩, by simp, fun r hr => dl_any hr, fun {σ x y} e1 e2 => ?_⟩
  rw [ev_call hs1]
  simp only [evs_cons, evs_nil, e1, e2, ok_bind, perm2, some_opt, if_true, g4, settle_dl frz_int]
def bWayC : E := .comp [6] (.nm 6) (.iRg1 (.bi .len (.cons (.v 3) .nil))) (.cons (.cmp .lt (.ix (.v 3) (.v 6)) (.k (.int 12))) .nil) (.v 6)
theorem wayC_ev {r : Nat} {l : List Int} {σ : En} (hl : l.length ≤ 1000000) (at_ : h[r]? = some (.lst (l.map D.int))) (e : look σ 3 = some (.ref r)) (e2 : ∀ x, look (put (wipe σ [6]) 6 x) 3 = some (.ref r)) (e4 : ∀ x, look (put (wipe σ [6]) 6 x) 6 = some x) :
    evN P F bWayC σ h = .ok (((((List.range l.length).map fun i : Nat => (i : Int)).filter fun i => decide (∃ x, l[i.toNat]? = some x ∧ x < 12)).map id).map D.int) h := by
  have hi : evI P F (.iRg1 (.bi .len (.cons (.v 3) .nil))) σ h = .ok (((List.range l.length).map fun i : Nat => (i : Int)).map D.int, none) h := by
    rw [evI_rg1]
    simp only [ev_bi, evs_cons, evs_nil, ev_v, e, some_opt, ok_bind, len_ref at_, List.length_map]
    rw [rg1_nat hl, rng_ints]
  refine comp_intsC (g := none) hi (by simpa using ll hl) True.intro (fun n hn2 => ?_) fun n hn2 _ => ?_
  · obtain ⟨i, hi2, rfl⟩ := List.mem_map.mp hn2
    have hi2 : i < l.length := by simpa using hi2
    have ex : ixR h (.ref r) (.int i) = .ok (.int l[i]) h := by
      rw [ixR_ref at_ (by omega) (by simp; omega)]
      simp
    simp only [ev_cmp, ev_ix, ev_v, e2, e4, some_opt, ok_bind, ex, ev_k, cmp_lt]
    congr 2
    simp [hi2]
  · simp only [ev_v, e4, some_opt, id]
def bWayB (s1 : Nat) : S := .seq (.set (.nm 5) (.nl false bWayC)) (.augIx .add (.v 3) (.call s1 true (.cons (.v 0) (.cons (.v 5) .nil))) (.k (.int 1)))
def bWayF (s1 : Nat) : S := .for_ (.nm 4) (.iRg1 (.v 2)) (bWayB s1)
def bWay (s1 : Nat) : S := .seq (.set (.nm 3) (.nl true (.lof (.v 1)))) (.seq (bWayF s1) (.ret (.bi .tuple (.cons (.v 3) .nil))))
/-- a row on its way -/
structure WR (t : Hh) (hs : List Int) (i : Nat) (h : Hh) (r : Nat) (l : List Int) : Prop where
  own : Own t h
  le : t.length + 2 ≤ r
  at_ : h[r]? = some (.lst (l.map D.int))
  ge : Ge l hs
  sum : l.sum = hs.sum + i
  top : ∀ x ∈ l, x ≤ 12
theorem ge_up {o l : List Int} {i : Nat} (g : Ge o l) (hi : i < o.length) : Ge (o.set i (o[i] + 1)) l := ⟨by rw [List.length_set]; exact g.1, fun j h1 h2 => by
  rw [List.getElem_set]
  split
  · rename_i q
    subst q
    have := g.2 i hi h2
    omega
  · exact g.2 j (by simpa using h1) h2⟩
theorem way_step (hs1 : P.sgs s1 = some ⟨f1, 2, [], [0, 1]⟩) (h1 : P.fns f1 = some ⟨2, 2, bOf s⟩) (hs : P.sgs s = some ⟨f0, 2, [], [0, 1]⟩) (h0 : P.fns f0 = some ⟨2, 3, bAny⟩) {hs' : List Int} {i r : Nat} {l : List Int} {d1 : D} {m x : D} {a b : Option D} (hl : hs'.length ≤ 1000) (w : WR t hs' i h r l) (room : hs'.sum + i < 12 * hs'.length) :
    ∃ h' l' c, WR t hs' (i + 1) h' r l' ∧ evS P (callN P (k + 2)) (bWayB s1) [some (.ref 1), some d1, some m, some (.ref r), some x, a, b] h = .ok (.nx [some (.ref 1), some d1, some m, some (.ref r), some x, some c, b]) h' := by
  have hll : l.length ≤ 1000 := by rw [w.ge.1]; exact hl
  have ec := wayC_ev (P := P) (F := callN P (k + 2)) (σ := [some (.ref 1), some d1, some m, some (.ref r), some x, a, b]) (by omega) w.at_ (by simp) (fun x => by simp [wipe]) (fun x => by simp [wipe])
  generalize hns : (((List.range l.length).map fun i : Nat => (i : Int)).filter fun i => decide (∃ x, l[i.toNat]? = some x ∧ x < 12)).map id = ns at ec
  have mem : ∀ v, v ∈ ns ↔ ∃ j : Nat, v = (j : Int) ∧ ∃ hj : j < l.length, l[j] < 12 := fun v => by
    rw [← hns, List.map_id, List.mem_filter, decide_eq_true_eq]
    constructor
    · rintro ⟨q1, y, q2, q3⟩
      obtain ⟨j, hj, rfl⟩ := List.mem_map.mp q1
      have hj : j < l.length := by simpa using hj
      refine ⟨j, rfl, hj, ?_⟩
      simp [hj] at q2
      omega
    · rintro ⟨j, rfl, hj, q⟩
      exact ⟨List.mem_map.mpr ⟨j, by simpa using hj, rfl⟩, l[j], by simp [hj], q⟩
  have hne : ns ≠ [] := fun z => by
    have all : ∀ x ∈ l, 12 ≤ x := fun y hy => by
      refine Int.not_lt.mp fun q => ?_
      obtain ⟨j, hj, rfl⟩ := List.getElem_of_mem hy
      have := (mem (j : Int)).mpr ⟨j, rfl, hj, q⟩
      rw [z] at this
      cases this
    have := le_sum (c := 12) all
    rw [w.sum, w.ge.1] at this
    omega
  have hlen : ns.length < 1073741824 := by
    rw [← hns, List.length_map]
    have := List.length_filter_le (fun i : Int => decide (∃ x, l[i.toNat]? = some x ∧ x < 12)) ((List.range l.length).map fun i : Nat => (i : Int))
    simp at this
    omega
  obtain ⟨v, h', hv, w2, _, same, ed⟩ := w.own.drawOf (k := k) hs1 h1 hs h0 hne hlen
  obtain ⟨j, rfl, hj, q⟩ := (mem v).mp hv
  have a2 : h'[r]? = some (.lst (l.map D.int)) := by rw [same r (by have := w.le; omega)]; exact w.at_
  have e1 := item_ref a2 hj
  have e2 := setItem_ref (v := l[j] + 1) a2 hj
  have e3 := ed (σ := [some (.ref 1), some d1, some m, some (.ref r), some x, some (.fls (ns.map D.int)), b]) (x := .v 0) (y := .v 5) (by simp) (by simp)
  refine ⟨h'.set r (.lst ((l.set j (l[j] + 1)).map D.int)), l.set j (l[j] + 1), .fls (ns.map D.int), ⟨w2.set w.le, w.le, get_set a2, ge_up w.ge hj, ?_, fun y hy => ?_⟩, ?_⟩
  · rw [sum_set hj, w.sum]
    push_cast
    omega
  · rcases List.mem_or_eq_of_mem_set hy with z | z
    · exact w.top y z
    · omega
  · simp only [bWayB, evS_seq, evS_set, ev_nlF, ec, ok_bind, setT_nm, some_opt, put_s, put_z, next_nx, evS_augIx, ev_v, look_s, look_z, e3, e1, ev_k, aug_addI, e2]
theorem way_ok (hf : P.fns f = some ⟨3, 7, bWay s1⟩) (hs1 : P.sgs s1 = some ⟨f1, 2, [], [0, 1]⟩) (h1 : P.fns f1 = some ⟨2, 2, bOf s⟩) (hs : P.sgs s = some ⟨f0, 2, [], [0, 1]⟩) (h0 : P.fns f0 = some ⟨2, 3, bAny⟩) {hs' cells : List Int} {m : Int} {n : Nat} (hc : cells.length ≤ 63) (yh : YardH hs') (room : hs'.sum + n ≤ 12 * hs'.length) :
    ∃ (cs : List Int) (m' : Int) (o : List Int) (u : Hh), cs.length ≤ 63 ∧ Ge o hs' ∧ o.sum = hs'.sum + n ∧ (∀ x ∈ o, x ≤ 12) ∧ callN P (k + 3) f [.ref 1, .tup (hs'.map D.int), .int n] (dl cells m t) = .ok (.tup (o.map D.int)) (dl cs m' (t ++ u)) := by
  have hl := yh.2.1
  have h0s : 0 ≤ hs'.sum := by
    have := le_sum (c := 0) (ns := hs') fun x hx => by have := yh.2.2 x hx; omega
    omega
  have hn : n ≤ 1000000 := by omega
  have w0 : WR t hs' 0 (dl cells m t ++ [.lst (hs'.map D.int)]) (dl cells m t).length hs' := ⟨Own.new ⟨cells, m, [], hc, by simp⟩, by simp, get_new, Ge.refl _, by simp, fun x hx => (yh.2.2 x hx).2⟩
  have hi : evI P (callN P (k + 2)) (.iRg1 (.v 2)) [some (.ref 1), some (.tup (hs'.map D.int)), some (.int n), some (.ref (dl cells m t).length), none, none, none] (dl cells m t ++ [.lst (hs'.map D.int)]) = .ok ((List.range n).map fun i : Nat => D.int i, none) (dl cells m t ++ [.lst (hs'.map D.int)]) := by
    rw [evI_rg1, ev_v]
    simp only [look_s, look_z, some_opt, ok_bind]
    exact rg1_nat hn
  obtain ⟨fl, h', ef, a, b, c, l, rfl, w⟩ := wp_get (r := evS P (callN P (k + 2)) (bWayF s1) [some (.ref 1), some (.tup (hs'.map D.int)), some (.int n), some (.ref (dl cells m t).length), none, none, none] (dl cells m t ++ [.lst (hs'.map D.int)]))
    (Q := fun fl h' => ∃ a b c l, fl = .nx [some (.ref 1), some (.tup (hs'.map D.int)), some (.int n), some (.ref (dl cells m t).length), a, b, c] ∧ WR t hs' n h' (dl cells m t).length l) (by
    rw [bWayF, evS_for, hi, ok_bind, rIf_pos (rng_le hn)]
    refine wp_floop (fun i σ h' => ∃ a b c l, σ = [some (.ref 1), some (.tup (hs'.map D.int)), some (.int n), some (.ref (dl cells m t).length), a, b, c] ∧ WR t hs' i h' (dl cells m t).length l) (fun _ _ _ _ _ => True.intro) (fun i σ h' hi z => ?_) (fun σ h' z => ?_) ⟨_, _, _, hs', rfl, w0⟩
    · obtain ⟨a, b, c, l, rfl, w⟩ := z
      have hi' : i < n := by simpa using hi
      generalize (List.map (fun i : Nat => D.int i) (List.range n))[i] = x
      obtain ⟨h2, l2, c2, w2, e⟩ := way_step (k := k) (d1 := .tup (hs'.map D.int)) (m := .int n) (x := x) (a := b) (b := c) hs1 h1 hs h0 (by omega) w (by omega)
      refine wp_of (a := .nx [some (.ref 1), some (.tup (hs'.map D.int)), some (.int n), some (.ref (dl cells m t).length), some x, some c2, c]) (h' := h2) ?_ ⟨_, _, _, l2, rfl, w2⟩
      simp only [setT_nm, bindT_some, put_s, put_z, e]
    · obtain ⟨a, b, c, l, rfl, w⟩ := z
      rw [List.length_map, List.length_range] at w
      exact ⟨a, b, c, l, rfl, w⟩)
  obtain ⟨cs, m', v, hc', rfl⟩ := w.own
  refine ⟨cs, m', l, v, hc', w.ge, w.sum, w.top, ?_⟩
  rw [callN_eq hf rfl]
  show (evS P (callN P (k + 2)) (bWay s1) [some (.ref 1), some (.tup (hs'.map D.int)), some (.int n), none, none, none, none] (dl cells m t)).bind endR = _
  simp only [bWay, evS_seq, evS_set, ev_nlT, evN_lof, ev_v, look_s, look_z, some_opt, ok_bind, lofR, dctOf_tup, seqOf, setT_nm, put_s, put_z, next_nx, ef, evS_ret, ev_bi, evs_cons, evs_nil, tuple_ref w.at_, endR_rt]
/-! errors caught -/
def bBestL (s7 cS cY : Nat) : S := .seq (.try_ (.set (.nm 3) (.call s7 true (.cons (.v 0) (.cons (.v 1) .nil)))) [(cS, .fld)]) (.ret (.ite (.bi (.isCls cY) (.cons (.v 3) .nil)) (.fld [cY] (.v 3) 0) (.k .non)))
/-- from what the tried call does -/
theorem tried_ok (hf : P.fns f = some ⟨2, 4, bBestL s7 cS cY⟩) (hs7 : P.sgs s7 = some ⟨f7, 2, [], [0, 1]⟩) {x y : D} {hs : List Int} (e : settle h (callN P k f7 [x, y] h) = .ok (.obj cY [.tup (hs.map D.int)]) h) : callN P (k + 1) f [x, y] h = .ok (.tup (hs.map D.int)) h := by
  rw [callN_eq hf rfl]
  show (evS P (callN P k) (bBestL s7 cS cY) [some x, some y, none, none] h).bind endR = _
  have eb : biD h (.isCls cY) [.obj cY [.tup (hs.map D.int)]] = .ok (.bl true) h := by simp [biD, biIsa, kdOf, isaK]
  simp only [bBestL, evS_seq, evS_try, evS_set, ev_call hs7, evs_cons, evs_nil, ev_v, look_s, look_z, some_opt, ok_bind, perm2, if_true, e, setT_nm, put_s, put_z, R.catch_, next_nx, evS_ret, ev_ite, ev_bi, eb, truth_bl, ev_fld, fldD_obj, List.mem_singleton, List.getElem?_cons_zero, endR_rt]
theorem tried_exc {w : Str} (hf : P.fns f = some ⟨2, 4, bBestL s7 cS cY⟩) (hs7 : P.sgs s7 = some ⟨f7, 2, [], [0, 1]⟩) (hsub : P.sub cS cS = true) {x y : D} (e : settle h (callN P k f7 [x, y] h) = .exc cS (.str w) h) : callN P (k + 1) f [x, y] h = .ok (.str w) h := by
  rw [callN_eq hf rfl]
  show (evS P (callN P k) (bBestL s7 cS cY) [some x, some y, none, none] h).bind endR = _
  simp only [bBestL, evS_seq, evS_try, evS_set, ev_call hs7, evs_cons, evs_nil, ev_v, look_s, look_z, some_opt, ok_bind, perm2, if_true, e, exc_bind, R.catch_, hand, hsub, heD, next_rt, endR_rt]
end
end Mx.Pl
set_option Elab.async false
set_option linter.all false
set_option maxHeartbeats 1000000
/-! Qa: comings and goings, who is there, who stays. -/
namespace Mx.Ev
section
variable {α : Type} [DecidableEq α]
def stp (th : List α) (e : Bool × α) : List α := if e.1 = true then th ++ [e.2] else th.erase e.2
/-- who is there behind the first i events -/
def T (evs : List (Bool × α)) (i : Nat) : List α := (evs.take i).foldl stp []
def c (evs : List (Bool × α)) (i : Nat) : Nat := (T evs i).length
variable {evs : List (Bool × α)} {i j k : Nat} {x : α}
theorem T_zero : T evs 0 = [] := rfl
theorem T_succ {e : Bool × α} (h : evs[i]? = some e) : T evs (i + 1) = stp (T evs i) e := by
  unfold T
  rw [List.take_add_one, h, Option.toList_some, List.foldl_append]
  rfl
theorem T_over (h : evs.length ≤ i) : T evs i = T evs evs.length := by
  unfold T
  rw [List.take_of_length_le h, List.take_length]
/-- each comes once, who goes is there -/
structure Valid (evs : List (Bool × α)) : Prop where
  inn : ∀ (i : Nat) (x : α), evs[i]? = some (true, x) → ∀ j : Nat, j < i → evs[j]? ≠ some (true, x)
  out : ∀ (i : Nat) (x : α), evs[i]? = some (false, x) → x ∈ T evs i
theorem mem_stp {th : List α} {e : Bool × α} (h : x ∈ stp th e) : x ∈ th ∨ e = (true, x) := by
  obtain ⟨b, y⟩ := e
  unfold stp at h
  cases b with
  | true =>
    simp only [if_true, List.mem_append, List.mem_singleton] at h
    exact h.imp id fun z => by rw [z]
  | false =>
    simp only [Bool.false_eq_true, if_false] at h
    exact .inl (List.mem_of_mem_erase h)
/-- who is there has come -/
theorem came : ∀ {j : Nat}, x ∈ T evs j → x ∉ T evs k → k ≤ j → ∃ m, k ≤ m ∧ m < j ∧ evs[m]? = some (true, x)
  | 0, h, _, _ => by simp [T] at h
  | j + 1, h, n, hk => by
    by_cases hj : x ∈ T evs j
    · by_cases e : k = j + 1
      · subst e; exact absurd h n
      · obtain ⟨m, h1, h2, h3⟩ := came hj n (by omega)
        exact ⟨m, h1, by omega, h3⟩
    · cases e : evs[j]? with
      | none =>
        have hl : evs.length ≤ j := by simpa using e
        rw [T_over (by omega), ← T_over hl] at h
        exact absurd h hj
      | some ev =>
        rw [T_succ e] at h
        rcases mem_stp h with z | z
        · exact absurd z hj
        · subst z
          by_cases e2 : k = j + 1
          · subst e2; rw [T_succ e] at n; exact absurd h n
          · exact ⟨j, by omega, Nat.lt_succ_self _, e⟩
theorem came0 (h : x ∈ T evs j) : ∃ m, m < j ∧ evs[m]? = some (true, x) := by
  obtain ⟨m, _, h2, h3⟩ := came (k := 0) h (by simp [T]) (Nat.zero_le _)
  exact ⟨m, h2, h3⟩
section
variable (V : Valid evs)
include V
theorem one {m m' : Nat} (h : evs[m]? = some (true, x)) (h' : evs[m']? = some (true, x)) : m = m' := by
  rcases Nat.lt_trichotomy m m' with z | z | z
  · exact absurd h (V.inn m' x h' m z)
  · exact z
  · exact absurd h' (V.inn m x h m' z)
theorem fresh (h : evs[i]? = some (true, x)) : x ∉ T evs i := fun z => by
  obtain ⟨m, h1, h2⟩ := came0 z
  have := one V h h2
  omega
theorem T_in (h : evs[i]? = some (true, x)) : T evs (i + 1) = T evs i ++ [x] := by rw [T_succ h]; rfl
theorem T_out (h : evs[i]? = some (false, x)) : T evs (i + 1) = (T evs i).erase x := by rw [T_succ h]; rfl
theorem nodup : ∀ i, (T evs i).Nodup
  | 0 => .nil
  | i + 1 => by
    have ih := nodup i
    cases e : evs[i]? with
    | none =>
      have hl : evs.length ≤ i := by simpa using e
      rw [T_over (by omega), ← T_over hl]
      exact ih
    | some ev =>
      obtain ⟨b, y⟩ := ev
      cases b with
      | true =>
        rw [T_in V e, List.nodup_append]
        exact ⟨ih, by simp, fun a ha b hb z => fresh V e (by
          have : b = y := by simpa using hb
          rw [← this, ← z]; exact ha)⟩
      | false => rw [T_out V e]; exact ih.erase _
theorem c_in (h : evs[i]? = some (true, x)) : c evs (i + 1) = c evs i + 1 := by unfold c; rw [T_in V h]; simp
theorem c_out (h : evs[i]? = some (false, x)) : c evs i = c evs (i + 1) + 1 := by
  unfold c
  rw [T_out V h, List.length_erase_of_mem (V.out i x h)]
  have : 0 < (T evs i).length := List.length_pos_of_mem (V.out i x h)
  omega
/-- who is there at both ends is there in between -/
theorem between (h1 : x ∈ T evs i) (h2 : x ∈ T evs j) (hik : i ≤ k) (hkj : k ≤ j) : x ∈ T evs k := by
  by_cases h : x ∈ T evs k
  · exact h
  · obtain ⟨m, a1, a2⟩ := came0 h1
    obtain ⟨m', b1, b2, b3⟩ := came h2 h hkj
    have := one V a2 b3
    omega
/-- who has gone does not come back -/
theorem gone (h : evs[i]? = some (false, x)) (hj : i < j) : x ∉ T evs j := fun z => by
  have h1 := V.out i x h
  have h2 : x ∈ T evs (i + 1) := between V h1 z (by omega) hj
  rw [T_out V h] at h2
  exact (nodup V i).not_mem_erase h2
/-- no going from i to j: all stay -/
theorem no_out (hij : i ≤ j) (h : ∀ m y, i ≤ m → m < j → evs[m]? ≠ some (false, y)) (hx : x ∈ T evs i) : x ∈ T evs j := by
  induction j with
  | zero =>
    have : i = 0 := by omega
    subst this; exact hx
  | succ j ih =>
    by_cases e : i = j + 1
    · subst e; exact hx
    · have ih := ih (by omega) fun m y a b => h m y a (by omega)
      cases e : evs[j]? with
      | none =>
        have hl : evs.length ≤ j := by simpa using e
        rw [T_over (by omega), ← T_over hl]
        exact ih
      | some ev =>
        obtain ⟨b, y⟩ := ev
        cases b with
        | true => rw [T_in V e]; exact List.mem_append_left _ ih
        | false => exact absurd e (h j y (by omega) (Nat.lt_succ_self _))
end
/-! ### the book -/
/-- those who were there at the start of the run (of states with b boxes at least) that holds state i -/
def F (evs : List (Bool × α)) (b : Nat) : Nat → List α
  | 0 => []
  | i + 1 => if c evs i < b then T evs (i + 1) else F evs b i
/-- how many are still there of those -/
def stay (evs : List (Bool × α)) (b i : Nat) : Nat := ((T evs i).filter fun x => decide (x ∈ F evs b i)).length
/-- the book's numbers -/
def low (evs : List (Bool × α)) : Nat → α → Nat
  | 0, _ => 0
  | i + 1, x => match evs[i]? with
    | some (true, y) => if x = y then c evs i else low evs i x
    | some (false, _) => min (low evs i x) (c evs i - 1)
    | none => low evs i x
theorem low_lt (V : Valid evs) : ∀ {i : Nat} {x : α}, x ∈ T evs i → low evs i x ≤ c evs i ∧ ∀ b, 1 ≤ b → b ≤ c evs i → (low evs i x < b ↔ x ∈ F evs b i)
  | 0, x, h => by simp [T] at h
  | i + 1, x, h => by
    cases e : evs[i]? with
    | none =>
      have hl : evs.length ≤ i := by simpa using e
      have et : T evs (i + 1) = T evs i := by rw [T_over (by omega), ← T_over hl]
      have ec : c evs (i + 1) = c evs i := by unfold c; rw [et]
      rw [et] at h
      obtain ⟨h1, h2⟩ := low_lt V h
      have el : low evs (i + 1) x = low evs i x := by simp [low, e]
      rw [el, ec]
      refine ⟨h1, fun b hb hc => ?_⟩
      rw [h2 b hb hc]
      simp only [F]
      rw [if_neg (by omega)]
    | some ev =>
      obtain ⟨d, y⟩ := ev
      cases d with
      | true =>
        have ec := c_in V e
        by_cases hx : x = y
        · subst hx
          have el : low evs (i + 1) x = c evs i := by simp [low, e]
          rw [el, ec]
          refine ⟨by omega, fun b hb hc => ?_⟩
          simp only [F]
          by_cases q : c evs i < b
          · rw [if_pos q]; exact ⟨fun _ => h, fun _ => q⟩
          · rw [if_neg q]
            refine ⟨fun z => absurd z q, fun z => absurd ?_ (fresh V e)⟩
            -- F b i ⊆ those who have come by i
            have : ∀ k, k ≤ i → x ∈ F evs b k → ∃ m, m ≤ i ∧ x ∈ T evs m := by
              intro k
              induction k with
              | zero => intro _ z; simp [F] at z
              | succ k ih =>
                intro hk z
                simp only [F] at z
                split at z
                · exact ⟨k + 1, hk, z⟩
                · exact ih (by omega) z
            obtain ⟨m, hm, hm2⟩ := this i (Nat.le_refl _) z
            obtain ⟨m', h1, h2⟩ := came0 hm2
            have := one V e h2
            omega
        · have h' : x ∈ T evs i := by
            rw [T_in V e] at h
            simpa [hx] using h
          obtain ⟨h1, h2⟩ := low_lt V h'
          have el : low evs (i + 1) x = low evs i x := by simp [low, e, hx]
          rw [el, ec]
          refine ⟨by omega, fun b hb hc => ?_⟩
          simp only [F]
          by_cases q : c evs i < b
          · rw [if_pos q]; exact ⟨fun _ => h, fun _ => by omega⟩
          · rw [if_neg q]; exact h2 b hb (by omega)
      | false =>
        have ec := c_out V e
        have h' : x ∈ T evs i := by
          rw [T_out V e] at h
          exact List.mem_of_mem_erase h
        obtain ⟨h1, h2⟩ := low_lt V h'
        have el : low evs (i + 1) x = min (low evs i x) (c evs i - 1) := by simp [low, e]
        rw [el]
        refine ⟨by omega, fun b hb hc => ?_⟩
        simp only [F]
        rw [if_neg (by omega), ← h2 b hb (by omega)]
        omega
/-- how many of those there have a number below b -/
theorem low_stay (V : Valid evs) {b : Nat} (hb : 1 ≤ b) (hc : b ≤ c evs i) : ((T evs i).filter fun x => decide (low evs i x < b)).length = stay evs b i := by
  unfold stay
  congr 1
  apply List.filter_congr
  intro x hx
  rw [decide_eq_decide]
  exact (low_lt V hx).2 b hb hc
/-! ### runs -/
/-- f .. l is a run of states with b boxes at least -/
structure Run (evs : List (Bool × α)) (b f l : Nat) : Prop where
  le : f ≤ l
  up : l ≤ evs.length
  all : ∀ k, f ≤ k → k ≤ l → b ≤ c evs k
  low : 1 ≤ f ∧ c evs (f - 1) < b
theorem Run.first {b f l : Nat} (R : Run evs b f l) : ∀ k, f ≤ k → k ≤ l → F evs b k = T evs f := by
  intro k hf hl
  induction k with
  | zero => have := R.low.1; omega
  | succ k ih =>
    simp only [F]
    by_cases e : f = k + 1
    · rw [if_pos (by have := R.low.2; rw [e] at this; simpa using this), e]
    · rw [if_neg (by have := R.all k (by omega) (by omega); omega)]
      exact ih (by omega) (by omega)
/-- those who are there at both ends of a run -/
def both (evs : List (Bool × α)) (f l : Nat) : Nat := ((T evs l).filter fun x => decide (x ∈ T evs f)).length
theorem Run.stay_at {b f l k : Nat} (R : Run evs b f l) (hf : f ≤ k) (hl : k ≤ l) : stay evs b k = both evs f k := by
  unfold stay both
  rw [R.first k hf hl]
theorem both_mono (V : Valid evs) {f k l : Nat} (hf : f ≤ k) (hl : k ≤ l) : both evs f l ≤ both evs f k := by
  unfold both
  have n1 := (nodup V l).filter fun x => decide (x ∈ T evs f)
  refine List.Nodup.length_le_of_subset n1 ?_
  intro x hx
  simp only [List.mem_filter, decide_eq_true_eq] at hx ⊢
  exact ⟨between V hx.2 hx.1 hf hl, hx.2⟩
end
end Mx.Ev
set_option Elab.async false
set_option linter.all false
set_option maxHeartbeats 1000000
/-! Qb: the table of presence, the runs, what the law's book says. -/
namespace Mx.Ev
section
variable {α : Type} [DecidableEq α]
variable {evs : List (Bool × α)} {i j k n b f l : Nat} {x : α}
/-- the table behind the first i events: who, from which state, to which one -/
def tb (evs : List (Bool × α)) (n : Nat) : Nat → List (α × Nat × Nat)
  | 0 => []
  | i + 1 => match evs[i]? with
    | some (true, x) => tb evs n i ++ [(x, i + 1, n)]
    | some (false, x) => (tb evs n i).map fun p => if p.1 = x then (x, p.2.1, i) else p
    | none => tb evs n i
theorem tb_in (h : evs[i]? = some (true, x)) : tb evs n (i + 1) = tb evs n i ++ [(x, i + 1, n)] := by simp [tb, h]
theorem tb_out (h : evs[i]? = some (false, x)) : tb evs n (i + 1) = (tb evs n i).map fun p => if p.1 = x then (x, p.2.1, i) else p := by simp [tb, h]
structure Tb (evs : List (Bool × α)) (n i : Nat) (t : List (α × Nat × Nat)) : Prop where
  nd : (t.map (·.1)).Nodup
  ks : ∀ p ∈ t, ∃ m, m < i ∧ evs[m]? = some (true, p.1)
  al : ∀ m x, m < i → evs[m]? = some (true, x) → x ∈ t.map (·.1)
  pr : ∀ p ∈ t, p.2.1 ≤ i ∧ (p.2.2 < i ∨ p.2.2 = n) ∧ ∀ k, k ≤ i → (p.1 ∈ T evs k ↔ p.2.1 ≤ k ∧ k ≤ p.2.2)
theorem fst_out (t : List (α × Nat × Nat)) : (t.map fun p => if p.1 = x then (x, p.2.1, i) else p).map (·.1) = t.map (·.1) := by
  rw [List.map_map]
  apply List.map_congr_left
  intro p _
  simp only [Function.comp]
  by_cases h : p.1 = x
  · rw [if_pos h, h]
  · rw [if_neg h]
theorem tb_ok (V : Valid evs) : ∀ {i : Nat}, i ≤ evs.length → Tb evs evs.length i (tb evs evs.length i)
  | 0, _ => ⟨by simp [tb], by simp [tb], by omega, by simp [tb]⟩
  | i + 1, hi => by
    have ih := tb_ok V (i := i) (by omega)
    have e : evs[i]? = some evs[i] := List.getElem?_eq_getElem (by omega)
    generalize evs[i] = ev at e
    obtain ⟨d, y⟩ := ev
    cases d with
    | true =>
      rw [tb_in e]
      have hy : ∀ p ∈ tb evs evs.length i, p.1 ≠ y := fun p hp z => by
        obtain ⟨m, h1, h2⟩ := ih.ks p hp
        rw [z] at h2
        have := one V h2 e
        omega
      refine ⟨?_, ?_, ?_, ?_⟩
      · rw [List.map_append, List.nodup_append]
        refine ⟨ih.nd, by simp, fun a ha b hb z => ?_⟩
        obtain ⟨p, hp, rfl⟩ := List.mem_map.mp ha
        have : b = y := by simpa using hb
        exact hy p hp (by rw [z, this])
      · intro p hp
        rcases List.mem_append.mp hp with hp | hp
        · obtain ⟨m, h1, h2⟩ := ih.ks p hp
          exact ⟨m, by omega, h2⟩
        · have : p = (y, i + 1, evs.length) := by simpa using hp
          subst this
          exact ⟨i, by omega, e⟩
      · intro m z hm hz
        rw [List.map_append, List.mem_append]
        by_cases q : m = i
        · subst q; rw [e] at hz; cases hz; right; simp
        · left; exact ih.al m z (by omega) hz
      · intro p hp
        rcases List.mem_append.mp hp with hp | hp
        · obtain ⟨h1, h2, h3⟩ := ih.pr p hp
          refine ⟨by omega, by omega, fun k hk => ?_⟩
          by_cases q : k ≤ i
          · exact h3 k q
          · have : k = i + 1 := by omega
            subst this
            have h4 := h3 i (Nat.le_refl _)
            rw [T_in V e, List.mem_append, List.mem_singleton]
            have h5 := hy p hp
            constructor
            · intro z
              have := h4.mp (z.resolve_right h5)
              omega
            · intro z
              exact .inl (h4.mpr (by omega))
        · have : p = (y, i + 1, evs.length) := by simpa using hp
          subst this
          refine ⟨by simp, by simp, fun k hk => ?_⟩
          simp only
          constructor
          · intro z
            by_cases q : i + 1 ≤ k
            · exact ⟨q, by omega⟩
            · obtain ⟨m, h1, h2⟩ := came0 z
              have := one V h2 e
              omega
          · intro z
            have : k = i + 1 := by omega
            subst this
            rw [T_in V e]
            simp
    | false =>
      rw [tb_out e]
      have hg := V.out i y e
      refine ⟨?_, ?_, ?_, ?_⟩
      · rw [fst_out]; exact ih.nd
      · intro p hp
        obtain ⟨q, hq, rfl⟩ := List.mem_map.mp hp
        obtain ⟨m, h1, h2⟩ := ih.ks q hq
        refine ⟨m, by omega, ?_⟩
        by_cases z : q.1 = y
        · rw [if_pos z]; rw [z] at h2; exact h2
        · rw [if_neg z]; exact h2
      · intro m z hm hz
        rw [fst_out]
        by_cases q : m = i
        · subst q; rw [e] at hz; cases hz
        · exact ih.al m z (by omega) hz
      · intro p hp
        obtain ⟨q, hq, rfl⟩ := List.mem_map.mp hp
        obtain ⟨h1, h2, h3⟩ := ih.pr q hq
        have h4 := h3 i (Nat.le_refl _)
        have nd := nodup V i
        by_cases z : q.1 = y
        · rw [if_pos z]
          simp only
          rw [z] at h3 h4
          have h5 := h4.mp hg
          refine ⟨by omega, by omega, fun k hk => ?_⟩
          by_cases w : k ≤ i
          · have := h3 k w
            constructor
            · intro u; have := this.mp u; omega
            · intro u; exact this.mpr (by omega)
          · have : k = i + 1 := by omega
            subst this
            rw [T_out V e]
            constructor
            · intro u; exact absurd u nd.not_mem_erase
            · intro u; omega
        · rw [if_neg z]
          refine ⟨by omega, by omega, fun k hk => ?_⟩
          by_cases w : k ≤ i
          · exact h3 k w
          · have : k = i + 1 := by omega
            subst this
            rw [T_out V e, List.mem_erase_of_ne z, h4]
            omega
/-- who is there from f to l -/
theorem tb_both (V : Valid evs) (hfl : f ≤ l) (hl : l ≤ evs.length) : ((tb evs evs.length evs.length).filter fun p => decide (p.2.1 ≤ f) && decide (l ≤ p.2.2)).length = both evs f l := by
  have H := tb_ok V (Nat.le_refl evs.length)
  have n1 : (((tb evs evs.length evs.length).filter fun p => decide (p.2.1 ≤ f) && decide (l ≤ p.2.2)).map (·.1)).Nodup := H.nd.sublist (List.Sublist.map _ List.filter_sublist)
  have n2 : ((T evs l).filter fun x => decide (x ∈ T evs f)).Nodup := (nodup V l).filter _
  have key : ∀ x, x ∈ ((tb evs evs.length evs.length).filter fun p => decide (p.2.1 ≤ f) && decide (l ≤ p.2.2)).map (·.1) ↔ x ∈ (T evs l).filter fun x => decide (x ∈ T evs f) := by
    intro x
    simp only [List.mem_map, List.mem_filter, Bool.and_eq_true, decide_eq_true_eq]
    constructor
    · rintro ⟨p, ⟨hp, h1, h2⟩, rfl⟩
      have h3 := (H.pr p hp).2.2
      exact ⟨(h3 l hl).mpr (by omega), (h3 f (by omega)).mpr (by omega)⟩
    · rintro ⟨h1, h2⟩
      obtain ⟨m, a1, a2⟩ := came0 h1
      obtain ⟨p, hp, e⟩ := List.mem_map.mp (H.al m x (by omega) a2)
      have h3 := (H.pr p hp).2.2
      rw [e] at h3
      have h4 := (h3 l hl).mp h1
      have h5 := (h3 f (by omega)).mp h2
      exact ⟨p, ⟨hp, by omega, by omega⟩, e⟩
  have a := List.Nodup.length_le_of_subset n1 fun x hx => (key x).mp hx
  have b := List.Nodup.length_le_of_subset n2 fun x hx => (key x).mpr hx
  rw [List.length_map] at a b
  unfold both
  omega
/-! ### the runs -/
def rw_ (cs : Nat → Nat) (b : Nat) : Nat → List (Nat × Nat) × Option Nat
  | 0 => ([], none)
  | i + 1 => if b ≤ cs i then ((rw_ cs b i).1, some ((rw_ cs b i).2.getD i)) else match (rw_ cs b i).2 with
    | none => ((rw_ cs b i).1, none)
    | some f => ((rw_ cs b i).1 ++ [(f, i - 1)], none)
def rows (cs : Nat → Nat) (b n : Nat) : List (Nat × Nat) := match (rw_ cs b (n + 1)).2 with
  | none => (rw_ cs b (n + 1)).1
  | some f => (rw_ cs b (n + 1)).1 ++ [(f, n)]
structure Rw (evs : List (Bool × α)) (b i : Nat) (s : List (Nat × Nat) × Option Nat) : Prop where
  a : ∀ p ∈ s.1, Run evs b p.1 p.2
  fs : ∀ f, s.2 = some f → f < i ∧ (∀ k, f ≤ k → k < i → b ≤ c evs k) ∧ 1 ≤ f ∧ c evs (f - 1) < b
  no : s.2 = none → i = 0 ∨ c evs (i - 1) < b
  al : ∀ k, k < i → b ≤ c evs k → (∃ p ∈ s.1, p.1 ≤ k ∧ k ≤ p.2) ∨ ∃ f, s.2 = some f ∧ f ≤ k
theorem c_zero : c evs 0 = 0 := rfl
theorem rw_ok (hb : 1 ≤ b) : ∀ {i : Nat}, i ≤ evs.length + 1 → Rw evs b i (rw_ (c evs) b i)
  | 0, _ => ⟨by simp [rw_], by simp [rw_], fun _ => .inl rfl, by omega⟩
  | i + 1, hi => by
    have ih := rw_ok hb (i := i) (by omega)
    generalize rw_ (c evs) b i = s at ih
    have es : rw_ (c evs) b (i + 1) = if b ≤ c evs i then ((rw_ (c evs) b i).1, some ((rw_ (c evs) b i).2.getD i)) else match (rw_ (c evs) b i).2 with
      | none => ((rw_ (c evs) b i).1, none)
      | some f => ((rw_ (c evs) b i).1 ++ [(f, i - 1)], none) := rfl
    rw [es]
    have ih : Rw evs b i (rw_ (c evs) b i) := rw_ok hb (by omega)
    generalize rw_ (c evs) b i = s at ih
    obtain ⟨fd, o⟩ := s
    by_cases q : b ≤ c evs i
    · rw [if_pos q]
      refine ⟨ih.a, ?_, by simp, ?_⟩
      · intro f hf
        cases o with
        | none =>
          have : f = i := by simpa using hf.symm
          subst this
          have h0 := ih.no rfl
          refine ⟨by omega, fun k h1 h2 => ?_, ?_, ?_⟩
          · have : k = f := by omega
            subst this; exact q
          · rcases Nat.eq_zero_or_pos f with z | z
            · subst z; rw [c_zero] at q; omega
            · exact z
          · rcases h0 with z | z
            · subst z; rw [c_zero] at q; omega
            · exact z
        | some g =>
          have : f = g := by simpa using hf.symm
          subst this
          obtain ⟨h1, h2, h3⟩ := ih.fs f rfl
          refine ⟨by omega, fun k a1 a2 => ?_, h3⟩
          by_cases w : k = i
          · subst w; exact q
          · exact h2 k a1 (by omega)
      · intro k hk hc
        by_cases w : k = i
        · subst w
          right
          cases o with
          | none => exact ⟨k, rfl, Nat.le_refl _⟩
          | some g => exact ⟨g, rfl, by have := (ih.fs g rfl).1; omega⟩
        · rcases ih.al k (by omega) hc with z | ⟨f, z, z2⟩
          · exact .inl z
          · right
            simp only at z
            subst z
            exact ⟨f, rfl, z2⟩
    · rw [if_neg q]
      cases o with
      | none =>
        refine ⟨ih.a, by simp, fun _ => .inr (by simp only [Nat.add_sub_cancel]; omega), ?_⟩
        intro k hk hc
        by_cases w : k = i
        · subst w; omega
        · exact ih.al k (by omega) hc
      | some g =>
        obtain ⟨h1, h2, h3⟩ := ih.fs g rfl
        refine ⟨?_, by simp, fun _ => .inr (by simp only [Nat.add_sub_cancel]; omega), ?_⟩
        · intro p hp
          rcases List.mem_append.mp hp with hp | hp
          · exact ih.a p hp
          · have : p = (g, i - 1) := by simpa using hp
            subst this
            exact ⟨by simp only; omega, by simp only; omega, fun k a1 a2 => h2 k a1 (by simp only at a2; omega), h3⟩
        · intro k hk hc
          left
          by_cases w : k = i
          · subst w; omega
          · rcases ih.al k (by omega) hc with ⟨p, z, z2⟩ | ⟨f, z, z2⟩
            · exact ⟨p, List.mem_append_left _ z, z2⟩
            · have : g = f := by simpa using z
              subst this
              exact ⟨(g, i - 1), by simp, z2, by simp only; omega⟩
theorem rows_run (hb : 1 ≤ b) {p : Nat × Nat} (hp : p ∈ rows (c evs) b evs.length) : Run evs b p.1 p.2 := by
  have H := rw_ok (evs := evs) hb (Nat.le_refl _)
  unfold rows at hp
  generalize rw_ (c evs) b (evs.length + 1) = s at H hp
  obtain ⟨fd, o⟩ := s
  cases o with
  | none => exact H.a p hp
  | some f =>
    rcases List.mem_append.mp hp with hp | hp
    · exact H.a p hp
    · have : p = (f, evs.length) := by simpa using hp
      subst this
      obtain ⟨h1, h2, h3⟩ := H.fs f rfl
      exact ⟨by simp only; omega, by simp, fun k a1 a2 => h2 k a1 (by simp only at a2; omega), h3⟩
theorem rows_all (hb : 1 ≤ b) (hk : k ≤ evs.length) (hc : b ≤ c evs k) : ∃ p ∈ rows (c evs) b evs.length, p.1 ≤ k ∧ k ≤ p.2 := by
  have H := rw_ok (evs := evs) hb (Nat.le_refl _)
  unfold rows
  generalize rw_ (c evs) b (evs.length + 1) = s at H
  obtain ⟨fd, o⟩ := s
  rcases H.al k (by omega) hc with z | ⟨f, z, z2⟩
  · obtain ⟨p, hp, z⟩ := z
    cases o with
    | none => exact ⟨p, hp, z⟩
    | some f => exact ⟨p, List.mem_append_left _ hp, z⟩
  · simp only at z
    subst z
    exact ⟨(f, evs.length), by simp, z2, hk⟩
/-! ### the law's book -/
/-- what the book finds at an event -/
def Fine (evs : List (Bool × α)) (t : Nat) (dn : Nat → Int) (i : Nat) : Prop := match evs[i]? with
  | some (true, _) => c evs i ≠ t
  | some (false, _) => ∀ b, 1 ≤ b → b < c evs i → dn b ≤ stay evs b (i + 1)
  | none => True
theorem c_step (V : Valid evs) (hi : i < evs.length) : c evs (i + 1) = c evs i + 1 ∨ c evs i = c evs (i + 1) + 1 := by
  have e : evs[i]? = some evs[i] := List.getElem?_eq_getElem hi
  generalize evs[i] = ev at e
  obtain ⟨d, y⟩ := ev
  cases d with
  | true => exact .inl (c_in V e)
  | false => exact .inr (c_out V e)
theorem both_self : both evs f f = c evs f := by
  unfold both c
  congr 1
  exact List.filter_eq_self.mpr fun x hx => by simpa using hx
/-- the last going in a stretch -/
theorem last_out : ∀ (d : Nat) {f : Nat}, (∀ m y, f ≤ m → m < f + d → evs[m]? ≠ some (false, y)) ∨ ∃ m y, f ≤ m ∧ m < f + d ∧ evs[m]? = some (false, y) ∧ ∀ m' y', m < m' → m' < f + d → evs[m']? ≠ some (false, y')
  | 0, f => .inl fun m y h1 h2 => by omega
  | d + 1, f => by
    by_cases h : ∃ y, evs[f + d]? = some (false, y)
    · obtain ⟨y, h⟩ := h
      exact .inr ⟨f + d, y, by omega, by omega, h, fun m' y' a1 a2 => by omega⟩
    · rcases last_out d (f := f) with z | ⟨m, y, h1, h2, h3, h4⟩
      · refine .inl fun m y h1 h2 e => ?_
        by_cases w : m = f + d
        · subst w; exact h ⟨y, e⟩
        · exact z m y h1 (by omega) e
      · refine .inr ⟨m, y, h1, by omega, h3, fun m' y' a1 a2 e => ?_⟩
        by_cases w : m' = f + d
        · subst w; exact h ⟨y', e⟩
        · exact h4 m' y' a1 (by omega) e
/-- the fewest that stay through a run -/
structure Row (evs : List (Bool × α)) (b r : Nat) : Prop where
  le : ∀ p ∈ rows (c evs) b evs.length, r ≤ both evs p.1 p.2
  eq : ∃ p ∈ rows (c evs) b evs.length, r = both evs p.1 p.2
theorem fine_iff (V : Valid evs) {t m : Nat} {dn : Nat → Int} {r : Nat → Nat} (hm : ∀ k, k ≤ evs.length → c evs k ≤ m) (hm2 : ∃ k, k ≤ evs.length ∧ c evs k = m) (hr : ∀ b, 1 ≤ b → b ≤ m → Row evs b (r b)) (hd : ∀ b, b ≤ t → dn b ≤ b) :
    (∀ i, i < evs.length → Fine evs t dn i) ↔ m ≤ t ∧ ∀ b, 1 ≤ b → b ≤ m → dn b ≤ r b := by
  constructor
  · intro H
    have h1 : ∀ k, k ≤ evs.length → c evs k ≤ t := by
      intro k
      induction k with
      | zero => intro _; rw [c_zero]; omega
      | succ k ih =>
        intro hk
        have ih := ih (by omega)
        have e : evs[k]? = some evs[k] := List.getElem?_eq_getElem (by omega)
        have hf := H k (by omega)
        unfold Fine at hf
        generalize evs[k] = ev at e
        obtain ⟨d, y⟩ := ev
        rw [e] at hf
        cases d with
        | true => rw [c_in V e]; simp only at hf; omega
        | false => have := c_out V e; omega
    have h2 : m ≤ t := by obtain ⟨k, hk, e⟩ := hm2; rw [← e]; exact h1 k hk
    refine ⟨h2, fun b hb hbm => ?_⟩
    obtain ⟨p, hp, e⟩ := (hr b hb hbm).eq
    have R := rows_run hb hp
    obtain ⟨f, l⟩ := p
    simp only at R e
    have hfl := R.le
    rw [e]
    rcases last_out (evs := evs) (l - f) (f := f) with z | ⟨g, y, a1, a2, a3, a4⟩
    · have : c evs f ≤ both evs f l := by
        rw [← both_self]
        unfold both
        have n1 := (nodup V f).filter fun x => decide (x ∈ T evs f)
        refine List.Nodup.length_le_of_subset n1 ?_
        intro x hx
        simp only [List.mem_filter, decide_eq_true_eq] at hx ⊢
        exact ⟨no_out V hfl (fun m y b1 b2 => z m y b1 (by omega)) hx.1, hx.2⟩
      have h3 := R.all f (Nat.le_refl _) hfl
      have h4 := hd b (by omega)
      omega
    · have hg := H g (by have := R.up; omega)
      unfold Fine at hg
      rw [a3] at hg
      simp only at hg
      have h3 := R.all (g + 1) (by omega) (by omega)
      have h4 := c_out V a3
      have h5 := hg b hb (by omega)
      rw [R.stay_at (by omega) (by omega)] at h5
      have : both evs f (g + 1) ≤ both evs f l := by
        unfold both
        have n1 := (nodup V (g + 1)).filter fun x => decide (x ∈ T evs f)
        refine List.Nodup.length_le_of_subset n1 ?_
        intro x hx
        simp only [List.mem_filter, decide_eq_true_eq] at hx ⊢
        exact ⟨no_out V (by omega) (fun m y b1 b2 => a4 m y (by omega) (by omega)) hx.1, hx.2⟩
      omega
  · rintro ⟨h1, h2⟩ i hi
    have e : evs[i]? = some evs[i] := List.getElem?_eq_getElem hi
    unfold Fine
    generalize evs[i] = ev at e
    obtain ⟨d, y⟩ := ev
    rw [e]
    cases d with
    | true =>
      simp only
      have := c_in V e
      have := hm (i + 1) (by omega)
      omega
    | false =>
      simp only
      intro b hb hc
      have hco := c_out V e
      have hbm : b ≤ m := by have := hm i (by omega); omega
      obtain ⟨p, hp, q1, q2⟩ := rows_all (evs := evs) hb (show i + 1 ≤ evs.length by omega) (by omega)
      have R := rows_run hb hp
      have h3 := (hr b hb hbm).le p hp
      rw [R.stay_at q1 q2]
      have h4 := both_mono V q1 q2
      have h5 := h2 b hb hbm
      omega
/-- at the highest level -/
theorem row_top (V : Valid evs) {m r : Nat} (hm : ∀ k, k ≤ evs.length → c evs k ≤ m) (h1 : 1 ≤ m) (R : Row evs m r) : r = m := by
  obtain ⟨p, hp, e⟩ := R.eq
  have q := rows_run h1 hp
  obtain ⟨f, l⟩ := p
  simp only at q e
  have hfl := q.le
  have hup := q.up
  have a := q.all f (Nat.le_refl _) hfl
  have b := hm f (by omega)
  have : f = l := by
    by_cases w : f = l
    · exact w
    · have a' := q.all (f + 1) (by omega) (by omega)
      have b' := hm (f + 1) (by omega)
      rcases c_step V (i := f) (by omega) with z | z <;> omega
  subst this
  rw [e, both_self]
  omega
end
end Mx.Ev
set_option Elab.async false
set_option linter.all false
set_option maxRecDepth 100000
set_option maxHeartbeats 1000000
/-! Qc: how many places of a yard with a further stack are deep; what suffices. -/
namespace Mx.Ev
open Mx.Pl
/-- how many places are deep with b boxes -/
def dp (hs : List Int) (b : Int) : Int := exc (hs.sum - b) hs
theorem exc_cons {f x : Int} {xs : List Int} : exc f (x :: xs) = (if x - f > 0 then x - f else 0) + exc f xs := rfl
theorem exc_app {f : Int} {xs ys : List Int} : exc f (xs ++ ys) = exc f xs + exc f ys := by
  unfold exc
  rw [List.map_append, List.sum_append]
theorem exc_nn {f : Int} : ∀ {xs : List Int}, 0 ≤ exc f xs
  | [] => Int.le_refl _
  | x :: xs => by
    have := exc_nn (f := f) (xs := xs)
    rw [exc_cons]
    split <;> omega
theorem exc_anti {f g : Int} (h : f ≤ g) : ∀ {xs : List Int}, exc g xs ≤ exc f xs
  | [] => Int.le_refl _
  | x :: xs => by
    have := exc_anti h (xs := xs)
    rw [exc_cons, exc_cons]
    split <;> split <;> omega
theorem sum_nn : ∀ {xs : List Int}, (∀ x ∈ xs, 0 ≤ x) → 0 ≤ xs.sum
  | [], _ => Int.le_refl _
  | x :: xs, q => by
    have h1 := q x List.mem_cons_self
    have h2 := sum_nn (xs := xs) fun y hy => q y (List.mem_cons_of_mem _ hy)
    rw [List.sum_cons]; omega
theorem exc_le {f : Int} (hf : 0 ≤ f) : ∀ {xs : List Int}, (∀ x ∈ xs, 0 ≤ x) → exc f xs ≤ if xs.sum - f > 0 then xs.sum - f else 0
  | [], _ => by show (0 : Int) ≤ _; split <;> omega
  | x :: xs, q => by
    have h1 := q x List.mem_cons_self
    have h3 := sum_nn (xs := xs) fun y hy => q y (List.mem_cons_of_mem _ hy)
    have h2 := exc_le hf (xs := xs) fun y hy => q y (List.mem_cons_of_mem _ hy)
    rw [exc_cons, List.sum_cons]
    split at h2 <;> split <;> split <;> omega
theorem exc_zero {f : Int} : ∀ {xs : List Int}, (∀ x ∈ xs, x ≤ f) → exc f xs = 0
  | [], _ => rfl
  | x :: xs, q => by
    have h1 := q x List.mem_cons_self
    rw [exc_cons, exc_zero fun y hy => q y (List.mem_cons_of_mem _ hy), if_neg (by omega)]
    rfl
theorem dp_le {hs : List Int} {b : Int} (hn : ∀ x ∈ hs, 0 ≤ x) (h0 : 0 ≤ b) (hb : b ≤ hs.sum) : dp hs b ≤ b := by
  unfold dp
  have := exc_le (f := hs.sum - b) (by omega) hn
  split at this <;> omega
theorem dp_more {hs : List Int} {x b : Int} : dp (hs ++ [x]) b = exc (hs.sum + x - b) hs + if b - hs.sum > 0 then b - hs.sum else 0 := by
  unfold dp
  rw [List.sum_append, exc_app]
  have : exc (hs.sum + [x].sum - b) [x] = if b - hs.sum > 0 then b - hs.sum else 0 := by
    rw [exc_cons]
    have e : [x].sum = x := by simp
    rw [e]
    show _ + (0 : Int) = _
    split <;> split <;> omega
  rw [this]
  congr 2
  simp
/-- what suffices(heights, row) says -/
def Suff (m : Nat) (r : Nat → Nat) (hs : List Int) : Prop := (m : Int) ≤ hs.sum ∧ ∀ b : Nat, 1 ≤ b → b ≤ m → dp hs b ≤ r b
/-- no further stack is enough -/
def Never (m : Nat) (r : Nat → Nat) (hs : List Int) : Prop := ∃ b : Nat, 1 ≤ b ∧ b ≤ m ∧ (r b : Int) < b - hs.sum
section
variable {m : Nat} {r : Nat → Nat} {hs : List Int} {x y : Int}
theorem suff_mono (h : Suff m r (hs ++ [x])) (hxy : x ≤ y) : Suff m r (hs ++ [y]) := by
  obtain ⟨h1, h2⟩ := h
  have e : (hs ++ [x]).sum = hs.sum + x := by simp
  have e' : (hs ++ [y]).sum = hs.sum + y := by simp
  refine ⟨by omega, fun b hb hbm => ?_⟩
  have := h2 b hb hbm
  rw [dp_more] at this ⊢
  have := exc_anti (f := hs.sum + x - b) (g := hs.sum + y - b) (by omega) (xs := hs)
  omega
theorem suff_zero : Suff m r (hs ++ [0]) ↔ Suff m r hs := by
  have e : (hs ++ [(0 : Int)]).sum = hs.sum := by simp
  unfold Suff
  rw [e]
  refine and_congr_right fun h1 => ?_
  refine forall_congr' fun b => forall_congr' fun hb => forall_congr' fun hbm => ?_
  rw [dp_more, if_neg (by omega)]
  unfold dp
  rw [Int.add_zero, Int.add_zero]
theorem suff_never (h : Never m r hs) : ¬ Suff m r (hs ++ [x]) := fun z => by
  obtain ⟨b, h1, h2, h3⟩ := h
  have := z.2 b h1 h2
  rw [dp_more] at this
  have := exc_nn (f := hs.sum + x - b) (xs := hs)
  split at * <;> omega
/-- .. of this height it is -/
theorem suff_top {mx : Int} (hn : ∀ z ∈ hs, 0 ≤ z) (hm : ∀ z ∈ hs, z ≤ mx) (hmx : 1 ≤ mx) (ht : 1 ≤ m → r m = m) (nv : ¬ Never m r hs) (hx : (m : Int) - (hs.sum + 1 - mx) ≤ x) (hx0 : 0 ≤ x) : Suff m r (hs ++ [x]) := by
  have e : (hs ++ [x]).sum = hs.sum + x := by simp
  refine ⟨by omega, fun b hb hbm => ?_⟩
  by_cases q : b = m
  · subst q
    rw [ht hb]
    refine dp_le (fun z hz => ?_) (by omega) (by omega)
    rcases List.mem_append.mp hz with hz | hz
    · exact hn z hz
    · have : z = x := by simpa using hz
      omega
  · rw [dp_more, exc_zero fun z hz => by have := hm z hz; omega]
    have : ¬ (r b : Int) < b - hs.sum := fun z => nv ⟨b, hb, hbm, z⟩
    split <;> omega
theorem suff_small (hx : x < (if (0 : Int) < m - hs.sum then m - hs.sum else 0)) (h0 : 0 ≤ x) : ¬ Suff m r (hs ++ [x]) := fun z => by
  have e : (hs ++ [x]).sum = hs.sum + x := by simp
  have := z.1
  split at hx <;> omega
end
end Mx.Ev
set_option Elab.async false
set_option linter.all false
set_option maxRecDepth 100000
set_option maxHeartbeats 1000000
/-! Qd: one step of the machine, each: dicts, sorted, join. -/
namespace Mx.Pl
open PySem
section
variable {α β : Type} {P : Pg} {F : Ph} {h : Hh} {σ : En} {a b c e i es : E} {x y z : D} {k n f s r : Nat}
@[simp] theorem ev_nd {tk : Bool} : ev P F (.nd tk) σ h = .ok (.ref h.length) (h ++ [.dct tk false [] []]) := by simp only [ev]
@[simp] theorem ev_pop1 {o : E} : ev P F (.dm .pop1 o a b) σ h = (ev P F o σ h).bind fun x h => rIf ((dctOf h x).isSome = true) ((ev P F a σ h).bind fun k h => dmPop h x k) := by
  simp only [ev]
  congr 1
@[simp] theorem ev_join : ev P F (.join a b) σ h = (ev P F a σ h).bind fun x h => rIf (plainS x = true) ((ev P F b σ h).bind fun y h => joinR h x y) := by simp only [ev]
@[simp] theorem evN_srt {rev : Bool} : evN P F (.srt rev a) σ h = (ev P F a σ h).bind fun x h => srtR h rev x := by simp only [evN]
@[simp] theorem evN_srtV : evN P F (.srtV a) σ h = (ev P F a σ h).bind fun x h => srtVR h x := by simp only [evN]
@[simp] theorem evN_srtS : evN P F (.srtS a) σ h = (ev P F a σ h).bind fun x h => srtSR h x := by simp only [evN]
theorem evN_compD {w : Dw} {ws : List Nat} {t : T} {i : Nat} : evN P F (.compD w ws t i c e) σ h = (rOpt ((look σ i).bind (lkD h)) h).bind fun q _ => (rIf ((dwL w q.1 q.2.1).length ≤ LINE) (cloop (turn P F ws t c e σ) (fun h => gok h none) (dwL w q.1 q.2.1) [] q.2.2.1)).bind fun xs h' => .ok xs (unl h' q.2.2.2) := by
  rw [evN]
  refine congrArg (fun f => (rOpt ((look σ i).bind (lkD h)) h).bind f) ?_
  funext q h
  refine congrArg (fun f => (rIf ((dwL w q.1 q.2.1).length ≤ LINE) (cloop f (fun h => gok h none) (dwL w q.1 q.2.1) [] q.2.2.1)).bind fun xs h' => .ok xs (unl h' q.2.2.2)) ?_
  funext x h
  unfold turn
  cases setT t x (wipe σ ws) with
  | none => rfl
  | some σ' => cases c <;> rfl
/-! ### what a dict holds -/
theorem dctOf_dct {tk lk : Bool} {ks vs : List D} (e : h[r]? = some (.dct tk lk ks vs)) : dctOf h (.ref r) = some (tk, ks, vs) := by simp [dctOf, e]
theorem zip_mm (f : α → D) (g : α → D) : ∀ L : List α, (L.map f).zip (L.map g) = L.map fun z => (f z, g z)
  | [] => rfl
  | x :: L => by simp [zip_mm f g L]
/-- a dict of texts: the keys, the value of each -/
def dk (L : List Str) : List D := L.map D.str
def dv (L : List Str) (g : Str → D) : List D := L.map g
theorem mem_dk {L : List Str} {x : Str} : D.str x ∈ dk L ↔ x ∈ L := by simp [dk]
theorem putKs_old {L : List Str} {x : Str} (hx : x ∈ L) : putKs (dk L) (.str x) = dk L := by unfold putKs; rw [if_pos (mem_dk.mpr hx)]
theorem putKs_new {L : List Str} {x : Str} (hx : x ∉ L) : putKs (dk L) (.str x) = dk (L ++ [x]) := by unfold putKs; rw [if_neg (fun z => hx (mem_dk.mp z))]; simp [dk]
theorem putVs_old {L : List Str} {g : Str → D} {x : Str} {v : D} (hx : x ∈ L) : putVs (dk L) (dv L g) (.str x) v = dv L fun z => if z = x then v else g z := by
  unfold putVs
  rw [if_pos (mem_dk.mpr hx), dk, dv, zip_mm, List.map_map]
  apply List.map_congr_left
  intro z _
  simp only [Function.comp, D.str.injEq]
theorem putVs_new {L : List Str} {g : Str → D} {x : Str} {v : D} (hx : x ∉ L) : putVs (dk L) (dv L g) (.str x) v = dv (L ++ [x]) fun z => if z = x then v else g z := by
  unfold putVs
  rw [if_neg (fun z => hx (mem_dk.mp z)), dv, dv, List.map_append]
  congr 1
  · apply List.map_congr_left
    intro z hz
    rw [if_neg (fun q => hx (by rw [← q]; exact hz))]
  · simp
open Classical in
theorem find_dk {g : Str → D} {x : Str} : ∀ {L : List Str}, x ∈ L → (L.map fun z => (D.str z, g z)).find? (fun p => decide (p.1 = .str x)) = some (.str x, g x)
  | y :: L, hx => by
    rw [List.map_cons, List.find?_cons]
    by_cases q : y = x
    · subst q; simp
    · have hx' : x ∈ L := (List.mem_cons.mp hx).resolve_left fun z => q z.symm
      have : decide ((D.str y, g y).1 = D.str x) = false := by simpa using q
      rw [this]
      exact find_dk hx'
theorem getK_dk {L : List Str} {g : Str → D} {x : Str} (hx : x ∈ L) : getK (dk L) (dv L g) (.str x) = some (g x) := by
  unfold getK
  rw [dk, dv, zip_mm, find_dk hx]
  rfl
theorem dropKs_dk {L : List Str} {x : Str} (hn : L.Nodup) : dropKs (dk L) (.str x) = dk (L.erase x) := by
  unfold dropKs dk
  rw [hn.erase_eq_filter, List.filter_map]
  congr 1
  apply List.filter_congr
  intro z _
  by_cases q : z = x <;> simp [Function.comp, q]
open Classical in
theorem dropVs_dk {L : List Str} {g : Str → D} {x : Str} (hn : L.Nodup) : dropVs (dk L) (dv L g) (.str x) = dv (L.erase x) g := by
  unfold dropVs dk dv
  rw [zip_mm, hn.erase_eq_filter, List.filter_map, List.map_map]
  have : (L.filter ((fun p : D × D => decide (p.1 ≠ D.str x)) ∘ fun z => (D.str z, g z))) = L.filter fun z => z != x := by
    apply List.filter_congr
    intro z _
    by_cases q : z = x <;> simp [Function.comp, q]
  rw [this]
  rfl
theorem dv_congr {L : List Str} {g g' : Str → D} (h : ∀ x ∈ L, g x = g' x) : dv L g = dv L g' := List.map_congr_left h
/-- d[x] = v -/
theorem setItem_old {L : List Str} {g : Str → D} {x : Str} {v : D} (e : h[r]? = some (.dct false false (dk L) (dv L g))) (hx : x ∈ L) (hl : L.length < 1000000) : setItemD h (.ref r) (.str x) v = .ok () (h.set r (.dct false false (dk L) (dv L fun z => if z = x then v else g z))) := by
  have q : keyOk (.str x) = true ∧ (dk L).length < LINE := ⟨rfl, by simp only [dk, List.length_map]; unfold LINE; omega⟩
  simp only [setItemD, e, rIf_pos q, putKs_old hx, putVs_old hx]
theorem setItem_new {L : List Str} {g : Str → D} {x : Str} {v : D} (e : h[r]? = some (.dct false false (dk L) (dv L g))) (hx : x ∉ L) (hl : L.length < 1000000) : setItemD h (.ref r) (.str x) v = .ok () (h.set r (.dct false false (dk (L ++ [x])) (dv (L ++ [x]) fun z => if z = x then v else g z))) := by
  have q : keyOk (.str x) = true ∧ (dk L).length < LINE := ⟨rfl, by simp only [dk, List.length_map]; unfold LINE; omega⟩
  simp only [setItemD, e, rIf_pos q, putKs_new hx, putVs_new hx]
/-- d[x] -/
theorem ixR_dct {L : List Str} {g : Str → D} {x : Str} {lk : Bool} (e : h[r]? = some (.dct false lk (dk L) (dv L g))) (hx : x ∈ L) : ixR h (.ref r) (.str x) = .ok (g x) h := by
  have q : keyOk (.str x) = true := rfl
  simp only [ixR, ixD, dctOf_dct e, q, if_true, getK_dk hx, some_opt]
theorem len_dct {L : List Str} {g : Str → D} {lk : Bool} (e : h[r]? = some (.dct false lk (dk L) (dv L g))) : biD h .len [.ref r] = .ok (.int L.length) h := by
  show biLen h [.ref r] = _
  simp [biLen, dctOf_dct e, dk]
theorem pop_dct {L : List Str} {g : Str → D} {x : Str} (e : h[r]? = some (.dct false false (dk L) (dv L g))) (hx : x ∈ L) (hn : L.Nodup) : dmPop h (.ref r) (.str x) = .ok (g x) (h.set r (.dct false false (dk (L.erase x)) (dv (L.erase x) g))) := by
  have q : keyOk (.str x) = true := rfl
  simp only [dmPop, e, rIf_pos q, getK_dk hx, some_opt, ok_bind, dropKs_dk hn, dropVs_dk hn]
theorem lof_dct {L : List Str} {g : Str → D} {lk : Bool} (e : h[r]? = some (.dct false lk (dk L) (dv L g))) (hl : L.length < 1000000) : lofR h (.ref r) = .ok (dk L) h := by
  have q : (dk L).length ≤ LINE := by simp only [dk, List.length_map]; unfold LINE; omega
  simp only [lofR, dctOf_dct e, rIf_pos q]
/-! ### sorted -/
theorem pd_int {i : Int} : pd h (.int i) = some (.int i) := id rfl
theorem zip_ip : ∀ ns : List Int, (ns.map D.int).zip (ns.map PyData.int) = ns.map fun n => (D.int n, PyData.int n)
  | [] => rfl
  | n :: ns => by simp [zip_ip ns]
theorem srtL_ints {ns : List Int} (hl : ns.length < 1000000) : ∃ ms : List Int, ms.Perm ns ∧ ms.Pairwise (· ≤ ·) ∧ srtL h false (ns.map D.int) = .ok (ms.map D.int) h := by
  have ep : (ns.map D.int).mapM (pd h) = some (ns.map PyData.int) := by
    have := mapM_some (xs := ns.map D.int) (f := pd h) (g := fun d => match d with | .int i => PyData.int i | _ => .none) fun d hd => by
      obtain ⟨i, _, rfl⟩ := List.mem_map.mp hd
      exact pd_int
    rw [this, List.map_map]
    rfl
  have q : (ns.map D.int).length ≤ LINE ∧ PySem.W.AllAlike (ns.map PyData.int) ∧ PySem.W.Sortable (ns.map PyData.int) ∧ ∀ p ∈ ns.map PyData.int, p.depth ≤ 40 := by
    refine ⟨by rw [List.length_map]; unfold LINE; omega, fun d hd d' hd' => ?_, .inr fun d hd => ?_, fun p hp => ?_⟩
    · obtain ⟨i, _, rfl⟩ := List.mem_map.mp hd
      obtain ⟨j, _, rfl⟩ := List.mem_map.mp hd'
      simp [PySem.W.alike]
    · obtain ⟨i, _, rfl⟩ := List.mem_map.mp hd
      exact ⟨by simp, by simp⟩
    · obtain ⟨i, _, rfl⟩ := List.mem_map.mp hp
      simp [PyData.depth]
  refine ⟨ns.mergeSort (fun a b => decide (a ≤ b)), List.mergeSort_perm .., ?_, ?_⟩
  · have := List.pairwise_mergeSort (le := fun a b : Int => decide (a ≤ b)) (fun a b c => by simp; omega) (fun a b => by simp; omega) ns
    exact this.imp fun z => by simpa using z
  · simp only [srtL, ep, some_opt, ok_bind, rIf_pos q]
    congr 1
    rw [zip_ip, ← List.map_mergeSort (r := fun a b : Int => decide (a ≤ b)) (f := fun n => (D.int n, PyData.int n)), List.map_map]
    · rfl
    · intro a _ b _
      exact (congrFun (congrFun (PySem.W.dataLe_int (β := Int) id) a) b).symm
theorem srtV_dct {L : List Str} {g : Str → Int} {lk : Bool} (e : h[r]? = some (.dct false lk (dk L) (dv L fun x => .int (g x)))) (hl : L.length < 1000000) : ∃ ms : List Int, ms.Perm (L.map g) ∧ ms.Pairwise (· ≤ ·) ∧ srtVR h (.ref r) = .ok (ms.map D.int) h := by
  obtain ⟨ms, h1, h2, h3⟩ := srtL_ints (h := h) (ns := L.map g) (by simpa using hl)
  refine ⟨ms, h1, h2, ?_⟩
  simp only [srtVR, dctOf_dct e]
  rw [← h3, List.map_map]
  rfl
/-- sorted(set(..)) of texts that differ -/
theorem asS_strs : ∀ {ss : List Str}, asS (ss.map D.str) = some ss
  | [] => rfl
  | x :: ss => by simp only [List.map_cons, asS, asS_strs, Option.map_some]
theorem nub_id {α : Type} [DecidableEq α] : ∀ {l : List α}, l.Nodup → nub l = l
  | [], _ => rfl
  | x :: l, hn => by
    have hn := List.nodup_cons.mp hn
    rw [nub, nub_id hn.2]
    congr 1
    exact List.filter_eq_self.mpr fun y hy => by
      simp only [decide_eq_true_eq]
      exact fun z => hn.1 (by rw [← z]; exact hy)
theorem srtS_strs {ss : List Str} (hn : ss.Nodup) (hl : ss.length < 4000) : ∃ ts : List Str, ts.length = ss.length ∧ srtSR h (.fls (ss.map D.str)) = .ok (ts.map D.str) h := by
  refine ⟨ss.mergeSort leS, List.length_mergeSort .., ?_⟩
  have q : (ss.map D.str).length + 1 < 4096 := by rw [List.length_map]; omega
  simp only [srtSR, lstOf, some_opt, ok_bind, srtSL, rIf_pos q, asS_strs, nub_id hn]
theorem frz_strs {k n : Nat} {ss : List Str} : (ss.map D.str).mapM (frz (k + 1) h n) = some (ss.map D.str) := mapM_id fun x hx => by
  obtain ⟨i, _, rfl⟩ := List.mem_map.mp hx
  exact frz_str
theorem settle_tupS {ss : List Str} : settle h (.ok (.tup (ss.map D.str)) h) = .ok (.tup (ss.map D.str)) h := settle_ok (by
  show ((ss.map D.str).mapM (frz 7 h h.length)).map D.tup = _
  rw [frz_strs]; rfl)
end
end Mx.Pl
set_option Elab.async false
set_option linter.all false
set_option maxRecDepth 100000
set_option maxHeartbeats 2000000
/-! Qe: the law's book, walked. -/
namespace Mx.Pl
open PySem Mx.Ev
/-- an event -/
def word (b : Bool) : Str := if b = true then PySem.Str.ofString "in" else PySem.Str.ofString "out"
def evD (e : Bool × Str) : D := .tup [.str (word e.1), .str e.2]
theorem word_in : ∀ b : Bool, decide (word b = PySem.Str.ofString "in") = b := by decide +kernel
section
variable {P : Pg} {F : Ph} {h t u : Hh} {k f f0 f1 f2 f3 f4 f5 f6 s s0 s1 s2 s3 s4 s5 s6 r : Nat}
theorem set_new {o o' : O} : (h ++ [o]).set h.length o' = h ++ [o'] := by simp
theorem settle_new {d d' : D} {u : Hh} (e : frz 8 (h ++ u) h.length d = some d') : settle h (.ok d (h ++ u)) = .ok d' h := by
  simp only [settle, e]
  rw [rIf_pos ⟨by simp, settled_app⟩, List.take_left']
  rfl
theorem settle_lstI {ns : List Int} : settle h (.ok (.ref h.length) (h ++ [.lst (ns.map D.int)])) = .ok (.fls (ns.map D.int)) h := settle_new (by
  rw [frz_lst (Nat.lt_irrefl _) (get_new (h := h)), frz_ints]; rfl)
theorem append_new {xs : List D} {d : D} (hl : xs.length < 1000000) : mtD (h ++ [.lst xs]) .append (.ref h.length) [d] = .ok .non (h ++ [.lst (xs ++ [d])]) := by
  have q : xs.length < LINE := by unfold LINE; omega
  simp only [mtD, mtAppend, get_new, rIf_pos q, set_new]
theorem isSome_new {xs : List D} : (lstOf (h ++ [.lst xs]) (.ref h.length)).isSome = true := by rw [lstOf_ref get_new]; rfl
theorem seqOf_tup {xs : List D} : seqOf h (.tup xs) = some xs := id rfl
theorem seqOf_fls {xs : List D} : seqOf h (.fls xs) = some xs := id rfl
/-! ### for each number of boxes how many places are deep -/
def bDeepsE : E := .bi .sum (.cons (.nl false (.comp [3] (.nm 3) (.iSeq (.v 0)) .nil (.bi .max2 (.cons (.k (.int 0)) (.cons (.bin .add (.bin .sub (.v 3) (.bi .sum (.cons (.v 0) .nil))) (.v 2)) .nil))))) .nil)
def bDeepsF : S := .for_ (.nm 2) (.iRg1 (.bin .add (.bi .sum (.cons (.v 0) .nil)) (.k (.int 1)))) (.ex (.mt .append (.v 1) (.cons bDeepsE .nil)))
def bDeeps : S := .seq (.set (.nm 1) (.nl true (.dis .nil))) (.seq bDeepsF (.ret (.v 1)))
theorem deepsE_ev {hs : List Int} {b : Int} {o1 o3 : Option D} (hl : hs.length ≤ 1000000) : ev P F bDeepsE [some (.tup (hs.map D.int)), o1, some (.int b), o3] h = .ok (.int (dp hs b)) h := by
  have e5 : evN P F (.comp [3] (.nm 3) (.iSeq (.v 0)) .nil (.bi .max2 (.cons (.k (.int 0)) (.cons (.bin .add (.bin .sub (.v 3) (.bi .sum (.cons (.v 0) .nil))) (.v 2)) .nil)))) [some (.tup (hs.map D.int)), o1, some (.int b), o3] h = .ok ((hs.map fun x => if x - (hs.sum - b) > 0 then x - (hs.sum - b) else 0).map D.int) h := by
    refine comp_ints (g := none) (by simp [iterOf]) (ll hl) trivial fun n hn => ?_
    have : n - hs.sum + b = n - (hs.sum - b) := by omega
    simp [wipe, this]
  simp only [bDeepsE, ev_bi, evs_cons, evs_nil, ev_nlF, e5, ok_bind, bi_sumF]
  rfl
theorem deeps_eq (hf : P.fns f = some ⟨1, 4, bDeeps⟩) {hs : List Int} (hl : hs.length ≤ 1000000) (h0 : 0 ≤ hs.sum) (h1 : hs.sum < 100000) :
    callN P (k + 1) f [.tup (hs.map D.int)] h = .ok (.ref h.length) (h ++ [.lst (((List.range (hs.sum.toNat + 1)).map fun b : Nat => dp hs b).map D.int)]) := by
  rw [callN_eq hf rfl]
  obtain ⟨fl, h', ef, a, b, rfl, rfl⟩ := wp_get (r := evS P (callN P k) bDeepsF [some (.tup (hs.map D.int)), some (.ref h.length), none, none] (h ++ [.lst []])) (Q := fun fl h' => ∃ a b, fl = .nx [some (.tup (hs.map D.int)), some (.ref h.length), a, b] ∧ h' = h ++ [.lst (((List.range (hs.sum.toNat + 1)).map fun b : Nat => dp hs b).map D.int)]) (by
    have hi : evI P (callN P k) (.iRg1 (.bin .add (.bi .sum (.cons (.v 0) .nil)) (.k (.int 1)))) [some (.tup (hs.map D.int)), some (.ref h.length), none, none] (h ++ [.lst []]) = .ok ((List.range (hs.sum.toNat + 1)).map fun i : Nat => D.int i, none) (h ++ [.lst []]) := by
      rw [evI_rg1]
      simp only [ev_bin, ev_bi, evs_cons, evs_nil, ev_v, look_z, some_opt, ok_bind, bi_sumT, ev_k, bin_addI]
      rw [show hs.sum + 1 = ((hs.sum.toNat + 1 : Nat) : Int) by omega, rg1_nat (by omega)]
    rw [bDeepsF, evS_for, hi, ok_bind, rIf_pos (rng_le (by omega))]
    refine wp_floop (fun i σ h' => ∃ a b, σ = [some (.tup (hs.map D.int)), some (.ref h.length), a, b] ∧ h' = h ++ [.lst (((List.range i).map fun b : Nat => dp hs b).map D.int)]) (fun _ _ _ _ _ => True.intro) (fun i σ h' hi z => ?_) (fun σ h' z => ?_) ⟨_, _, rfl, rfl⟩
    · obtain ⟨a, b, rfl, rfl⟩ := z
      simp only [List.length_map, List.length_range] at hi
      have q : (((List.range i).map fun b : Nat => dp hs b).map D.int).length < 1000000 := by simp; omega
      refine wp_of (a := .nx [some (.tup (hs.map D.int)), some (.ref h.length), some (.int i), b]) (h' := h ++ [.lst (((List.range i).map fun b : Nat => dp hs b).map D.int ++ [.int (dp hs i)])]) ?_ ⟨_, _, rfl, by rw [List.range_succ, List.map_append, List.map_append]; rfl⟩
      simp only [List.getElem_map, List.getElem_range, setT_nm, bindT_some, put_s, put_z, evS_ex, ev_mt, ev_v, look_s, look_z, some_opt, ok_bind, rIf_pos isSome_new, evs_cons, evs_nil, deepsE_ev hl, append_new q]
    · obtain ⟨a, b, rfl, rfl⟩ := z
      exact ⟨a, b, rfl, by simp⟩)
  simp only [bDeeps, List.map_cons, List.map_nil, List.length_cons, List.length_nil, List.cons_append, List.nil_append, List.replicate, evS_seq, evS_set, ev_nlT, evN_dis, evs_nil, ok_bind, rIf_pos len0, setT_nm, some_opt, put_s, put_z, next_nx, ef, evS_ret, ev_v, look_s, look_z, endR_rt]
/-! ### the book -/
def bDMin : S := .for_ (.nm 7) (.iSeq (.nl false (.lof (.v 3)))) (.setIx (.v 3) (.v 7) (.bi .min2 (.cons (.ix (.v 3) (.v 7)) (.cons (.bin .sub (.v 6) (.k (.int 1))) .nil))))
def bDW : S := .while_ (.and_ (.cmp .lt (.v 10) (.bi .len (.cons (.v 9) .nil))) (.cmp .lt (.ix (.v 9) (.v 10)) (.v 8))) (.aug 10 .add (.k (.int 1)))
def bDRow : S := .for_ (.nm 8) (.iRg2 (.k (.int 1)) (.v 6)) (.seq bDW (.ite (.cmp .lt (.v 10) (.ix (.v 2) (.v 8))) (.ret (.k (.bl false))) .nop))
def bDOut : S := .seq (.ex (.dm .pop1 (.v 3) (.v 5) .nil)) (.seq bDMin (.seq (.set (.tp (.cons (.nm 9) (.cons (.nm 10) .nil))) (.tup (.cons (.nl false (.srtV (.v 3))) (.cons (.k (.int 0)) .nil)))) bDRow))
def bDIn : S := .seq (.setIx (.v 3) (.v 5) (.v 6)) (.ite (.cmp .eq (.v 6) (.bi .sum (.cons (.v 0) .nil))) (.ret (.k (.bl false))) .nop)
def bDF : S := .for_ (.tp (.cons (.nm 4) (.cons (.nm 5) .nil))) (.iSeq (.v 1)) (.seq (.set (.nm 6) (.bi .len (.cons (.v 3) .nil))) (.ite (.cmp .eq (.v 4) (.k (.str (PySem.Str.ofString "in")))) bDIn bDOut))
def bDone (s : Nat) : S := .seq (.set (.tp (.cons (.nm 2) (.cons (.nm 3) .nil))) (.tup (.cons (.call s true (.cons (.v 0) .nil)) (.cons (.nd false) .nil)))) (.seq bDF (.ret (.k (.bl true))))
/-- the book's names -/
def dn_ (hs : List Int) (es : List D) (dd : List Int) (r : Nat) (a4 a5 a6 a7 a8 a9 a10 : Option D) : En := [some (.tup (hs.map D.int)), some (.tup es), some (.fls (dd.map D.int)), some (.ref r), a4, a5, a6, a7, a8, a9, a10]
theorem dmin_ok {hs dd : List Int} {es : List D} {L : List Str} {g : Str → Int} {m : Int} {a4 a5 a7 a8 a9 a10 : Option D} (hn : L.Nodup) (hl : L.length < 100000) :
    ∃ a7', evS P F bDMin (dn_ hs es dd h.length a4 a5 (some (.int m)) a7 a8 a9 a10) (h ++ [.dct false false (dk L) (dv L fun x => .int (g x))]) = .ok (.nx (dn_ hs es dd h.length a4 a5 (some (.int m)) a7' a8 a9 a10)) (h ++ [.dct false false (dk L) (dv L fun x => .int (if m - 1 < g x then m - 1 else g x))]) := by
  obtain ⟨fl, h', ef, a, rfl, rfl⟩ := wp_get (r := evS P F bDMin (dn_ hs es dd h.length a4 a5 (some (.int m)) a7 a8 a9 a10) (h ++ [.dct false false (dk L) (dv L fun x => .int (g x))])) (Q := fun fl h' => ∃ a, fl = .nx (dn_ hs es dd h.length a4 a5 (some (.int m)) a a8 a9 a10) ∧ h' = h ++ [.dct false false (dk L) (dv L fun x => .int (if m - 1 < g x then m - 1 else g x))]) (by
    rw [bDMin, evS_for]
    have hi : evI P F (.iSeq (.nl false (.lof (.v 3)))) (dn_ hs es dd h.length a4 a5 (some (.int m)) a7 a8 a9 a10) (h ++ [.dct false false (dk L) (dv L fun x => .int (g x))]) = .ok (dk L, none) (h ++ [.dct false false (dk L) (dv L fun x => .int (g x))]) := by
      simp only [dn_, evI_seq, ev_nlF, evN_lof, ev_v, look_s, look_z, some_opt, ok_bind, lof_dct (get_new (h := h)) (show L.length < 1000000 by omega), iterOf]
    rw [hi, ok_bind, rIf_pos (by simp only [dk, List.length_map]; unfold LINE; omega)]
    refine wp_floop (fun i σ h' => ∃ a, σ = dn_ hs es dd h.length a4 a5 (some (.int m)) a a8 a9 a10 ∧ h' = h ++ [.dct false false (dk L) (dv L fun x => .int (if x ∈ L.take i then if m - 1 < g x then m - 1 else g x else g x))]) (fun _ _ _ _ _ => True.intro) (fun i σ h' hi z => ?_) (fun σ h' z => ?_) ⟨_, rfl, by simp⟩
    · obtain ⟨a, rfl, rfl⟩ := z
      have hi' : i < L.length := by simpa [dk] using hi
      have hx : L[i] ∈ L := List.getElem_mem hi'
      have hnt : L[i] ∉ L.take i := fun z => by
        obtain ⟨j, hj, e⟩ := List.getElem_of_mem z
        rw [List.getElem_take] at e
        have hj' : j < i := by
          simp only [List.length_take] at hj
          omega
        exact (List.pairwise_iff_getElem.mp hn) j i (by omega) hi' hj' e
      have e1 := ixR_dct (x := L[i]) (get_new (h := h) (o := .dct false false (dk L) (dv L fun x => .int (if x ∈ L.take i then if m - 1 < g x then m - 1 else g x else g x)))) hx
      simp only [if_neg hnt] at e1
      have e2 := setItem_old (x := L[i]) (v := .int (if m - 1 < g L[i] then m - 1 else g L[i])) (get_new (h := h) (o := .dct false false (dk L) (dv L fun x => .int (if x ∈ L.take i then if m - 1 < g x then m - 1 else g x else g x)))) hx (by omega)
      refine wp_of (a := .nx (dn_ hs es dd h.length a4 a5 (some (.int m)) (some (.str L[i])) a8 a9 a10)) (h' := h ++ [.dct false false (dk L) (dv L fun x => if x = L[i] then .int (if m - 1 < g L[i] then m - 1 else g L[i]) else .int (if x ∈ L.take i then if m - 1 < g x then m - 1 else g x else g x))]) ?_ ⟨_, rfl, ?_⟩
      · have ex : (dk L)[i] = .str L[i] := by simp [dk]
        rw [ex]
        simp only [dn_, setT_nm, bindT_some, put_s, put_z, evS_setIx, ev_bi, evs_cons, evs_nil, ev_ix, ev_v, look_s, look_z, some_opt, ok_bind, e1, ev_bin, ev_k, bin_subI, bi_min2, e2, set_new]
      · congr 3
        refine dv_congr fun x _ => ?_
        rw [List.take_succ_eq_append_getElem hi']
        by_cases q : x = L[i]
        · rw [if_pos q, if_pos (List.mem_append.mpr (.inr (List.mem_singleton.mpr q))), q]
        · have mm : x ∈ L.take i ++ [L[i]] ↔ x ∈ L.take i := by rw [List.mem_append, List.mem_singleton]; exact ⟨fun z => z.resolve_right q, .inl⟩
          rw [if_neg q]
          simp only [mm]
    · obtain ⟨a, rfl, rfl⟩ := z
      refine ⟨a, rfl, ?_⟩
      congr 3
      refine dv_congr fun x hx => ?_
      rw [if_pos (by simpa [dk] using hx)])
  exact ⟨a, ef⟩
/-- so many are below b -/
def cnt (ms : List Int) (b : Int) : Nat := (ms.filter fun x => decide (x < b)).length
theorem cnt_at {ms : List Int} {b : Int} {s : Nat} (hp : ms.Pairwise (· ≤ ·)) (hs : s ≤ ms.length) (h1 : ∀ j (hj : j < ms.length), j < s → ms[j] < b) (h2 : ∀ hj : s < ms.length, b ≤ ms[s]) : cnt ms b = s := by
  unfold cnt
  have e1 : (ms.take s).filter (fun x => decide (x < b)) = ms.take s := List.filter_eq_self.mpr fun x hx => by
    obtain ⟨j, hj, rfl⟩ := List.getElem_of_mem hx
    rw [List.getElem_take]
    simp at hj
    simpa using h1 j (by omega) (by omega)
  have e2 : (ms.drop s).filter (fun x => decide (x < b)) = [] := List.filter_eq_nil_iff.mpr fun x hx => by
    obtain ⟨j, hj, rfl⟩ := List.getElem_of_mem hx
    rw [List.getElem_drop]
    simp at hj
    have q := h2 (by omega)
    have : ms[s]'(by omega) ≤ ms[s + j]'(by omega) := by
      by_cases z : j = 0
      · subst z; simp
      · exact (List.pairwise_iff_getElem.mp hp) s (s + j) (by omega) (by omega) (by omega)
    simp
    omega
  rw [← List.take_append_drop s ms, List.filter_append, e1, e2]
  simp
  omega
theorem atI_intS {ms : List Int} {s : Nat} (hs : s < ms.length) : ixR h (.fls (ms.map D.int)) (.int s) = .ok (.int ms[s]) h := by
  simp only [ixR, ixD, dctOf_fls, seqOf_fls, Option.bind_some]
  rw [atI_nat (by simpa using hs)]
  simp [hs]
theorem drow_ok {hs dd : List Int} {es : List D} {ms : List Int} {m : Nat} {a4 a5 a7 a8 : Option D} (hp : ms.Pairwise (· ≤ ·)) (hl : ms.length < 100000) (hd : m ≤ dd.length) (hm : m < 100000) :
    wp (evS P F bDRow (dn_ hs es dd r a4 a5 (some (.int m)) a7 a8 (some (.fls (ms.map D.int))) (some (.int 0))) h) (fun fl h' => h' = h ∧ ((∃ a8' a10', fl = .nx (dn_ hs es dd r a4 a5 (some (.int m)) a7 a8' (some (.fls (ms.map D.int))) a10') ∧ ∀ b (hb : b < dd.length), 1 ≤ b → b < m → dd[b] ≤ cnt ms b) ∨ (fl = .rt (.bl false) ∧ ∃ b, ∃ hb : b < dd.length, 1 ≤ b ∧ b < m ∧ cnt ms b < dd[b]))) NX := by
  rw [bDRow, evS_for]
  have hI : evI P F (.iRg2 (.k (.int 1)) (.v 6)) (dn_ hs es dd r a4 a5 (some (.int m)) a7 a8 (some (.fls (ms.map D.int))) (some (.int 0))) h = .ok ((List.range (m - 1)).map fun i : Nat => D.int (1 + i), none) h := by
    simp only [dn_, evI_rg2, ev_k, ev_v, look_s, look_z, some_opt, ok_bind]
    rw [rg2_int (by omega)]
    have : ((m : Int) - 1).toNat = m - 1 := by omega
    rw [this]
  rw [hI, ok_bind, rIf_pos (by simp only [List.length_map, List.length_range]; unfold LINE; omega)]
  clear hI
  refine wp_floop (fun i σ h' => h' = h ∧ ∃ a8' s, σ = dn_ hs es dd r a4 a5 (some (.int m)) a7 a8' (some (.fls (ms.map D.int))) (some (.int (s : Nat))) ∧ s ≤ ms.length ∧ (∀ j (hj : j < ms.length), j < s → ms[j] < 1 + i) ∧ ∀ b (hb : b < dd.length), 1 ≤ b → b < 1 + i → dd[b] ≤ cnt ms b) (fun _ _ _ _ _ => True.intro) (fun i σ h' hi z => ?_) (fun σ h' z => ?_) ⟨rfl, a8, 0, rfl, Nat.zero_le _, fun j hj z => by omega, fun b hb z1 z2 => by omega⟩
  · obtain ⟨rfl, a8', s, rfl, hs1, hs2, hs3⟩ := z
    have hi' : i < m - 1 := by simpa using hi
    obtain ⟨fl, h2, ew, s', rfl, rfl, g1, g2, g3⟩ := wp_get (r := evS P F bDW (dn_ hs es dd r a4 a5 (some (.int m)) a7 (some (.int (1 + i))) (some (.fls (ms.map D.int))) (some (.int (s : Nat)))) h') (Q := fun fl h2 => ∃ s' : Nat, fl = .nx (dn_ hs es dd r a4 a5 (some (.int m)) a7 (some (.int (1 + i))) (some (.fls (ms.map D.int))) (some (.int s'))) ∧ h2 = h' ∧ s' ≤ ms.length ∧ (∀ j (hj : j < ms.length), j < s' → ms[j] < 1 + i) ∧ ∀ hj : s' < ms.length, 1 + i ≤ ms[s']) (by
      rw [bDW, evS_while]
      refine wp_wloop (fun n σ h2 => h2 = h' ∧ ∃ s' : Nat, σ = dn_ hs es dd r a4 a5 (some (.int m)) a7 (some (.int (1 + i))) (some (.fls (ms.map D.int))) (some (.int s')) ∧ s' + n = ms.length ∧ ∀ j (hj : j < ms.length), j < s' → ms[j] < 1 + i) (fun n σ h2 ⟨e1, s', e2, e3, e4⟩ => ?_) FUEL (ms.length - s) _ _ (by unfold FUEL; omega) ⟨rfl, s, rfl, by omega, fun j hj z => by have := hs2 j hj z; omega⟩
      subst e1 e2
      by_cases q : s' < ms.length
      · have q' : (s' : Int) < (ms.length : Int) := by omega
        by_cases q2 : ms[s'] < 1 + i
        · simp only [dn_, ev_and, ev_cmp, ev_v, look_s, look_z, some_opt, ok_bind, ev_bi, evs_cons, evs_nil, bi_lenF, List.length_map, cmp_lt, q', decide_true, truth_bl, if_true, ev_ix, atI_intS q, q2, wp_ok, evS_aug, ev_k, aug_addI, put_s, put_z, step]
          exact ⟨n - 1, by omega, trivial, s' + 1, by simp, by omega, fun j hj z => by
            by_cases w : j = s'
            · subst w; exact q2
            · exact e4 j hj (by omega)⟩
        · simp only [dn_, ev_and, ev_cmp, ev_v, look_s, look_z, some_opt, ok_bind, ev_bi, evs_cons, evs_nil, bi_lenF, List.length_map, cmp_lt, q', decide_true, truth_bl, if_true, ev_ix, atI_intS q, q2, wp_ok, decide_false, Bool.false_eq_true, if_false]
          exact ⟨s', rfl, trivial, by omega, e4, fun _ => by omega⟩
      · have q' : ¬ (s' : Int) < (ms.length : Int) := by omega
        simp only [dn_, ev_and, ev_cmp, ev_v, look_s, look_z, some_opt, ok_bind, ev_bi, evs_cons, evs_nil, bi_lenF, List.length_map, cmp_lt, q', decide_false, truth_bl, Bool.false_eq_true, if_false, wp_ok]
        exact ⟨s', rfl, trivial, by omega, e4, fun z => absurd z q⟩)
    have hc := cnt_at (b := 1 + i) hp g1 g2 g3
    have hb : 1 + i < dd.length := by omega
    have ei := atI_intS (h := h2) hb
    have eb : ((1 + i : Nat) : Int) = 1 + (i : Int) := by omega
    rw [eb] at ei
    have ex : (List.map (fun i : Nat => D.int (1 + i)) (List.range (m - 1)))[i] = .int (1 + i) := by simp
    rw [ex]
    by_cases q : (s' : Int) < dd[1 + i]
    · refine wp_of (a := .rt (.bl false)) (h' := h2) ?_ ⟨rfl, .inr ⟨rfl, 1 + i, hb, by omega, by omega, by rw [eb, hc]; exact q⟩⟩
      unfold dn_ at ew ⊢
      simp only [setT_nm, bindT_some, put_s, put_z, evS_seq, ew, ok_bind, next_nx, evS_ite, ev_cmp, ev_v, look_s, look_z, some_opt, ev_ix, ei, cmp_lt, q, decide_true, truth_bl, if_true, evS_ret, ev_k]
    · refine wp_of (a := .nx (dn_ hs es dd r a4 a5 (some (.int m)) a7 (some (.int (1 + i))) (some (.fls (ms.map D.int))) (some (.int s')))) (h' := h2) ?_ ⟨rfl, _, s', rfl, g1, fun j hj z => by have := g2 j hj z; omega, fun b hb z1 z2 => ?_⟩
      · unfold dn_ at ew ⊢
        simp only [setT_nm, bindT_some, put_s, put_z, evS_seq, ew, ok_bind, next_nx, evS_ite, ev_cmp, ev_v, look_s, look_z, some_opt, ev_ix, ei, cmp_lt, q, decide_false, truth_bl, Bool.false_eq_true, if_false, evS_nop]
      · by_cases w : b = 1 + i
        · subst w; rw [eb, hc]; omega
        · exact hs3 b hb z1 (by omega)
  · obtain ⟨rfl, a8', s, rfl, hs1, hs2, hs3⟩ := z
    simp only [List.length_map, List.length_range] at hs3
    exact ⟨rfl, .inl ⟨_, _, rfl, fun b hb z1 z2 => hs3 b hb z1 (by omega)⟩⟩
end
end Mx.Pl
set_option Elab.async false
set_option linter.all false
set_option maxRecDepth 100000
set_option maxHeartbeats 2000000
/-! Qf: the law's book, event by event. -/
namespace Mx.Ev
section
variable {α : Type} [DecidableEq α] {evs : List (Bool × α)} {i : Nat} {x : α}
theorem c_le : ∀ i, c evs i ≤ i
  | 0 => Nat.le_refl _
  | i + 1 => by
    have ih := c_le i
    cases e : evs[i]? with
    | none =>
      have hl : evs.length ≤ i := by simpa using e
      have : c evs (i + 1) = c evs i := by unfold c; rw [T_over (by omega), ← T_over hl]
      omega
    | some ev =>
      have : c evs (i + 1) = (stp (T evs i) ev).length := by unfold c; rw [T_succ e]
      have h2 : (stp (T evs i) ev).length ≤ c evs i + 1 := by
        unfold stp c
        split
        · simp
        · have := List.length_erase_le (a := ev.2) (l := T evs i)
          omega
      omega
theorem fine_c (V : Valid evs) {t : Nat} {dn : Nat → Int} : ∀ {i : Nat}, i ≤ evs.length → (∀ j, j < i → Fine evs t dn j) → c evs i ≤ t
  | 0, _, _ => by rw [c_zero]; omega
  | k + 1, hk, H => by
    have ih := fine_c V (i := k) (by omega) fun j hj => H j (by omega)
    have e : evs[k]? = some evs[k] := List.getElem?_eq_getElem (by omega)
    have hf := H k (by omega)
    unfold Fine at hf
    generalize evs[k] = ev at e
    obtain ⟨d, y⟩ := ev
    rw [e] at hf
    cases d with
    | true => rw [c_in V e]; simp only at hf; omega
    | false => have := c_out V e; omega
theorem low_in (e : evs[i]? = some (true, x)) (y : α) : low evs (i + 1) y = if y = x then c evs i else low evs i y := by simp [low, e]
theorem low_out (e : evs[i]? = some (false, x)) (y : α) : low evs (i + 1) y = min (low evs i y) (c evs i - 1) := by simp [low, e]
end
end Mx.Ev
namespace Mx.Pl
open PySem Mx.Ev
section
variable {P : Pg} {F : Ph} {h t u : Hh} {k f f0 f1 f2 f3 f4 f5 f6 s s0 s1 s2 s3 s4 s5 s6 r : Nat} {evs : List (Bool × Str)} {hs : List Int}
/-- the book behind i events -/
def bk (evs : List (Bool × Str)) (i : Nat) : O := .dct false false (dk (Ev.T evs i)) (dv (Ev.T evs i) fun x => .int (low evs i x))
def dpn (hs : List Int) (b : Nat) : Int := dp hs b
def dds (hs : List Int) : List Int := (List.range (hs.sum.toNat + 1)).map fun b : Nat => dp hs b
theorem done_in (V : Valid evs) {i : Nat} {x : Str} (e : evs[i]? = some (true, x)) (hl : evs.length ≤ 1000) (hp : 0 ≤ hs.sum) {es : List D} {dd : List Int} {a7 a8 a9 a10 : Option D} :
    wp (evS P F bDIn (dn_ hs es dd h.length (some (.str (word true))) (some (.str x)) (some (.int (c evs i))) a7 a8 a9 a10) (h ++ [bk evs i])) (fun fl h' => (∃ u, h' = h ++ u) ∧ ((fl = .nx (dn_ hs es dd h.length (some (.str (word true))) (some (.str x)) (some (.int (c evs i))) a7 a8 a9 a10) ∧ h' = h ++ [bk evs (i + 1)] ∧ Fine evs hs.sum.toNat (dpn hs) i) ∨ (fl = .rt (.bl false) ∧ ¬ Fine evs hs.sum.toNat (dpn hs) i))) NX := by
  have hx := fresh V e
  have hi : i < evs.length := (List.getElem?_eq_some_iff.mp e).1
  have hcl : (Ev.T evs i).length < 1000000 := by have := c_le (evs := evs) i; unfold c at this; omega
  have e2 := setItem_new (x := x) (v := .int (c evs i)) (get_new (h := h) (o := .dct false false (dk (Ev.T evs i)) (dv (Ev.T evs i) fun x => .int (low evs i x)))) hx hcl
  have e3 : (h ++ [bk evs i]).set h.length (.dct false false (dk (Ev.T evs i ++ [x])) (dv (Ev.T evs i ++ [x]) fun z => if z = x then .int (c evs i) else .int (low evs i z))) = h ++ [bk evs (i + 1)] := by
    rw [set_new]
    unfold bk
    rw [T_in V e]
    congr 3
    refine dv_congr fun z _ => ?_
    rw [low_in e]
    split <;> rfl
  have e4 : setItemD (h ++ [bk evs i]) (.ref h.length) (.str x) (.int (c evs i)) = .ok () (h ++ [bk evs (i + 1)]) := by rw [← e3]; exact e2
  by_cases q : (c evs i : Int) = hs.sum
  · have qd : decide ((c evs i : Int) = hs.sum) = true := decide_eq_true q
    refine wp_of (a := .rt (.bl false)) (h' := h ++ [bk evs (i + 1)]) ?_ ⟨⟨_, rfl⟩, .inr ⟨rfl, ?_⟩⟩
    · simp only [bDIn, dn_, evS_seq, evS_setIx, ev_v, look_s, look_z, some_opt, ok_bind, e4, next_nx, evS_ite, ev_cmp, ev_bi, evs_cons, evs_nil, bi_sumT, cmp_eq, eqD_int, qd, truth_bl, if_true, evS_ret, ev_k]
    · unfold Fine; rw [e]; simp only; omega
  · refine wp_of (a := .nx (dn_ hs es dd h.length (some (.str (word true))) (some (.str x)) (some (.int (c evs i))) a7 a8 a9 a10)) (h' := h ++ [bk evs (i + 1)]) ?_ ⟨⟨_, rfl⟩, .inl ⟨rfl, rfl, ?_⟩⟩
    · simp only [bDIn, dn_, evS_seq, evS_setIx, ev_v, look_s, look_z, some_opt, ok_bind, e4, next_nx, evS_ite, ev_cmp, ev_bi, evs_cons, evs_nil, bi_sumT, cmp_eq, eqD_int, q, decide_false, truth_bl, Bool.false_eq_true, if_false, evS_nop]
    · unfold Fine; rw [e]; simp only; omega
theorem cnt_perm {L : List Str} {g : Str → Nat} {ms : List Int} {b : Nat} (hp : ms.Perm (L.map fun x => (g x : Int))) : cnt ms b = (L.filter fun x => decide (g x < b)).length := by
  unfold cnt
  rw [(hp.filter _).length_eq, List.filter_map, List.length_map]
  congr 1
  apply List.filter_congr
  intro x _
  simp [Function.comp]
theorem done_out (V : Valid evs) {i : Nat} {x : Str} (e : evs[i]? = some (false, x)) (hl : evs.length ≤ 1000) (hp : 0 ≤ hs.sum) (hc : c evs i ≤ hs.sum.toNat) {es : List D} {a7 a8 a9 a10 : Option D} :
    wp (evS P F bDOut (dn_ hs es (dds hs) h.length (some (.str (word false))) (some (.str x)) (some (.int (c evs i))) a7 a8 a9 a10) (h ++ [bk evs i])) (fun fl h' => (∃ u, h' = h ++ u) ∧ ((∃ a7 a8 a9 a10, fl = .nx (dn_ hs es (dds hs) h.length (some (.str (word false))) (some (.str x)) (some (.int (c evs i))) a7 a8 a9 a10) ∧ h' = h ++ [bk evs (i + 1)] ∧ Fine evs hs.sum.toNat (dpn hs) i) ∨ (fl = .rt (.bl false) ∧ ¬ Fine evs hs.sum.toNat (dpn hs) i))) NX := by
  have hx := V.out i x e
  have nd := nodup V i
  have hi : i < evs.length := (List.getElem?_eq_some_iff.mp e).1
  have hcl : (Ev.T evs i).length ≤ 1000 := by have := c_le (evs := evs) i; unfold c at this; omega
  have hT := T_out V e
  have hco := c_out V e
  have e1 := pop_dct (x := x) (get_new (h := h) (o := .dct false false (dk (Ev.T evs i)) (dv (Ev.T evs i) fun x => .int (low evs i x)))) hx nd
  rw [set_new, ← hT] at e1
  have e1' : dmPop (h ++ [bk evs i]) (.ref h.length) (.str x) = .ok (.int (low evs i x)) (h ++ [.dct false false (dk (Ev.T evs (i + 1))) (dv (Ev.T evs (i + 1)) fun x => .int (low evs i x))]) := e1
  have hL : (Ev.T evs (i + 1)).length ≤ 1000 := by have := c_le (evs := evs) (i + 1); unfold c at this; omega
  obtain ⟨a7', e2⟩ := dmin_ok (P := P) (F := F) (h := h) (hs := hs) (dd := dds hs) (es := es) (L := Ev.T evs (i + 1)) (g := fun x => (low evs i x : Int)) (m := c evs i) (a4 := some (.str (word false))) (a5 := some (.str x)) (a7 := a7) (a8 := a8) (a9 := a9) (a10 := a10) (nodup V (i + 1)) (by omega)
  have e3 : h ++ [O.dct false false (dk (Ev.T evs (i + 1))) (dv (Ev.T evs (i + 1)) fun x => .int (if (c evs i : Int) - 1 < (low evs i x : Int) then (c evs i : Int) - 1 else (low evs i x : Int)))] = h ++ [bk evs (i + 1)] := by
    unfold bk
    congr 3
    refine dv_congr fun z _ => ?_
    rw [low_out e]
    congr 1
    split <;> omega
  rw [e3] at e2
  obtain ⟨ms, p1, p2, p3⟩ := srtV_dct (h := h ++ [bk evs (i + 1)]) (r := h.length) (L := Ev.T evs (i + 1)) (g := fun x => (low evs (i + 1) x : Int)) (lk := false) get_new (by omega)
  have hml : ms.length ≤ 1000 := by rw [p1.length_eq, List.length_map]; exact hL
  have hst : ∀ b, 1 ≤ b → b < c evs i → cnt ms b = stay evs b (i + 1) := fun b h1 h2 => by
    rw [cnt_perm (g := low evs (i + 1)) p1]
    exact low_stay V h1 (by omega)
  have hdl : (dds hs).length = hs.sum.toNat + 1 := by simp [dds]
  have hdg : ∀ b (hb : b < (dds hs).length), (dds hs)[b] = dpn hs b := fun b hb => by simp [dds, dpn]
  have hrow := drow_ok (P := P) (F := F) (h := h ++ [bk evs (i + 1)]) (r := h.length) (hs := hs) (dd := dds hs) (es := es) (ms := ms) (m := c evs i) (a4 := some (.str (word false))) (a5 := some (.str x)) (a7 := a7') (a8 := a8) p2 (by omega) (by omega) (by have := c_le (evs := evs) i; omega)
  obtain ⟨fl, h', ew, rfl, hQ⟩ := wp_get hrow
  have q2 : (2 : Nat) ≤ LINE := by decide
  have iss : (dctOf (h ++ [bk evs i]) (.ref h.length)).isSome = true := by
    rw [dctOf_dct (get_new (h := h) (o := bk evs i))]; rfl
  refine wp_of (a := fl) (h' := h ++ [bk evs (i + 1)]) ?_ ⟨⟨_, rfl⟩, ?_⟩
  · unfold dn_ at e2 ew ⊢
    simp only [bDOut, evS_seq, evS_ex, ev_pop1, ev_v, look_s, look_z, some_opt, ok_bind, rIf_pos iss, e1', next_nx, e2, evS_set, ev_tup, evs_cons, evs_nil, ev_nlF, evN_srtV, p3, ev_k, List.length_cons, List.length_nil, Nat.zero_add, Nat.reduceAdd, rIf_pos q2, setT_tp, setTs_cons, setTs_nil, setT_nm, Option.bind_some, put_s, put_z, ew]
  · rcases hQ with ⟨a8', a10', rfl, H⟩ | ⟨rfl, b, hb, h1, h2, h3⟩
    · refine .inl ⟨_, _, _, _, rfl, rfl, ?_⟩
      unfold Fine
      rw [e]
      intro b h1 h2
      have := H b (by omega) h1 h2
      rw [hdg, hst b h1 h2] at this
      exact this
    · refine .inr ⟨rfl, fun z => ?_⟩
      unfold Fine at z
      rw [e] at z
      have := z b h1 h2
      rw [hdg, hst b h1 h2] at h3
      omega
theorem done_for (V : Valid evs) (hl : evs.length ≤ 1000) (hp : 0 ≤ hs.sum) :
    wp (evS P F bDF (dn_ hs (evs.map evD) (dds hs) h.length none none none none none none none) (h ++ [bk evs 0])) (fun fl h' => (∃ u, h' = h ++ u) ∧ ((∃ σ, fl = .nx σ ∧ ∀ i, i < evs.length → Fine evs hs.sum.toNat (dpn hs) i) ∨ (fl = .rt (.bl false) ∧ ∃ i, i < evs.length ∧ ¬ Fine evs hs.sum.toNat (dpn hs) i))) NX := by
  rw [bDF, evS_for]
  have hI : evI P F (.iSeq (.v 1)) (dn_ hs (evs.map evD) (dds hs) h.length none none none none none none none) (h ++ [bk evs 0]) = .ok (evs.map evD, none) (h ++ [bk evs 0]) := by
    simp only [dn_, evI_seq, ev_v, look_s, look_z, some_opt, ok_bind, iterOf]
  rw [hI, ok_bind, rIf_pos (by simp only [List.length_map]; unfold LINE; omega)]
  refine wp_floop (fun i σ h' => ∃ a4 a5 a6 a7 a8 a9 a10, σ = dn_ hs (evs.map evD) (dds hs) h.length a4 a5 a6 a7 a8 a9 a10 ∧ h' = h ++ [bk evs i] ∧ ∀ j, j < i → Fine evs hs.sum.toNat (dpn hs) j) (fun _ _ _ _ _ => True.intro) (fun i σ h' hi z => ?_) (fun σ h' z => ?_) ⟨_, _, _, _, _, _, _, rfl, rfl, fun j hj => by omega⟩
  · obtain ⟨a4, a5, a6, a7, a8, a9, a10, rfl, rfl, H⟩ := z
    have hi' : i < evs.length := by simpa using hi
    have e : evs[i]? = some evs[i] := List.getElem?_eq_getElem hi'
    rw [List.getElem_map]
    generalize evs[i] = ev at e
    obtain ⟨d, x⟩ := ev
    have hc := fine_c V (by omega) H
    have elen : biD (h ++ [bk evs i]) .len [.ref h.length] = .ok (.int (c evs i)) (h ++ [bk evs i]) := len_dct (get_new (h := h) (o := .dct false false (dk (Ev.T evs i)) (dv (Ev.T evs i) fun x => .int (low evs i x))))
    have hw := word_in d
    cases d with
    | true =>
      have ww := done_in (P := P) (F := F) (h := h) V e hl hp (es := evs.map evD) (dd := dds hs) (a7 := a7) (a8 := a8) (a9 := a9) (a10 := a10)
      obtain ⟨fl, h', ew, ⟨u, rfl⟩, hQ⟩ := wp_get ww
      refine wp_of (a := fl) (h' := h ++ u) ?_ ?_
      · unfold dn_ at ew ⊢
        simp only [evD, setT_tp, setTs_cons, setTs_nil, setT_nm, Option.bind_some, put_s, put_z, bindT_some, evS_seq, evS_set, ev_bi, evs_cons, evs_nil, ev_v, look_s, look_z, some_opt, ok_bind, elen, next_nx, evS_ite, ev_cmp, ev_k, cmp_eq, eqD_str, hw, truth_bl, if_true, ew]
      · rcases hQ with ⟨rfl, e2, e3⟩ | ⟨rfl, e3⟩
        · refine ⟨_, _, _, _, _, _, _, rfl, e2, fun j hj => ?_⟩
          by_cases q : j = i
          · subst q; exact e3
          · exact H j (by omega)
        · exact ⟨⟨u, rfl⟩, .inr ⟨rfl, i, hi', e3⟩⟩
    | false =>
      have ww := done_out (P := P) (F := F) (h := h) V e hl hp hc (es := evs.map evD) (a7 := a7) (a8 := a8) (a9 := a9) (a10 := a10)
      obtain ⟨fl, h', ew, ⟨u, rfl⟩, hQ⟩ := wp_get ww
      refine wp_of (a := fl) (h' := h ++ u) ?_ ?_
      · unfold dn_ at ew ⊢
        simp only [evD, setT_tp, setTs_cons, setTs_nil, setT_nm, Option.bind_some, put_s, put_z, bindT_some, evS_seq, evS_set, ev_bi, evs_cons, evs_nil, ev_v, look_s, look_z, some_opt, ok_bind, elen, next_nx, evS_ite, ev_cmp, ev_k, cmp_eq, eqD_str, hw, truth_bl, Bool.false_eq_true, if_false, ew]
      · rcases hQ with ⟨_, _, _, _, rfl, e2, e3⟩ | ⟨rfl, e3⟩
        · refine ⟨_, _, _, _, _, _, _, rfl, e2, fun j hj => ?_⟩
          by_cases q : j = i
          · subst q; exact e3
          · exact H j (by omega)
        · exact ⟨⟨u, rfl⟩, .inr ⟨rfl, i, hi', e3⟩⟩
  · obtain ⟨a4, a5, a6, a7, a8, a9, a10, rfl, rfl, H⟩ := z
    exact ⟨⟨_, rfl⟩, .inl ⟨_, rfl, fun i hi => H i (by simpa using hi)⟩⟩
theorem law_done_ok (hf : P.fns f = some ⟨2, 11, bDone s⟩) (hs' : P.sgs s = some ⟨f0, 1, [], [0]⟩) (h0 : P.fns f0 = some ⟨1, 4, bDeeps⟩) (V : Valid evs) (hl : evs.length ≤ 1000) (hp : 0 ≤ hs.sum) (hp2 : hs.sum < 100000) (hh : hs.length ≤ 1000000) :
    ∃ b, (b = true ↔ ∀ i, i < evs.length → Fine evs hs.sum.toNat (dpn hs) i) ∧ settle h (callN P (k + 2) f [.tup (hs.map D.int), .tup (evs.map evD)] h) = .ok (.bl b) h := by
  obtain ⟨fl, h', ew, ⟨u, rfl⟩, hQ⟩ := wp_get (done_for (P := P) (F := callN P (k + 1)) (h := h) V hl hp)
  have q2 : (2 : Nat) ≤ LINE := by decide
  have key : callN P (k + 2) f [.tup (hs.map D.int), .tup (evs.map evD)] h = (R.ok fl (h ++ u)).bind fun fl h => (next P (callN P (k + 1)) (.ret (.k (.bl true))) fl h).bind endR := by
    rw [callN_eq hf rfl]
    unfold dn_ at ew
    have eb : h ++ [O.dct false false [] []] = h ++ [bk evs 0] := by unfold bk; rw [T_zero]; rfl
    simp only [bDone, List.map_cons, List.map_nil, List.length_cons, List.length_nil, List.cons_append, List.nil_append, List.replicate, evS_seq, evS_set, ev_tup, evs_cons, evs_nil, ev_call hs', ev_v, look_s, look_z, some_opt, ok_bind, perm1, if_true, deeps_eq h0 hh hp hp2, settle_lstI, ev_nd, Nat.zero_add, Nat.reduceAdd, rIf_pos q2, setT_tp, setTs_cons, setTs_nil, setT_nm, Option.bind_some, put_s, put_z, next_nx, eb]
    have : (List.range (hs.sum.toNat + 1)).map (fun b : Nat => dp hs b) = dds hs := rfl
    rw [this, ew]
    rfl
  rcases hQ with ⟨σ, rfl, H⟩ | ⟨rfl, H⟩
  · refine ⟨true, ⟨fun _ => H, fun _ => rfl⟩, ?_⟩
    rw [key]
    simp only [ok_bind, next_nx, evS_ret, ev_k, endR_rt]
    exact settle_new frz_bl
  · refine ⟨false, ⟨fun z => absurd z (by decide), fun z => ?_⟩, ?_⟩
    · obtain ⟨i, h1, h2⟩ := H
      exact absurd (z i h1) h2
    · rw [key]
      simp only [ok_bind, next_rt, endR_rt]
      exact settle_new frz_bl
end
end Mx.Pl
set_option Elab.async false
set_option linter.all false
set_option maxRecDepth 100000
set_option maxHeartbeats 2000000
/-! Qg: the table of presence, the runs, who stays, walked. -/
namespace Mx.Pl
open PySem Mx.Ev
section
variable {P : Pg} {F : Ph} {h t u : Hh} {k f f0 f1 f2 f3 f4 f5 f6 s s0 s1 s2 s3 s4 s5 s6 s7 f7 r : Nat} {evs : List (Bool × Str)} {hs : List Int} {β : Type}
theorem cloop_map {fn : D → Hh → R (Option D)} {g : Hh → Prop} {it out : β → D} {q : β → Bool} (hg : g h) : ∀ {ys : List β} {acc : List D}, (∀ y ∈ ys, fn (it y) h = .ok (if q y = true then some (out y) else none) h) → cloop fn g (ys.map it) acc h = .ok (acc ++ (ys.filter q).map out) h
  | [], acc, _ => by simp [cloop, rIf_pos hg]
  | y :: ys, acc, e => by
    have e1 := e y List.mem_cons_self
    have ih := fun acc => cloop_map hg (ys := ys) (acc := acc) fun z hz => e z (List.mem_cons_of_mem _ hz)
    simp only [List.map_cons, cloop, rIf_pos hg, e1, ok_bind]
    cases hq : q y with
    | false =>
      simp only [Bool.false_eq_true, if_false, List.filter_cons, hq]
      exact ih acc
    | true =>
      simp only [if_true, List.filter_cons, hq, List.map_cons]
      have := ih (acc ++ [out y])
      simpa using this
theorem comp_mapC {ws : List Nat} {tg : T} {it' c e : E} {σ : En} {g : Option (Nat × List D)} {ys : List β} {it out : β → D} {q : β → Bool} (hi : evI P F it' σ h = .ok (ys.map it, g) h) (hl : ys.length ≤ 1000000) (hg : gok h g) (ht : ∀ y ∈ ys, turn P F ws tg c e σ (it y) h = .ok (if q y = true then some (out y) else none) h) :
    evN P F (.comp ws tg it' c e) σ h = .ok ((ys.filter q).map out) h := by
  rw [evN_comp, hi, ok_bind, rIf_pos (by simpa using ll hl), cloop_map hg ht]
  rfl
theorem comp_map {ws : List Nat} {tg : T} {it' c e : E} {σ : En} {g : Option (Nat × List D)} {ys : List β} {it out : β → D} (hi : evI P F it' σ h = .ok (ys.map it, g) h) (hl : ys.length ≤ 1000000) (hg : gok h g) (ht : ∀ y ∈ ys, turn P F ws tg c e σ (it y) h = .ok (some (out y)) h) :
    evN P F (.comp ws tg it' c e) σ h = .ok (ys.map out) h := by
  rw [comp_mapC (q := fun _ => true) hi hl hg fun y hy => by rw [ht y hy]; rfl]
  rw [List.filter_eq_self.mpr fun _ _ => rfl]
/-! ### the table -/
def pv (p : Str × Nat × Nat) : D := .tup [.int (p.2.1 : Nat), .int (p.2.2 : Nat)]
def tK (t : List (Str × Nat × Nat)) : List Str := t.map (·.1)
def bPT : S := .for_ (.tp (.cons (.nm 2) (.cons (.tp (.cons (.nm 3) (.cons (.nm 4) .nil))) .nil))) (.iEnum (.v 0)) (.ite (.cmp .eq (.v 3) (.k (.str (PySem.Str.ofString "in")))) (.setIx (.v 1) (.v 4) (.tup (.cons (.bin .add (.v 2) (.k (.int 1))) (.cons (.bi .len (.cons (.v 0) .nil)) .nil)))) (.setIx (.v 1) (.v 4) (.tup (.cons (.ix (.ix (.v 1) (.v 4)) (.k (.int 0))) (.cons (.v 2) .nil)))))
def bPres : S := .seq (.set (.nm 1) (.nd false)) (.seq bPT (.ret (.v 1)))
theorem tb_len (evs : List (Bool × Str)) (n : Nat) : ∀ i, (tb evs n i).length ≤ i
  | 0 => Nat.le_refl _
  | i + 1 => by
    have ih := tb_len evs n i
    cases e : evs[i]? with
    | none => simp [tb, e]; omega
    | some ev =>
      obtain ⟨d, x⟩ := ev
      cases d with
      | true => rw [tb_in e]; simp; omega
      | false => rw [tb_out e]; simp; omega
theorem pres_ok (hf : P.fns f = some ⟨1, 5, bPres⟩) (V : Valid evs) (hl : evs.length ≤ 1000) :
    settle h (callN P (k + 1) f [.tup (evs.map evD)] h) = .ok (.fdc false ((tK (tb evs evs.length evs.length)).map D.str) ((tb evs evs.length evs.length).map pv)) h := by
  have q2 : (2 : Nat) ≤ LINE := by decide
  obtain ⟨fl, h', ew, a2, a3, a4, g, rfl, rfl, hg⟩ := wp_get (r := evS P (callN P k) bPT [some (.tup (evs.map evD)), some (.ref h.length), none, none, none] (h ++ [.dct false false [] []])) (Q := fun fl h' => ∃ a2 a3 a4, ∃ g : Str → D, fl = .nx [some (.tup (evs.map evD)), some (.ref h.length), a2, a3, a4] ∧ h' = h ++ [.dct false false (dk (tK (tb evs evs.length evs.length))) (dv (tK (tb evs evs.length evs.length)) g)] ∧ ∀ p ∈ tb evs evs.length evs.length, g p.1 = pv p) (by
    rw [bPT, evS_for]
    have hI : evI P (callN P k) (.iEnum (.v 0)) [some (.tup (evs.map evD)), some (.ref h.length), none, none, none] (h ++ [.dct false false [] []]) = .ok (enumL (evs.map evD), none) (h ++ [.dct false false [] []]) := by
      simp only [evI_enum, ev_v, look_z, some_opt, ok_bind]; rfl
    rw [hI, ok_bind, rIf_pos (by rw [enumL_len, List.length_map]; exact ll (by omega))]
    refine wp_floop (fun i σ h' => ∃ a2 a3 a4, ∃ g : Str → D, σ = [some (.tup (evs.map evD)), some (.ref h.length), a2, a3, a4] ∧ h' = h ++ [.dct false false (dk (tK (tb evs evs.length i))) (dv (tK (tb evs evs.length i)) g)] ∧ ∀ p ∈ tb evs evs.length i, g p.1 = pv p) (fun _ _ _ _ _ => True.intro) (fun i σ h' hi z => ?_) (fun σ h' z => ?_) ⟨_, _, _, fun _ => .non, rfl, rfl, by simp [tb]⟩
    · obtain ⟨a2, a3, a4, g, rfl, rfl, hg⟩ := z
      rw [enumL_get hi]
      have hi' : i < evs.length := by simpa [enumL_len] using hi
      have e : evs[i]? = some evs[i] := List.getElem?_eq_getElem hi'
      rw [List.getElem_map]
      generalize evs[i] = ev at e
      obtain ⟨d, x⟩ := ev
      have hw := word_in d
      have H := tb_ok V (i := i) (by omega)
      have hkl : (tK (tb evs evs.length i)).length < 1000000 := by have := tb_len evs evs.length i; simp only [tK, List.length_map]; omega
      cases d with
      | true =>
        have hx : x ∉ tK (tb evs evs.length i) := fun z => by
          obtain ⟨p, hp, e2⟩ := List.mem_map.mp z
          obtain ⟨m, h1, h2⟩ := H.ks p hp
          rw [e2] at h2
          have := one V h2 e
          omega
        have es := setItem_new (x := x) (v := .tup [.int (i + 1), .int evs.length]) (get_new (h := h) (o := .dct false false (dk (tK (tb evs evs.length i))) (dv (tK (tb evs evs.length i)) g))) hx hkl
        rw [set_new] at es
        refine wp_of (a := .nx [some (.tup (evs.map evD)), some (.ref h.length), some (.int i), some (.str (word true)), some (.str x)]) (h' := h ++ [.dct false false (dk (tK (tb evs evs.length (i + 1)))) (dv (tK (tb evs evs.length (i + 1))) fun z => if z = x then .tup [.int (i + 1), .int evs.length] else g z)]) ?_ ⟨_, _, _, _, rfl, rfl, fun p hp => ?_⟩
        · have ek : tK (tb evs evs.length (i + 1)) = tK (tb evs evs.length i) ++ [x] := by rw [tb_in e]; simp [tK]
          rw [ek]
          simp only [evD, setT_tp, setTs_cons, setTs_nil, setT_nm, Option.bind_some, put_s, put_z, bindT_some, evS_ite, ev_cmp, ev_v, look_s, look_z, some_opt, ok_bind, ev_k, cmp_eq, eqD_str, hw, truth_bl, if_true, evS_setIx, ev_tup, evs_cons, evs_nil, ev_bin, bin_addI, ev_bi, bi_lenT, List.length_map, List.length_cons, List.length_nil, Nat.zero_add, Nat.reduceAdd, rIf_pos q2, es]
        · rw [tb_in e] at hp
          rcases List.mem_append.mp hp with hp | hp
          · have : p.1 ≠ x := fun z => hx (List.mem_map.mpr ⟨p, hp, z⟩)
            rw [if_neg this]
            exact hg p hp
          · have : p = (x, i + 1, evs.length) := by simpa using hp
            subst this
            rw [if_pos rfl]
            rfl
      | false =>
        have hx : x ∈ tK (tb evs evs.length i) := by
          obtain ⟨m, h1, h2⟩ := came0 (V.out i x e)
          exact H.al m x h1 h2
        obtain ⟨p, hp, ep⟩ := List.mem_map.mp hx
        have eg : g x = .tup [.int (p.2.1 : Nat), .int (p.2.2 : Nat)] := by rw [← ep]; exact hg p hp
        have ex := ixR_dct (get_new (h := h) (o := .dct false false (dk (tK (tb evs evs.length i))) (dv (tK (tb evs evs.length i)) g))) hx
        rw [eg] at ex
        have e0 : ∀ h : Hh, ixR h (.tup [.int (p.2.1 : Nat), .int (p.2.2 : Nat)]) (.int 0) = .ok (.int (p.2.1 : Nat)) h := fun h => by
          simp only [ixR, ixD, dctOf_tup, seqOf_tup, Option.bind_some, atI_zero, some_opt]
        have es := setItem_old (x := x) (v := .tup [.int (p.2.1 : Nat), .int i]) (get_new (h := h) (o := .dct false false (dk (tK (tb evs evs.length i))) (dv (tK (tb evs evs.length i)) g))) hx hkl
        rw [set_new] at es
        refine wp_of (a := .nx [some (.tup (evs.map evD)), some (.ref h.length), some (.int i), some (.str (word false)), some (.str x)]) (h' := h ++ [.dct false false (dk (tK (tb evs evs.length (i + 1)))) (dv (tK (tb evs evs.length (i + 1))) fun z => if z = x then .tup [.int (p.2.1 : Nat), .int i] else g z)]) ?_ ⟨_, _, _, _, rfl, rfl, fun p' hp' => ?_⟩
        · have ek : tK (tb evs evs.length (i + 1)) = tK (tb evs evs.length i) := by rw [tb_out e]; exact fst_out _
          rw [ek]
          simp only [evD, setT_tp, setTs_cons, setTs_nil, setT_nm, Option.bind_some, put_s, put_z, bindT_some, evS_ite, ev_cmp, ev_v, look_s, look_z, some_opt, ok_bind, ev_k, cmp_eq, eqD_str, hw, truth_bl, Bool.false_eq_true, if_false, evS_setIx, ev_tup, evs_cons, evs_nil, ev_ix, ex, e0, List.length_cons, List.length_nil, Nat.zero_add, Nat.reduceAdd, rIf_pos q2, es]
        · rw [tb_out e] at hp'
          obtain ⟨p2, hp2, rfl⟩ := List.mem_map.mp hp'
          by_cases z : p2.1 = x
          · rw [if_pos z]
            simp only [if_true]
            have h2 := hg p2 hp2
            rw [z, eg] at h2
            unfold pv at h2 ⊢
            have h3 : ((p.2.1 : Nat) : Int) = (p2.2.1 : Nat) := by
              injection h2 with h2
              injection h2 with h2 _
              injection h2
            simp only [h3]
          · rw [if_neg z, if_neg z]
            exact hg p2 hp2
    · obtain ⟨a2, a3, a4, g, rfl, rfl, hg⟩ := z
      rw [enumL_len, List.length_map] at hg ⊢
      exact ⟨_, _, _, g, rfl, rfl, hg⟩)
  rw [callN_eq hf rfl]
  simp only [bPres, List.map_cons, List.map_nil, List.length_cons, List.length_nil, List.cons_append, List.nil_append, List.replicate, evS_seq, evS_set, ev_nd, ok_bind, setT_nm, some_opt, put_s, put_z, next_nx, ew, evS_ret, ev_v, look_s, look_z, endR_rt]
  refine settle_new ?_
  have ev' : dv (tK (tb evs evs.length evs.length)) g = (tb evs evs.length evs.length).map pv := by
    unfold dv tK
    rw [List.map_map]
    exact List.map_congr_left hg
  rw [ev']
  have e2 : frz 8 (h ++ [O.dct false false (dk (tK (tb evs evs.length evs.length))) ((tb evs evs.length evs.length).map pv)]) h.length (.ref h.length) = (((tb evs evs.length evs.length).map pv).mapM (frz 7 (h ++ [O.dct false false (dk (tK (tb evs evs.length evs.length))) ((tb evs evs.length evs.length).map pv)]) h.length)).map (D.fdc false (dk (tK (tb evs evs.length evs.length)))) := by
    simp only [frz, if_neg (Nat.lt_irrefl _), get_new]
  rw [e2, mapM_id fun d hd => ?_]
  · rfl
  · obtain ⟨p, _, rfl⟩ := List.mem_map.mp hd
    exact frz_tupI (ns := [(p.2.1 : Int), (p.2.2 : Int)])
/-! ### who stays -/
def bLot : S := .ret (.bi .tuple (.cons (.nl false (.srtS (.v 0))) .nil))
def bStaying (s : Nat) : S := .seq (.set (.tp (.cons (.nm 2) (.cons (.nm 3) .nil))) (.v 1))
  (.ret (.call s true (.cons (.nl false (.compD .items [4, 5, 6] (.tp (.cons (.nm 4) (.cons (.tp (.cons (.nm 5) (.cons (.nm 6) .nil))) .nil))) 0 (.cons (.and_ (.cmp .le (.v 5) (.v 2)) (.cmp .le (.v 3) (.v 6))) .nil) (.v 4))) .nil)))
theorem lot_eq (hf : P.fns f = some ⟨1, 1, bLot⟩) {ss : List Str} (hn : ss.Nodup) (hl : ss.length < 4000) : ∃ ts : List Str, ts.length = ss.length ∧ callN P (k + 1) f [.fls (ss.map D.str)] h = .ok (.tup (ts.map D.str)) h := by
  obtain ⟨ts, h1, h2⟩ := srtS_strs (h := h) hn hl
  refine ⟨ts, h1, ?_⟩
  rw [callN_eq hf rfl]
  simp only [bLot, List.map_cons, List.map_nil, List.length_cons, List.length_nil, List.cons_append, List.nil_append, List.replicate, evS_ret, ev_bi, evs_cons, evs_nil, ev_nlF, evN_srtS, ev_v, look_z, some_opt, ok_bind, h2, bi_tupleF, endR_rt]
theorem staying_ok (hf : P.fns f = some ⟨2, 7, bStaying s⟩) (hs' : P.sgs s = some ⟨f0, 1, [], [0]⟩) (h0 : P.fns f0 = some ⟨1, 1, bLot⟩) (V : Valid evs) (hl : evs.length ≤ 1000) {a l : Nat} (hal : a ≤ l) (hle : l ≤ evs.length) :
    ∃ ts : List Str, ts.length = both evs a l ∧ callN P (k + 2) f [.fdc false ((tK (tb evs evs.length evs.length)).map D.str) ((tb evs evs.length evs.length).map pv), .tup [.int a, .int l]] h = .ok (.tup (ts.map D.str)) h := by
  have H := tb_ok V (Nat.le_refl evs.length)
  have hn : (((tb evs evs.length evs.length).filter fun p => decide (p.2.1 ≤ a) && decide (l ≤ p.2.2)).map (·.1)).Nodup := H.nd.sublist (List.Sublist.map _ List.filter_sublist)
  have hlen := tb_both V hal hle
  have hlt := tb_len evs evs.length evs.length
  obtain ⟨ts, h1, h2⟩ := lot_eq (k := k) (h := h) h0 hn (by rw [List.length_map]; have := List.length_filter_le (fun p : Str × Nat × Nat => decide (p.2.1 ≤ a) && decide (l ≤ p.2.2)) (tb evs evs.length evs.length); omega)
  refine ⟨ts, by rw [h1, List.length_map, hlen], ?_⟩
  have ec : evN P (callN P (k + 1)) (.compD .items [4, 5, 6] (.tp (.cons (.nm 4) (.cons (.tp (.cons (.nm 5) (.cons (.nm 6) .nil))) .nil))) 0 (.cons (.and_ (.cmp .le (.v 5) (.v 2)) (.cmp .le (.v 3) (.v 6))) .nil) (.v 4)) [some (.fdc false ((tK (tb evs evs.length evs.length)).map D.str) ((tb evs evs.length evs.length).map pv)), some (.tup [.int a, .int l]), some (.int a), some (.int l), none, none, none] h =
      .ok ((((tb evs evs.length evs.length).filter fun p => decide (p.2.1 ≤ a) && decide (l ≤ p.2.2)).map (·.1)).map D.str) h := by
    have ez : dwL .items ((tK (tb evs evs.length evs.length)).map D.str) ((tb evs evs.length evs.length).map pv) = (tb evs evs.length evs.length).map fun p => .tup [.str p.1, pv p] := by
      unfold dwL tK
      rw [List.map_map]
      generalize tb evs evs.length evs.length = t
      induction t with
      | nil => rfl
      | cons p t ih => simp [ih]
    have e1 : (look [some (.fdc false ((tK (tb evs evs.length evs.length)).map D.str) ((tb evs evs.length evs.length).map pv)), some (.tup [.int a, .int l]), some (.int a), some (.int l), none, none, none] 0).bind (lkD h) = some ((tK (tb evs evs.length evs.length)).map D.str, (tb evs evs.length evs.length).map pv, h, none) := rfl
    rw [evN_compD, e1, some_opt, ok_bind]
    simp only [ez]
    rw [rIf_pos (by rw [List.length_map]; exact ll (by omega)), cloop_map (q := fun p : Str × Nat × Nat => decide (p.2.1 ≤ a) && decide (l ≤ p.2.2)) (out := fun p => D.str p.1) True.intro fun p hp => ?_]
    · rw [ok_bind, List.map_map]
      rfl
    · unfold pv
      by_cases c1 : (p.2.1 : Int) ≤ a
      · have c1' : p.2.1 ≤ a := by omega
        by_cases c2 : (l : Int) ≤ p.2.2
        · have c2' : l ≤ p.2.2 := by omega
          simp [turn, wipe, c1, c1', c2, c2']
        · have c2' : ¬ l ≤ p.2.2 := by omega
          simp [turn, wipe, c1, c1', c2, c2']
      · have c1' : ¬ p.2.1 ≤ a := by omega
        simp [turn, wipe, c1, c1']
  rw [callN_eq hf rfl]
  simp only [bStaying, List.map_cons, List.map_nil, List.length_cons, List.length_nil, List.cons_append, List.nil_append, List.replicate, evS_seq, evS_set, ev_v, look_s, look_z, some_opt, ok_bind, setT_tp, setTs_cons, setTs_nil, setT_nm, Option.bind_some, put_s, put_z, next_nx, evS_ret, ev_call hs', evs_cons, evs_nil, ev_nlF, ec, perm1, if_true, h2, settle_tupS, endR_rt]
end
end Mx.Pl
set_option Elab.async false
set_option linter.all false
set_option maxRecDepth 100000
set_option maxHeartbeats 2000000
/-! Qh: the runs and the row of stayers, walked. -/
namespace Mx.Pl
open PySem Mx.Ev
section
variable {P : Pg} {F : Ph} {h t u : Hh} {k f f0 f1 f2 f3 f4 f5 f6 s s0 s1 s2 s3 s4 s5 s6 s7 f7 r : Nat} {evs : List (Bool × Str)} {hs : List Int} {β : Type} {b : Nat}
@[simp] theorem is_nn : cmpD h .is_ .non .non = some true := id rfl
@[simp] theorem is_in {i : Int} : cmpD h .is_ (.int i) .non = some false := id rfl
@[simp] theorem isn_nn : cmpD h .isn .non .non = some false := id rfl
@[simp] theorem isn_in {i : Int} : cmpD h .isn (.int i) .non = some true := id rfl
def prD (p : Nat × Nat) : D := .tup [.int (p.1 : Nat), .int (p.2 : Nat)]
def fdD : Option Nat → D
  | none => .non
  | some f => .int (f : Nat)
def bRBf : S := .for_ (.tp (.cons (.nm 4) (.cons (.nm 5) .nil))) (.iEnum (.v 0)) (.seq (.ite (.and_ (.cmp .le (.v 5) (.v 1)) (.cmp .is_ (.v 3) (.k .non))) (.set (.nm 3) (.v 4)) .nop)
  (.ite (.and_ (.cmp .gt (.v 5) (.v 1)) (.cmp .isn (.v 3) (.k .non))) (.seq (.ex (.mt .append (.v 2) (.cons (.tup (.cons (.v 3) (.cons (.bin .sub (.v 4) (.k (.int 1))) .nil))) .nil)))
  (.set (.nm 3) (.k .non))) .nop))
def bRBe : S := .ite (.cmp .isn (.v 3) (.k .non)) (.ex (.mt .append (.v 2) (.cons (.tup (.cons (.v 3) (.cons (.bin .sub (.bi .len (.cons (.v 0) .nil)) (.k (.int 1))) .nil))) .nil))) .nop
def bRB : S := .seq (.set (.tp (.cons (.nm 2) (.cons (.nm 3) .nil))) (.tup (.cons (.nl true (.dis .nil)) (.cons (.k .non) .nil)))) (.seq bRBf (.seq bRBe (.ret (.v 2))))
def ngs (evs : List (Bool × Str)) : List Int := (List.range (evs.length + 1)).map fun i => -(c evs i : Int)
theorem rw_len {cs : Nat → Nat} (b : Nat) : ∀ i, (rw_ cs b i).1.length ≤ i
  | 0 => Nat.le_refl _
  | i + 1 => by
    have ih := rw_len (cs := cs) b i
    simp only [rw_]
    split
    · simp only; omega
    · split <;> simp <;> omega
theorem rows_ok (hf : P.fns f = some ⟨2, 6, bRB⟩) (hb : 1 ≤ b) (hl : evs.length ≤ 1000) :
    settle h (callN P (k + 1) f [.fls ((ngs evs).map D.int), .int (-(b : Int))] h) = .ok (.fls ((rows (c evs) b evs.length).map prD)) h := by
  have q2 : (2 : Nat) ≤ LINE := by decide
  have hlen : (ngs evs).length = evs.length + 1 := by simp [ngs]
  have H := fun i hi => rw_ok (evs := evs) (b := b) hb (i := i) hi
  obtain ⟨fl, h', ew, a4, a5, rfl, rfl⟩ := wp_get (r := evS P (callN P k) bRBf [some (.fls ((ngs evs).map D.int)), some (.int (-(b : Int))), some (.ref h.length), some .non, none, none] (h ++ [.lst []])) (Q := fun fl h' => ∃ a4 a5, fl = .nx [some (.fls ((ngs evs).map D.int)), some (.int (-(b : Int))), some (.ref h.length), some (fdD (rw_ (c evs) b (evs.length + 1)).2), a4, a5] ∧ h' = h ++ [.lst ((rw_ (c evs) b (evs.length + 1)).1.map prD)]) (by
    rw [bRBf, evS_for]
    have hI : evI P (callN P k) (.iEnum (.v 0)) [some (.fls ((ngs evs).map D.int)), some (.int (-(b : Int))), some (.ref h.length), some .non, none, none] (h ++ [.lst []]) = .ok (enumL ((ngs evs).map D.int), none) (h ++ [.lst []]) := by
      simp only [evI_enum, ev_v, look_z, some_opt, ok_bind]; rfl
    rw [hI, ok_bind, rIf_pos (by rw [enumL_len, List.length_map]; exact ll (by omega))]
    refine wp_floop (fun i σ h' => ∃ a4 a5, σ = [some (.fls ((ngs evs).map D.int)), some (.int (-(b : Int))), some (.ref h.length), some (fdD (rw_ (c evs) b i).2), a4, a5] ∧ h' = h ++ [.lst ((rw_ (c evs) b i).1.map prD)]) (fun _ _ _ _ _ => True.intro) (fun i σ h' hi z => ?_) (fun σ h' z => ?_) ⟨_, _, rfl, rfl⟩
    · obtain ⟨a4, a5, rfl, rfl⟩ := z
      rw [enumL_get hi]
      have hi' : i < evs.length + 1 := by rw [enumL_len, List.length_map, hlen] at hi; exact hi
      have ex : ((ngs evs).map D.int)[i]'(by rw [List.length_map, hlen]; exact hi') = .int (-(c evs i : Int)) := by simp [ngs]
      rw [ex]
      have Hi := H i (by omega)
      have hfl := rw_len (cs := c evs) b i
      generalize es : rw_ (c evs) b i = st at Hi hfl
      obtain ⟨fd, o⟩ := st
      simp only at hfl
      have q : (fd.map prD).length < 1000000 := by rw [List.length_map]; omega
      by_cases hc : b ≤ c evs i
      · have en : rw_ (c evs) b (i + 1) = (fd, some (o.getD i)) := by
          show (if b ≤ c evs i then _ else _) = _
          rw [if_pos hc, es]
        rw [en]
        have d1 : decide (-(c evs i : Int) ≤ -(b : Int)) = true := by simp; omega
        have d2 : decide (-(b : Int) < -(c evs i : Int)) = false := by simp; omega
        cases o with
        | none =>
          refine wp_of (a := .nx [some (.fls ((ngs evs).map D.int)), some (.int (-(b : Int))), some (.ref h.length), some (.int i), some (.int i), some (.int (-(c evs i : Int)))]) (h' := h ++ [.lst (fd.map prD)]) ?_ ⟨_, _, rfl, rfl⟩
          simp only [fdD, setT_tp, setTs_cons, setTs_nil, setT_nm, Option.bind_some, put_s, put_z, bindT_some, evS_seq, evS_ite, ev_and, ev_cmp, ev_v, look_s, look_z, some_opt, ok_bind, cmp_le, d1, truth_bl, if_true, ev_k, is_nn, evS_set, next_nx, cmp_gt, d2, Bool.false_eq_true, if_false, evS_nop]
        | some g =>
          refine wp_of (a := .nx [some (.fls ((ngs evs).map D.int)), some (.int (-(b : Int))), some (.ref h.length), some (.int g), some (.int i), some (.int (-(c evs i : Int)))]) (h' := h ++ [.lst (fd.map prD)]) ?_ ⟨_, _, rfl, rfl⟩
          simp only [fdD, setT_tp, setTs_cons, setTs_nil, setT_nm, Option.bind_some, put_s, put_z, bindT_some, evS_seq, evS_ite, ev_and, ev_cmp, ev_v, look_s, look_z, some_opt, ok_bind, cmp_le, d1, truth_bl, if_true, ev_k, is_in, evS_set, next_nx, cmp_gt, d2, Bool.false_eq_true, if_false, evS_nop]
      · have d1 : decide (-(c evs i : Int) ≤ -(b : Int)) = false := by simp; omega
        have d2 : decide (-(b : Int) < -(c evs i : Int)) = true := by simp; omega
        cases o with
        | none =>
          have en : rw_ (c evs) b (i + 1) = (fd, none) := by
            show (if b ≤ c evs i then _ else _) = _
            rw [if_neg hc, es]
          rw [en]
          refine wp_of (a := .nx [some (.fls ((ngs evs).map D.int)), some (.int (-(b : Int))), some (.ref h.length), some .non, some (.int i), some (.int (-(c evs i : Int)))]) (h' := h ++ [.lst (fd.map prD)]) ?_ ⟨_, _, rfl, rfl⟩
          simp only [fdD, setT_tp, setTs_cons, setTs_nil, setT_nm, Option.bind_some, put_s, put_z, bindT_some, evS_seq, evS_ite, ev_and, ev_cmp, ev_v, look_s, look_z, some_opt, ok_bind, cmp_le, d1, truth_bl, if_true, ev_k, isn_nn, evS_set, next_nx, cmp_gt, d2, Bool.false_eq_true, if_false, evS_nop]
        | some g =>
          have en : rw_ (c evs) b (i + 1) = (fd ++ [(g, i - 1)], none) := by
            show (if b ≤ c evs i then _ else _) = _
            rw [if_neg hc, es]
          rw [en]
          have hg := (Hi.fs g rfl).1
          have ei : (i : Int) - 1 = ((i - 1 : Nat) : Int) := by omega
          refine wp_of (a := .nx [some (.fls ((ngs evs).map D.int)), some (.int (-(b : Int))), some (.ref h.length), some .non, some (.int i), some (.int (-(c evs i : Int)))]) (h' := h ++ [.lst (fd.map prD ++ [.tup [.int g, .int ((i - 1 : Nat) : Int)]])]) ?_ ⟨_, _, rfl, by rw [List.map_append]; rfl⟩
          simp only [fdD, setT_tp, setTs_cons, setTs_nil, setT_nm, Option.bind_some, put_s, put_z, bindT_some, evS_seq, evS_ite, ev_and, ev_cmp, ev_v, look_s, look_z, some_opt, ok_bind, cmp_le, d1, truth_bl, if_true, ev_k, isn_in, evS_set, next_nx, cmp_gt, d2, Bool.false_eq_true, if_false, evS_nop, evS_ex, ev_mt, rIf_pos isSome_new, evs_cons, evs_nil, ev_tup, ev_bin, bin_subI, ei, List.length_cons, List.length_nil, Nat.zero_add, Nat.reduceAdd, rIf_pos q2, append_new q]
    · obtain ⟨a4, a5, rfl, rfl⟩ := z
      rw [enumL_len, List.length_map, hlen]
      exact ⟨_, _, rfl, rfl⟩)
  have Hn := H (evs.length + 1) (Nat.le_refl _)
  have hfl := rw_len (cs := c evs) b (evs.length + 1)
  have er : rows (c evs) b evs.length = match (rw_ (c evs) b (evs.length + 1)).2 with
    | none => (rw_ (c evs) b (evs.length + 1)).1
    | some f => (rw_ (c evs) b (evs.length + 1)).1 ++ [(f, evs.length)] := rfl
  generalize rw_ (c evs) b (evs.length + 1) = st at ew Hn hfl er
  obtain ⟨fd, o⟩ := st
  simp only at hfl er ew
  have q : (fd.map prD).length < 1000000 := by rw [List.length_map]; omega
  have fz : ∀ (h : Hh) (ps : List (Nat × Nat)), settle h (.ok (.ref h.length) (h ++ [.lst (ps.map prD)])) = .ok (.fls (ps.map prD)) h := fun h ps => settle_new (by
    rw [frz_lst (Nat.lt_irrefl _) (get_new (h := h)), mapM_id fun d hd => ?_]
    · rfl
    · obtain ⟨p, _, rfl⟩ := List.mem_map.mp hd
      exact frz_tupI (ns := [(p.1 : Int), (p.2 : Int)]))
  rw [callN_eq hf rfl]
  simp only [bRB, List.map_cons, List.map_nil, List.length_cons, List.length_nil, List.cons_append, List.nil_append, List.replicate, evS_seq, evS_set, ev_tup, evs_cons, evs_nil, ev_nlT, evN_dis, ok_bind, rIf_pos len0, ev_k, Nat.zero_add, Nat.reduceAdd, rIf_pos q2, some_opt, setT_tp, setTs_cons, setTs_nil, setT_nm, Option.bind_some, put_s, put_z, next_nx, ew]
  cases o with
  | none =>
    simp only at er
    rw [er, ← fz h fd]
    simp only [fdD, bRBe, evS_ite, ev_cmp, ev_v, look_s, look_z, some_opt, ok_bind, ev_k, isn_nn, truth_bl, Bool.false_eq_true, if_false, evS_nop, next_nx, evS_ret, endR_rt, evS_seq]
  | some g =>
    simp only at er
    rw [er, ← fz h (fd ++ [(g, evs.length)])]
    have ei : (((evs.length + 1 : Nat) : Int)) - 1 = ((evs.length : Nat) : Int) := by omega
    simp only [fdD, bRBe, evS_seq, evS_ite, ev_cmp, ev_v, look_s, look_z, some_opt, ok_bind, ev_k, isn_in, truth_bl, if_true, evS_ex, ev_mt, rIf_pos isSome_new, evs_cons, evs_nil, ev_tup, ev_bin, ev_bi, bi_lenF, List.length_map, hlen, bin_subI, ei, List.length_cons, List.length_nil, Nat.zero_add, Nat.reduceAdd, rIf_pos q2, append_new q, next_nx, evS_ret, endR_rt, List.map_append, List.map_cons, List.map_nil, prD]
/-! ### the row of stayers -/
def cns (evs : List (Bool × Str)) : List Int := (List.range (evs.length + 1)).map fun i => (c evs i : Int)
def mx (evs : List (Bool × Str)) : Nat := (maxL (cns evs)).toNat
def rv (evs : List (Bool × Str)) (b : Nat) : Nat := (minL ((rows (c evs) b evs.length).map fun p => (both evs p.1 p.2 : Int))).toNat
def rowI (evs : List (Bool × Str)) : List Int := (List.range (mx evs)).map fun i => (rv evs (1 + i) : Int)
theorem cns_ne : cns evs ≠ [] := by simp [cns]
theorem mx_is : (mx evs : Int) = maxL (cns evs) := by
  have := maxL_mem (cns_ne (evs := evs))
  obtain ⟨i, _, e⟩ := List.mem_map.mp this
  unfold mx
  omega
theorem mx_le : ∀ k, k ≤ evs.length → c evs k ≤ mx evs := fun k hk => by
  have h1 := le_maxL (ns := cns evs) (x := c evs k) (List.mem_map.mpr ⟨k, by simp; omega, rfl⟩)
  rw [← mx_is] at h1
  omega
theorem mx_at : ∃ k, k ≤ evs.length ∧ c evs k = mx evs := by
  have := maxL_mem (cns_ne (evs := evs))
  obtain ⟨i, hi, e⟩ := List.mem_map.mp this
  rw [← mx_is] at e
  exact ⟨i, by have := List.mem_range.mp hi; omega, by omega⟩
theorem rows_ne (h1 : 1 ≤ b) (h2 : b ≤ mx evs) : rows (c evs) b evs.length ≠ [] := fun z => by
  obtain ⟨k, hk, e⟩ := mx_at (evs := evs)
  obtain ⟨p, hp, _⟩ := rows_all (evs := evs) h1 hk (by omega)
  rw [z] at hp
  simp at hp
theorem rv_is (h1 : 1 ≤ b) (h2 : b ≤ mx evs) : (rv evs b : Int) = minL ((rows (c evs) b evs.length).map fun p => (both evs p.1 p.2 : Int)) := by
  have := minL_mem (ns := (rows (c evs) b evs.length).map fun p => (both evs p.1 p.2 : Int)) (by simpa using rows_ne h1 h2)
  obtain ⟨p, _, e⟩ := List.mem_map.mp this
  unfold rv
  omega
theorem rv_row (h1 : 1 ≤ b) (h2 : b ≤ mx evs) : Row evs b (rv evs b) := by
  have e0 := rv_is h1 h2
  have := minL_mem (ns := (rows (c evs) b evs.length).map fun p => (both evs p.1 p.2 : Int)) (by simpa using rows_ne h1 h2)
  obtain ⟨p, hp, e⟩ := List.mem_map.mp this
  refine ⟨fun q hq => ?_, p, hp, by omega⟩
  have := minL_le (ns := (rows (c evs) b evs.length).map fun p => (both evs p.1 p.2 : Int)) (x := both evs q.1 q.2) (List.mem_map.mpr ⟨q, hq, rfl⟩)
  omega
theorem min1_fls {ns : List Int} (hn : ns ≠ []) : biD h .min1 [.fls (ns.map D.int)] = .ok (.int (minL ns)) h := by
  have : 0 < ns.length := List.length_pos_iff.mpr hn
  simp [biD, biMin1, seqOf, rIf_pos this]
def bSRc : S := .for_ (.tp (.cons (.nm 4) (.cons (.nm 5) .nil))) (.iSeq (.v 0)) (.ex (.mt .append (.v 1) (.cons (.ite (.cmp .eq (.v 4) (.k (.str (PySem.Str.ofString "in")))) (.bin .add (.ix (.v 1) (.neg (.k (.int 1)))) (.k (.int 1))) (.bin .sub (.ix (.v 1) (.neg (.k (.int 1)))) (.k (.int 1)))) .nil)))
def bSRi (s6 s7 : Nat) : E := .bi .min1 (.cons (.nl false (.comp [8] (.nm 8) (.iSeq (.call s6 true (.cons (.v 3) (.cons (.neg (.v 7)) .nil)))) .nil (.bi .len (.cons (.call s7 true (.cons (.v 2) (.cons (.v 8) .nil))) .nil)))) .nil)
def bSRo (s6 s7 : Nat) : E := .comp [7] (.nm 7) (.iRg2 (.k (.int 1)) (.bin .add (.bi .max1 (.cons (.v 1) .nil)) (.k (.int 1)))) .nil (bSRi s6 s7)
def bSRa : E := .comp [6] (.nm 6) (.iSeq (.v 1)) .nil (.neg (.v 6))
def bSR (s5 s6 s7 : Nat) : S := .seq (.set (.nm 1) (.nl true (.dis (.cons (.k (.int 0)) .nil)))) (.seq bSRc (.seq (.set (.nm 2) (.call s5 true (.cons (.v 0) .nil))) (.seq (.set (.nm 3) (.nl false bSRa)) (.ret (.bi .tuple (.cons (.nl false (bSRo s6 s7)) .nil))))))
/-- the counts, walked (with other names behind them) -/
theorem cnts_for (V : Valid evs) (hl : evs.length ≤ 1000) {a2 a3 a6 a7 a8 : Option D} : ∃ a4 a5, evS P F bSRc [some (.tup (evs.map evD)), some (.ref h.length), a2, a3, none, none, a6, a7, a8] (h ++ [.lst [.int 0]]) = .ok (.nx [some (.tup (evs.map evD)), some (.ref h.length), a2, a3, a4, a5, a6, a7, a8]) (h ++ [.lst ((cns evs).map D.int)]) := by
  obtain ⟨fl, h', ew, a4, a5, rfl, rfl⟩ := wp_get (r := evS P F bSRc [some (.tup (evs.map evD)), some (.ref h.length), a2, a3, none, none, a6, a7, a8] (h ++ [.lst [.int 0]])) (Q := fun fl h' => ∃ a4 a5, fl = .nx [some (.tup (evs.map evD)), some (.ref h.length), a2, a3, a4, a5, a6, a7, a8] ∧ h' = h ++ [.lst ((cns evs).map D.int)]) (by
    rw [bSRc, evS_for]
    have hI : evI P F (.iSeq (.v 0)) [some (.tup (evs.map evD)), some (.ref h.length), a2, a3, none, none, a6, a7, a8] (h ++ [.lst [.int 0]]) = .ok (evs.map evD, none) (h ++ [.lst [.int 0]]) := by
      simp only [evI_seq, ev_v, look_z, some_opt, ok_bind, iterOf]
    rw [hI, ok_bind, rIf_pos (by rw [List.length_map]; exact ll (by omega))]
    refine wp_floop (fun i σ h' => ∃ a4 a5, σ = [some (.tup (evs.map evD)), some (.ref h.length), a2, a3, a4, a5, a6, a7, a8] ∧ h' = h ++ [.lst ((List.range (i + 1)).map fun j => .int (c evs j))]) (fun _ _ _ _ _ => True.intro) (fun i σ h' hi z => ?_) (fun σ h' z => ?_) ⟨_, _, rfl, rfl⟩
    · obtain ⟨a4, a5, rfl, rfl⟩ := z
      have hi' : i < evs.length := by simpa using hi
      have e : evs[i]? = some evs[i] := List.getElem?_eq_getElem hi'
      rw [List.getElem_map]
      generalize evs[i] = ev at e
      obtain ⟨d, x⟩ := ev
      have hw := word_in d
      have hne : (List.range (i + 1)).map (fun j => D.int (c evs j)) ≠ [] := by simp
      have hlast : ((List.range (i + 1)).map fun j => D.int (c evs j)).getLast hne = .int (c evs i) := by
        rw [List.getLast_eq_getElem]; simp
      have ex : ixR (h ++ [.lst ((List.range (i + 1)).map fun j => D.int (c evs j))]) (.ref h.length) (.int (-1)) = .ok (.int (c evs i)) (h ++ [.lst ((List.range (i + 1)).map fun j => D.int (c evs j))]) := by
        simp only [ixR, ixD, dctOf_lst get_new, seqOf_ref get_new, Option.bind_some, atI_last hne, hlast, some_opt]
      have q : ((List.range (i + 1)).map fun j => D.int (c evs j)).length < 1000000 := by simp; omega
      have es : (List.range (i + 1 + 1)).map (fun j => D.int (c evs j)) = (List.range (i + 1)).map (fun j => D.int (c evs j)) ++ [.int (c evs (i + 1))] := by rw [List.range_succ, List.map_append]; rfl
      have hv : (if d = true then (c evs i : Int) + 1 else (c evs i : Int) - 1) = c evs (i + 1) := by
        cases d with
        | true => have := c_in V e; simp; omega
        | false => have := c_out V e; simp; omega
      refine wp_of (a := .nx [some (.tup (evs.map evD)), some (.ref h.length), a2, a3, some (.str (word d)), some (.str x), a6, a7, a8]) (h' := h ++ [.lst ((List.range (i + 1 + 1)).map fun j => .int (c evs j))]) ?_ ⟨_, _, rfl, rfl⟩
      rw [es, ← hv]
      cases d <;> simp only [evD, setT_tp, setTs_cons, setTs_nil, setT_nm, Option.bind_some, put_s, put_z, bindT_some, evS_ex, ev_mt, ev_v, look_s, look_z, some_opt, ok_bind, rIf_pos isSome_new, evs_cons, evs_nil, ev_ite, ev_cmp, ev_k, cmp_eq, eqD_str, hw, truth_bl, if_true, Bool.false_eq_true, if_false, ev_bin, ev_ix, ev_neg, negD_int, ex, bin_addI, bin_subI, append_new q]
    · obtain ⟨a4, a5, rfl, rfl⟩ := z
      refine ⟨_, _, rfl, ?_⟩
      unfold cns
      rw [List.map_map, List.length_map]
      rfl)
  exact ⟨a4, a5, ew⟩
theorem stay_row_ok (hf : P.fns f = some ⟨1, 9, bSR s5 s6 s7⟩) (h5s : P.sgs s5 = some ⟨f5, 1, [], [0]⟩) (h5 : P.fns f5 = some ⟨1, 5, bPres⟩) (h6s : P.sgs s6 = some ⟨f6, 2, [], [0, 1]⟩) (h6 : P.fns f6 = some ⟨2, 6, bRB⟩) (h7s : P.sgs s7 = some ⟨f7, 2, [], [0, 1]⟩) (h7 : P.fns f7 = some ⟨2, 7, bStaying s⟩)
    (hs' : P.sgs s = some ⟨f0, 1, [], [0]⟩) (h0 : P.fns f0 = some ⟨1, 1, bLot⟩) (V : Valid evs) (hl : evs.length ≤ 1000) : settle h (callN P (k + 3) f [.tup (evs.map evD)] h) = .ok (.tup ((rowI evs).map D.int)) h := by
  have q1 : (1 : Nat) ≤ LINE := by decide
  obtain ⟨a4, a5, ec⟩ := cnts_for (P := P) (F := callN P (k + 2)) (h := h) V hl (a2 := none) (a3 := none) (a6 := none) (a7 := none) (a8 := none)
  have hml : mx evs ≤ 1000 := by
    obtain ⟨j, hj, e⟩ := mx_at (evs := evs)
    have := c_le (evs := evs) j
    omega
  -- the counts below nought
  have ea : ∀ {a2 : Option D}, evN P (callN P (k + 2)) bSRa [some (.tup (evs.map evD)), some (.ref h.length), a2, none, a4, a5, none, none, none] (h ++ [.lst ((cns evs).map D.int)]) = .ok ((ngs evs).map D.int) (h ++ [.lst ((cns evs).map D.int)]) := fun {a2} => by
    rw [bSRa, comp_ints (ns := cns evs) (g := some (h.length, (cns evs).map D.int)) (p := fun n => -n) ?_ (by simp [cns]; unfold LINE; omega) get_new fun n hn => ?_]
    · congr 2
      unfold ngs cns
      rw [List.map_map]
      rfl
    · simp only [evI_seq, ev_v, look_s, look_z, some_opt, ok_bind, iterOf, get_new]
    · simp [wipe]
  -- the row
  have eo : ∀ (h2 : Hh) (tt a1 : D) (hm : biD h2 .max1 [a1] = .ok (.int (maxL (cns evs))) h2), evN P (callN P (k + 2)) (bSRo s6 s7) [some tt, some a1, some (.fdc false ((tK (tb evs evs.length evs.length)).map D.str) ((tb evs evs.length evs.length).map pv)), some (.fls ((ngs evs).map D.int)), a4, a5, none, none, none] h2 = .ok ((rowI evs).map D.int) h2 := fun h2 tt a1 hm => by
    have e1 : (rowI evs).map D.int = (List.range (mx evs)).map fun i => D.int (rv evs (1 + i)) := by
      unfold rowI
      rw [List.map_map]
      rfl
    rw [e1, bSRo]
    refine comp_map (it := fun i : Nat => D.int (1 + i)) (g := none) ?_ (by simp; omega) True.intro fun i hi => ?_
    · simp only [evI_rg2, ev_k, ok_bind, ev_bin, ev_bi, evs_cons, evs_nil, ev_v, look_s, look_z, some_opt, hm, bin_addI]
      rw [← mx_is, rg2_int (by omega)]
      have : ((mx evs : Int) + 1 - 1).toNat = mx evs := by omega
      rw [this]
    · have hi := List.mem_range.mp hi
      have g1 : 1 ≤ 1 + i := by omega
      have g2 : 1 + i ≤ mx evs := by omega
      have er := rows_ok (P := P) (k := k + 1) (h := h2) (b := 1 + i) h6 g1 hl
      have ei : -(((1 + i : Nat) : Int)) = -(1 + (i : Int)) := by omega
      rw [ei] at er
      have e2 : evN P (callN P (k + 2)) (.comp [8] (.nm 8) (.iSeq (.call s6 true (.cons (.v 3) (.cons (.neg (.v 7)) .nil)))) .nil (.bi .len (.cons (.call s7 true (.cons (.v 2) (.cons (.v 8) .nil))) .nil))) [some tt, some a1, some (.fdc false ((tK (tb evs evs.length evs.length)).map D.str) ((tb evs evs.length evs.length).map pv)), some (.fls ((ngs evs).map D.int)), a4, a5, none, some (.int (1 + i)), none] h2 = .ok (((rows (c evs) (1 + i) evs.length).map fun p => (both evs p.1 p.2 : Int)).map D.int) h2 := by
        rw [List.map_map]
        refine comp_map (it := prD) (g := none) ?_ ?_ True.intro fun p hp => ?_
        · simp only [evI_seq, ev_call h6s, evs_cons, evs_nil, ev_v, look_s, look_z, some_opt, ok_bind, ev_neg, negD_int, perm2, if_true, er, iterOf]
        · have := rw_len (cs := c evs) (1 + i) (evs.length + 1)
          unfold rows
          split
          · omega
          · simp; omega
        · have R := rows_run g1 hp
          obtain ⟨ts, t1, t2⟩ := staying_ok (P := P) (k := k) (h := h2) h7 hs' h0 V hl R.le R.up
          rw [turn_nm]
          simp only [wipe, List.foldl_cons, List.foldl_nil, List.set_cons_succ, List.set_cons_zero, put_s, put_z, ev_bi, evs_cons, evs_nil, ev_call h7s, ev_v, look_s, look_z, some_opt, ok_bind, perm2, if_true, prD, t2, settle_tupS, bi_lenT, List.length_map, t1, quiet_ok, Function.comp]
      rw [turn_nm]
      have em := min1_fls (h := h2) (ns := (rows (c evs) (1 + i) evs.length).map fun p => (both evs p.1 p.2 : Int)) (by simpa using rows_ne g1 g2)
      rw [← rv_is g1 g2] at em
      simp only [wipe, List.foldl_cons, List.foldl_nil, List.set_cons_succ, List.set_cons_zero, put_s, put_z, bSRi, ev_bi, evs_cons, evs_nil, ev_nlF, e2, ok_bind, em, quiet_ok]
  have hm := max1_ref (get_new (h := h) (o := .lst ((cns evs).map D.int))) cns_ne
  have ep := pres_ok (P := P) (k := k + 1) (h := h ++ [.lst ((cns evs).map D.int)]) h5 V hl
  rw [callN_eq hf rfl]
  simp only [bSR, List.map_cons, List.map_nil, List.length_cons, List.length_nil, List.cons_append, List.nil_append, List.replicate, evS_seq, evS_set, ev_nlT, evN_dis, evs_cons, evs_nil, ev_k, ok_bind, Nat.zero_add, Nat.reduceAdd, rIf_pos q1, setT_nm, some_opt, put_s, put_z, next_nx, ec, ev_call h5s, ev_v, look_s, look_z, perm1, if_true, ep, ev_nlF, ea, evS_ret, ev_bi, eo _ _ _ hm, bi_tupleF, endR_rt]
  exact settle_new frz_tupI
end
end Mx.Pl
set_option Elab.async false
set_option linter.all false
set_option maxRecDepth 100000
set_option maxHeartbeats 2000000
/-! Qi: what suffices, the further stack, walked. -/
namespace Mx.Pl
open PySem Mx.Ev
section
variable {P : Pg} {F : Ph} {h t u : Hh} {k f f0 f1 f2 f3 f4 f5 f6 s s0 s1 s2 s3 s4 s5 s6 s7 s8 s9 s10 f7 f8 f9 f10 r cY : Nat} {evs : List (Bool × Str)} {hs : List Int} {β : Type} {b : Nat}
theorem asB_bls : ∀ {bs : List Bool}, asB (bs.map D.bl) = some bs
  | [] => rfl
  | x :: bs => by simp only [List.map_cons, asB, asB_bls, Option.map_some]
theorem all_fls {bs : List Bool} : biD h .all [.fls (bs.map D.bl)] = .ok (.bl (bs.all id)) h := by simp [biD, biAll, lstOf, asB_bls]
theorem any_fls {bs : List Bool} : biD h .any [.fls (bs.map D.bl)] = .ok (.bl (bs.any id)) h := by simp [biD, biAny, lstOf, asB_bls]
theorem enumL_map {n : Nat} {g : Nat → D} : enumL ((List.range n).map g) = (List.range n).map fun i => .tup [.int i, g i] := by
  refine List.ext_getElem (by simp [enumL]) fun i h1 h2 => ?_
  rw [enumL_get]
  simp
theorem rowI_D : (rowI evs).map D.int = (List.range (mx evs)).map fun i => D.int (rv evs (1 + i)) := by
  unfold rowI
  rw [List.map_map]
  rfl
theorem rowI_len : (rowI evs).length = mx evs := by simp [rowI]
theorem mx_le_len : mx evs ≤ evs.length := by
  obtain ⟨j, hj, e⟩ := mx_at (evs := evs)
  have := c_le (evs := evs) j
  omega
def bDNc : E := .nl false (.comp [3] (.nm 3) (.iSeq (.v 0)) .nil (.bi .max2 (.cons (.k (.int 0)) (.cons (.bin .sub (.v 3) (.v 2)) .nil))))
def bDN : S := .seq (.set (.nm 2) (.bin .sub (.bi .sum (.cons (.v 0) .nil)) (.v 1))) (.ret (.bi .sum (.cons bDNc .nil)))
theorem deepn_eq (hf : P.fns f = some ⟨2, 4, bDN⟩) (hl : hs.length ≤ 1000000) (b : Int) : callN P (k + 1) f [.tup (hs.map D.int), .int b] h = .ok (.int (dp hs b)) h := by
  have e5 : ev P (callN P k) bDNc [some (.tup (hs.map D.int)), some (.int b), some (.int (hs.sum - b)), none] h = .ok (.fls ((hs.map fun x => if x - (hs.sum - b) > 0 then x - (hs.sum - b) else 0).map D.int)) h := by
    rw [bDNc, ev_nlF, comp_ints (ns := hs) (g := none) (p := fun x => if x - (hs.sum - b) > 0 then x - (hs.sum - b) else 0) (by simp [iterOf]) (ll hl) trivial fun n hn => ?_]
    · rfl
    · simp [wipe]
  rw [callN_eq hf rfl]
  simp only [bDN, List.map_cons, List.map_nil, List.length_cons, List.length_nil, List.cons_append, List.nil_append, List.replicate, evS_seq, evS_set, ev_bin, ev_bi, evs_cons, evs_nil, ev_v, look_s, look_z, some_opt, ok_bind, bi_sumT, bin_subI, setT_nm, put_s, put_z, next_nx, evS_ret, e5, bi_sumF, endR_rt]
  rfl
open Classical in
noncomputable def sufB (evs : List (Bool × Str)) (hs : List Int) : Bool := decide (Suff (mx evs) (rv evs) hs)
theorem sufB_iff : sufB evs hs = true ↔ Suff (mx evs) (rv evs) hs := by simp [sufB]
def bSufC (s : Nat) : E := .nl false (.comp [2, 3] (.tp (.cons (.nm 2) (.cons (.nm 3) .nil))) (.iEnum (.v 1)) .nil (.cmp .le (.call s true (.cons (.v 0) (.cons (.bin .add (.v 2) (.k (.int 1))) .nil))) (.v 3)))
def bSuf (s : Nat) : S := .seq (.ite (.cmp .gt (.bi .len (.cons (.v 1) .nil)) (.bi .sum (.cons (.v 0) .nil))) (.ret (.k (.bl false))) .nop) (.ret (.bi .all (.cons (bSufC s) .nil)))
theorem suf_eq (hf : P.fns f = some ⟨2, 4, bSuf s⟩) (hs' : P.sgs s = some ⟨f0, 2, [], [0, 1]⟩) (h0 : P.fns f0 = some ⟨2, 4, bDN⟩) (hl : hs.length ≤ 1000000) (he : evs.length ≤ 1000) : callN P (k + 2) f [.tup (hs.map D.int), .tup ((rowI evs).map D.int)] h = .ok (.bl (sufB evs hs)) h := by
  have hml := mx_le_len (evs := evs)
  have ec : ev P (callN P (k + 1)) (bSufC s) [some (.tup (hs.map D.int)), some (.tup ((rowI evs).map D.int)), none, none] h = .ok (.fls (((List.range (mx evs)).map fun i : Nat => decide (dp hs (i + 1) ≤ (rv evs (1 + i) : Int))).map D.bl)) h := by
    rw [bSufC, ev_nlF, List.map_map, comp_map (ys := List.range (mx evs)) (it := fun i : Nat => .tup [.int i, .int (rv evs (1 + i))]) (g := none) ?_ (by simp; omega) True.intro fun i hi => ?_]
    · rfl
    · simp only [evI_enum, ev_v, look_s, look_z, some_opt, ok_bind, rowI_D]
      show R.ok (enumL _, none) h = _
      rw [enumL_map]
    · simp [turn, wipe, ev_call hs', deepn_eq h0 hl, settle_int]
  rw [callN_eq hf rfl]
  have hlen : ((rowI evs).map D.int).length = mx evs := by rw [List.length_map, rowI_len]
  by_cases q : hs.sum < (mx evs : Int)
  · have : sufB evs hs = false := by
      rw [← Bool.not_eq_true, sufB_iff]
      exact fun z => by have := z.1; omega
    rw [this]
    have qd : decide (hs.sum < (mx evs : Int)) = true := decide_eq_true q
    simp only [bSuf, List.map_cons, List.map_nil, List.length_cons, List.length_nil, List.cons_append, List.nil_append, List.replicate, evS_seq, evS_ite, ev_cmp, ev_bi, evs_cons, evs_nil, ev_v, look_s, look_z, some_opt, ok_bind, bi_lenT, hlen, bi_sumT, cmp_gt, qd, truth_bl, if_true, evS_ret, ev_k, next_rt, endR_rt]
  · have qd : decide (hs.sum < (mx evs : Int)) = false := decide_eq_false q
    have : ((List.range (mx evs)).map fun i : Nat => decide (dp hs (i + 1) ≤ (rv evs (1 + i) : Int))).all id = sufB evs hs := by
      rw [Bool.eq_iff_iff, sufB_iff]
      simp only [List.all_map, List.all_eq_true, List.mem_range, Function.comp, id, decide_eq_true_eq]
      constructor
      · intro H
        refine ⟨by omega, fun b hb hbm => ?_⟩
        have := H (b - 1) (by omega)
        have e1 : 1 + (b - 1) = b := by omega
        have e2 : ((b - 1 : Nat) : Int) + 1 = b := by omega
        rw [e1, e2] at this
        exact this
      · intro H i hi
        have := H.2 (1 + i) (by omega) (by omega)
        have e2 : ((1 + i : Nat) : Int) = (i : Int) + 1 := by omega
        rw [e2] at this
        exact this
    simp only [bSuf, List.map_cons, List.map_nil, List.length_cons, List.length_nil, List.cons_append, List.nil_append, List.replicate, evS_seq, evS_ite, ev_cmp, ev_bi, evs_cons, evs_nil, ev_v, look_s, look_z, some_opt, ok_bind, bi_lenT, hlen, bi_sumT, cmp_gt, qd, truth_bl, Bool.false_eq_true, if_false, evS_nop, next_nx, evS_ret, ec, all_fls, this, endR_rt]
/-! ### the further stack -/
/-- the answer: none, or the least height -/
def FS (evs : List (Bool × Str)) (hs : List Int) : Option Nat → Prop
  | none => Never (mx evs) (rv evs) hs
  | some x => ¬ Never (mx evs) (rv evs) hs ∧ Suff (mx evs) (rv evs) (hs ++ [(x : Int)]) ∧ ∀ y : Nat, y < x → ¬ Suff (mx evs) (rv evs) (hs ++ [(y : Int)])
theorem least {p : Nat → Prop} : ∀ n : Nat, p n → ∃ m, m ≤ n ∧ p m ∧ ∀ y, y < m → ¬ p y := by
  intro n
  induction n using Nat.strongRecOn with
  | ind n ih =>
    intro hn
    by_cases h : ∃ y, y < n ∧ p y
    · obtain ⟨y, hy, hp⟩ := h
      obtain ⟨m, h1, h2⟩ := ih y hy hp
      exact ⟨m, by omega, h2⟩
    · exact ⟨n, Nat.le_refl _, hn, fun y hy hp => h ⟨y, hy, hp⟩⟩
theorem rv_top (V : Valid evs) (h1 : 1 ≤ mx evs) : rv evs (mx evs) = mx evs := row_top V (fun k hk => mx_le k hk) h1 (rv_row h1 (Nat.le_refl _))
theorem fs_ex (V : Valid evs) (hy : YardH hs) : ∃ o, FS evs hs o ∧ ∀ x, o = some x → (x : Int) ≤ (if (mx evs : Int) - (hs.sum + 1 - maxL hs) > 0 then (mx evs : Int) - (hs.sum + 1 - maxL hs) else 0) := by
  by_cases q : Never (mx evs) (rv evs) hs
  · exact ⟨none, q, fun x hx => by cases hx⟩
  · have hn : hs ≠ [] := fun z => by have := hy.1; rw [z] at this; simp at this
    have h1 := maxL_mem hn
    have h2 := (hy.2.2 _ h1).1
    have top := suff_top (m := mx evs) (r := rv evs) (hs := hs) (mx := maxL hs) (x := (((if (mx evs : Int) - (hs.sum + 1 - maxL hs) > 0 then (mx evs : Int) - (hs.sum + 1 - maxL hs) else 0).toNat : Nat) : Int)) (fun z hz => by have := (hy.2.2 z hz).1; omega) (fun z hz => le_maxL hz) h2 (fun h => rv_top V h) q (by split <;> omega) (by omega)
    obtain ⟨m, g1, g2, g3⟩ := least (p := fun n : Nat => Suff (mx evs) (rv evs) (hs ++ [(n : Int)])) _ top
    refine ⟨some m, ⟨q, g2, g3⟩, fun x hx => ?_⟩
    have : m = x := by simpa using hx
    subst this
    split at g1 <;> split <;> omega
def oD : Option Nat → D
  | none => .non
  | some x => .int (x : Nat)
def bFSn : E := .bi .any (.cons (.nl false (.comp [5, 6] (.tp (.cons (.nm 5) (.cons (.nm 6) .nil))) (.iEnum (.v 3)) .nil (.cmp .lt (.v 6) (.bin .sub (.bin .add (.v 5) (.k (.int 1))) (.v 4))))) .nil)
def bFSw (s10 cY : Nat) : S := .while_ (.not_ (.call s10 true (.cons (.bin .add (.fld [cY] (.v 0) 0) (.tup (.cons (.v 2) .nil))) (.cons (.v 3) .nil)))) (.aug 2 .add (.k (.int 1)))
def bFS (s9 s3 s10 cY : Nat) : S := .seq (.set (.tp (.cons (.nm 3) (.cons (.nm 4) .nil))) (.tup (.cons (.call s9 true (.cons (.v 1) .nil)) (.cons (.call s3 true (.cons (.v 0) .nil)) .nil))))
  (.seq (.ite bFSn (.ret (.k .non)) .nop)
  (.seq (.set (.nm 2) (.bi .max2 (.cons (.k (.int 0)) (.cons (.bin .sub (.bi .len (.cons (.v 3) .nil)) (.v 4)) .nil))))
  (.seq (bFSw s10 cY) (.ret (.v 2)))))
theorem fs_ok (hf : P.fns f = some ⟨2, 7, bFS s9 s3 s10 cY⟩) (h9s : P.sgs s9 = some ⟨f9, 1, [], [0]⟩) (h9 : ∀ h, settle h (callN P (k + 3) f9 [.tup (evs.map evD)] h) = .ok (.tup ((rowI evs).map D.int)) h) (h3s : P.sgs s3 = some ⟨f3, 1, [], [0]⟩) (h3 : P.fns f3 = some ⟨1, 1, bPlaces cY⟩)
    (h10s : P.sgs s10 = some ⟨f10, 2, [], [0, 1]⟩) (h10 : P.fns f10 = some ⟨2, 4, bSuf s⟩) (hs' : P.sgs s = some ⟨f0, 2, [], [0, 1]⟩) (h0 : P.fns f0 = some ⟨2, 4, bDN⟩) (hy : YardH hs) (he : evs.length ≤ 1000) {o : Option Nat} (ho : FS evs hs o) (hx : ∀ x, o = some x → x < 100000) :
    callN P (k + 4) f [.obj cY [.tup (hs.map D.int)], .tup (evs.map evD)] h = .ok (oD o) h := by
  have q2 : (2 : Nat) ≤ LINE := by decide
  have q1 : (1 : Nat) ≤ LINE := by decide
  have hml := mx_le_len (evs := evs)
  have hlh : hs.length ≤ 12 := hy.2.1
  have hlen : ((rowI evs).map D.int).length = mx evs := by rw [List.length_map, rowI_len]
  obtain ⟨nb, hnb, hnv⟩ : ∃ nb : Bool, (nb = true ↔ Never (mx evs) (rv evs) hs) ∧ ev P (callN P (k + 3)) bFSn [some (.obj cY [.tup (hs.map D.int)]), some (.tup (evs.map evD)), none, some (.tup ((rowI evs).map D.int)), some (.int hs.sum), none, none] h = .ok (.bl nb) h := by
    refine ⟨((List.range (mx evs)).map fun i : Nat => decide ((rv evs (1 + i) : Int) < (i : Int) + 1 - hs.sum)).any id, ?_, ?_⟩
    · simp only [List.any_map, List.any_eq_true, List.mem_range, Function.comp, id, decide_eq_true_eq]
      constructor
      · rintro ⟨i, hi, e⟩
        exact ⟨1 + i, by omega, by omega, by omega⟩
      · rintro ⟨b, h1, h2, h3⟩
        refine ⟨b - 1, by omega, ?_⟩
        have e1 : 1 + (b - 1) = b := by omega
        rw [e1]
        omega
    · have ec : evN P (callN P (k + 3)) (.comp [5, 6] (.tp (.cons (.nm 5) (.cons (.nm 6) .nil))) (.iEnum (.v 3)) .nil (.cmp .lt (.v 6) (.bin .sub (.bin .add (.v 5) (.k (.int 1))) (.v 4)))) [some (.obj cY [.tup (hs.map D.int)]), some (.tup (evs.map evD)), none, some (.tup ((rowI evs).map D.int)), some (.int hs.sum), none, none] h = .ok (((List.range (mx evs)).map fun i : Nat => decide ((rv evs (1 + i) : Int) < (i : Int) + 1 - hs.sum)).map D.bl) h := by
        rw [List.map_map]
        refine comp_map (ys := List.range (mx evs)) (it := fun i : Nat => .tup [.int i, .int (rv evs (1 + i))]) (g := none) ?_ (by simp; omega) True.intro fun i hi => ?_
        · simp only [evI_enum, ev_v, look_s, look_z, some_opt, ok_bind, rowI_D]
          show R.ok (enumL _, none) h = _
          rw [enumL_map]
        · simp [turn, wipe]
      simp only [bFSn, ev_bi, evs_cons, evs_nil, ev_nlF, ec, ok_bind, any_fls]
  have base : callN P (k + 4) f [.obj cY [.tup (hs.map D.int)], .tup (evs.map evD)] h = (next P (callN P (k + 3)) (.seq (.ite bFSn (.ret (.k .non)) .nop)
      (.seq (.set (.nm 2) (.bi .max2 (.cons (.k (.int 0)) (.cons (.bin .sub (.bi .len (.cons (.v 3) .nil)) (.v 4)) .nil))))
      (.seq (bFSw s10 cY) (.ret (.v 2))))) (.nx [some (.obj cY [.tup (hs.map D.int)]), some (.tup (evs.map evD)), none, some (.tup ((rowI evs).map D.int)), some (.int hs.sum), none, none]) h).bind endR := by
    rw [callN_eq hf rfl]
    simp only [bFS, List.map_cons, List.map_nil, List.length_cons, List.length_nil, List.cons_append, List.nil_append, List.replicate, evS_seq, evS_set, ev_tup, evs_cons, evs_nil, ev_call h9s, ev_call h3s, ev_v, look_s, look_z, some_opt, ok_bind, perm1, if_true, h9, places_eq h3, settle_int, Nat.zero_add, Nat.reduceAdd, rIf_pos q2, setT_tp, setTs_cons, setTs_nil, setT_nm, Option.bind_some, put_s, put_z]
  rw [base]
  cases o with
  | none =>
    have : nb = true := hnb.mpr ho
    rw [this] at hnv
    simp only [next_nx, evS_seq, evS_ite, hnv, ok_bind, truth_bl, some_opt, if_true, evS_ret, ev_k, next_rt, endR_rt, oD]
  | some x =>
    obtain ⟨o1, o2, o3⟩ := ho
    have hx := hx x rfl
    have hnb' : nb = false := by rw [← Bool.not_eq_true, hnb]; exact o1
    rw [hnb'] at hnv
    have hsum : (mx evs : Int) ≤ hs.sum + x := by have := o2.1; simpa using this
    obtain ⟨s', es⟩ : ∃ s' : Nat, (if (mx evs : Int) - hs.sum > 0 then (mx evs : Int) - hs.sum else 0) = s' := ⟨(if (mx evs : Int) - hs.sum > 0 then (mx evs : Int) - hs.sum else 0).toNat, by split <;> omega⟩
    have hsx : s' ≤ x := by split at es <;> omega
    obtain ⟨fl, h', ew, rfl, rfl⟩ := wp_get (r := evS P (callN P (k + 3)) (bFSw s10 cY) [some (.obj cY [.tup (hs.map D.int)]), some (.tup (evs.map evD)), some (.int s'), some (.tup ((rowI evs).map D.int)), some (.int hs.sum), none, none] h) (Q := fun fl h' => fl = .nx [some (.obj cY [.tup (hs.map D.int)]), some (.tup (evs.map evD)), some (.int (x : Nat)), some (.tup ((rowI evs).map D.int)), some (.int hs.sum), none, none] ∧ h' = h) (by
      rw [bFSw, evS_while]
      refine wp_wloop (fun n σ h2 => h2 = h ∧ ∃ s' : Nat, σ = [some (.obj cY [.tup (hs.map D.int)]), some (.tup (evs.map evD)), some (.int s'), some (.tup ((rowI evs).map D.int)), some (.int hs.sum), none, none] ∧ s' + n = x) (fun n σ h2 ⟨e1, s2, e2, e3⟩ => ?_) FUEL (x - s') _ _ (by unfold FUEL; omega) ⟨rfl, s', rfl, by omega⟩
      subst e1 e2
      have ee : hs.map D.int ++ [D.int (s2 : Nat)] = (hs ++ [(s2 : Int)]).map D.int := by simp
      have eb : ∀ h, binD h .add (.tup (hs.map D.int)) (.tup [.int (s2 : Nat)]) = .ok (.tup ((hs ++ [(s2 : Int)]).map D.int)) h := fun h => by
        rw [bin_addT (by simp; unfold LINE; omega), ee]
      have ec := suf_eq (P := P) (k := k + 1) (h := h2) (hs := hs ++ [(s2 : Int)]) (evs := evs) h10 hs' h0 (by simp; omega) he
      have e0 : ev P (callN P (k + 3)) (.not_ (.call s10 true (.cons (.bin .add (.fld [cY] (.v 0) 0) (.tup (.cons (.v 2) .nil))) (.cons (.v 3) .nil)))) [some (.obj cY [.tup (hs.map D.int)]), some (.tup (evs.map evD)), some (.int s2), some (.tup ((rowI evs).map D.int)), some (.int hs.sum), none, none] h2 = .ok (.bl (!sufB evs (hs ++ [(s2 : Int)]))) h2 := by
        simp only [ev_not, ev_call h10s, evs_cons, evs_nil, ev_bin, ev_fld, ev_v, look_s, look_z, some_opt, ok_bind, fldD_obj, List.mem_singleton, if_true, List.getElem?_cons_zero, ev_tup, List.length_cons, List.length_nil, Nat.zero_add, rIf_pos q1, eb, perm2, ec, settle_bl, truth_bl]
      by_cases q : s2 = x
      · subst q
        rw [sufB_iff.mpr o2] at e0
        refine wp_of (a := false) (h' := h2) ?_ ?_
        · simp only [e0, ok_bind, truth_bl, some_opt, Bool.not_true]
        · rw [if_neg (by decide)]
          exact ⟨rfl, rfl⟩
      · have : sufB evs (hs ++ [(s2 : Int)]) = false := by rw [← Bool.not_eq_true, sufB_iff]; exact o3 s2 (by omega)
        rw [this] at e0
        refine wp_of (a := true) (h' := h2) ?_ ?_
        · simp only [e0, ok_bind, truth_bl, some_opt, Bool.not_false]
        · rw [if_pos rfl]
          refine wp_of (a := .nx [some (.obj cY [.tup (hs.map D.int)]), some (.tup (evs.map evD)), some (.int ((s2 + 1 : Nat) : Int)), some (.tup ((rowI evs).map D.int)), some (.int hs.sum), none, none]) (h' := h2) ?_ ⟨n - 1, by omega, rfl, s2 + 1, rfl, by omega⟩
          simp only [evS_aug, look_s, look_z, some_opt, ok_bind, ev_k, aug_addI, put_s, put_z, Int.natCast_add, Int.cast_ofNat_Int])
    simp only [next_nx, evS_seq, evS_ite, hnv, ok_bind, truth_bl, some_opt, Bool.false_eq_true, if_false, evS_nop, evS_set, ev_bi, evs_cons, evs_nil, ev_k, ev_bin, ev_v, look_s, look_z, bi_lenT, hlen, bin_subI, bi_max2, es, setT_nm, put_s, put_z, ew, evS_ret, endR_rt, oD]
/-! ### all boxes -/
def bAllB (s3 cY : Nat) : S := .ret (.bin .sub (.bin .add (.call s3 true (.cons (.v 0) .nil)) (.k (.int 1))) (.bi .max1 (.cons (.fld [cY] (.v 0) 0) .nil)))
theorem max1_tup {ns : List Int} (hn : ns ≠ []) : biD h .max1 [.tup (ns.map D.int)] = .ok (.int (maxL ns)) h := by
  have : 0 < ns.length := List.length_pos_iff.mpr hn
  simp [biD, biMax1, seqOf, rIf_pos this]
theorem allb_eq (hf : P.fns f = some ⟨1, 1, bAllB s3 cY⟩) (h3s : P.sgs s3 = some ⟨f3, 1, [], [0]⟩) (h3 : P.fns f3 = some ⟨1, 1, bPlaces cY⟩) (hn : hs ≠ []) : callN P (k + 2) f [.obj cY [.tup (hs.map D.int)]] h = .ok (.int (hs.sum + 1 - maxL hs)) h := by
  rw [callN_eq hf rfl]
  simp only [bAllB, List.map_cons, List.map_nil, List.length_cons, List.length_nil, List.cons_append, List.nil_append, List.replicate, evS_ret, ev_bin, ev_call h3s, evs_cons, evs_nil, ev_v, look_s, look_z, some_opt, ok_bind, perm1, if_true, places_eq h3, settle_int, ev_k, bin_addI, ev_bi, ev_fld, fldD_obj, List.mem_singleton, List.getElem?_cons_zero, max1_tup hn, bin_subI, endR_rt]
/-! ### the most boxes at a time -/
def bMostF : S := .for_ (.tp (.cons (.nm 2) (.cons (.nm 3) .nil))) (.iSeq (.v 0)) (.ex (.mt .append (.v 1) (.cons (.ite (.cmp .eq (.v 2) (.k (.str (PySem.Str.ofString "in")))) (.bin .add (.ix (.v 1) (.neg (.k (.int 1)))) (.k (.int 1))) (.bin .sub (.ix (.v 1) (.neg (.k (.int 1)))) (.k (.int 1)))) .nil)))
def bMost : S := .seq (.set (.nm 1) (.nl true (.dis (.cons (.k (.int 0)) .nil)))) (.seq bMostF (.ret (.bi .max1 (.cons (.v 1) .nil))))
theorem most_for (V : Valid evs) (hl : evs.length ≤ 1000) : ∃ a4 a5, evS P F bMostF [some (.tup (evs.map evD)), some (.ref h.length), none, none] (h ++ [.lst [.int 0]]) = .ok (.nx [some (.tup (evs.map evD)), some (.ref h.length), a4, a5]) (h ++ [.lst ((cns evs).map D.int)]) := by
  obtain ⟨fl, h', ew, a4, a5, rfl, rfl⟩ := wp_get (r := evS P F bMostF [some (.tup (evs.map evD)), some (.ref h.length), none, none] (h ++ [.lst [.int 0]])) (Q := fun fl h' => ∃ a4 a5, fl = .nx [some (.tup (evs.map evD)), some (.ref h.length), a4, a5] ∧ h' = h ++ [.lst ((cns evs).map D.int)]) (by
    rw [bMostF, evS_for]
    have hI : evI P F (.iSeq (.v 0)) [some (.tup (evs.map evD)), some (.ref h.length), none, none] (h ++ [.lst [.int 0]]) = .ok (evs.map evD, none) (h ++ [.lst [.int 0]]) := by
      simp only [evI_seq, ev_v, look_z, some_opt, ok_bind, iterOf]
    rw [hI, ok_bind, rIf_pos (by rw [List.length_map]; exact ll (by omega))]
    refine wp_floop (fun i σ h' => ∃ a4 a5, σ = [some (.tup (evs.map evD)), some (.ref h.length), a4, a5] ∧ h' = h ++ [.lst ((List.range (i + 1)).map fun j => .int (c evs j))]) (fun _ _ _ _ _ => True.intro) (fun i σ h' hi z => ?_) (fun σ h' z => ?_) ⟨_, _, rfl, rfl⟩
    · obtain ⟨a4, a5, rfl, rfl⟩ := z
      have hi' : i < evs.length := by simpa using hi
      have e : evs[i]? = some evs[i] := List.getElem?_eq_getElem hi'
      rw [List.getElem_map]
      generalize evs[i] = ev at e
      obtain ⟨d, x⟩ := ev
      have hw := word_in d
      have hne : (List.range (i + 1)).map (fun j => D.int (c evs j)) ≠ [] := by simp
      have hlast : ((List.range (i + 1)).map fun j => D.int (c evs j)).getLast hne = .int (c evs i) := by
        rw [List.getLast_eq_getElem]; simp
      have ex : ixR (h ++ [.lst ((List.range (i + 1)).map fun j => D.int (c evs j))]) (.ref h.length) (.int (-1)) = .ok (.int (c evs i)) (h ++ [.lst ((List.range (i + 1)).map fun j => D.int (c evs j))]) := by
        simp only [ixR, ixD, dctOf_lst get_new, seqOf_ref get_new, Option.bind_some, atI_last hne, hlast, some_opt]
      have q : ((List.range (i + 1)).map fun j => D.int (c evs j)).length < 1000000 := by simp; omega
      have es : (List.range (i + 1 + 1)).map (fun j => D.int (c evs j)) = (List.range (i + 1)).map (fun j => D.int (c evs j)) ++ [.int (c evs (i + 1))] := by rw [List.range_succ, List.map_append]; rfl
      have hv : (if d = true then (c evs i : Int) + 1 else (c evs i : Int) - 1) = c evs (i + 1) := by
        cases d with
        | true => have := c_in V e; simp; omega
        | false => have := c_out V e; simp; omega
      refine wp_of (a := .nx [some (.tup (evs.map evD)), some (.ref h.length), some (.str (word d)), some (.str x)]) (h' := h ++ [.lst ((List.range (i + 1 + 1)).map fun j => .int (c evs j))]) ?_ ⟨_, _, rfl, rfl⟩
      rw [es, ← hv]
      cases d <;> simp only [evD, setT_tp, setTs_cons, setTs_nil, setT_nm, Option.bind_some, put_s, put_z, bindT_some, evS_ex, ev_mt, ev_v, look_s, look_z, some_opt, ok_bind, rIf_pos isSome_new, evs_cons, evs_nil, ev_ite, ev_cmp, ev_k, cmp_eq, eqD_str, hw, truth_bl, if_true, Bool.false_eq_true, if_false, ev_bin, ev_ix, ev_neg, negD_int, ex, bin_addI, bin_subI, append_new q]
    · obtain ⟨a4, a5, rfl, rfl⟩ := z
      refine ⟨_, _, rfl, ?_⟩
      unfold cns
      rw [List.map_map, List.length_map]
      rfl)
  exact ⟨a4, a5, ew⟩
theorem most_ok (hf : P.fns f = some ⟨1, 4, bMost⟩) (V : Valid evs) (hl : evs.length ≤ 1000) : settle h (callN P (k + 1) f [.tup (evs.map evD)] h) = .ok (.int (mx evs)) h := by
  have q1 : (1 : Nat) ≤ LINE := by decide
  obtain ⟨a4, a5, ec⟩ := most_for (P := P) (F := callN P k) (h := h) V hl
  have hm := max1_ref (get_new (h := h) (o := .lst ((cns evs).map D.int))) cns_ne
  rw [← mx_is] at hm
  rw [callN_eq hf rfl]
  simp only [bMost, List.map_cons, List.map_nil, List.length_cons, List.length_nil, List.cons_append, List.nil_append, List.replicate, evS_seq, evS_set, ev_nlT, evN_dis, evs_cons, evs_nil, ev_k, ok_bind, Nat.zero_add, rIf_pos q1, setT_nm, some_opt, put_s, put_z, next_nx, ec, evS_ret, ev_bi, ev_v, look_s, look_z, hm, endR_rt]
  exact settle_new frz_int
end
end Mx.Pl
set_option Elab.async false
set_option linter.all false
set_option maxRecDepth 100000
set_option maxHeartbeats 2000000
/-! Qj: draws of texts, things in a drawn order. -/
namespace Mx.Pl
open PySem Mx.Ev
section
variable {P : Pg} {F : Ph} {h t u : Hh} {k f f0 f1 f2 f3 f4 f5 f6 s s0 s1 s2 s3 s4 s5 s6 r : Nat} {cells : List Int} {m : Int}
theorem dl_getA {l : Hh} {i : Nat} : (dl cells m (t ++ l))[t.length + 2 + i]? = l[i]? := by
  have : (dl cells m (t ++ l))[t.length + 2 + i]? = (t ++ l)[t.length + i]? := by
    rw [show t.length + 2 + i = (t.length + i) + 2 by omega]; rfl
  rw [this, List.getElem?_append_right (by omega)]
  congr 1
  omega
theorem dl_setA {l : Hh} {i : Nat} {o : O} : (dl cells m (t ++ l)).set (t.length + 2 + i) o = dl cells m (t ++ l.set i o) := by
  have : (dl cells m (t ++ l)).set (t.length + 2 + i) o = .lst (cells.map D.int) :: .lst [.ref 0, .int m] :: (t ++ l).set (t.length + i) o := by
    rw [show t.length + 2 + i = (t.length + i) + 2 by omega]; rfl
  rw [this, List.set_append_right _ _ (by omega)]
  have e : t.length + i - t.length = i := by omega
  rw [e]
  rfl
theorem append_ref {xs : List D} {d : D} (e : h[r]? = some (.lst xs)) (hl : xs.length < 1000000) : mtD h .append (.ref r) [d] = .ok .non (h.set r (.lst (xs ++ [d]))) := by
  have q : xs.length < LINE := by unfold LINE; omega
  simp only [mtD, mtAppend, e, rIf_pos q]
theorem isSome_ref {xs : List D} (e : h[r]? = some (.lst xs)) : (lstOf h (.ref r)).isSome = true := by rw [lstOf_ref e]; rfl
theorem erase_map {f : Str → D} : ∀ (L : List Str) (i : Nat), (L.map f).eraseIdx i = (L.eraseIdx i).map f
  | [], i => by simp
  | x :: L, 0 => by simp
  | x :: L, i + 1 => by simp [erase_map L i]
theorem pop1_strs {L : List Str} {v : Int} (e : h[r]? = some (.lst (L.map D.str))) (h0 : 0 ≤ v) (hv : v < L.length) (hl : L.length < 100000) : mtD h .pop1 (.ref r) [.int v] = .ok (.str (L[v.toNat]'(by omega))) (h.set r (.lst ((L.eraseIdx v.toNat).map D.str))) := by
  have q : -(2 ^ 63) ≤ v ∧ v < 2 ^ 63 := by omega
  have e2 : seqIndex? v (L.map D.str).length = some v.toNat := by
    unfold seqIndex?
    rw [List.length_map]
    simp only [if_neg (show ¬ v < 0 by omega)]
    rw [if_pos (by simp; omega)]
  have e3 : (L.map D.str)[v.toNat]? = some (.str (L[v.toNat]'(by omega))) := by
    rw [List.getElem?_map, List.getElem?_eq_getElem (by omega)]; rfl
  have e4 : (L.map D.str).eraseIdx v.toNat = (L.eraseIdx v.toNat).map D.str := erase_map ..
  simp only [mtD, mtPop1, e, rIf_pos q, e2, some_opt, ok_bind, e3, e4]
/-- a draw -/
theorem any_ev (hs : P.sgs s = some ⟨f0, 2, [], [0, 1]⟩) (h0 : P.fns f0 = some ⟨2, 3, bAny⟩) (hc : cells.length ≤ 63) {b : Int} (hb : 0 < b) (hb2 : b < 1073741824) :
    ∃ (cs : List Int) (m' v : Int), cs.length ≤ 63 ∧ 0 ≤ v ∧ v < b ∧ ∀ {σ : En} {x y : E}, ev P (callN P (k + 1)) x σ (dl cells m t) = .ok (.ref 1) (dl cells m t) → ev P (callN P (k + 1)) y σ (dl cells m t) = .ok (.int b) (dl cells m t) → ev P (callN P (k + 1)) (.call s true (.cons x (.cons y .nil))) σ (dl cells m t) = .ok (.int v) (dl cs m' t) := by
  obtain ⟨cs2, m2, v, g1, g2, g3, g4⟩ := law_any_ok (k := k) (t := t) (m := m) (b := b) h0 hc hb hb2
  refine ⟨cs2, m2, v, g1, g2, g3, fun {σ x y} e1 e2 => ?_⟩
  rw [ev_call hs]
  simp only [evs_cons, evs_nil, e1, e2, ok_bind, perm2, some_opt, if_true, g4, settle_dl frz_int]
/-- one of some numbers -/
theorem of_ev (hs1 : P.sgs s1 = some ⟨f1, 2, [], [0, 1]⟩) (h1 : P.fns f1 = some ⟨2, 2, bOf s⟩) (hs : P.sgs s = some ⟨f0, 2, [], [0, 1]⟩) (h0 : P.fns f0 = some ⟨2, 3, bAny⟩) (hc : cells.length ≤ 63) {ns : List Int} (hn : ns ≠ []) (hl : ns.length < 1073741824) :
    ∃ (cs : List Int) (m' v : Int), cs.length ≤ 63 ∧ v ∈ ns ∧ ∀ {σ : En} {x y : E}, ev P (callN P (k + 2)) x σ (dl cells m t) = .ok (.ref 1) (dl cells m t) → ev P (callN P (k + 2)) y σ (dl cells m t) = .ok (.fls (ns.map D.int)) (dl cells m t) → ev P (callN P (k + 2)) (.call s1 true (.cons x (.cons y .nil))) σ (dl cells m t) = .ok (.int v) (dl cs m' t) := by
  obtain ⟨cs2, m2, v, g1, g2, g4⟩ := law_of_ok (k := k) (t := t) (m := m) h1 hs h0 hc hn hl
  refine ⟨cs2, m2, v, g1, g2, fun {σ x y} e1 e2 => ?_⟩
  rw [ev_call hs1]
  simp only [evs_cons, evs_nil, e1, e2, ok_bind, perm2, some_opt, if_true, g4, settle_dl frz_int]
theorem erase_perm {α : Type} : ∀ {L : List α} {i : Nat} (hi : i < L.length), (L[i] :: L.eraseIdx i).Perm L
  | x :: L, 0, _ => by simp
  | x :: L, i + 1, hi => by
    have ih := erase_perm (L := L) (i := i) (by simpa using hi)
    simp only [List.getElem_cons_succ, List.eraseIdx_cons_succ]
    exact (List.Perm.swap ..).trans (ih.cons x)
/-! letters -/
def abc : Str := PySem.Str.ofString "abcdefghijklmnopqrstuvwxyz"
def ch (c : Nat) : Str := ⟨#[c]⟩
theorem abc_cps : abc.cps.toList = (List.range 26).map (97 + ·) := by decide +kernel
theorem abc_len : abc.length = 26 := by decide +kernel
theorem len_abc : biD h .len [.str abc] = .ok (.int 26) h := by
  have q : 26 ≤ LINE := by decide
  show biLen h [.str abc] = _
  simp only [biLen, abc_len, rIf_pos q]
  rfl
theorem ix_abc {i : Int} (h0 : 0 ≤ i) (hi : i < 26) : ixR h (.str abc) (.int i) = .ok (.str (ch (97 + i.toNat))) h := by
  have q : abc.length ≤ LINE := by rw [abc_len]; decide
  simp only [ixR, ixD, if_pos q]
  rw [atI_int h0 (by rw [abc_cps]; simp; omega), abc_cps, List.getElem?_map, List.getElem?_range (by omega)]
  rfl
theorem ofT_ev (hs1 : P.sgs s1 = some ⟨f1, 2, [], [0, 1]⟩) (h1 : P.fns f1 = some ⟨2, 2, bOf s⟩) (hs : P.sgs s = some ⟨f0, 2, [], [0, 1]⟩) (h0 : P.fns f0 = some ⟨2, 3, bAny⟩) (hc : cells.length ≤ 63) :
    ∃ (cs : List Int) (m' : Int) (v : Nat), cs.length ≤ 63 ∧ v < 123 ∧ ∀ {σ : En} {x y : E}, ev P (callN P (k + 2)) x σ (dl cells m t) = .ok (.ref 1) (dl cells m t) → ev P (callN P (k + 2)) y σ (dl cells m t) = .ok (.str abc) (dl cells m t) → ev P (callN P (k + 2)) (.call s1 true (.cons x (.cons y .nil))) σ (dl cells m t) = .ok (.str (ch v)) (dl cs m' t) := by
  obtain ⟨cs2, m2, v, g1, g2, g3, g4⟩ := any_ev (P := P) (k := k) (t := t) (m := m) hs h0 hc (b := 26) (by omega) (by omega)
  refine ⟨cs2, m2, 97 + v.toNat, g1, by omega, fun {σ x y} e1 e2 => ?_⟩
  have e3 : callN P (k + 2) f1 [.ref 1, .str abc] (dl cells m t) = .ok (.str (ch (97 + v.toNat))) (dl cs2 m2 t) := by
    rw [callN_eq h1 rfl]
    have g5 := g4 (σ := [some (.ref 1), some (.str abc)]) (x := .v 0) (y := .bi .len (.cons (.v 1) .nil)) (by simp) (by simp [len_abc])
    show (evS P (callN P (k + 1)) (bOf s) [some (.ref 1), some (.str abc)] _).bind endR = _
    simp only [bOf, evS_ret, ev_ix, ev_v, look_s, look_z, some_opt, ok_bind, g5, ix_abc g2 g3, endR_rt]
  rw [ev_call hs1]
  simp only [evs_cons, evs_nil, e1, e2, ok_bind, perm2, some_opt, if_true, e3, settle_dl frz_str]
/-! ### in a drawn order -/
def bMixB (s : Nat) : S := .ex (.mt .append (.v 4) (.cons (.mt .pop1 (.v 3) (.cons (.call s true (.cons (.v 0) (.cons (.bi .len (.cons (.v 3) .nil)) .nil))) .nil)) .nil))
def bMixF (s : Nat) : S := .for_ (.nm 2) (.iRg1 (.bi .len (.cons (.v 1) .nil))) (bMixB s)
def bMix (s : Nat) : S := .seq (.set (.tp (.cons (.nm 3) (.cons (.nm 4) .nil))) (.tup (.cons (.nl true (.lof (.v 1))) (.cons (.nl true (.dis .nil)) .nil)))) (.seq (bMixF s) (.ret (.v 4)))
theorem settle_dlF {cs : List Int} {m' : Int} {d d' : D} (e : frz 8 (dl cs m' (t ++ u)) (t.length + 2) d = some d') : settle (dl cells m t) (.ok d (dl cs m' (t ++ u))) = .ok d' (dl cs m' t) := by
  have e1 := settle_dlT (cells := cells) (m := m) (t := t) (u := u) (cs := cs) (m' := m') (d := .non) frz_non
  simp only [settle, dl_len, e] at e1 ⊢
  simp only [frz_non] at e1
  unfold rIf at e1 ⊢
  split at e1
  · rename_i q
    rw [if_pos q]
    injection e1 with _ e1
    rw [e1]
  · cases e1
theorem mix_step (hs : P.sgs s = some ⟨f0, 2, [], [0, 1]⟩) (h0 : P.fns f0 = some ⟨2, 3, bAny⟩) (hc : cells.length ≤ 63) {L G : List Str} {a1 x : D} (hL : 0 < L.length) (hl : L.length < 100000) (hg : G.length < 100000) :
    ∃ (cs : List Int) (m' : Int) (i : Nat) (hi : i < L.length), cs.length ≤ 63 ∧ evS P (callN P (k + 1)) (bMixB s) [some (.ref 1), some a1, some x, some (.ref (t.length + 2)), some (.ref (t.length + 3))] (dl cells m (t ++ [.lst (L.map D.str), .lst (G.map D.str)])) = .ok (.nx [some (.ref 1), some a1, some x, some (.ref (t.length + 2)), some (.ref (t.length + 3))]) (dl cs m' (t ++ [.lst ((L.eraseIdx i).map D.str), .lst ((G ++ [L[i]]).map D.str)])) := by
  obtain ⟨cs, m', v, g1, g2, g3, g4⟩ := any_ev (P := P) (k := k) (t := t ++ [.lst (L.map D.str), .lst (G.map D.str)]) (m := m) hs h0 hc (b := L.length) (by omega) (by omega)
  refine ⟨cs, m', v.toNat, by omega, g1, ?_⟩
  have a0 : ∀ (c : List Int) (m : Int) (o o' : O), (dl c m (t ++ [o, o']))[t.length + 2]? = some o := fun c m o o' => dl_getA (i := 0)
  have a1' : ∀ (c : List Int) (m : Int) (o o' : O), (dl c m (t ++ [o, o']))[t.length + 3]? = some o' := fun c m o o' => dl_getA (i := 1)
  have b0 : ∀ (c : List Int) (m : Int) (o o' p : O), (dl c m (t ++ [o, o'])).set (t.length + 2) p = dl c m (t ++ [p, o']) := fun c m o o' p => dl_setA (i := 0)
  have b1 : ∀ (c : List Int) (m : Int) (o o' p : O), (dl c m (t ++ [o, o'])).set (t.length + 3) p = dl c m (t ++ [o, p]) := fun c m o o' p => dl_setA (i := 1)
  have g5 := g4 (σ := [some (.ref 1), some a1, some x, some (.ref (t.length + 2)), some (.ref (t.length + 3))]) (x := .v 0) (y := .bi .len (.cons (.v 3) .nil)) (by simp) (by simp only [ev_bi, evs_cons, evs_nil, ev_v, look_s, look_z, some_opt, ok_bind, len_ref (a0 _ _ _ _), List.length_map])
  have p1 := pop1_strs (a0 cs m' (.lst (L.map D.str)) (.lst (G.map D.str))) g2 g3 hl
  rw [b0] at p1
  have p2 := append_ref (d := .str (L[v.toNat]'(by omega))) (a1' cs m' (.lst ((L.eraseIdx v.toNat).map D.str)) (.lst (G.map D.str))) (by rw [List.length_map]; omega)
  rw [b1] at p2
  have s1 := isSome_ref (a1' cells m (.lst (L.map D.str)) (.lst (G.map D.str)))
  have s0 := isSome_ref (a0 cells m (.lst (L.map D.str)) (.lst (G.map D.str)))
  simp only [bMixB, evS_ex, ev_mt, ev_v, look_s, look_z, some_opt, ok_bind, rIf_pos s1, rIf_pos s0, evs_cons, evs_nil, g5, p1, p2, List.map_append, List.map_cons, List.map_nil]
theorem mixed_ok (hf : P.fns f = some ⟨2, 5, bMix s⟩) (hs : P.sgs s = some ⟨f0, 2, [], [0, 1]⟩) (h0 : P.fns f0 = some ⟨2, 3, bAny⟩) (hc : cells.length ≤ 63) {xs : List Str} (hl : xs.length < 1000) (er : ∀ c m u, (dl c m (t ++ u))[r]? = some (.lst (xs.map D.str))) :
    ∃ (cs : List Int) (m' : Int) (ys : List Str), cs.length ≤ 63 ∧ ys.Perm xs ∧ settle (dl cells m t) (callN P (k + 2) f [.ref 1, .ref r] (dl cells m t)) = .ok (.fls (ys.map D.str)) (dl cs m' t) := by
  have q2 : (2 : Nat) ≤ LINE := by decide
  have er0 : (dl cells m t)[r]? = some (.lst (xs.map D.str)) := by have := er cells m []; rwa [List.append_nil] at this
  obtain ⟨fl, h', ew, cs, m', ys, a2, rfl, rfl, hc2, hp⟩ := wp_get (r := evS P (callN P (k + 1)) (bMixF s) [some (.ref 1), some (.ref r), none, some (.ref (t.length + 2)), some (.ref (t.length + 3))] (dl cells m (t ++ [.lst (xs.map D.str), .lst []]))) (Q := fun fl h' => ∃ (cs : List Int) (m' : Int) (ys : List Str) (a2 : Option D), fl = .nx [some (.ref 1), some (.ref r), a2, some (.ref (t.length + 2)), some (.ref (t.length + 3))] ∧ h' = dl cs m' (t ++ [.lst [], .lst (ys.map D.str)]) ∧ cs.length ≤ 63 ∧ ys.Perm xs) (by
    rw [bMixF, evS_for]
    have hI : evI P (callN P (k + 1)) (.iRg1 (.bi .len (.cons (.v 1) .nil))) [some (.ref 1), some (.ref r), none, some (.ref (t.length + 2)), some (.ref (t.length + 3))] (dl cells m (t ++ [.lst (xs.map D.str), .lst []])) = .ok ((List.range xs.length).map fun i : Nat => D.int i, none) (dl cells m (t ++ [.lst (xs.map D.str), .lst []])) := by
      rw [evI_rg1]
      simp only [ev_bi, evs_cons, evs_nil, ev_v, look_s, look_z, some_opt, ok_bind, len_ref (er _ _ _), List.length_map]
      rw [rg1_nat (by omega)]
    rw [hI, ok_bind, rIf_pos (rng_le (by omega))]
    refine wp_floop (fun i σ h' => ∃ (cs : List Int) (m' : Int) (L G : List Str) (a2 : Option D), σ = [some (.ref 1), some (.ref r), a2, some (.ref (t.length + 2)), some (.ref (t.length + 3))] ∧ h' = dl cs m' (t ++ [.lst (L.map D.str), .lst (G.map D.str)]) ∧ cs.length ≤ 63 ∧ (G ++ L).Perm xs ∧ L.length + i = xs.length) (fun _ _ _ _ _ => True.intro) (fun i σ h' hi z => ?_) (fun σ h' z => ?_) ⟨cells, m, xs, [], none, rfl, rfl, hc, by simp, rfl⟩
    · obtain ⟨cs, m', L, G, a2, rfl, rfl, hc', hp, hn⟩ := z
      have hi' : i < xs.length := by simpa using hi
      have hgl := hp.length_eq
      rw [List.length_append] at hgl
      obtain ⟨c2, m2, j, hj, g1, g2⟩ := mix_step (P := P) (k := k) (t := t) (m := m') (L := L) (G := G) (a1 := .ref r) (x := ((List.range xs.length).map fun i : Nat => D.int i)[i]) hs h0 hc' (by omega) (by omega) (by omega)
      refine wp_of (a := .nx _) (h' := _) ?_ ⟨c2, m2, L.eraseIdx j, G ++ [L[j]], some (((List.range xs.length).map fun i : Nat => D.int i)[i]), rfl, rfl, g1, ?_, ?_⟩
      · simp only [setT_nm, bindT_some, put_s, put_z, g2]
      · refine List.Perm.trans ?_ hp
        rw [List.append_assoc]
        exact List.Perm.append_left _ (erase_perm hj)
      · rw [List.length_eraseIdx_of_lt hj]; omega
    · obtain ⟨cs, m', L, G, a2, rfl, rfl, hc', hp, hn⟩ := z
      rw [List.length_map, List.length_range] at hn
      have : L = [] := List.eq_nil_of_length_eq_zero (by omega)
      subst this
      exact ⟨cs, m', G, a2, rfl, rfl, hc', by simpa using hp⟩)
  refine ⟨cs, m', ys, hc2, hp, ?_⟩
  have el : lofR (dl cells m t) (.ref r) = .ok (xs.map D.str) (dl cells m t) := by
    simp only [lofR, dctOf_lst er0, seqOf_ref er0, some_opt]
  have key : callN P (k + 2) f [.ref 1, .ref r] (dl cells m t) = .ok (.ref (t.length + 3)) (dl cs m' (t ++ [.lst [], .lst (ys.map D.str)])) := by
    rw [callN_eq hf rfl]
    have l1 : (dl cells m (t ++ [O.lst (xs.map D.str)])).length = t.length + 3 := by simp
    simp only [bMix, List.map_cons, List.map_nil, List.length_cons, List.length_nil, List.cons_append, List.nil_append, List.replicate, evS_seq, evS_set, ev_tup, evs_cons, evs_nil, ev_nlT, evN_lof, ev_v, look_s, look_z, some_opt, ok_bind, el, evN_dis, rIf_pos len0, dl_app, l1, dl_len, Nat.zero_add, Nat.reduceAdd, rIf_pos q2, setT_tp, setTs_cons, setTs_nil, setT_nm, Option.bind_some, put_s, put_z, next_nx, List.append_assoc, ew, evS_ret, endR_rt]
  rw [key]
  refine settle_dlF ?_
  have ex : (dl cs m' (t ++ [O.lst [], .lst (ys.map D.str)]))[t.length + 3]? = some (.lst (ys.map D.str)) := dl_getA (i := 1)
  rw [frz_lst (by omega) ex, frz_strs]
  rfl
end
end Mx.Pl
set_option Elab.async false
set_option linter.all false
set_option maxRecDepth 100000
set_option maxHeartbeats 2000000
/-! Qk: names drawn: they differ. -/
namespace Mx.Pl
open PySem Mx.Ev
/-! texts of letters -/
theorem str_eta {x y : Str} (h : x.cps.toList = y.cps.toList) : x = y := by
  cases x; cases y
  simp only at h
  congr 1
  exact Array.toList_inj.mp h
def tx (w : List Nat) : Str := ⟨w.toArray⟩
theorem tx_tl {w : List Nat} : (tx w).cps.toList = w := by simp [tx]
theorem cps_app (x y : Str) : (x ++ y).cps.toList = x.cps.toList ++ y.cps.toList := TL.tl_append x y
theorem strOk_of {x : Str} (h : ∀ c ∈ x.cps.toList, c < 123) : PyData.strOk x = true := by
  unfold PyData.strOk
  rw [← Array.all_toList, List.all_eq_true]
  intro c hc
  have := h c hc
  simp only [decide_eq_true_eq]
  omega
theorem joinL_one : ∀ w : List Nat, TL.joinL [] (w.map fun c => [c]) = w
  | [] => rfl
  | [_] => rfl
  | a :: b :: r => by
    have ih := joinL_one (b :: r)
    simp only [List.map_cons] at ih
    simp only [List.map_cons, TL.joinL, ih]
    rfl
theorem join_chs (w : List Nat) : Txt.join (PySem.Str.ofString "") (w.map ch) = tx w := by
  rw [TL.join_eq]
  refine str_eta ?_
  show TL.tl (Str.join (PySem.Str.ofString "") (w.map ch)) = _
  rw [TL.tl_join, List.map_map]
  have e1 : TL.tl (PySem.Str.ofString "") = [] := by decide +kernel
  have e2 : (TL.tl ∘ ch) = fun c => [c] := by funext c; rfl
  rw [e1, e2, joinL_one, tx_tl]
theorem sum_ones : ∀ w : List Nat, ((w.map ch).map (·.length)).sum = w.length
  | [] => rfl
  | c :: w => by
    have := sum_ones w
    simp only [List.map_cons, List.sum_cons, this, List.length_cons]
    show 1 + w.length = _
    omega
theorem joinR_chs {h : Hh} {w : List Nat} (hl : w.length < 100000) : joinR h (.str (PySem.Str.ofString "")) (.fls ((w.map ch).map D.str)) = .ok (.str (tx w)) h := by
  have q : ((w.map ch).map (·.length)).sum + (w.map ch).length * (PySem.Str.ofString "").length ≤ LINE := by
    rw [sum_ones]
    have : (PySem.Str.ofString "").length = 0 := by decide +kernel
    rw [this]
    unfold LINE
    omega
  simp only [joinR, seqOf_fls, Option.bind_some, asS_strs, some_opt, ok_bind, rIf_pos q, join_chs]
def chD (w : List Nat) : List D := (w.map ch).map D.str
theorem chD_len {w : List Nat} : (chD w).length = w.length := by simp [chD]
theorem cut_from {w : List Nat} {a : Nat} (ha : a ≤ w.length) : cutD (chD w) (some (a : Int)) none = chD (w.drop a) := by
  unfold cutD
  rw [HT.sIx_nat, HT.sIx_none, chD_len, Nat.min_eq_left ha]
  rw [List.take_of_length_le (by rw [List.length_drop, chD_len]; omega)]
  unfold chD
  rw [List.map_drop, List.map_drop]
theorem cut_to {w : List Nat} {a : Nat} : cutD (chD w) none (some (a : Int)) = chD (w.take a) := by
  unfold cutD
  rw [HT.sIx_nat, HT.sIx_none, chD_len, List.drop_zero, Nat.sub_zero]
  unfold chD
  rw [List.map_take, List.map_take, Nat.min_def]
  split
  · rfl
  · rw [List.take_of_length_le (by simp), List.take_of_length_le (by simp; omega)]
theorem lcat_ok {h : Hh} {xs ys : List D} (q : xs.length + ys.length ≤ LINE) : lcatR h (.fls xs) (.fls ys) = .ok (xs ++ ys) h := rIf_pos q _
section
variable {P : Pg} {F : Ph} {h t u : Hh} {k f f0 f1 f2 f3 f4 f5 f6 s s0 s1 s2 s3 s4 s5 s6 r f13 s13 : Nat} {cells : List Int} {m : Int}
/-- what a name has -/
def NmOK (place : Nat) (first : Int) (many sl turn : Nat) (x : Str) : Prop := x.cps.toList[place]? = some (97 + ((first + turn) % 26).toNat) ∧ (26 < many → x.cps.toList.length = sl + if turn < 26 then 0 else 1) ∧ PyData.strOk x = true ∧ (26 ≤ turn → x.cps.toList.getLast? = some (97 + turn / 26))
theorem names_nd {place : Nat} {first : Int} {many sl : Nat} {xs : List Str} (hm : many ≤ 600) (hx : xs.length = many) (H : ∀ i (hi : i < xs.length), NmOK place first many sl i xs[i]) : xs.Nodup := by
  refine List.pairwise_iff_getElem.mpr fun i j hi hj hij e => ?_
  have h1 := H i hi
  have h2 := H j hj
  rw [e] at h1
  have e1 : (97 + ((first + (i : Int)) % 26).toNat) = 97 + ((first + (j : Int)) % 26).toNat := Option.some.inj (h1.1.symm.trans h2.1)
  by_cases q : 26 < many
  · have e2 := (h1.2.1 q).symm.trans (h2.2.1 q)
    by_cases z : 26 ≤ i
    · have e3 : 97 + i / 26 = 97 + j / 26 := Option.some.inj ((h1.2.2.2 z).symm.trans (h2.2.2.2 (by omega)))
      omega
    · split at e2 <;> split at e2 <;> omega
  · omega
def bNmS (s1 : Nat) : E := .comp [5] (.nm 5) (.iRg1 (.bin .add (.k (.int 1)) (.call s1 true (.cons (.v 0) (.cons (.nl false (.dis (.cons (.k (.int 0)) (.cons (.k (.int 1)) (.cons (.k (.int 2)) (.cons (.ite (.cmp .gt (.v 1) (.k (.int 26))) (.k (.int 6)) (.k (.int 7))) .nil)))))) .nil))))) .nil (.call s1 true (.cons (.v 0) (.cons (.v 2) .nil)))
def bNmR (s : Nat) : S := .ite (.and_ (.cmp .eq (.v 8) (.k (.int 1))) (.cmp .lt (.v 1) (.k (.int 27)))) (.set (.nm 9) (.nl false (.lsl (.v 3) .nil (.cons (.call s true (.cons (.v 0) (.cons (.bin .sub (.k (.int 8)) (.v 6)) .nil))) .nil)))) .nop
def bNmN : S := .set (.nm 10) (.join (.k (.str (PySem.Str.ofString ""))) (.nl false (.lcat (.nl false (.lcat (.nl false (.lsl (.v 3) .nil (.cons (.v 6) .nil))) (.nl false (.dis (.cons (.ix (.v 2) (.bin .mod (.bi .int (.cons (.bin .add (.v 7) (.v 5)) .nil)) (.k (.int 26)))) .nil))))) (.v 9))))
def bNmA : S := .ex (.mt .append (.v 4) (.cons (.ite (.cmp .lt (.v 5) (.k (.int 26))) (.v 10) (.bin .add (.v 10) (.ix (.v 2) (.bin .fdiv (.v 5) (.k (.int 26)))))) .nil))
def bNmB (s : Nat) : S := .seq (.set (.nm 9) (.nl false (.lsl (.v 3) (.cons (.bin .add (.v 6) (.k (.int 1))) .nil) .nil))) (.seq (bNmR s) (.seq bNmN bNmA))
def bNmF (s : Nat) : S := .for_ (.nm 5) (.iRg1 (.v 1)) (bNmB s)
def bNmP (s : Nat) : S := .set (.tp (.cons (.nm 6) (.cons (.nm 7) (.cons (.nm 8) .nil)))) (.tup (.cons (.call s true (.cons (.v 0) (.cons (.bi .len (.cons (.v 3) .nil)) .nil))) (.cons (.call s true (.cons (.v 0) (.cons (.k (.int 26)) .nil))) (.cons (.call s true (.cons (.v 0) (.cons (.k (.int 2)) .nil))) .nil))))
def bNm (s s1 s13 : Nat) : S := .seq (.set (.nm 2) (.k (.str abc))) (.seq (.set (.nm 3) (.nl false (bNmS s1))) (.seq (bNmP s) (.seq (.set (.nm 4) (.nl true (.dis .nil))) (.seq (bNmF s) (.ret (.call s13 true (.cons (.v 0) (.cons (.v 4) .nil))))))))
/-- the stem -/
theorem stem_ok (hs1 : P.sgs s1 = some ⟨f1, 2, [], [0, 1]⟩) (h1 : P.fns f1 = some ⟨2, 2, bOf s⟩) (hs : P.sgs s = some ⟨f0, 2, [], [0, 1]⟩) (h0 : P.fns f0 = some ⟨2, 3, bAny⟩) (hc : cells.length ≤ 63) {many : Nat} :
    ∃ (cs : List Int) (m' : Int) (w : List Nat), cs.length ≤ 63 ∧ 1 ≤ w.length ∧ w.length ≤ 8 ∧ (∀ c ∈ w, c < 123) ∧ evN P (callN P (k + 2)) (bNmS s1) [some (.ref 1), some (.int many), some (.str abc), none, none, none, none, none, none, none, none] (dl cells m t) = .ok (chD w) (dl cs m' t) := by
  have q4 : (4 : Nat) ≤ LINE := by decide
  obtain ⟨c1, m1, v, g1, g2, g3⟩ := of_ev (P := P) (k := k) (t := t) (m := m) hs1 h1 hs h0 hc (ns := [0, 1, 2, if (26 : Int) < many then 6 else 7]) (by simp) (by simp)
  have hv : 0 ≤ v ∧ v ≤ 7 := by
    simp at g2
    rcases g2 with z | z | z | z <;> split at * <;> omega
  have hI : evI P (callN P (k + 2)) (.iRg1 (.bin .add (.k (.int 1)) (.call s1 true (.cons (.v 0) (.cons (.nl false (.dis (.cons (.k (.int 0)) (.cons (.k (.int 1)) (.cons (.k (.int 2)) (.cons (.ite (.cmp .gt (.v 1) (.k (.int 26))) (.k (.int 6)) (.k (.int 7))) .nil)))))) .nil))))) [some (.ref 1), some (.int many), some (.str abc), none, none, none, none, none, none, none, none] (dl cells m t) = .ok ((List.range (1 + v).toNat).map fun i : Nat => D.int i, none) (dl c1 m1 t) := by
    have g4 := g3 (σ := [some (.ref 1), some (.int many), some (.str abc), none, none, none, none, none, none, none, none]) (x := .v 0) (y := .nl false (.dis (.cons (.k (.int 0)) (.cons (.k (.int 1)) (.cons (.k (.int 2)) (.cons (.ite (.cmp .gt (.v 1) (.k (.int 26))) (.k (.int 6)) (.k (.int 7))) .nil)))))) (by simp) (by
      by_cases z : (26 : Int) < many <;> simp [z, rIf_pos q4])
    rw [evI_rg1]
    simp only [ev_bin, ev_k, ok_bind, g4, bin_addI]
    obtain ⟨n, hn⟩ : ∃ n : Nat, 1 + v = n := ⟨(1 + v).toNat, by omega⟩
    rw [hn, rg1_nat (by omega), Int.toNat_natCast]
  obtain ⟨acc, h', ew, cs, m', w, rfl, a2, rfl, a4, a5⟩ := wp_get (r := evN P (callN P (k + 2)) (bNmS s1) [some (.ref 1), some (.int many), some (.str abc), none, none, none, none, none, none, none, none] (dl cells m t)) (Q := fun acc h' => ∃ (cs : List Int) (m' : Int) (w : List Nat), h' = dl cs m' t ∧ cs.length ≤ 63 ∧ acc = chD w ∧ w.length = (1 + v).toNat ∧ ∀ c ∈ w, c < 123) (by
    refine wp_comp hI (rng_le (by omega)) ?_
    refine wp_cloop (fun i acc h' => ∃ (cs : List Int) (m' : Int) (w : List Nat), h' = dl cs m' t ∧ cs.length ≤ 63 ∧ acc = chD w ∧ w.length = i ∧ ∀ c ∈ w, c < 123) (fun _ _ _ _ _ => True.intro) (fun i acc h' hi z => ?_) (fun acc h' z => ?_) ⟨c1, m1, [], rfl, g1, rfl, rfl, fun c hc => by simp at hc⟩
    · obtain ⟨cs, m', w, rfl, a2, rfl, a4, a5⟩ := z
      obtain ⟨c2, m2, x, e1, e0, e2⟩ := ofT_ev (P := P) (k := k) (t := t) (m := m') hs1 h1 hs h0 a2
      have e3 := e2 (σ := put (wipe [some (.ref 1), some (.int many), some (.str abc), none, none, none, none, none, none, none, none] [5]) 5 (((List.range (1 + v).toNat).map fun i : Nat => D.int i)[i])) (x := .v 0) (y := .v 2) (by simp [wipe]) (by simp [wipe])
      refine wp_of (a := some (.str (ch x))) (h' := dl c2 m2 t) ?_ ⟨c2, m2, w ++ [x], rfl, e1, by simp [chD], by simp [a4], fun c hc => by
        rcases List.mem_append.mp hc with hc | hc
        · exact a5 c hc
        · have : c = x := by simpa using hc
          omega⟩
      rw [turn_nm, e3]
      rfl
    · obtain ⟨cs, m', w, rfl, a2, rfl, a4, a5⟩ := z
      exact ⟨cs, m', w, rfl, a2, rfl, by simpa using a4, a5⟩)
  exact ⟨cs, m', w, a2, by omega, by omega, a5, ew⟩
def nmE (r : Nat) (many : Nat) (w : List Nat) (place : Nat) (first loose : Int) (a5 a9 a10 : Option D) : En := [some (.ref 1), some (.int many), some (.str abc), some (.fls (chD w)), some (.ref r), a5, some (.int place), some (.int first), some (.int loose), a9, a10]
theorem nm_step (hs : P.sgs s = some ⟨f0, 2, [], [0, 1]⟩) (h0 : P.fns f0 = some ⟨2, 3, bAny⟩) (hc : cells.length ≤ 63) {many place i : Nat} {w : List Nat} {first loose : Int} {xs : List Str} {a9 a10 : Option D} (hw : w.length ≤ 8) (hw2 : ∀ c ∈ w, c < 123) (hp : place < w.length) (hf : 0 ≤ first) (hi : i < many) (hm : many ≤ 600) (hx : xs.length < 1000) :
    ∃ (cs : List Int) (m' : Int) (x : Str) (b9 b10 : Option D), cs.length ≤ 63 ∧ NmOK place first many w.length i x ∧ evS P (callN P (k + 1)) (bNmB s) (nmE (t.length + 2) many w place first loose (some (.int i)) a9 a10) (dl cells m (t ++ [.lst (xs.map D.str)])) = .ok (.nx (nmE (t.length + 2) many w place first loose (some (.int i)) b9 b10)) (dl cs m' (t ++ [.lst ((xs ++ [x]).map D.str)])) := by
  have q1 : (1 : Nat) ≤ LINE := by decide
  -- the rest
  obtain ⟨cs, m', rest, g1, g2, g3⟩ : ∃ (cs : List Int) (m' : Int) (rest : List Nat), cs.length ≤ 63 ∧ (rest.length ≤ 8 ∧ (26 < many → rest = w.drop (place + 1)) ∧ ∀ c ∈ rest, c < 123) ∧ evS P (callN P (k + 1)) (.seq (.set (.nm 9) (.nl false (.lsl (.v 3) (.cons (.bin .add (.v 6) (.k (.int 1))) .nil) .nil))) (bNmR s)) (nmE (t.length + 2) many w place first loose (some (.int i)) a9 a10) (dl cells m (t ++ [.lst (xs.map D.str)])) = .ok (.nx (nmE (t.length + 2) many w place first loose (some (.int i)) (some (.fls (chD rest))) a10)) (dl cs m' (t ++ [.lst (xs.map D.str)])) := by
    have ec := cut_from (w := w) (a := place + 1) (by omega)
    rw [Int.natCast_add] at ec
    have ec' : cutD (chD w) (some ((place : Int) + 1)) none = chD (w.drop (place + 1)) := ec
    by_cases q : loose = 1 ∧ (many : Int) < 27
    · obtain ⟨rfl, q'⟩ := q
      obtain ⟨cs, m', v, g1, g2, g3, g4⟩ := any_ev (P := P) (k := k) (t := t ++ [.lst (xs.map D.str)]) (m := m) hs h0 hc (b := 8 - place) (by omega) (by omega)
      obtain ⟨n, rfl⟩ := Int.eq_ofNat_of_zero_le g2
      have g5 := g4 (σ := nmE (t.length + 2) many w place first 1 (some (.int i)) (some (.fls (chD (w.drop (place + 1))))) a10) (x := .v 0) (y := .bin .sub (.k (.int 8)) (.v 6)) (by simp [nmE]) (by simp [nmE])
      refine ⟨cs, m', w.take n, g1, ⟨by rw [List.length_take]; omega, fun z => by omega, fun c hc => hw2 c (List.mem_of_mem_take hc)⟩, ?_⟩
      have qd : decide ((many : Int) < 27) = true := decide_eq_true q'
      unfold nmE at g5 ⊢
      simp only [evS_seq, evS_set, ev_nlF, evN_lsl, ev_v, look_s, look_z, some_opt, ok_bind, evO_cons, ev_bin, ev_k, bin_addI, intO_int, evO_nil, lslR, lstS, lstOf, ec', setT_nm, put_s, put_z, next_nx, bNmR, evS_ite, ev_and, ev_cmp, cmp_eq, eqD_int, decide_true, truth_bl, if_true, cmp_lt, qd, g5, cut_to]
    · refine ⟨cells, m, w.drop (place + 1), hc, ⟨by rw [List.length_drop]; omega, fun _ => rfl, fun c hc => hw2 c (List.mem_of_mem_drop hc)⟩, ?_⟩
      unfold nmE
      by_cases q2 : loose = 1
      · have qd : decide ((many : Int) < 27) = false := decide_eq_false fun z => q ⟨q2, z⟩
        have qd2 : decide (loose = 1) = true := decide_eq_true q2
        simp only [evS_seq, evS_set, ev_nlF, evN_lsl, ev_v, look_s, look_z, some_opt, ok_bind, evO_cons, ev_bin, ev_k, bin_addI, intO_int, evO_nil, lslR, lstS, lstOf, ec', setT_nm, put_s, put_z, next_nx, bNmR, evS_ite, ev_and, ev_cmp, cmp_eq, eqD_int, qd2, truth_bl, if_true, cmp_lt, qd, Bool.false_eq_true, if_false, evS_nop]
      · have qd2 : decide (loose = 1) = false := decide_eq_false q2
        simp only [evS_seq, evS_set, ev_nlF, evN_lsl, ev_v, look_s, look_z, some_opt, ok_bind, evO_cons, ev_bin, ev_k, bin_addI, intO_int, evO_nil, lslR, lstS, lstOf, ec', setT_nm, put_s, put_z, next_nx, bNmR, evS_ite, ev_and, ev_cmp, cmp_eq, eqD_int, qd2, truth_bl, Bool.false_eq_true, if_false, evS_nop]
  -- the name
  obtain ⟨l, hl⟩ : ∃ l, l = 97 + ((first + (i : Int)) % 26).toNat := ⟨_, rfl⟩
  have hlr := Int.emod_nonneg (first + (i : Int)) (show (26 : Int) ≠ 0 by omega)
  have hlr2 := Int.emod_lt_of_pos (first + (i : Int)) (show (0 : Int) < 26 by omega)
  have en : ∀ {h : Hh}, evS P (callN P (k + 1)) bNmN (nmE (t.length + 2) many w place first loose (some (.int i)) (some (.fls (chD rest))) a10) h = .ok (.nx (nmE (t.length + 2) many w place first loose (some (.int i)) (some (.fls (chD rest))) (some (.str (tx (w.take place ++ [l] ++ rest)))))) h := fun {h} => by
    have l1 : (chD (w.take place)).length + [D.str (ch l)].length ≤ LINE := by rw [chD_len, List.length_take]; simp; unfold LINE; omega
    have l2 : (chD (w.take place) ++ [D.str (ch l)]).length + (chD rest).length ≤ LINE := by rw [List.length_append, chD_len, chD_len, List.length_take]; simp; unfold LINE; omega
    have ej := joinR_chs (h := h) (w := w.take place ++ [l] ++ rest) (by simp; omega)
    have ee : ((w.take place ++ [l] ++ rest).map ch).map D.str = chD (w.take place) ++ [D.str (ch l)] ++ chD rest := by simp [chD]
    rw [ee] at ej
    have ei := ix_abc (h := h) hlr hlr2
    rw [← hl] at ei
    have pl : plainS (.str (PySem.Str.ofString "")) = true := rfl
    unfold nmE
    simp only [bNmN, evS_set, ev_join, ev_k, ok_bind, rIf_pos pl, ev_nlF, evN_lcat, evN_lsl, ev_v, look_s, look_z, some_opt, evO_nil, evO_cons, intO_int, lslR, lstS, lstOf, cut_to, evN_dis, evs_cons, evs_nil, ev_ix, ev_bin, ev_bi, bin_addI, bi_int, bin_modI (show (0 : Int) < 26 by omega), ei, List.length_cons, List.length_nil, Nat.zero_add, rIf_pos q1, lcat_ok l1, lcat_ok l2, ej, setT_nm, put_s, put_z]
  have hat : (w.take place ++ [l] ++ rest)[place]? = some l := by
    rw [List.append_assoc, List.getElem?_append_right (by rw [List.length_take]; omega), List.length_take, Nat.min_eq_left (by omega)]
    simp
  have hlen : 26 < many → (w.take place ++ [l] ++ rest).length = w.length := fun z => by
    rw [g2.2.1 z]
    simp
    omega
  have hok : ∀ c ∈ w.take place ++ [l] ++ rest, c < 123 := fun c hc => by
    rcases List.mem_append.mp hc with hc | hc
    · rcases List.mem_append.mp hc with hc | hc
      · exact hw2 c (List.mem_of_mem_take hc)
      · have : c = l := by simpa using hc
        omega
    · exact g2.2.2 c hc
  have a0 : ∀ (c : List Int) (m : Int) (o : O), (dl c m (t ++ [o]))[t.length + 2]? = some o := fun c m o => dl_getA (i := 0)
  have b0 : ∀ (c : List Int) (m : Int) (o p : O), (dl c m (t ++ [o])).set (t.length + 2) p = dl c m (t ++ [p]) := fun c m o p => dl_setA (i := 0)
  have is := isSome_ref (a0 cs m' (.lst (xs.map D.str)))
  have body : ∀ {fl : Fl} {h' : Hh}, evS P (callN P (k + 1)) bNmA (nmE (t.length + 2) many w place first loose (some (.int i)) (some (.fls (chD rest))) (some (.str (tx (w.take place ++ [l] ++ rest))))) (dl cs m' (t ++ [.lst (xs.map D.str)])) = .ok fl h' → evS P (callN P (k + 1)) (bNmB s) (nmE (t.length + 2) many w place first loose (some (.int i)) a9 a10) (dl cells m (t ++ [.lst (xs.map D.str)])) = .ok fl h' := fun {fl h'} e => by
    rw [evS_seq] at g3
    unfold bNmB
    rw [evS_seq]
    revert g3
    generalize evS P (callN P (k + 1)) (.set (.nm 9) (.nl false (.lsl (.v 3) (.cons (.bin .add (.v 6) (.k (.int 1))) .nil) .nil))) (nmE (t.length + 2) many w place first loose (some (.int i)) a9 a10) (dl cells m (t ++ [.lst (xs.map D.str)])) = R0
    intro g3
    cases R0 with
    | bad => cases g3
    | exc c v h => cases g3
    | ok fl0 h0' =>
      cases fl0 with
      | nx σ0 =>
        simp only [ok_bind, next_nx] at g3 ⊢
        rw [evS_seq, g3, ok_bind, next_nx, evS_seq, en, ok_bind, next_nx, e]
      | rt d => simp only [ok_bind, next_rt] at g3; cases g3
      | bk σ => simp only [ok_bind, next_bk] at g3; cases g3
      | ct σ => simp only [ok_bind, next_ct] at g3; cases g3
  by_cases q : i < 26
  · refine ⟨cs, m', tx (w.take place ++ [l] ++ rest), some (.fls (chD rest)), some (.str (tx (w.take place ++ [l] ++ rest))), g1, ⟨by rw [tx_tl, hat, hl], fun z => by rw [tx_tl, hlen z, if_pos q, Nat.add_zero], strOk_of (by rw [tx_tl]; exact hok), fun z => by omega⟩, body ?_⟩
    have qd : decide ((i : Int) < 26) = true := decide_eq_true (by omega)
    have ea := append_ref (d := .str (tx (w.take place ++ [l] ++ rest))) (a0 cs m' (.lst (xs.map D.str))) (by rw [List.length_map]; omega)
    rw [b0] at ea
    unfold nmE
    simp only [bNmA, evS_ex, ev_mt, ev_v, look_s, look_z, some_opt, ok_bind, rIf_pos is, evs_cons, evs_nil, ev_ite, ev_cmp, ev_k, cmp_lt, qd, truth_bl, if_true, ea, List.map_append, List.map_cons, List.map_nil]
  · have qd : decide ((i : Int) < 26) = false := decide_eq_false (by omega)
    have ed1 : 0 ≤ (i : Int) / 26 := by omega
    have ed2 : (i : Int) / 26 < 26 := by omega
    refine ⟨cs, m', tx (w.take place ++ [l] ++ rest) ++ ch (97 + ((i : Int) / 26).toNat), some (.fls (chD rest)), some (.str (tx (w.take place ++ [l] ++ rest))), g1, ⟨?_, fun z => ?_, strOk_of fun c hc => ?_, fun z => ?_⟩, body ?_⟩
    · rw [cps_app, List.getElem?_append_left (by rw [tx_tl]; simp; omega), tx_tl, hat, hl]
    · have : (tx (w.take place ++ [l] ++ rest) ++ ch (97 + ((i : Int) / 26).toNat)).cps.toList = (w.take place ++ [l] ++ rest) ++ [97 + ((i : Int) / 26).toNat] := by
        rw [cps_app, tx_tl]
        rfl
      rw [this, List.length_append, hlen z, if_neg q]
      rfl
    · rw [cps_app, tx_tl] at hc
      rcases List.mem_append.mp hc with hc | hc
      · exact hok c hc
      · have hc : c ∈ [97 + ((i : Int) / 26).toNat] := hc
        have : c = 97 + ((i : Int) / 26).toNat := by simpa using hc
        omega
    · rw [cps_app, tx_tl]
      show (_ ++ [97 + ((i : Int) / 26).toNat]).getLast? = _
      rw [List.getLast?_concat]
      congr 1
    · have ea := append_ref (d := .str (tx (w.take place ++ [l] ++ rest) ++ ch (97 + ((i : Int) / 26).toNat))) (a0 cs m' (.lst (xs.map D.str))) (by rw [List.length_map]; omega)
      rw [b0] at ea
      have eb : ∀ h : Hh, binD h .add (.str (tx (w.take place ++ [l] ++ rest))) (.str (ch (97 + ((i : Int) / 26).toNat))) = .ok (.str (tx (w.take place ++ [l] ++ rest) ++ ch (97 + ((i : Int) / 26).toNat))) h := fun h => by
        refine rIf_pos ?_ _
        have e1 : (tx (w.take place ++ [l] ++ rest)).length = (w.take place ++ [l] ++ rest).length := by simp [tx, Str.length]
        have e2 : (ch (97 + ((i : Int) / 26).toNat)).length = 1 := rfl
        rw [e1, e2]
        simp
        unfold LINE
        omega
      unfold nmE
      simp only [bNmA, evS_ex, ev_mt, ev_v, look_s, look_z, some_opt, ok_bind, rIf_pos is, evs_cons, evs_nil, ev_ite, ev_cmp, ev_k, cmp_lt, qd, truth_bl, Bool.false_eq_true, if_false, ev_bin, ev_ix, bin_fdivI (show (0 : Int) < 26 ∧ (26 : Int) < 1073741824 by omega), ix_abc ed1 ed2, eb, ea, List.map_append, List.map_cons, List.map_nil]
/-- names drawn -/
theorem names_ok (hf : P.fns f = some ⟨2, 11, bNm s s1 s13⟩) (hs1 : P.sgs s1 = some ⟨f1, 2, [], [0, 1]⟩) (h1 : P.fns f1 = some ⟨2, 2, bOf s⟩) (hs : P.sgs s = some ⟨f0, 2, [], [0, 1]⟩) (h0 : P.fns f0 = some ⟨2, 3, bAny⟩) (hs13 : P.sgs s13 = some ⟨f13, 2, [], [0, 1]⟩) (h13 : P.fns f13 = some ⟨2, 5, bMix s⟩) (hc : cells.length ≤ 63) {many : Nat} (hm : many ≤ 600) :
    ∃ (cs : List Int) (m' : Int) (ys : List Str), cs.length ≤ 63 ∧ ys.Nodup ∧ ys.length = many ∧ (∀ y ∈ ys, PyData.strOk y = true) ∧ settle (dl cells m t) (callN P (k + 3) f [.ref 1, .int many] (dl cells m t)) = .ok (.fls (ys.map D.str)) (dl cs m' t) := by
  have q3 : (3 : Nat) ≤ LINE := by decide
  obtain ⟨c1, m1, w, g1, g2, g3, g0, g4⟩ := stem_ok (P := P) (k := k) (t := t) (m := m) (many := many) hs1 h1 hs h0 hc
  obtain ⟨c2, m2, place, p1, p2, p3, p4⟩ := any_ev (P := P) (k := k + 1) (t := t) (m := m1) hs h0 g1 (b := w.length) (by omega) (by omega)
  obtain ⟨place, rfl⟩ := Int.eq_ofNat_of_zero_le p2
  obtain ⟨c3, m3, first, i1, i2, i3, i4⟩ := any_ev (P := P) (k := k + 1) (t := t) (m := m2) hs h0 p1 (b := 26) (by omega) (by omega)
  obtain ⟨c4, m4, loose, l1, l2, l3, l4⟩ := any_ev (P := P) (k := k + 1) (t := t) (m := m3) hs h0 i1 (b := 2) (by omega) (by omega)
  have p5 := p4 (σ := [some (.ref 1), some (.int many), some (.str abc), some (.fls (chD w)), none, none, none, none, none, none, none]) (x := .v 0) (y := .bi .len (.cons (.v 3) .nil)) (by simp) (by simp [chD_len])
  have i5 := i4 (σ := [some (.ref 1), some (.int many), some (.str abc), some (.fls (chD w)), none, none, none, none, none, none, none]) (x := .v 0) (y := .k (.int 26)) (by simp) (by simp)
  have l5 := l4 (σ := [some (.ref 1), some (.int many), some (.str abc), some (.fls (chD w)), none, none, none, none, none, none, none]) (x := .v 0) (y := .k (.int 2)) (by simp) (by simp)
  obtain ⟨fl, h', ew, cs, m', xs, a5, a9, a10, rfl, rfl, hc5, hx, H⟩ := wp_get (r := evS P (callN P (k + 2)) (bNmF s) (nmE (t.length + 2) many w place first loose none none none) (dl c4 m4 (t ++ [.lst []]))) (Q := fun fl h' => ∃ (cs : List Int) (m' : Int) (xs : List Str) (a5 a9 a10 : Option D), fl = .nx (nmE (t.length + 2) many w place first loose a5 a9 a10) ∧ h' = dl cs m' (t ++ [.lst (xs.map D.str)]) ∧ cs.length ≤ 63 ∧ xs.length = many ∧ ∀ i (hi : i < xs.length), NmOK place first many w.length i xs[i]) (by
    rw [bNmF, evS_for]
    have hI : evI P (callN P (k + 2)) (.iRg1 (.v 1)) (nmE (t.length + 2) many w place first loose none none none) (dl c4 m4 (t ++ [.lst []])) = .ok ((List.range many).map fun i : Nat => D.int i, none) (dl c4 m4 (t ++ [.lst []])) := by
      unfold nmE
      rw [evI_rg1]
      simp only [ev_v, look_s, look_z, some_opt, ok_bind]
      rw [rg1_nat (by omega)]
    rw [hI, ok_bind, rIf_pos (rng_le (by omega))]
    refine wp_floop (fun i σ h' => ∃ (cs : List Int) (m' : Int) (xs : List Str) (a5 a9 a10 : Option D), σ = nmE (t.length + 2) many w place first loose a5 a9 a10 ∧ h' = dl cs m' (t ++ [.lst (xs.map D.str)]) ∧ cs.length ≤ 63 ∧ xs.length = i ∧ ∀ j (hj : j < xs.length), NmOK place first many w.length j xs[j]) (fun _ _ _ _ _ => True.intro) (fun i σ h' hi z => ?_) (fun σ h' z => ?_) ⟨c4, m4, [], none, none, none, rfl, rfl, l1, rfl, fun j hj => by simp at hj⟩
    · obtain ⟨cs, m', xs, a5, a9, a10, rfl, rfl, hc5, hx, H⟩ := z
      have hi' : i < many := by simpa using hi
      obtain ⟨c6, m6, x, b9, b10, e1, e2, e3⟩ := nm_step (P := P) (k := k + 1) (t := t) (m := m') (a9 := a9) (a10 := a10) (loose := loose) (xs := xs) (w := w) (place := place) (first := first) (i := i) (many := many) hs h0 hc5 g3 g0 (by omega) i2 hi' hm (by omega)
      refine wp_of (a := .nx (nmE (t.length + 2) many w place first loose (some (.int i)) b9 b10)) (h' := dl c6 m6 (t ++ [.lst ((xs ++ [x]).map D.str)])) ?_ ⟨c6, m6, xs ++ [x], _, _, _, rfl, rfl, e1, by simp [hx], fun j hj => ?_⟩
      · have ex : ((List.range many).map fun i : Nat => D.int i)[i] = .int i := by simp
        rw [ex]
        unfold nmE at e3 ⊢
        simp only [setT_nm, bindT_some, put_s, put_z, e3]
      · by_cases z : j < xs.length
        · rw [List.getElem_append_left z]; exact H j z
        · have : j = xs.length := by simp at hj; omega
          subst this
          simp only [List.getElem_append_right (Nat.le_refl _), Nat.sub_self, List.getElem_cons_zero]
          rw [hx]
          exact e2
    · obtain ⟨cs, m', xs, a5, a9, a10, rfl, rfl, hc5, hx, H⟩ := z
      exact ⟨cs, m', xs, a5, a9, a10, rfl, rfl, hc5, by simpa using hx, H⟩)
  have hnd := names_nd hm hx H
  obtain ⟨c7, m7, ys, y1, y2, y3⟩ := mixed_ok (P := P) (k := k) (t := t ++ [.lst (xs.map D.str)]) (m := m') (r := t.length + 2) (xs := xs) h13 hs h0 hc5 (by omega) fun c m u => by
    rw [List.append_assoc]
    exact dl_getA (i := 0)
  refine ⟨c7, m7, ys, y1, (y2.nodup_iff).mpr hnd, by rw [y2.length_eq, hx], fun y hy => ?_, ?_⟩
  · obtain ⟨j, hj, rfl⟩ := List.getElem_of_mem ((y2.mem_iff).mp hy)
    exact (H j hj).2.2.1
  have key : callN P (k + 3) f [.ref 1, .int many] (dl cells m t) = .ok (.fls (ys.map D.str)) (dl c7 m7 (t ++ [.lst (xs.map D.str)])) := by
    rw [callN_eq hf rfl]
    show (evS P (callN P (k + 2)) (bNm s s1 s13) [some (.ref 1), some (.int many), none, none, none, none, none, none, none, none, none] (dl cells m t)).bind endR = _
    unfold nmE at ew
    simp only [bNm, evS_seq, evS_set, ev_k, ok_bind, setT_nm, some_opt, put_s, put_z, next_nx, ev_nlF, g4, bNmP, ev_tup, evs_cons, evs_nil, p5, i5, l5, List.length_cons, List.length_nil, Nat.zero_add, Nat.reduceAdd, rIf_pos q3, setT_tp, setTs_cons, setTs_nil, Option.bind_some, ev_nlT, evN_dis, rIf_pos len0, dl_app, dl_len, ew, evS_ret, ev_call hs13, ev_v, look_s, look_z, perm2, if_true, y3, endR_rt]
  rw [key]
  refine settle_dlF ?_
  show ((ys.map D.str).mapM (frz 7 _ _)).map D.fls = _
  rw [frz_strs]
  rfl
end
end Mx.Pl
set_option Elab.async false
set_option linter.all false
set_option maxRecDepth 100000
set_option maxHeartbeats 2000000
/-! Ql: events drawn. -/
namespace Mx.Ev
section
variable {α : Type} [DecidableEq α] {evs : List (Bool × α)} {i : Nat} {x : α} {e : Bool × α}
/-- who is there behind all -/
def TT (evs : List (Bool × α)) : List α := T evs evs.length
theorem T_app (h : i ≤ evs.length) : T (evs ++ [e]) i = T evs i := by
  unfold T
  rw [List.take_append_of_le_length h]
theorem TT_snoc : TT (evs ++ [e]) = stp (TT evs) e := by
  unfold TT
  have h : (evs ++ [e])[evs.length]? = some e := by simp
  have := T_succ h
  rw [List.length_append, List.length_singleton, this, T_app (Nat.le_refl _)]
theorem snoc_get (h : (evs ++ [e])[i]? = some f) : (i < evs.length ∧ evs[i]? = some f) ∨ (i = evs.length ∧ e = f) := by
  by_cases q : i < evs.length
  · rw [List.getElem?_append_left q] at h
    exact .inl ⟨q, h⟩
  · rw [List.getElem?_append_right (by omega)] at h
    have hi : i - evs.length < [e].length := (List.getElem?_eq_some_iff.mp h).1
    simp only [List.length_singleton] at hi
    have e0 : i - evs.length = 0 := by omega
    rw [e0] at h
    exact .inr ⟨by omega, by simpa using h⟩
theorem c_snoc {B : Nat} (h : ∀ k, c evs k ≤ B) (h2 : (stp (TT evs) e).length ≤ B) : ∀ k, c (evs ++ [e]) k ≤ B := fun k => by
  unfold c
  by_cases q : k ≤ evs.length
  · rw [T_app q]; exact h k
  · rw [T_over (by simp; omega)]
    show (TT (evs ++ [e])).length ≤ B
    rw [TT_snoc]; exact h2
theorem valid_nil : Valid ([] : List (Bool × α)) := ⟨fun i x h => by simp at h, fun i x h => by simp at h⟩
theorem valid_in (V : Valid evs) (h : ∀ j : Nat, evs[j]? ≠ some (true, x)) : Valid (evs ++ [(true, x)]) := by
  refine ⟨fun i y hi j hj hh => ?_, fun i y hi => ?_⟩
  · rcases snoc_get hi with ⟨a, b⟩ | ⟨a, b⟩
    · rcases snoc_get hh with ⟨c, d⟩ | ⟨c, d⟩
      · exact V.inn i y b j hj d
      · omega
    · rcases snoc_get hh with ⟨c, d⟩ | ⟨c, d⟩
      · have : x = y := by injection b
        subst this
        exact h j d
      · omega
  · rcases snoc_get hi with ⟨a, b⟩ | ⟨a, b⟩
    · rw [T_app (by omega)]; exact V.out i y b
    · cases b
theorem valid_out (V : Valid evs) (h : x ∈ TT evs) : Valid (evs ++ [(false, x)]) := by
  refine ⟨fun i y hi j hj hh => ?_, fun i y hi => ?_⟩
  · rcases snoc_get hi with ⟨a, b⟩ | ⟨a, b⟩
    · rcases snoc_get hh with ⟨c, d⟩ | ⟨c, d⟩
      · exact V.inn i y b j hj d
      · omega
    · cases b
  · rcases snoc_get hi with ⟨a, b⟩ | ⟨a, b⟩
    · rw [T_app (by omega)]; exact V.out i y b
    · have : x = y := by injection b
      subst this
      rw [a, T_app (Nat.le_refl _)]
      exact h
/-- all come, one after another -/
theorem valid_ins : ∀ {xs : List α}, xs.Nodup → Valid (xs.map fun x => (true, x)) := by
  intro xs hn
  refine ⟨fun i y hi j hj hh => ?_, fun i y hi => ?_⟩
  · rw [List.getElem?_map] at hi hh
    have hil : i < xs.length := by
      refine Nat.lt_of_not_le fun z => ?_
      rw [List.getElem?_eq_none z] at hi
      simp at hi
    rw [List.getElem?_eq_getElem hil] at hi
    rw [List.getElem?_eq_getElem (by omega)] at hh
    simp only [Option.map_some, Option.some.injEq, Prod.mk.injEq, true_and] at hi hh
    exact (List.pairwise_iff_getElem.mp hn) j i (by omega) hil hj (by rw [hi, hh])
  · rw [List.getElem?_map] at hi
    cases q : xs[i]? with
    | none => rw [q] at hi; simp at hi
    | some z => rw [q] at hi; simp at hi
theorem erase_at : ∀ {L : List α}, L.Nodup → ∀ {i : Nat} (hi : i < L.length), L.erase L[i] = L.eraseIdx i
  | x :: L, hn, 0, _ => by simp
  | x :: L, hn, i + 1, hi => by
    have hn := List.nodup_cons.mp hn
    have hi' : i < L.length := by simpa using hi
    have ih := erase_at hn.2 hi'
    have ne : x ≠ L[i] := fun z => hn.1 (by rw [z]; exact List.getElem_mem hi')
    simp only [List.getElem_cons_succ, List.eraseIdx_cons_succ]
    rw [List.erase_cons_tail (by simpa using ne), ih]
end
end Mx.Ev
namespace Mx.Pl
open PySem Mx.Ev
section
variable {P : Pg} {F : Ph} {h t u : Hh} {k f f0 f1 f2 f3 f4 f5 f6 s s0 s1 s2 s3 s4 s5 s6 r : Nat} {cells : List Int} {m : Int} {evs : List (Bool × Str)}
theorem canLay_strs : ∀ ns : List Str, (∀ x ∈ ns, PyData.strOk x = true) → PyData.canLayAll0 (ns.map PyData.str) = true
  | [], _ => rfl
  | n :: ns, q => by simp [PyData.canLayAll0, PyData.canLay0, q n List.mem_cons_self, canLay_strs ns fun x hx => q x (List.mem_cons_of_mem _ hx)]
theorem depth_strs : ∀ ns : List Str, PyData.depthAll (ns.map PyData.str) = 0
  | [] => rfl
  | n :: ns => by simp [PyData.depthAll, PyData.depth, depth_strs ns]
theorem pdF_strs {k : Nat} {ns : List Str} : (ns.map D.str).mapM (pdF (k + 1) h) = some (ns.map PyData.str) := by
  induction ns with
  | nil => rfl
  | cons n ns ih =>
    rw [List.map_cons, List.mapM_cons, ih]
    rfl
theorem eqD_refS0 {as : List Str} (ok : ∀ x ∈ as, PyData.strOk x = true) (e : h[r]? = some (.lst (as.map D.str))) : eqD h (.ref r) (.fls []) = some (decide (as = [])) := by
  have e1 : pd h (.ref r) = some (.list (as.map PyData.str)) := by
    show (match h[r]? with | some (.lst xs) => (xs.mapM (pdF 11 h)).map PyData.list | _ => none) = _
    rw [e]
    show ((as.map D.str).mapM (pdF 11 h)).map PyData.list = _
    rw [pdF_strs]; rfl
  have e2 : pd h (.fls []) = some (.list []) := rfl
  have s1 : SeqAt.shaped (.list (as.map PyData.str)) = true := by simp [SeqAt.shaped, PyData.canLay0, canLay_strs as ok, PyData.depth, depth_strs]
  have s2 : SeqAt.shaped (.list []) = true := by simp [SeqAt.shaped, PyData.canLay0, PyData.canLayAll0, PyData.depth, PyData.depthAll]
  simp only [eqD, e1, e2, s1, s2, and_self, if_true, PyData.eqv]
  cases as with
  | nil => simp [PyData.eqvAll]
  | cons a as => simp [PyData.eqvAll]
theorem pop0_strs {L : List Str} (e : h[r]? = some (.lst (L.map D.str))) (hn : L ≠ []) : mtD h .pop0 (.ref r) [] = .ok (.str (L.getLast hn)) (h.set r (.lst (L.dropLast.map D.str))) := by
  have hl : 0 < L.length := List.length_pos_iff.mpr hn
  have e1 : (L.map D.str)[(L.map D.str).length - 1]? = some (.str (L.getLast hn)) := by
    rw [List.getElem?_map, List.length_map, List.getElem?_eq_getElem (by omega), List.getLast_eq_getElem]
    rfl
  have e2 : (L.map D.str).dropLast = L.dropLast.map D.str := by rw [List.map_dropLast]
  simp only [mtD, mtPop0, e, e1, some_opt, ok_bind, e2]
/-! three lists of its own -/
def h3 (t : Hh) (c : List Int) (m : Int) (th fr : List Str) (es : List (Bool × Str)) : Hh := dl c m (t ++ [.lst (th.map D.str), .lst (fr.map D.str), .lst (es.map evD)])
variable {th fr : List Str} {es : List (Bool × Str)}
theorem h3_0 : (h3 t cells m th fr es)[t.length + 2]? = some (.lst (th.map D.str)) := dl_getA (i := 0)
theorem h3_1 : (h3 t cells m th fr es)[t.length + 3]? = some (.lst (fr.map D.str)) := dl_getA (i := 1)
theorem h3_2 : (h3 t cells m th fr es)[t.length + 4]? = some (.lst (es.map evD)) := dl_getA (i := 2)
theorem h3_s0 {th' : List Str} : (h3 t cells m th fr es).set (t.length + 2) (.lst (th'.map D.str)) = h3 t cells m th' fr es := dl_setA (i := 0)
theorem h3_s1 {fr' : List Str} : (h3 t cells m th fr es).set (t.length + 3) (.lst (fr'.map D.str)) = h3 t cells m th fr' es := dl_setA (i := 1)
theorem h3_s2 {es' : List (Bool × Str)} : (h3 t cells m th fr es).set (t.length + 4) (.lst (es'.map evD)) = h3 t cells m th fr es' := dl_setA (i := 2)
theorem h3_draw (hs : P.sgs s = some ⟨f0, 2, [], [0, 1]⟩) (h0 : P.fns f0 = some ⟨2, 3, bAny⟩) (hc : cells.length ≤ 63) {b : Int} (hb : 0 < b) (hb2 : b < 1073741824) :
    ∃ (cs : List Int) (m' v : Int), cs.length ≤ 63 ∧ 0 ≤ v ∧ v < b ∧ ∀ {σ : En} {x y : E}, ev P (callN P (k + 1)) x σ (h3 t cells m th fr es) = .ok (.ref 1) (h3 t cells m th fr es) → ev P (callN P (k + 1)) y σ (h3 t cells m th fr es) = .ok (.int b) (h3 t cells m th fr es) → ev P (callN P (k + 1)) (.call s true (.cons x (.cons y .nil))) σ (h3 t cells m th fr es) = .ok (.int v) (h3 t cs m' th fr es) := any_ev hs h0 hc hb hb2
def bEv1 (s : Nat) : S := .set (.nm 11) (.or_ (.cmp .lt (.bi .len (.cons (.v 6) .nil)) (.v 5)) (.and_ (.cmp .lt (.bi .len (.cons (.v 6) .nil)) (.v 2)) (.cmp .eq (.call s true (.cons (.v 0) (.cons (.k (.int 2)) .nil))) (.k (.int 0)))))
def bEvI : S := .seq (.ex (.mt .append (.v 6) (.cons (.mt .pop0 (.v 7) .nil) .nil))) (.ex (.mt .append (.v 8) (.cons (.tup (.cons (.k (.str (PySem.Str.ofString "in"))) (.cons (.ix (.v 6) (.neg (.k (.int 1)))) .nil))) .nil)))
def bEvO (s : Nat) : S := .seq (.set (.nm 12) (.ite (.cmp .ge (.call s true (.cons (.v 0) (.cons (.k (.int 4)) .nil))) (.v 10)) (.bi .min2 (.cons (.v 9) (.cons (.bin .sub (.bi .len (.cons (.v 6) .nil)) (.k (.int 1))) .nil))) (.call s true (.cons (.v 0) (.cons (.bi .len (.cons (.v 6) .nil)) .nil)))))
  (.ex (.mt .append (.v 8) (.cons (.tup (.cons (.k (.str (PySem.Str.ofString "out"))) (.cons (.mt .pop1 (.v 6) (.cons (.v 12) .nil)) .nil))) .nil)))
def bEvB (s : Nat) : S := .seq (bEv1 s) (.ite (.and_ (.v 11) (.cmp .ne (.v 7) (.nl false (.dis .nil)))) bEvI (.ite (.cmp .ne (.v 6) (.nl false (.dis .nil))) (bEvO s) .nop))
def bEvF (s : Nat) : S := .for_ (.nm 4) (.iRg1 (.v 3)) (bEvB s)
def bEv (s s1 : Nat) : S := .seq (.set (.tp (.cons (.nm 5) (.cons (.nm 6) (.cons (.nm 7) (.cons (.nm 8) .nil))))) (.tup (.cons (.bin .add (.k (.int 1)) (.call s true (.cons (.v 0) (.cons (.v 2) .nil)))) (.cons (.nl true (.dis .nil)) (.cons (.nl true (.lof (.v 1))) (.cons (.nl true (.dis .nil)) .nil))))))
  (.seq (.set (.tp (.cons (.nm 9) (.cons (.nm 10) .nil))) (.tup (.cons (.call s true (.cons (.v 0) (.cons (.k (.int 4)) .nil))) (.cons (.call s1 true (.cons (.v 0) (.cons (.nl false (.dis (.cons (.k (.int 0)) (.cons (.k (.int 0)) (.cons (.k (.int 1)) (.cons (.k (.int 3)) .nil)))))) .nil))) .nil))))
  (.seq (bEvF s) (.ret (.bi .tuple (.cons (.v 8) .nil)))))
/-- the names of _law_events -/
def evE (t : Hh) (d1 : D) (most : Int) (many : Nat) (level keep wild : Int) (a4 a11 a12 : Option D) : En := [some (.ref 1), some d1, some (.int most), some (.int many), a4, some (.int level), some (.ref (t.length + 2)), some (.ref (t.length + 3)), some (.ref (t.length + 4)), some (.int keep), some (.int wild), a11, a12]
variable {d1 : D} {most level keep wild : Int} {many : Nat} {a4 a11 a12 : Option D}
theorem ev1_ok (hs : P.sgs s = some ⟨f0, 2, [], [0, 1]⟩) (h0 : P.fns f0 = some ⟨2, 3, bAny⟩) (hc : cells.length ≤ 63) (hlv : level ≤ most) :
    ∃ (cs : List Int) (m' : Int) (b : Bool), cs.length ≤ 63 ∧ (b = true → (th.length : Int) < most) ∧ evS P (callN P (k + 1)) (bEv1 s) (evE t d1 most many level keep wild a4 a11 a12) (h3 t cells m th fr es) = .ok (.nx (evE t d1 most many level keep wild a4 (some (.bl b)) a12)) (h3 t cs m' th fr es) := by
  have el := fun (c : List Int) (m : Int) => len_ref (h3_0 (t := t) (cells := c) (m := m) (th := th) (fr := fr) (es := es))
  simp only [List.length_map] at el
  by_cases q1 : (th.length : Int) < level
  · have qd : decide ((th.length : Int) < level) = true := decide_eq_true q1
    refine ⟨cells, m, true, hc, fun _ => by omega, ?_⟩
    unfold evE
    simp only [bEv1, evS_set, ev_or, ev_cmp, ev_bi, evs_cons, evs_nil, ev_v, look_s, look_z, some_opt, ok_bind, el, cmp_lt, qd, truth_bl, if_true, setT_nm, put_s, put_z]
  · have qd : decide ((th.length : Int) < level) = false := decide_eq_false q1
    by_cases q2 : (th.length : Int) < most
    · have qd2 : decide ((th.length : Int) < most) = true := decide_eq_true q2
      obtain ⟨cs, m', v, g1, g2, g3, g4⟩ := h3_draw (P := P) (k := k) (t := t) (m := m) (th := th) (fr := fr) (es := es) hs h0 hc (b := 2) (by omega) (by omega)
      have g5 := g4 (σ := evE t d1 most many level keep wild a4 a11 a12) (x := .v 0) (y := .k (.int 2)) (by simp [evE]) (by simp)
      refine ⟨cs, m', decide (v = 0), g1, fun _ => q2, ?_⟩
      unfold evE at g5 ⊢
      simp only [bEv1, evS_set, ev_or, ev_and, ev_cmp, ev_bi, evs_cons, evs_nil, ev_v, look_s, look_z, some_opt, ok_bind, el, cmp_lt, qd, qd2, truth_bl, Bool.false_eq_true, if_false, if_true, g5, ev_k, cmp_eq, eqD_int, setT_nm, put_s, put_z]
    · have qd2 : decide ((th.length : Int) < most) = false := decide_eq_false q2
      refine ⟨cells, m, false, hc, fun z => by simp at z, ?_⟩
      unfold evE
      simp only [bEv1, evS_set, ev_or, ev_and, ev_cmp, ev_bi, evs_cons, evs_nil, ev_v, look_s, look_z, some_opt, ok_bind, el, cmp_lt, qd, qd2, truth_bl, Bool.false_eq_true, if_false, setT_nm, put_s, put_z]
theorem evD_in {x : Str} : D.tup [.str (PySem.Str.ofString "in"), .str x] = evD (true, x) := rfl
theorem evD_out {x : Str} : D.tup [.str (PySem.Str.ofString "out"), .str x] = evD (false, x) := rfl
theorem evI_ok (hf : fr ≠ []) (h1 : th.length < 1000) (h2 : es.length < 1000) : evS P F bEvI (evE t d1 most many level keep wild a4 a11 a12) (h3 t cells m th fr es) = .ok (.nx (evE t d1 most many level keep wild a4 a11 a12)) (h3 t cells m (th ++ [fr.getLast hf]) fr.dropLast (es ++ [(true, fr.getLast hf)])) := by
  have q2 : (2 : Nat) ≤ LINE := by decide
  have s0 := isSome_ref (h3_0 (t := t) (cells := cells) (m := m) (th := th) (fr := fr) (es := es))
  have s1 := isSome_ref (h3_1 (t := t) (cells := cells) (m := m) (th := th) (fr := fr) (es := es))
  have p1 := pop0_strs (h3_1 (t := t) (cells := cells) (m := m) (th := th) (fr := fr) (es := es)) hf
  rw [h3_s1] at p1
  have p2 := append_ref (d := .str (fr.getLast hf)) (h3_0 (t := t) (cells := cells) (m := m) (th := th) (fr := fr.dropLast) (es := es)) (by rw [List.length_map]; omega)
  have em : th.map D.str ++ [.str (fr.getLast hf)] = (th ++ [fr.getLast hf]).map D.str := by simp
  rw [em, h3_s0] at p2
  have s2 := isSome_ref (h3_2 (t := t) (cells := cells) (m := m) (th := th ++ [fr.getLast hf]) (fr := fr.dropLast) (es := es))
  have hne : (th ++ [fr.getLast hf]).map D.str ≠ [] := by simp
  have ex : ixR (h3 t cells m (th ++ [fr.getLast hf]) fr.dropLast es) (.ref (t.length + 2)) (.int (-1)) = .ok (.str (fr.getLast hf)) (h3 t cells m (th ++ [fr.getLast hf]) fr.dropLast es) := by
    simp only [ixR, ixD, dctOf_lst h3_0, seqOf_ref h3_0, Option.bind_some, atI_last hne]
    simp
  have p3 := append_ref (d := evD (true, fr.getLast hf)) (h3_2 (t := t) (cells := cells) (m := m) (th := th ++ [fr.getLast hf]) (fr := fr.dropLast) (es := es)) (by rw [List.length_map]; omega)
  have em2 : es.map evD ++ [evD (true, fr.getLast hf)] = (es ++ [(true, fr.getLast hf)]).map evD := by simp
  rw [em2, h3_s2] at p3
  unfold evE
  simp only [bEvI, evS_seq, evS_ex, ev_mt, ev_v, look_s, look_z, some_opt, ok_bind, rIf_pos s0, rIf_pos s1, rIf_pos s2, evs_cons, evs_nil, p1, p2, next_nx, ev_tup, ev_k, ev_ix, ev_neg, negD_int, ex, List.length_cons, List.length_nil, Nat.zero_add, Nat.reduceAdd, rIf_pos q2, evD_in, p3]
theorem evO_ok (hs : P.sgs s = some ⟨f0, 2, [], [0, 1]⟩) (h0 : P.fns f0 = some ⟨2, 3, bAny⟩) (hc : cells.length ≤ 63) (hn : th ≠ []) (h1 : th.length < 1000) (h2 : es.length < 1000) (hk : 0 ≤ keep) :
    ∃ (cs : List Int) (m' : Int) (i : Nat) (hi : i < th.length) (b12 : Option D), cs.length ≤ 63 ∧ evS P (callN P (k + 1)) (bEvO s) (evE t d1 most many level keep wild a4 a11 a12) (h3 t cells m th fr es) = .ok (.nx (evE t d1 most many level keep wild a4 a11 b12)) (h3 t cs m' (th.eraseIdx i) fr (es ++ [(false, th[i])])) := by
  have q2 : (2 : Nat) ≤ LINE := by decide
  have hl : 0 < th.length := List.length_pos_iff.mpr hn
  have el := fun (c : List Int) (m : Int) => len_ref (h3_0 (t := t) (cells := c) (m := m) (th := th) (fr := fr) (es := es))
  simp only [List.length_map] at el
  obtain ⟨c1, m1, v, g1, g2, g3, g4⟩ := h3_draw (P := P) (k := k) (t := t) (m := m) (th := th) (fr := fr) (es := es) hs h0 hc (b := 4) (by omega) (by omega)
  have g5 := g4 (σ := evE t d1 most many level keep wild a4 a11 a12) (x := .v 0) (y := .k (.int 4)) (by simp [evE]) (by simp)
  obtain ⟨cs, m', at_, e1, e2, e3, e4⟩ : ∃ (cs : List Int) (m' at_ : Int), cs.length ≤ 63 ∧ 0 ≤ at_ ∧ at_ < th.length ∧ evS P (callN P (k + 1)) (.set (.nm 12) (.ite (.cmp .ge (.call s true (.cons (.v 0) (.cons (.k (.int 4)) .nil))) (.v 10)) (.bi .min2 (.cons (.v 9) (.cons (.bin .sub (.bi .len (.cons (.v 6) .nil)) (.k (.int 1))) .nil))) (.call s true (.cons (.v 0) (.cons (.bi .len (.cons (.v 6) .nil)) .nil))))) (evE t d1 most many level keep wild a4 a11 a12) (h3 t cells m th fr es) = .ok (.nx (evE t d1 most many level keep wild a4 a11 (some (.int at_)))) (h3 t cs m' th fr es) := by
    by_cases q : wild ≤ v
    · have qd : decide (wild ≤ v) = true := decide_eq_true q
      refine ⟨c1, m1, if (th.length : Int) - 1 < keep then (th.length : Int) - 1 else keep, g1, by split <;> omega, by split <;> omega, ?_⟩
      unfold evE at g5 ⊢
      simp only [evS_set, ev_ite, ev_cmp, g5, ev_v, look_s, look_z, some_opt, ok_bind, cmp_ge, qd, truth_bl, if_true, ev_bi, evs_cons, evs_nil, ev_bin, el, ev_k, bin_subI, bi_min2, setT_nm, put_s, put_z]
    · have qd : decide (wild ≤ v) = false := decide_eq_false q
      obtain ⟨c2, m2, w, i1, i2, i3, i4⟩ := h3_draw (P := P) (k := k) (t := t) (m := m1) (th := th) (fr := fr) (es := es) hs h0 g1 (b := th.length) (by omega) (by omega)
      have i5 := i4 (σ := evE t d1 most many level keep wild a4 a11 a12) (x := .v 0) (y := .bi .len (.cons (.v 6) .nil)) (by simp [evE]) (by simp only [evE, ev_bi, evs_cons, evs_nil, ev_v, look_s, look_z, some_opt, ok_bind, el])
      refine ⟨c2, m2, w, i1, i2, i3, ?_⟩
      unfold evE at g5 i5 ⊢
      simp only [evS_set, ev_ite, ev_cmp, g5, ev_v, look_s, look_z, some_opt, ok_bind, cmp_ge, qd, truth_bl, Bool.false_eq_true, if_false, i5, setT_nm, put_s, put_z]
  have s0 := isSome_ref (h3_0 (t := t) (cells := cs) (m := m') (th := th) (fr := fr) (es := es))
  have s2 := isSome_ref (h3_2 (t := t) (cells := cs) (m := m') (th := th) (fr := fr) (es := es))
  have p1 := pop1_strs (h3_0 (t := t) (cells := cs) (m := m') (th := th) (fr := fr) (es := es)) e2 e3 (by omega)
  rw [h3_s0] at p1
  have hi : at_.toNat < th.length := by omega
  have p3 := append_ref (d := evD (false, th[at_.toNat])) (h3_2 (t := t) (cells := cs) (m := m') (th := th.eraseIdx at_.toNat) (fr := fr) (es := es)) (by rw [List.length_map]; omega)
  have em2 : es.map evD ++ [evD (false, th[at_.toNat])] = (es ++ [(false, th[at_.toNat])]).map evD := by simp
  rw [em2, h3_s2] at p3
  refine ⟨cs, m', at_.toNat, hi, some (.int at_), e1, ?_⟩
  unfold bEvO
  rw [evS_seq, e4, ok_bind, next_nx]
  unfold evE
  simp only [evS_ex, ev_mt, ev_v, look_s, look_z, some_opt, ok_bind, rIf_pos s2, rIf_pos s0, evs_cons, evs_nil, ev_tup, ev_k, p1, List.length_cons, List.length_nil, Nat.zero_add, Nat.reduceAdd, rIf_pos q2, evD_out, p3]
/-- where the drawing stands -/
structure EvI (B : Nat) (es : List (Bool × Str)) (th fr : List Str) : Prop where
  v : Valid es
  th_ : th = TT es
  nd : fr.Nodup
  nw : ∀ x ∈ fr, ∀ j : Nat, es[j]? ≠ some (true, x)
  k1 : ∀ x ∈ th, PyData.strOk x = true
  k2 : ∀ x ∈ fr, PyData.strOk x = true
  bd : ∀ k, c es k ≤ B
theorem TT_len : (TT evs).length ≤ evs.length := by
  have := c_le (evs := evs) evs.length
  exact this
theorem ev_step (hs : P.sgs s = some ⟨f0, 2, [], [0, 1]⟩) (h0 : P.fns f0 = some ⟨2, 3, bAny⟩) (hc : cells.length ≤ 63) {B : Nat} (I : EvI B es th fr) (h2 : es.length < 999) (hk : 0 ≤ keep) (hlv : level ≤ most) (hB : most ≤ B) :
    ∃ (cs : List Int) (m' : Int) (th' fr' : List Str) (es' : List (Bool × Str)) (b11 b12 : Option D), cs.length ≤ 63 ∧ EvI B es' th' fr' ∧ es'.length ≤ es.length + 1 ∧ evS P (callN P (k + 1)) (bEvB s) (evE t d1 most many level keep wild a4 a11 a12) (h3 t cells m th fr es) = .ok (.nx (evE t d1 most many level keep wild a4 b11 b12)) (h3 t cs m' th' fr' es') := by
  obtain ⟨c1, m1, b, g1, gb, g2⟩ := ev1_ok (P := P) (k := k) (t := t) (m := m) (th := th) (fr := fr) (es := es) (d1 := d1) (most := most) (many := many) (level := level) (keep := keep) (wild := wild) (a4 := a4) (a11 := a11) (a12 := a12) hs h0 hc hlv
  have hth : th.length < 1000 := by have := TT_len (evs := es); rw [← I.th_] at this; omega
  have en := eqD_refS0 I.k2 (h3_1 (t := t) (cells := c1) (m := m1) (th := th) (fr := fr) (es := es))
  have en0 := eqD_refS0 I.k1 (h3_0 (t := t) (cells := c1) (m := m1) (th := th) (fr := fr) (es := es))
  have goout : (b = true → fr = []) → ∃ (cs : List Int) (m' : Int) (th' fr' : List Str) (es' : List (Bool × Str)) (b11 b12 : Option D), cs.length ≤ 63 ∧ EvI B es' th' fr' ∧ es'.length ≤ es.length + 1 ∧ evS P (callN P (k + 1)) (bEvB s) (evE t d1 most many level keep wild a4 a11 a12) (h3 t cells m th fr es) = .ok (.nx (evE t d1 most many level keep wild a4 b11 b12)) (h3 t cs m' th' fr' es') := fun hb => by
    have ec : ev P (callN P (k + 1)) (.and_ (.v 11) (.cmp .ne (.v 7) (.nl false (.dis .nil)))) (evE t d1 most many level keep wild a4 (some (.bl b)) a12) (h3 t c1 m1 th fr es) = .ok (.bl false) (h3 t c1 m1 th fr es) := by
      unfold evE
      cases b with
      | false => simp only [ev_and, ev_v, look_s, look_z, some_opt, ok_bind, truth_bl, Bool.false_eq_true, if_false]
      | true =>
        have hd : decide (fr = []) = true := decide_eq_true (hb rfl)
        simp only [ev_and, ev_v, look_s, look_z, some_opt, ok_bind, truth_bl, if_true, ev_cmp, ev_nlF, evN_dis, evs_nil, List.length_nil, rIf_pos len0, cmp_ne, en, hd, Option.map_some, Bool.not_true]
    by_cases hn : th = []
    · have hd0 : decide (th = []) = true := decide_eq_true hn
      refine ⟨c1, m1, th, fr, es, some (.bl b), a12, g1, I, by omega, ?_⟩
      unfold bEvB
      rw [evS_seq, g2, ok_bind, next_nx, evS_ite, ec]
      unfold evE
      simp only [ok_bind, truth_bl, some_opt, Bool.false_eq_true, if_false, evS_ite, ev_cmp, ev_v, look_s, look_z, ev_nlF, evN_dis, evs_nil, List.length_nil, rIf_pos len0, cmp_ne, en0, hd0, Option.map_some, Bool.not_true, evS_nop]
    · obtain ⟨cs, m', i, hi, b12, o1, o2⟩ := evO_ok (P := P) (k := k) (t := t) (m := m1) (th := th) (fr := fr) (es := es) (d1 := d1) (most := most) (many := many) (level := level) (keep := keep) (wild := wild) (a4 := a4) (a11 := some (.bl b)) (a12 := a12) hs h0 g1 hn hth (by omega) hk
      have hmem : th[i] ∈ TT es := by rw [← I.th_]; exact List.getElem_mem hi
      have hnd : th.Nodup := by rw [I.th_]; exact nodup I.v _
      refine ⟨cs, m', th.eraseIdx i, fr, es ++ [(false, th[i])], some (.bl b), b12, o1, ⟨valid_out I.v hmem, ?_, I.nd, fun x hx j hj => ?_, fun x hx => I.k1 x (List.mem_of_mem_eraseIdx hx), I.k2, c_snoc I.bd ?_⟩, by simp, ?_⟩
      · rw [TT_snoc, ← I.th_]
        show _ = th.erase th[i]
        rw [erase_at hnd hi]
      · rcases snoc_get hj with ⟨_, z⟩ | ⟨_, z⟩
        · exact I.nw x hx j z
        · cases z
      · show ((TT es).erase th[i]).length ≤ B
        have h1 := List.length_erase_le (a := th[i]) (l := TT es)
        have h2 : (TT es).length ≤ B := I.bd es.length
        omega
      · unfold bEvB
        have hd : decide (th = []) = false := decide_eq_false hn
        rw [evS_seq, g2, ok_bind, next_nx, evS_ite, ec]
        have e6 : ev P (callN P (k + 1)) (.cmp .ne (.v 6) (.nl false (.dis .nil))) (evE t d1 most many level keep wild a4 (some (.bl b)) a12) (h3 t c1 m1 th fr es) = .ok (.bl true) (h3 t c1 m1 th fr es) := by
          unfold evE
          simp only [ev_cmp, ev_v, look_s, look_z, some_opt, ok_bind, ev_nlF, evN_dis, evs_nil, List.length_nil, rIf_pos len0, cmp_ne, en0, hd, Option.map_some, Bool.not_false]
        simp only [ok_bind, truth_bl, some_opt, Bool.false_eq_true, if_false, evS_ite, e6, if_true, o2]
  cases b with
  | false => exact goout fun z => by cases z
  | true =>
    by_cases hf : fr = []
    · exact goout fun _ => hf
    · have hd : decide (fr = []) = false := decide_eq_false hf
      have o2 := evI_ok (P := P) (F := callN P (k + 1)) (t := t) (cells := c1) (m := m1) (th := th) (fr := fr) (es := es) (d1 := d1) (most := most) (many := many) (level := level) (keep := keep) (wild := wild) (a4 := a4) (a11 := some (.bl true)) (a12 := a12) hf hth (by omega)
      have hlast : fr.getLast hf ∈ fr := List.getLast_mem hf
      have hnw := I.nw _ hlast
      have hsplit : fr.dropLast ++ [fr.getLast hf] = fr := List.dropLast_concat_getLast hf
      have hnd2 : (fr.dropLast ++ [fr.getLast hf]).Nodup := by rw [hsplit]; exact I.nd
      rw [List.nodup_append] at hnd2
      refine ⟨c1, m1, th ++ [fr.getLast hf], fr.dropLast, es ++ [(true, fr.getLast hf)], some (.bl true), a12, g1, ⟨valid_in I.v hnw, ?_, hnd2.1, fun x hx j hj => ?_, fun x hx => ?_, fun x hx => I.k2 x (hsplit ▸ List.mem_append_left _ hx), c_snoc I.bd ?_⟩, by simp, ?_⟩
      · rw [TT_snoc, ← I.th_]
        rfl
      · rcases snoc_get hj with ⟨_, z⟩ | ⟨_, z⟩
        · exact I.nw x (hsplit ▸ List.mem_append_left _ hx) j z
        · have : fr.getLast hf = x := by injection z
          exact hnd2.2.2 x hx (fr.getLast hf) (by simp) this.symm
      · rcases List.mem_append.mp hx with hx | hx
        · exact I.k1 x hx
        · have : x = fr.getLast hf := by simpa using hx
          rw [this]
          exact I.k2 _ hlast
      · show (TT es ++ [fr.getLast hf]).length ≤ B
        have h1 := gb rfl
        rw [List.length_append, List.length_singleton, ← I.th_]
        omega
      · unfold bEvB
        rw [evS_seq, g2, ok_bind, next_nx, evS_ite]
        have e6 : ev P (callN P (k + 1)) (.and_ (.v 11) (.cmp .ne (.v 7) (.nl false (.dis .nil)))) (evE t d1 most many level keep wild a4 (some (.bl true)) a12) (h3 t c1 m1 th fr es) = .ok (.bl true) (h3 t c1 m1 th fr es) := by
          unfold evE
          simp only [ev_and, ev_v, look_s, look_z, some_opt, ok_bind, truth_bl, if_true, ev_cmp, ev_nlF, evN_dis, evs_nil, List.length_nil, rIf_pos len0, cmp_ne, en, hd, Option.map_some, Bool.not_false]
        simp only [ok_bind, truth_bl, some_opt, e6, if_true, o2]
theorem frz_ev {k n : Nat} {es : List (Bool × Str)} : (es.map evD).mapM (frz (k + 2) h n) = some (es.map evD) := mapM_id fun x hx => by
  obtain ⟨e, _, rfl⟩ := List.mem_map.mp hx
  show (([D.str (word e.1), .str e.2] : List D).mapM (frz (k + 1) h n)).map D.tup = _
  rw [mapM_id fun y hy => by
    simp only [List.mem_cons, List.not_mem_nil, or_false] at hy
    rcases hy with rfl | rfl <;> exact frz_str]
  rfl
theorem events_ok (hf : P.fns f = some ⟨4, 13, bEv s s1⟩) (hs1 : P.sgs s1 = some ⟨f1, 2, [], [0, 1]⟩) (h1 : P.fns f1 = some ⟨2, 2, bOf s⟩) (hs : P.sgs s = some ⟨f0, 2, [], [0, 1]⟩) (h0 : P.fns f0 = some ⟨2, 3, bAny⟩) (hc : cells.length ≤ 63) {xs : List Str} (hn : xs.Nodup) (hok : ∀ x ∈ xs, PyData.strOk x = true) (hm1 : 1 ≤ most) (hm2 : most < 1000000) (hl : many ≤ 900) :
    ∃ (cs : List Int) (m' : Int) (es : List (Bool × Str)), cs.length ≤ 63 ∧ Valid es ∧ es.length ≤ many ∧ (∀ k, c es k ≤ most.toNat) ∧ settle (dl cells m t) (callN P (k + 3) f [.ref 1, .fls (xs.map D.str), .int most, .int many] (dl cells m t)) = .ok (.tup (es.map evD)) (dl cs m' t) := by
  have q4 : (4 : Nat) ≤ LINE := by decide
  have q2 : (2 : Nat) ≤ LINE := by decide
  obtain ⟨c1, m1, level, g1, g2, g3, g4⟩ := any_ev (P := P) (k := k + 1) (t := t) (m := m) hs h0 hc (b := most) (by omega) (by omega)
  have g5 := g4 (σ := [some (.ref 1), some (.fls (xs.map D.str)), some (.int most), some (.int many), none, none, none, none, none, none, none, none, none]) (x := .v 0) (y := .v 2) (by simp) (by simp)
  obtain ⟨c2, m2, keep, i1, i2, i3, i4⟩ := h3_draw (P := P) (k := k + 1) (t := t) (m := m1) (th := []) (fr := xs) (es := []) hs h0 g1 (b := 4) (by omega) (by omega)
  obtain ⟨c3, m3, wild, l1, l2, l3⟩ := of_ev (P := P) (k := k) (t := t ++ [.lst [], .lst (xs.map D.str), .lst []]) (m := m2) hs1 h1 hs h0 i1 (ns := [0, 0, 1, 3]) (by simp) (by simp)
  have i5 := i4 (σ := [some (.ref 1), some (.fls (xs.map D.str)), some (.int most), some (.int many), none, some (.int (1 + level)), some (.ref (t.length + 2)), some (.ref (t.length + 3)), some (.ref (t.length + 4)), none, none, none, none]) (x := .v 0) (y := .k (.int 4)) (by simp) (by simp)
  have l4 := l3 (σ := [some (.ref 1), some (.fls (xs.map D.str)), some (.int most), some (.int many), none, some (.int (1 + level)), some (.ref (t.length + 2)), some (.ref (t.length + 3)), some (.ref (t.length + 4)), none, none, none, none]) (x := .v 0) (y := .nl false (.dis (.cons (.k (.int 0)) (.cons (.k (.int 0)) (.cons (.k (.int 1)) (.cons (.k (.int 3)) .nil)))))) (by simp) (by simp [rIf_pos q4])
  obtain ⟨fl, h', ew, cs, m', th, fr, es, a4, a11, a12, rfl, rfl, hc5, I, hlen⟩ := wp_get (r := evS P (callN P (k + 2)) (bEvF s) (evE t (.fls (xs.map D.str)) most many (1 + level) keep wild none none none) (h3 t c3 m3 [] xs [])) (Q := fun fl h' => ∃ (cs : List Int) (m' : Int) (th fr : List Str) (es : List (Bool × Str)) (a4 a11 a12 : Option D), fl = .nx (evE t (.fls (xs.map D.str)) most many (1 + level) keep wild a4 a11 a12) ∧ h' = h3 t cs m' th fr es ∧ cs.length ≤ 63 ∧ EvI most.toNat es th fr ∧ es.length ≤ many) (by
    rw [bEvF, evS_for]
    have hI : evI P (callN P (k + 2)) (.iRg1 (.v 3)) (evE t (.fls (xs.map D.str)) most many (1 + level) keep wild none none none) (h3 t c3 m3 [] xs []) = .ok ((List.range many).map fun i : Nat => D.int i, none) (h3 t c3 m3 [] xs []) := by
      unfold evE
      rw [evI_rg1]
      simp only [ev_v, look_s, look_z, some_opt, ok_bind]
      rw [rg1_nat (by omega)]
    rw [hI, ok_bind, rIf_pos (rng_le (by omega))]
    refine wp_floop (fun i σ h' => ∃ (cs : List Int) (m' : Int) (th fr : List Str) (es : List (Bool × Str)) (a4 a11 a12 : Option D), σ = evE t (.fls (xs.map D.str)) most many (1 + level) keep wild a4 a11 a12 ∧ h' = h3 t cs m' th fr es ∧ cs.length ≤ 63 ∧ EvI most.toNat es th fr ∧ es.length ≤ i) (fun _ _ _ _ _ => True.intro) (fun i σ h' hi z => ?_) (fun σ h' z => ?_) ⟨c3, m3, [], xs, [], none, none, none, rfl, rfl, l1, ⟨valid_nil, rfl, hn, fun x _ j hj => by simp at hj, fun x hx => by simp at hx, hok, fun k => by
      unfold c Ev.T
      simp⟩, Nat.le_refl _⟩
    · obtain ⟨cs, m', th, fr, es, a4, a11, a12, rfl, rfl, hc5, I, hlen⟩ := z
      have hi' : i < many := by simpa using hi
      obtain ⟨c6, m6, th', fr', es', b11, b12, e1, e2, e3, e4⟩ := ev_step (P := P) (k := k + 1) (t := t) (cells := cs) (m := m') (th := th) (fr := fr) (es := es) (d1 := .fls (xs.map D.str)) (most := most) (many := many) (level := 1 + level) (keep := keep) (wild := wild) (a4 := some (((List.range many).map fun i : Nat => D.int i)[i])) (a11 := a11) (a12 := a12) hs h0 hc5 I (by omega) i2 (by omega) (by omega)
      refine wp_of (a := .nx (evE t (.fls (xs.map D.str)) most many (1 + level) keep wild (some (((List.range many).map fun i : Nat => D.int i)[i])) b11 b12)) (h' := h3 t c6 m6 th' fr' es') ?_ ⟨c6, m6, th', fr', es', _, _, _, rfl, rfl, e1, e2, by omega⟩
      unfold evE at e4 ⊢
      simp only [setT_nm, bindT_some, put_s, put_z, e4]
    · obtain ⟨cs, m', th, fr, es, a4, a11, a12, rfl, rfl, hc5, I, hlen⟩ := z
      exact ⟨cs, m', th, fr, es, a4, a11, a12, rfl, rfl, hc5, I, by simpa using hlen⟩)
  refine ⟨cs, m', es, hc5, I.v, hlen, I.bd, ?_⟩
  have ll1 : (dl c1 m1 (t ++ [O.lst []])).length = t.length + 3 := by simp
  have ll2 : (dl c1 m1 (t ++ [O.lst [], .lst (xs.map D.str)])).length = t.length + 4 := by simp
  have et := tuple_ref (h3_2 (t := t) (cells := cs) (m := m') (th := th) (fr := fr) (es := es))
  have lo : ∀ h : Hh, lofR h (.fls (xs.map D.str)) = .ok (xs.map D.str) h := fun h => by simp only [lofR, dctOf_fls, seqOf_fls, some_opt]
  have key : callN P (k + 3) f [.ref 1, .fls (xs.map D.str), .int most, .int many] (dl cells m t) = .ok (.tup (es.map evD)) (h3 t cs m' th fr es) := by
    rw [callN_eq hf rfl]
    show (evS P (callN P (k + 2)) (bEv s s1) [some (.ref 1), some (.fls (xs.map D.str)), some (.int most), some (.int many), none, none, none, none, none, none, none, none, none] (dl cells m t)).bind endR = _
    unfold evE at ew
    have eh : dl c1 m1 (t ++ [O.lst [], .lst (xs.map D.str), .lst []]) = h3 t c1 m1 [] xs [] := rfl
    have l4' : ev P (callN P (k + 2)) (.call s1 true (.cons (.v 0) (.cons (.nl false (.dis (.cons (.k (.int 0)) (.cons (.k (.int 0)) (.cons (.k (.int 1)) (.cons (.k (.int 3)) .nil)))))) .nil))) [some (.ref 1), some (.fls (xs.map D.str)), some (.int most), some (.int many), none, some (.int (1 + level)), some (.ref (t.length + 2)), some (.ref (t.length + 3)), some (.ref (t.length + 4)), none, none, none, none] (h3 t c2 m2 [] xs []) = .ok (.int wild) (h3 t c3 m3 [] xs []) := l4
    simp only [bEv, evS_seq, evS_set, ev_tup, evs_cons, evs_nil, ev_bin, ev_k, ok_bind, g5, bin_addI, ev_nlT, evN_dis, rIf_pos len0, evN_lof, ev_v, look_s, look_z, some_opt, lo, dl_app, List.append_assoc, List.cons_append, List.nil_append, ll1, ll2, dl_len, List.length_cons, List.length_nil, Nat.zero_add, Nat.reduceAdd, rIf_pos q4, setT_tp, setTs_cons, setTs_nil, setT_nm, Option.bind_some, put_s, put_z, next_nx, eh, i5, l4', rIf_pos q2, ew, evS_ret, ev_bi, et, endR_rt]
  rw [key]
  refine settle_dlF ?_
  show ((es.map evD).mapM (frz 7 _ _)).map D.tup = _
  rw [frz_ev]
  rfl
end
end Mx.Pl
set_option Elab.async false
set_option linter.all false
set_option maxRecDepth 100000
set_option maxHeartbeats 0
namespace K49
open PySem PySem.Spec PyProof.Rows L2 Mx
abbrev R : PySem.W.OpenRow := PySem.W.OpenLaw.row RW
abbrev FILE : Str := "/claim/cut.py"
abbrev hk : PySem.W.Hook := hd.hook FILE 5
def ob (s : PySem.W.SharedT) : Al := hd.obsG FILE 5 (HandSHeadRun.getT s)
theorem ob_eq (s : PySem.W.SharedT) : ob s = hk.obs s.abs := Hd.obsG_eq (HandSHeadRun.getT_eq s)
theorem run (w : World) : HandSHeadRun.RunEq R (PySem.W.view R.prog [37]) hk ob 3000 ["YardError", "InvalidYard", "is_integer", "is_below", "is_sequence", "lot_of", "FEWEST", "MOST", "Yard", "places", "all_boxes", "presence_table", "rows_below", "staying", "stay_row", "deep_number", "suffices", "further_stack", "_law_deal", "_law_any", "_law_of", "_law_mixed", "_law_names", "_law_heights", "_law_deeps", "_law_done", "_law_events", "_law_with", "_law_most"] w := by
  intro os
  kernel_rfl
end K49
set_option Elab.async false
set_option linter.all false
set_option maxRecDepth 100000
set_option maxHeartbeats 0
namespace K49
open PySem PySem.W PySem.Calls PyProof.Rows Mx
theorem same_all : ∀ i, i < hd.fn.length → hd.same i = true := by decide +kernel
theorem holds (law : ∀ ns : List Int, ns.length ≤ 63 → (∀ z ∈ ns, Builtin.Int.intBits z ≤ 1048576) → ∃ h', callN hd.pg 12 26 [.scr (ns.map D.int)] [] = .ok (.bl true) h') : RW.Holds := by
  w_on; o_law
  refine HandSHeadRun.head_any (r := OpenLaw.row RW) (q := view (OpenLaw.row RW).prog [37]) (H := hk) (ob := ob) (M := 3000) (loose := ["YardError", "InvalidYard", "is_integer", "is_below", "is_sequence", "lot_of", "FEWEST", "MOST", "Yard", "places", "all_boxes", "presence_table", "rows_below", "staying", "stay_row", "deep_number", "suffices", "further_stack", "_law_deal", "_law_any", "_law_of", "_law_mixed", "_law_names", "_law_heights", "_law_deeps", "_law_done", "_law_events", "_law_with", "_law_most"]) (d := HandSHeadRun.topDef (OpenLaw.row RW).prog 37) (kwd := []) ob_eq
    (by kernel_rfl) (fun s => by kernel_rfl) run (by kernel_rfl) (by kernel_rfl) (by kernel_rfl) (by rfl) (by first | assumption | decide +kernel) (by decide +kernel) ⟨rfl, rfl, rfl, rfl, rfl, by decide +kernel⟩ ?hw ?hc
  case hw => w_witness2
  case hc =>
    refine walk_ofM (l := RW) (n := 63) (x := "_law_script") hd 11 26 rfl (by decide) (by kernel_rfl) ⟨rfl, by decide, by decide⟩ (fun w hp Y => Y) (by decide +kernel) text same_all sgs mks xbs 25 (by rfl) (by decide +kernel) law
end K49
set_option Elab.async false
set_option linter.all false
set_option maxRecDepth 100000
set_option maxHeartbeats 2000000
namespace K49
open PySem Mx Mx.Pl Mx.Ev
abbrev P : Pg := hd.pg
def bWith : S := .ret (.bin .add (.bi .tuple (.cons (.v 0) .nil)) (.ite (.cmp .gt (.v 1) (.k (.int 0))) (.tup (.cons (.v 1) .nil)) (.tup .nil)))
theorem f0 : P.fns 0 = some ⟨1, 1, bInt⟩ := rfl
theorem f1 : P.fns 1 = some ⟨2, 2, bBelow 0⟩ := rfl
theorem f2 : P.fns 2 = some ⟨1, 1, bSeq⟩ := rfl
theorem f3 : P.fns 3 = some ⟨1, 1, bLot⟩ := rfl
theorem f4 : P.fns 4 = some ⟨2, 4, bYard 1 2 1 2⟩ := rfl
theorem f6 : P.fns 6 = some ⟨1, 1, bPlaces 2⟩ := rfl
theorem f7 : P.fns 7 = some ⟨1, 1, bAllB 3 2⟩ := rfl
theorem f8 : P.fns 8 = some ⟨1, 5, bPres⟩ := rfl
theorem f9 : P.fns 9 = some ⟨2, 6, bRB⟩ := rfl
theorem f10 : P.fns 10 = some ⟨2, 7, bStaying 4⟩ := rfl
theorem f11 : P.fns 11 = some ⟨1, 9, bSR 5 6 7⟩ := rfl
theorem f12 : P.fns 12 = some ⟨2, 4, bDN⟩ := rfl
theorem f13 : P.fns 13 = some ⟨2, 4, bSuf 8⟩ := rfl
theorem f14 : P.fns 14 = some ⟨2, 7, bFS 9 3 10 2⟩ := rfl
theorem f15 : P.fns 15 = some ⟨2, 5, bDeal⟩ := rfl
theorem f16 : P.fns 16 = some ⟨2, 3, bAny⟩ := rfl
theorem f17 : P.fns 17 = some ⟨2, 2, bOf 11⟩ := rfl
theorem f18 : P.fns 18 = some ⟨2, 5, bMix 11⟩ := rfl
theorem f19 : P.fns 19 = some ⟨2, 11, bNm 11 12 13⟩ := rfl
theorem f20 : P.fns 20 = some ⟨4, 8, bHeights 12 11⟩ := rfl
theorem f21 : P.fns 21 = some ⟨1, 4, bDeeps⟩ := rfl
theorem f22 : P.fns 22 = some ⟨2, 11, bDone 14⟩ := rfl
theorem f23 : P.fns 23 = some ⟨4, 13, bEv 11 12⟩ := rfl
theorem f24 : P.fns 24 = some ⟨2, 2, bWith⟩ := rfl
theorem f25 : P.fns 25 = some ⟨1, 4, bMost⟩ := rfl
theorem f26 : P.fns 26 = some ⟨1, 13, B_law⟩ := rfl
theorem g0 : P.sgs 0 = some ⟨0, 1, [], [0]⟩ := rfl
theorem g1 : P.sgs 1 = some ⟨2, 1, [], [0]⟩ := rfl
theorem g2 : P.sgs 2 = some ⟨1, 2, [], [0, 1]⟩ := rfl
theorem g3 : P.sgs 3 = some ⟨6, 1, [], [0]⟩ := rfl
theorem g4 : P.sgs 4 = some ⟨3, 1, [], [0]⟩ := rfl
theorem g5 : P.sgs 5 = some ⟨8, 1, [], [0]⟩ := rfl
theorem g6 : P.sgs 6 = some ⟨9, 2, [], [0, 1]⟩ := rfl
theorem g7 : P.sgs 7 = some ⟨10, 2, [], [0, 1]⟩ := rfl
theorem g8 : P.sgs 8 = some ⟨12, 2, [], [0, 1]⟩ := rfl
theorem g9 : P.sgs 9 = some ⟨11, 1, [], [0]⟩ := rfl
theorem g10 : P.sgs 10 = some ⟨13, 2, [], [0, 1]⟩ := rfl
theorem g11 : P.sgs 11 = some ⟨16, 2, [], [0, 1]⟩ := rfl
theorem g12 : P.sgs 12 = some ⟨17, 2, [], [0, 1]⟩ := rfl
theorem g13 : P.sgs 13 = some ⟨18, 2, [], [0, 1]⟩ := rfl
theorem g14 : P.sgs 14 = some ⟨21, 1, [], [0]⟩ := rfl
theorem g15 : P.sgs 15 = some ⟨15, 2, [], [0, 1]⟩ := rfl
theorem g16 : P.sgs 16 = some ⟨20, 4, [], [0, 1, 2, 3]⟩ := rfl
theorem g17 : P.sgs 17 = some ⟨23, 4, [], [0, 1, 2, 3]⟩ := rfl
theorem g18 : P.sgs 18 = some ⟨19, 2, [], [0, 1]⟩ := rfl
theorem g19 : P.sgs 19 = some ⟨14, 2, [], [0, 1]⟩ := rfl
theorem g20 : P.sgs 20 = some ⟨25, 1, [], [0]⟩ := rfl
theorem g21 : P.sgs 21 = some ⟨14, 0, [Str.ofString "events", Str.ofString "yard"], [1, 0]⟩ := rfl
theorem g22 : P.sgs 22 = some ⟨22, 2, [], [0, 1]⟩ := rfl
theorem g23 : P.sgs 23 = some ⟨24, 2, [], [0, 1]⟩ := rfl
theorem g24 : P.sgs 24 = some ⟨7, 1, [], [0]⟩ := rfl
theorem m0 : P.mks 0 = some (2, ⟨4, 1, [], [0, 1]⟩) := rfl
/-! ### the law's body, statement by statement -/
noncomputable abbrev G : Ph := callN P 11
def lw (sc : D) (a2 a3 a4 a5 a6 a7 a8 a9 : Option D) : En := [some sc, some (.ref 1), a2, a3, a4, a5, a6, a7, a8, a9, none, none, none]
section
variable {h h' t : Hh} {σ σ' : En} {a b : S} {Q : Fl → Hh → Prop} {sc : D} {a2 a3 a4 a5 a6 a7 a8 a9 : Option D} {cells : List Int} {m : Int} {hs : List Int} {evs : List (Bool × Str)} {x : Int} {e : E} {d : D} {o : Option (Nat × List D)}
theorem seq_ok {F : Ph} (e : evS P F a σ h = .ok (.nx σ') h') (w : wp (evS P F b σ' h') Q NX) : wp (evS P F (.seq a b) σ h) Q NX := by
  rw [evS_seq, e]
  exact w
theorem mk_ev (e1 : ev P G e σ h = .ok d h) (y : YardH hs) (sq : IsSq h (hs.map D.int) d o) : ev P G (.mk 0 (.cons e .nil)) σ h = .ok (.obj 2 [.tup (hs.map D.int)]) h := by
  rw [ev_mk m0]
  simp only [evs_cons, evs_nil, e1, ok_bind, perm2, some_opt]
  exact mk_yard (k := 8) (es := .nil) (σ := σ) m0 f4 g1 f2 g2 f1 g0 f0 y sq
theorem e0 {ns : List Int} (hl : ns.length ≤ 63) {r : En} : ∃ cs m, cs.length ≤ 63 ∧ evS P G L0 (some (.scr (ns.map D.int)) :: none :: r) [] = .ok (.nx (some (.scr (ns.map D.int)) :: some (.ref 1) :: r)) (dl cs m []) := by
  obtain ⟨cs, m, hc, e⟩ := law_deal_ok (k := 10) (b := 49) f15 hl
  refine ⟨cs, m, hc, ?_⟩
  simp only [L0, evS_set, ev_call g15, evs_cons, evs_nil, ev_v, look_s, look_z, some_opt, ok_bind, ev_k, perm2, Bool.false_eq_true, if_false, e, setT_nm, put_s, put_z]
def S1 : S := .set (.nm 3) (.call 16 true (.cons (.v 1) (.cons (.nl false (.dis (.cons (.k (.int 3)) (.cons (.k (.int 3)) (.cons (.k (.int 4)) (.cons (.k (.int 5)) (.cons (.k (.int 12)) .nil))))))) (.cons (.bin .add (.k (.int 1)) (.call 11 true (.cons (.v 1) (.cons (.k (.int 12)) .nil)))) (.cons (.call 12 true (.cons (.v 1) (.cons (.nl false (.dis (.cons (.k (.int 3)) (.cons (.k (.int 5)) (.cons (.k (.int 7)) (.cons (.k (.int 9)) (.cons (.k (.int 14)) .nil))))))) .nil))) .nil)))))
theorem s1_ok (hc : cells.length ≤ 63) : ∃ (cs : List Int) (m' : Int) (hs : List Int), cs.length ≤ 63 ∧ YardH hs ∧ evS P G S1 (lw sc a2 a3 a4 a5 a6 a7 a8 a9) (dl cells m []) = .ok (.nx (lw sc a2 (some (.tup (hs.map D.int))) a4 a5 a6 a7 a8 a9)) (dl cs m' []) := by
  obtain ⟨c1, m1, v1, b1, b2, b3, b4⟩ := any_ev (P := P) (k := 10) (t := []) (m := m) g11 f16 hc (b := 12) (by omega) (by omega)
  obtain ⟨c2, m2, v2, d1, d2, d3⟩ := of_ev (P := P) (k := 9) (t := []) (m := m1) g12 f17 g11 f16 b1 (ns := [3, 5, 7, 9, 14]) (by simp) (by simp)
  obtain ⟨c3, m3, hs, u, k1, k2, k3, k4⟩ := law_heights_ok (k := 8) (t := []) (m := m2) (sizes := [3, 3, 4, 5, 12]) (tall := 1 + v1) (most := v2) f20 g12 f17 g11 f16 d1 (by simp) (by simp) (by simp) (by omega) (by omega)
  refine ⟨c3, m3, hs, k1, ⟨?_, ?_, fun x hx => ?_⟩, ?_⟩
  · simp at k2; omega
  · simp at k2; omega
  · have := k3 x hx; omega
  · have q5 : (5 : Nat) ≤ LINE := by decide
    have b5 := b4 (σ := lw sc a2 a3 a4 a5 a6 a7 a8 a9) (x := .v 1) (y := .k (.int 12)) (by simp [lw]) (by simp)
    have d4 := d3 (σ := lw sc a2 a3 a4 a5 a6 a7 a8 a9) (x := .v 1) (y := .nl false (.dis (.cons (.k (.int 3)) (.cons (.k (.int 5)) (.cons (.k (.int 7)) (.cons (.k (.int 9)) (.cons (.k (.int 14)) .nil))))))) (by simp [lw]) (by simp [rIf_pos q5])
    have k4' : callN P 11 20 [.ref 1, .fls [.int 3, .int 3, .int 4, .int 5, .int 12], .int (1 + v1), .int v2] (dl c2 m2 []) = .ok (.tup (hs.map D.int)) (dl c3 m3 ([] ++ u)) := k4
    unfold lw at b5 d4 ⊢
    simp only [S1, evS_set, ev_call g16, evs_cons, evs_nil, ev_v, look_s, look_z, some_opt, ok_bind, ev_k, ev_nlF, evN_dis, List.length_cons, List.length_nil, Nat.zero_add, Nat.reduceAdd, rIf_pos q5, ev_bin, b5, bin_addI] at d4 ⊢
    simp only [d4, ok_bind, perm4, some_opt, if_true, k4', settle_dlT frz_tupI, setT_nm, put_s, put_z]
def S2 : S := .set (.nm 4) (.bi .max2 (.cons (.k (.int 2)) (.cons (.bin .add (.bi .sum (.cons (.v 3) .nil)) (.call 12 true (.cons (.v 1) (.cons (.nl false (.dis (.cons (.k (.int 0)) (.cons (.k (.int 0)) (.cons (.neg (.k (.int 1))) (.cons (.neg (.k (.int 2))) (.cons (.k (.int 1)) (.cons (.k (.int 2)) (.cons (.k (.int 8)) .nil))))))))) .nil)))) .nil)))
theorem s2_ok (hc : cells.length ≤ 63) : ∃ (cs : List Int) (m' most : Int), cs.length ≤ 63 ∧ 2 ≤ most ∧ evS P G S2 (lw sc a2 (some (.tup (hs.map D.int))) a4 a5 a6 a7 a8 a9) (dl cells m []) = .ok (.nx (lw sc a2 (some (.tup (hs.map D.int))) (some (.int most)) a5 a6 a7 a8 a9)) (dl cs m' []) := by
  obtain ⟨c2, m2, v2, d1, d2, d3⟩ := of_ev (P := P) (k := 9) (t := []) (m := m) g12 f17 g11 f16 hc (ns := [0, 0, -1, -2, 1, 2, 8]) (by simp) (by simp)
  have q7 : (7 : Nat) ≤ LINE := by decide
  have d4 := d3 (σ := lw sc a2 (some (.tup (hs.map D.int))) a4 a5 a6 a7 a8 a9) (x := .v 1) (y := .nl false (.dis (.cons (.k (.int 0)) (.cons (.k (.int 0)) (.cons (.neg (.k (.int 1))) (.cons (.neg (.k (.int 2))) (.cons (.k (.int 1)) (.cons (.k (.int 2)) (.cons (.k (.int 8)) .nil))))))))) (by simp [lw]) (by simp [rIf_pos q7])
  refine ⟨c2, m2, if hs.sum + v2 > 2 then hs.sum + v2 else 2, d1, by split <;> omega, ?_⟩
  unfold lw at d4 ⊢
  simp only [S2, evS_set, ev_bi, evs_cons, evs_nil, ev_k, ok_bind, ev_bin, ev_v, look_s, look_z, some_opt, bi_sumT, d4, bin_addI, Mx.Pl.bi_max2, setT_nm, put_s, put_z]
def S3 : S := .set (.nm 5) (.call 17 true (.cons (.v 1) (.cons (.call 18 true (.cons (.v 1) (.cons (.k (.int 26)) .nil))) (.cons (.bi .min2 (.cons (.v 4) (.cons (.k (.int 20)) .nil))) (.cons (.call 11 true (.cons (.v 1) (.cons (.k (.int 41)) .nil))) .nil)))))
theorem s3_ok (hc : cells.length ≤ 63) {most : Int} (hm : 2 ≤ most) : ∃ (cs : List Int) (m' : Int) (evs : List (Bool × Str)), cs.length ≤ 63 ∧ Valid evs ∧ evs.length ≤ 41 ∧ evS P G S3 (lw sc a2 a3 (some (.int most)) a5 a6 a7 a8 a9) (dl cells m []) = .ok (.nx (lw sc a2 a3 (some (.int most)) (some (.tup (evs.map evD))) a6 a7 a8 a9)) (dl cs m' []) := by
  obtain ⟨c1, m1, ys, b1, b2, b3, b4, b5⟩ := names_ok (P := P) (k := 8) (t := []) (m := m) f19 g12 f17 g11 f16 g13 f18 hc (many := 26) (by omega)
  obtain ⟨c2, m2, v, d1, d2, d3, d4⟩ := any_ev (P := P) (k := 10) (t := []) (m := m1) g11 f16 b1 (b := 41) (by omega) (by omega)
  obtain ⟨n, rfl⟩ := Int.eq_ofNat_of_zero_le d2
  have d5 := d4 (σ := lw sc a2 a3 (some (.int most)) a5 a6 a7 a8 a9) (x := .v 1) (y := .k (.int 41)) (by simp [lw]) (by simp)
  obtain ⟨c3, m3, es, i1, i2, i3, _, i4⟩ := events_ok (P := P) (k := 8) (t := []) (m := m2) (most := if (20 : Int) < most then 20 else most) (many := n) f23 g12 f17 g11 f16 d1 b2 b4 (by split <;> omega) (by split <;> omega) (by omega)
  refine ⟨c3, m3, es, i1, i2, by omega, ?_⟩
  have b5' : settle (dl cells m []) (callN P 11 19 [.ref 1, .int 26] (dl cells m [])) = .ok (.fls (ys.map D.str)) (dl c1 m1 []) := b5
  unfold lw at d5 ⊢
  simp only [S3, evS_set, ev_call g17, evs_cons, evs_nil, ev_v, look_s, look_z, some_opt, ok_bind, ev_call g18, ev_k, perm2, if_true, b5', ev_bi, Mx.Pl.bi_min2, d5, perm4, i4, setT_nm, put_s, put_z]
def S4c : E := .comp [12] (.nm 12) (.iSeq (.call 18 true (.cons (.v 1) (.cons (.k (.int 40)) .nil)))) .nil (.tup (.cons (.k (.str (PySem.Str.ofString "in"))) (.cons (.v 12) .nil)))
def S4 : S := .ite (.cmp .eq (.call 11 true (.cons (.v 1) (.cons (.k (.int 8)) .nil))) (.k (.int 0))) (.set (.nm 5) (.sl (.bi .tuple (.cons (.nl false S4c) .nil)) .nil (.cons (.call 11 true (.cons (.v 1) (.cons (.k (.int 41)) .nil))) .nil))) .nop
theorem cut_ev {es : List (Bool × Str)} {n : Nat} : cutD (es.map evD) none (some (n : Int)) = (es.take n).map evD := by
  unfold cutD
  rw [HT.sIx_nat, HT.sIx_none, List.drop_zero, Nat.sub_zero, List.length_map, List.map_take, Nat.min_def]
  split
  · rfl
  · rw [List.take_of_length_le (by simp), List.take_of_length_le (by simp; omega)]
theorem s4_ok (hc : cells.length ≤ 63) (V : Valid evs) (hl : evs.length ≤ 41) : ∃ (cs : List Int) (m' : Int) (es : List (Bool × Str)), cs.length ≤ 63 ∧ Valid es ∧ es.length ≤ 41 ∧ evS P G S4 (lw sc a2 a3 a4 (some (.tup (evs.map evD))) a6 a7 a8 a9) (dl cells m []) = .ok (.nx (lw sc a2 a3 a4 (some (.tup (es.map evD))) a6 a7 a8 a9)) (dl cs m' []) := by
  obtain ⟨c1, m1, v, d1, d2, d3, d4⟩ := any_ev (P := P) (k := 10) (t := []) (m := m) g11 f16 hc (b := 8) (by omega) (by omega)
  have d5 := d4 (σ := lw sc a2 a3 a4 (some (.tup (evs.map evD))) a6 a7 a8 a9) (x := .v 1) (y := .k (.int 8)) (by simp [lw]) (by simp)
  by_cases q : v = 0
  · have qd : decide (v = 0) = true := decide_eq_true q
    obtain ⟨c2, m2, ys, b1, b2, b3, b4, b5⟩ := names_ok (P := P) (k := 8) (t := []) (m := m1) f19 g12 f17 g11 f16 g13 f18 d1 (many := 40) (by omega)
    have b5' : settle (dl c1 m1 []) (callN P 11 19 [.ref 1, .int 40] (dl c1 m1 [])) = .ok (.fls (ys.map D.str)) (dl c2 m2 []) := b5
    obtain ⟨c3, m3, w, i1, i2, i3, i4⟩ := any_ev (P := P) (k := 10) (t := []) (m := m2) g11 f16 b1 (b := 41) (by omega) (by omega)
    obtain ⟨n, rfl⟩ := Int.eq_ofNat_of_zero_le i2
    have i5 := i4 (σ := lw sc a2 a3 a4 (some (.tup (evs.map evD))) a6 a7 a8 a9) (x := .v 1) (y := .k (.int 41)) (by simp [lw]) (by simp)
    have q2 : (2 : Nat) ≤ LINE := by decide
    have ec : evN P G S4c (lw sc a2 a3 a4 (some (.tup (evs.map evD))) a6 a7 a8 a9) (dl c1 m1 []) = .ok ((ys.map fun y => (true, y)).map evD) (dl c2 m2 []) := by
      rw [List.map_map, S4c, evN_comp]
      have hI : evI P G (.iSeq (.call 18 true (.cons (.v 1) (.cons (.k (.int 40)) .nil)))) (lw sc a2 a3 a4 (some (.tup (evs.map evD))) a6 a7 a8 a9) (dl c1 m1 []) = .ok (ys.map D.str, none) (dl c2 m2 []) := by
        unfold lw
        simp only [evI_seq, ev_call g18, evs_cons, evs_nil, ev_v, look_s, look_z, some_opt, ok_bind, ev_k, perm2, if_true, b5', iterOf]
      rw [hI, ok_bind, rIf_pos (by simp only [List.length_map]; exact ll (by omega)), cloop_map (it := D.str) (out := evD ∘ fun y => (true, y)) (q := fun _ => true) True.intro fun y hy => ?_]
      · rw [List.filter_eq_self.mpr fun _ _ => rfl]; rfl
      · rw [turn_nm]
        simp only [ev_tup, evs_cons, evs_nil, ev_k, ok_bind, ev_v]
        simp [wipe, lw, rIf_pos q2]
        rfl
    have hv := valid_ins (xs := ys.take n) (b2.sublist (List.take_sublist ..))
    rw [List.map_take] at hv
    refine ⟨c3, m3, (ys.map fun y => (true, y)).take n, i1, hv, by simp; omega, ?_⟩
    unfold lw at d5 i5 ec ⊢
    simp only [S4, evS_ite, ev_cmp, d5, ok_bind, ev_k, cmp_eq, eqD_int, qd, some_opt, truth_bl, if_true, evS_set, ev_sl, ev_bi, evs_cons, evs_nil, ev_nlF, ec, bi_tupleF, evO_nil, evO_cons, i5, intO_int, slR, cut_ev, setT_nm, put_s, put_z]
  · have qd : decide (v = 0) = false := decide_eq_false q
    refine ⟨c1, m1, evs, d1, V, hl, ?_⟩
    unfold lw at d5 ⊢
    simp only [S4, evS_ite, ev_cmp, d5, ok_bind, ev_k, cmp_eq, eqD_int, qd, some_opt, truth_bl, Bool.false_eq_true, if_false, evS_nop]
def S5 : S := .set (.tp (.cons (.nm 7) (.cons (.nm 8) .nil))) (.tup (.cons (.call 19 true (.cons (.mk 0 (.cons (.v 3) .nil)) (.cons (.v 5) .nil))) (.cons (.call 20 true (.cons (.v 5) .nil)) .nil)))
theorem row_ev (V : Valid evs) (hl : evs.length ≤ 41) (k : Nat) (h : Hh) : settle h (callN P (k + 3) 11 [.tup (evs.map evD)] h) = .ok (.tup ((rowI evs).map D.int)) h := stay_row_ok f11 g5 f8 g6 f9 g7 f10 g4 f3 V (by omega)
theorem frz_oD {k n : Nat} {o : Option Nat} : frz (k + 1) h n (oD o) = some (oD o) := by cases o <;> first | exact frz_non | exact frz_int
theorem fs_ev (V : Valid evs) (hl : evs.length ≤ 41) (y : YardH hs) {o : Option Nat} (ho : FS evs hs o) (hx : ∀ x, o = some x → x < 100) (h : Hh) : settle h (callN P 11 14 [.obj 2 [.tup (hs.map D.int)], .tup (evs.map evD)] h) = .ok (oD o) h := by
  rw [fs_ok (k := 7) f14 g9 (fun h => row_ev V hl 7 h) g3 f6 g10 f13 g8 f12 y (by omega) ho fun x hx' => by have := hx x hx'; omega]
  exact settle_ok frz_oD
theorem s5_ok (V : Valid evs) (hl : evs.length ≤ 41) (y : YardH hs) {o : Option Nat} (ho : FS evs hs o) (hx : ∀ x, o = some x → x < 100) : evS P G S5 (lw sc a2 (some (.tup (hs.map D.int))) a4 (some (.tup (evs.map evD))) a6 a7 a8 a9) h = .ok (.nx (lw sc a2 (some (.tup (hs.map D.int))) a4 (some (.tup (evs.map evD))) a6 (some (oD o)) (some (.int (mx evs))) a9)) h := by
  have q2 : (2 : Nat) ≤ LINE := by decide
  have e1 := mk_ev (σ := lw sc a2 (some (.tup (hs.map D.int))) a4 (some (.tup (evs.map evD))) a6 a7 a8 a9) (h := h) (e := .v 3) (d := .tup (hs.map D.int)) (by simp [lw]) y .tup
  have e2 := most_ok (P := P) (k := 10) (h := h) f25 V (by omega)
  unfold lw at e1 ⊢
  simp only [S5, evS_set, ev_tup, evs_cons, evs_nil, ev_call g19, ev_call g20, e1, ev_v, look_s, look_z, some_opt, ok_bind, perm1, perm2, if_true, fs_ev V hl y ho hx h, e2, List.length_cons, List.length_nil, Nat.zero_add, Nat.reduceAdd, rIf_pos q2, setT_tp, setTs_cons, setTs_nil, setT_nm, Option.bind_some, put_s, put_z]
theorem small100 : ∀ n : Nat, n < 100 → ((toString (n : Int) : Str)).length ≤ 2 := by decide +kernel
theorem log100 : ∀ n : Nat, n < 100 → n.log2 < 1920 := by decide +kernel
theorem repr_oD {o : Option Nat} (hx : ∀ x, o = some x → x < 100) : ∃ R, ∀ h, biD h .repr [oD o] = .ok (.str R) h := by
  cases o with
  | none =>
    refine ⟨PyData.none.shown, fun h => ?_⟩
    show biRepr h [.non] = _
    have e : pd h .non = some .none := rfl
    simp only [biRepr, e, some_opt, ok_bind]
    exact rIf_pos ⟨rfl, rfl, by decide, by decide +kernel⟩ _
  | some x =>
    refine ⟨(PyData.int (x : Nat)).shown, fun h => ?_⟩
    have hx := hx x rfl
    show biRepr h [.int (x : Nat)] = _
    have e : pd h (.int (x : Nat)) = some (.int (x : Nat)) := rfl
    simp only [biRepr, e, some_opt, ok_bind]
    refine rIf_pos ⟨?_, rfl, by simp [PyData.depth], ?_⟩ _
    · have := log100 x hx
      simpa [PyData.showable] using this
    · have := small100 x hx
      show ((toString (x : Int) : Str)).length ≤ LINE
      unfold LINE
      omega
def S6 : S := .ite (.cmp .ne (.bi .repr (.cons (.call 21 true (.cons (.v 5) (.cons (.mk 0 (.cons (.nl false (.lof (.v 3))) .nil)) .nil))) .nil)) (.bi .repr (.cons (.v 7) .nil))) (.ret (.k (.bl false))) .nop
theorem s6_ok (V : Valid evs) (hl : evs.length ≤ 41) (y : YardH hs) {o : Option Nat} (ho : FS evs hs o) (hx : ∀ x, o = some x → x < 100) : evS P G S6 (lw sc a2 (some (.tup (hs.map D.int))) a4 (some (.tup (evs.map evD))) a6 (some (oD o)) a8 a9) h = .ok (.nx (lw sc a2 (some (.tup (hs.map D.int))) a4 (some (.tup (evs.map evD))) a6 (some (oD o)) a8 a9)) h := by
  obtain ⟨R, hR⟩ := repr_oD hx
  have e1 := mk_ev (σ := lw sc a2 (some (.tup (hs.map D.int))) a4 (some (.tup (evs.map evD))) a6 (some (oD o)) a8 a9) (h := h) (e := .nl false (.lof (.v 3))) (d := .fls (hs.map D.int)) (by simp [lw, lofR, seqOf]) y .fls
  unfold lw at e1 ⊢
  simp only [S6, evS_ite, ev_cmp, ev_bi, evs_cons, evs_nil, ev_call g21, e1, ev_v, look_s, look_z, some_opt, ok_bind, perm10, if_true, fs_ev V hl y ho hx h, hR, cmp_ne, eqD_str, decide_true, Option.map_some, Bool.not_true, truth_bl, Bool.false_eq_true, if_false, evS_nop]
def S7 : S := .set (.nm 6) (.nl false (.comp [10, 11] (.tp (.cons (.nm 10) (.cons (.nm 11) .nil))) (.iEnum (.call 9 true (.cons (.v 5) .nil))) (.cons (.cmp .lt (.v 11) (.bin .sub (.bin .add (.v 10) (.k (.int 1))) (.bi .sum (.cons (.v 3) .nil)))) .nil) (.v 10)))
def lack (evs : List (Bool × Str)) (hs : List Int) : List Int := ((List.range (mx evs)).filter fun i => decide ((rv evs (1 + i) : Int) < (i : Int) + 1 - hs.sum)).map fun i : Nat => (i : Int)
theorem s7_ok (V : Valid evs) (hl : evs.length ≤ 41) : evS P G S7 (lw sc a2 (some (.tup (hs.map D.int))) a4 (some (.tup (evs.map evD))) a6 a7 a8 a9) h = .ok (.nx (lw sc a2 (some (.tup (hs.map D.int))) a4 (some (.tup (evs.map evD))) (some (.fls ((lack evs hs).map D.int))) a7 a8 a9)) h := by
  have hml := mx_le_len (evs := evs)
  have ec : evN P G (.comp [10, 11] (.tp (.cons (.nm 10) (.cons (.nm 11) .nil))) (.iEnum (.call 9 true (.cons (.v 5) .nil))) (.cons (.cmp .lt (.v 11) (.bin .sub (.bin .add (.v 10) (.k (.int 1))) (.bi .sum (.cons (.v 3) .nil)))) .nil) (.v 10)) (lw sc a2 (some (.tup (hs.map D.int))) a4 (some (.tup (evs.map evD))) a6 a7 a8 a9) h = .ok ((lack evs hs).map D.int) h := by
    unfold lack
    rw [List.map_map]
    refine comp_mapC (ys := List.range (mx evs)) (it := fun i : Nat => .tup [.int i, .int (rv evs (1 + i))]) (g := none) ?_ (by simp; omega) True.intro fun i hi => ?_
    · unfold lw
      simp only [evI_enum, ev_call g9, evs_cons, evs_nil, ev_v, look_s, look_z, some_opt, ok_bind, perm1, if_true, row_ev V hl 8 h, rowI_D]
      show R.ok (enumL _, none) h = _
      rw [enumL_map]
    · by_cases q : (rv evs (1 + i) : Int) < (i : Int) + 1 - hs.sum <;> simp [turn, wipe, lw, q]
  unfold lw at ec ⊢
  simp only [S7, evS_set, ev_nlF, ec, ok_bind, setT_nm, some_opt, put_s, put_z]
theorem eqD_bl {a b : Bool} : eqD h (.bl a) (.bl b) = some (decide (a = b)) := by
  cases a <;> cases b <;> simp [eqD, pd, pdF, SeqAt.shaped, PyData.canLay0, PyData.depth, PyData.eqv]
theorem eqD_fls0 {as : List Int} : eqD h (.fls (as.map D.int)) (.fls []) = some (decide (as = [])) := by
  have := pd_flsI (h := h) (ns := [])
  have e2 : pd h (.fls []) = some (.list ([].map PyData.int)) := this
  simp only [eqD, pd_flsI, e2, shaped_lstI, and_self, if_true, PyData.eqv, eqv_ints]
def S8 : S := .ite (.cmp .ne (.cmp .is_ (.v 7) (.k .non)) (.cmp .ne (.v 6) (.nl false (.dis .nil)))) (.ret (.k (.bl false))) .nop
theorem lack_iff : lack evs hs = [] ↔ ¬ Never (mx evs) (rv evs) hs := by
  unfold lack
  rw [List.map_eq_nil_iff, List.filter_eq_nil_iff]
  constructor
  · rintro H ⟨b, h1, h2, h3⟩
    refine H (b - 1) (List.mem_range.mpr (by omega)) ?_
    have e1 : 1 + (b - 1) = b := by omega
    rw [e1]
    simp
    omega
  · intro H i hi z
    have hi := List.mem_range.mp hi
    exact H ⟨1 + i, by omega, by omega, by simp at z; omega⟩
theorem s8_ok {o : Option Nat} (ho : FS evs hs o) : evS P G S8 (lw sc a2 a3 a4 a5 (some (.fls ((lack evs hs).map D.int))) (some (oD o)) a8 a9) h = .ok (.nx (lw sc a2 a3 a4 a5 (some (.fls ((lack evs hs).map D.int))) (some (oD o)) a8 a9)) h := by
  unfold lw
  cases o with
  | none =>
    have hd : decide (lack evs hs = []) = false := decide_eq_false fun z => lack_iff.mp z ho
    simp only [S8, evS_ite, ev_cmp, ev_v, look_s, look_z, some_opt, ok_bind, ev_k, oD, is_nn, ev_nlF, evN_dis, evs_nil, List.length_nil, rIf_pos len0, cmp_ne, eqD_fls0, hd, Option.map_some, Bool.not_false, eqD_bl, decide_true, Bool.not_true, truth_bl, Bool.false_eq_true, if_false, evS_nop]
  | some x =>
    have hd : decide (lack evs hs = []) = true := decide_eq_true (lack_iff.mpr ho.1)
    simp only [S8, evS_ite, ev_cmp, ev_v, look_s, look_z, some_opt, ok_bind, ev_k, oD, is_in, ev_nlF, evN_dis, evs_nil, List.length_nil, rIf_pos len0, cmp_ne, eqD_fls0, hd, Option.map_some, Bool.not_true, eqD_bl, decide_true, truth_bl, Bool.false_eq_true, if_false, evS_nop]
/-! with the further stack -/
def wh (hs : List Int) (x : Int) : List Int := if 0 < x then hs ++ [x] else hs
theorem with_ev (hl : hs.length ≤ 1000) (x : Int) : settle h (callN P 11 24 [.tup (hs.map D.int), .int x] h) = .ok (.tup ((wh hs x).map D.int)) h := by
  have q1 : (1 : Nat) ≤ LINE := by decide
  have key : callN P 11 24 [.tup (hs.map D.int), .int x] h = .ok (.tup ((wh hs x).map D.int)) h := by
    rw [callN_eq f24 rfl]
    show (evS P (callN P 10) bWith [some (.tup (hs.map D.int)), some (.int x)] h).bind endR = _
    unfold wh
    by_cases q : 0 < x
    · have qd : decide (0 < x) = true := decide_eq_true q
      have ea : binD h .add (.tup (hs.map D.int)) (.tup [.int x]) = .ok (.tup (hs.map D.int ++ [.int x])) h := bin_addT (by simp; unfold LINE; omega)
      rw [if_pos q]
      simp only [bWith, evS_ret, ev_bin, ev_bi, evs_cons, evs_nil, ev_v, look_s, look_z, some_opt, ok_bind, bi_tupleT, ev_ite, ev_cmp, ev_k, cmp_gt, qd, truth_bl, if_true, ev_tup, List.length_cons, List.length_nil, Nat.zero_add, rIf_pos q1, ea, endR_rt, List.map_append, List.map_cons, List.map_nil]
    · have qd : decide (0 < x) = false := decide_eq_false q
      have ea : binD h .add (.tup (hs.map D.int)) (.tup []) = .ok (.tup (hs.map D.int ++ [])) h := bin_addT (by simp; unfold LINE; omega)
      rw [if_neg q]
      simp only [bWith, evS_ret, ev_bin, ev_bi, evs_cons, evs_nil, ev_v, look_s, look_z, some_opt, ok_bind, bi_tupleT, ev_ite, ev_cmp, ev_k, cmp_gt, qd, truth_bl, Bool.false_eq_true, if_false, ev_tup, List.length_nil, rIf_pos len0, ea, endR_rt, List.append_nil]
  rw [key]
  exact settle_tupI
theorem wh_suf (hx : 0 ≤ x) : sufB evs (wh hs x) = sufB evs (hs ++ [x]) := by
  unfold wh
  by_cases q : 0 < x
  · rw [if_pos q]
  · have : x = 0 := by omega
    subst this
    rw [if_neg q, Bool.eq_iff_iff, sufB_iff, sufB_iff, suff_zero]
theorem wh_sum (hx : 0 ≤ x) : (wh hs x).sum = hs.sum + x := by
  unfold wh
  split
  · simp
  · have : x = 0 := by omega
    subst this
    simp
def eDone : E := .call 22 true (.cons (.call 23 true (.cons (.v 3) (.cons (.v 9) .nil))) (.cons (.v 5) .nil))
theorem done_ev (V : Valid evs) (hl : evs.length ≤ 41) (y : YardH hs) (hx : 0 ≤ x) (hx2 : x < 50000) : ev P G eDone (lw sc a2 (some (.tup (hs.map D.int))) a4 (some (.tup (evs.map evD))) a6 a7 a8 (some (.int x))) h = .ok (.bl (sufB evs (hs ++ [x]))) h := by
  have hlen := y.2.1
  have hsum : hs.sum ≤ hs.length * 12 := sum_le fun z hz => (y.2.2 z hz).2
  have hs0 : 0 ≤ hs.sum := sum_nn fun z hz => by have := (y.2.2 z hz).1; omega
  have hws := wh_sum (hs := hs) hx
  have hwl : (wh hs x).length ≤ 13 := by
    unfold wh
    split
    · rw [List.length_append, List.length_singleton]; omega
    · omega
  have hwn : ∀ z ∈ wh hs x, 0 ≤ z := fun z hz => by
    unfold wh at hz
    split at hz
    · rcases List.mem_append.mp hz with hz | hz
      · have := (y.2.2 z hz).1; omega
      · have : z = x := by simpa using hz
        omega
    · have := (y.2.2 z hz).1; omega
  obtain ⟨b, hb, e⟩ := law_done_ok (P := P) (k := 9) (h := h) (hs := wh hs x) f22 g14 f21 V (by omega) (by omega) (by omega) (by omega)
  have hiff := fine_iff V (t := (wh hs x).sum.toNat) (m := mx evs) (dn := dpn (wh hs x)) (r := rv evs) (fun k hk => mx_le k hk) mx_at (fun b h1 h2 => rv_row h1 h2) (fun b hb => dp_le hwn (by omega) (by omega))
  have : b = sufB evs (hs ++ [x]) := by
    rw [← wh_suf hx, Bool.eq_iff_iff, hb, hiff, sufB_iff]
    unfold Suff
    constructor
    · rintro ⟨h1, h2⟩
      exact ⟨by omega, h2⟩
    · rintro ⟨h1, h2⟩
      exact ⟨by omega, h2⟩
  rw [this] at e
  unfold lw
  simp only [eDone, ev_call g22, ev_call g23, evs_cons, evs_nil, ev_v, look_s, look_z, some_opt, ok_bind, perm2, if_true, with_ev (show hs.length ≤ 1000 by omega), e]
end
end K49
set_option Elab.async false
set_option linter.all false
set_option maxRecDepth 100000
set_option maxHeartbeats 2000000
namespace K49
open PySem Mx Mx.Pl Mx.Ev
section
variable {h h' t : Hh} {σ σ' : En} {a b : S} {Q : Fl → Hh → Prop} {sc : D} {a2 a3 a4 a5 a6 a7 a8 a9 : Option D} {cells : List Int} {m : Int} {hs : List Int} {evs : List (Bool × Str)} {x : Int} {e : E} {d : D}
def forNo (it c : E) : S := .for_ (.nm 9) it (.ite c (.ret (.k (.bl false))) .nop)
/-- a loop that finds nothing -/
theorem for_no {it c : E} {xs : List Int} (hi : evI P G it (lw sc a2 a3 a4 a5 a6 a7 a8 a9) h = .ok (xs.map D.int, none) h') (hl : xs.length ≤ 1000) (H : ∀ x ∈ xs, ev P G c (lw sc a2 a3 a4 a5 a6 a7 a8 (some (.int x))) h' = .ok (.bl false) h') :
    ∃ b9, evS P G (forNo it c) (lw sc a2 a3 a4 a5 a6 a7 a8 a9) h = .ok (.nx (lw sc a2 a3 a4 a5 a6 a7 a8 b9)) h' := by
  obtain ⟨fl, h2, ew, b9, rfl, rfl⟩ := wp_get (r := evS P G (forNo it c) (lw sc a2 a3 a4 a5 a6 a7 a8 a9) h) (Q := fun fl h2 => ∃ b9, fl = .nx (lw sc a2 a3 a4 a5 a6 a7 a8 b9) ∧ h2 = h') (by
    rw [forNo, evS_for, hi, ok_bind, rIf_pos (by rw [List.length_map]; exact ll (by omega))]
    refine wp_floop (fun i σ h2 => ∃ b9, σ = lw sc a2 a3 a4 a5 a6 a7 a8 b9 ∧ h2 = h') (fun _ _ _ _ _ => True.intro) (fun i σ h2 hi2 z => ?_) (fun σ h2 z => ?_) ⟨a9, rfl, rfl⟩
    · obtain ⟨b9, rfl, rfl⟩ := z
      have hi' : i < xs.length := by simpa using hi2
      have hx := H xs[i] (List.getElem_mem hi')
      rw [List.getElem_map]
      refine wp_of (a := .nx (lw sc a2 a3 a4 a5 a6 a7 a8 (some (.int xs[i])))) (h' := h2) ?_ ⟨_, rfl, rfl⟩
      unfold lw at hx ⊢
      simp only [setT_nm, bindT_some, put_s, put_z, evS_ite, hx, ok_bind, truth_bl, some_opt, Bool.false_eq_true, if_false, evS_nop]
    · obtain ⟨b9, rfl, rfl⟩ := z
      exact ⟨b9, rfl, rfl⟩)
  exact ⟨b9, ew⟩
def S9N : S := forNo (.iSeq (.nl false (.dis (.cons (.k (.int 1)) (.cons (.k (.int 6)) (.cons (.k (.int 12)) (.cons (.v 8) (.cons (.bin .add (.bin .add (.v 8) (.k (.int 1))) (.call 11 true (.cons (.v 1) (.cons (.k (.int 50)) .nil)))) .nil)))))))) eDone
def S9A : S := .ite (.or_ (.not_ (.bi .isInt (.cons (.v 7) .nil))) (.or_ (.bi .isBool (.cons (.v 7) .nil)) (.not_ (.ch .le .le (.k (.int 0)) (.v 7) (.bi .max2 (.cons (.k (.int 0)) (.cons (.bin .sub (.v 8) (.call 24 true (.cons (.mk 0 (.cons (.v 3) .nil)) .nil))) .nil))))))) (.ret (.k (.bl false))) .nop
def S9B : S := forNo (.iSeq (.nl false (.dis (.cons (.v 7) (.cons (.bin .add (.v 7) (.k (.int 1))) (.cons (.bin .add (.bin .add (.v 7) (.k (.int 2))) (.call 11 true (.cons (.v 1) (.cons (.k (.int 20)) .nil)))) .nil)))))) (.not_ eDone)
def S9C : S := forNo (.iRg2 (.bi .max2 (.cons (.k (.int 0)) (.cons (.bin .sub (.v 7) (.k (.int 3))) .nil))) (.v 7)) eDone
def S9 : S := .ite (.cmp .is_ (.v 7) (.k .non)) S9N (.seq S9A (.seq S9B S9C))
def LB : S := .seq S1 (.seq S2 (.seq S3 (.seq S4 (.seq S5 (.seq S6 (.seq S7 (.seq S8 S9)))))))
theorem L1_is : L1 = .for_ (.nm 2) (.iRg1 (.k (.int 4))) LB := rfl
theorem suf_no (h : ¬ Suff (mx evs) (rv evs) (hs ++ [x])) : sufB evs (hs ++ [x]) = false := by rw [← Bool.not_eq_true, sufB_iff]; exact h
theorem s9_ok (hc : cells.length ≤ 63) (V : Valid evs) (hl : evs.length ≤ 41) (y : YardH hs) {o : Option Nat} (ho : FS evs hs o) (hx : ∀ x, o = some x → (x : Int) ≤ (if (mx evs : Int) - (hs.sum + 1 - maxL hs) > 0 then (mx evs : Int) - (hs.sum + 1 - maxL hs) else 0)) (hx2 : ∀ x, o = some x → x < 100) :
    ∃ (cs : List Int) (m' : Int) (b9 : Option D), cs.length ≤ 63 ∧ evS P G S9 (lw sc a2 (some (.tup (hs.map D.int))) a4 (some (.tup (evs.map evD))) a6 (some (oD o)) (some (.int (mx evs))) a9) (dl cells m []) = .ok (.nx (lw sc a2 (some (.tup (hs.map D.int))) a4 (some (.tup (evs.map evD))) a6 (some (oD o)) (some (.int (mx evs))) b9)) (dl cs m' []) := by
  have hml := mx_le_len (evs := evs)
  have q5 : (5 : Nat) ≤ LINE := by decide
  have q3 : (3 : Nat) ≤ LINE := by decide
  cases o with
  | none =>
    obtain ⟨c1, m1, w, i1, i2, i3, i4⟩ := any_ev (P := P) (k := 10) (t := []) (m := m) g11 f16 hc (b := 50) (by omega) (by omega)
    have i5 := i4 (σ := lw sc a2 (some (.tup (hs.map D.int))) a4 (some (.tup (evs.map evD))) a6 (some .non) (some (.int (mx evs))) a9) (x := .v 1) (y := .k (.int 50)) (by simp [lw]) (by simp)
    have hI : evI P G (.iSeq (.nl false (.dis (.cons (.k (.int 1)) (.cons (.k (.int 6)) (.cons (.k (.int 12)) (.cons (.v 8) (.cons (.bin .add (.bin .add (.v 8) (.k (.int 1))) (.call 11 true (.cons (.v 1) (.cons (.k (.int 50)) .nil)))) .nil)))))))) (lw sc a2 (some (.tup (hs.map D.int))) a4 (some (.tup (evs.map evD))) a6 (some .non) (some (.int (mx evs))) a9) (dl cells m []) = .ok (([1, 6, 12, (mx evs : Int), (mx evs : Int) + 1 + w] : List Int).map D.int, none) (dl c1 m1 []) := by
      unfold lw at i5 ⊢
      simp only [evI_seq, ev_nlF, evN_dis, evs_cons, evs_nil, ev_k, ok_bind, ev_v, look_s, look_z, some_opt, ev_bin, bin_addI, i5, List.length_cons, List.length_nil, Nat.zero_add, Nat.reduceAdd, rIf_pos q5, iterOf, List.map_cons, List.map_nil]
    obtain ⟨b9, e⟩ := for_no (c := eDone) hI (by simp) fun x hx => by
      have hx0 : 0 ≤ x ∧ x < 50000 := by
        simp only [List.mem_cons, List.not_mem_nil, or_false] at hx
        omega
      rw [done_ev V hl y hx0.1 hx0.2, suf_no (suff_never ho)]
    refine ⟨c1, m1, b9, i1, ?_⟩
    have e' : evS P G S9N (lw sc a2 (some (.tup (hs.map D.int))) a4 (some (.tup (evs.map evD))) a6 (some .non) (some (.int (mx evs))) a9) (dl cells m []) = .ok (.nx (lw sc a2 (some (.tup (hs.map D.int))) a4 (some (.tup (evs.map evD))) a6 (some .non) (some (.int (mx evs))) b9)) (dl c1 m1 []) := e
    unfold lw at e' ⊢
    simp only [S9, oD, evS_ite, ev_cmp, ev_v, look_s, look_z, some_opt, ok_bind, ev_k, is_nn, truth_bl, if_true, e']
  | some n =>
    obtain ⟨ho1, ho2, ho3⟩ := ho
    have hxn := hx n rfl
    have hn2 := hx2 n rfl
    have hne : hs ≠ [] := fun z => by have := y.1; rw [z] at this; simp at this
    -- bounds
    have eA : evS P G S9A (lw sc a2 (some (.tup (hs.map D.int))) a4 (some (.tup (evs.map evD))) a6 (some (.int (n : Nat))) (some (.int (mx evs))) a9) (dl cells m []) = .ok (.nx (lw sc a2 (some (.tup (hs.map D.int))) a4 (some (.tup (evs.map evD))) a6 (some (.int (n : Nat))) (some (.int (mx evs))) a9)) (dl cells m []) := by
      have e1 := mk_ev (σ := lw sc a2 (some (.tup (hs.map D.int))) a4 (some (.tup (evs.map evD))) a6 (some (.int (n : Nat))) (some (.int (mx evs))) a9) (h := dl cells m []) (e := .v 3) (d := .tup (hs.map D.int)) (by simp [lw]) y .tup
      have e2 : settle (dl cells m []) (callN P 11 7 [.obj 2 [.tup (hs.map D.int)]] (dl cells m [])) = .ok (.int (hs.sum + 1 - maxL hs)) (dl cells m []) := by rw [allb_eq (k := 9) f7 g3 f6 hne]; exact settle_int
      have d1 : decide ((0 : Int) ≤ (n : Int)) = true := decide_eq_true (by omega)
      have d2 := decide_eq_true hxn
      unfold lw at e1 ⊢
      simp only [S9A, evS_ite, ev_or, ev_not, ev_bi, evs_cons, evs_nil, ev_v, look_s, look_z, some_opt, ok_bind, bi_isInt, truth_bl, Bool.not_true, Bool.false_eq_true, if_false, bi_isBoolI, ev_ch, ev_k, cmp_le, d1, if_true, ev_bin, ev_call g24, e1, perm1, e2, bin_subI, Mx.Pl.bi_max2, d2, evS_nop]
    -- more
    obtain ⟨c1, m1, w, i1, i2, i3, i4⟩ := any_ev (P := P) (k := 10) (t := []) (m := m) g11 f16 hc (b := 20) (by omega) (by omega)
    have i5 := i4 (σ := lw sc a2 (some (.tup (hs.map D.int))) a4 (some (.tup (evs.map evD))) a6 (some (.int (n : Nat))) (some (.int (mx evs))) a9) (x := .v 1) (y := .k (.int 20)) (by simp [lw]) (by simp)
    have hI : evI P G (.iSeq (.nl false (.dis (.cons (.v 7) (.cons (.bin .add (.v 7) (.k (.int 1))) (.cons (.bin .add (.bin .add (.v 7) (.k (.int 2))) (.call 11 true (.cons (.v 1) (.cons (.k (.int 20)) .nil)))) .nil)))))) (lw sc a2 (some (.tup (hs.map D.int))) a4 (some (.tup (evs.map evD))) a6 (some (.int (n : Nat))) (some (.int (mx evs))) a9) (dl cells m []) = .ok (([(n : Int), (n : Int) + 1, (n : Int) + 2 + w] : List Int).map D.int, none) (dl c1 m1 []) := by
      unfold lw at i5 ⊢
      simp only [evI_seq, ev_nlF, evN_dis, evs_cons, evs_nil, ev_k, ok_bind, ev_v, look_s, look_z, some_opt, ev_bin, bin_addI, i5, List.length_cons, List.length_nil, Nat.zero_add, Nat.reduceAdd, rIf_pos q3, iterOf, List.map_cons, List.map_nil]
    obtain ⟨b9, eB⟩ := for_no (c := .not_ eDone) hI (by simp) fun x hx => by
      have hx0 : (n : Int) ≤ x ∧ x < 50000 := by
        simp only [List.mem_cons, List.not_mem_nil, or_false] at hx
        omega
      have hT := sufB_iff.mpr (suff_mono ho2 hx0.1)
      rw [ev_not, done_ev V hl y (by omega) hx0.2, hT]
      simp only [ok_bind, truth_bl, some_opt, Bool.not_true]
    have eB' : evS P G S9B (lw sc a2 (some (.tup (hs.map D.int))) a4 (some (.tup (evs.map evD))) a6 (some (.int (n : Nat))) (some (.int (mx evs))) a9) (dl cells m []) = .ok (.nx (lw sc a2 (some (.tup (hs.map D.int))) a4 (some (.tup (evs.map evD))) a6 (some (.int (n : Nat))) (some (.int (mx evs))) b9)) (dl c1 m1 []) := eB
    -- fewer
    obtain ⟨lo, hlo⟩ : ∃ lo : Int, lo = if (n : Int) - 3 > 0 then (n : Int) - 3 else 0 := ⟨_, rfl⟩
    have hlo2 : 0 ≤ lo ∧ lo ≤ n ∧ (n : Int) - lo ≤ 3 := by rw [hlo]; split <;> omega
    have hJ : evI P G (.iRg2 (.bi .max2 (.cons (.k (.int 0)) (.cons (.bin .sub (.v 7) (.k (.int 3))) .nil))) (.v 7)) (lw sc a2 (some (.tup (hs.map D.int))) a4 (some (.tup (evs.map evD))) a6 (some (.int (n : Nat))) (some (.int (mx evs))) b9) (dl c1 m1 []) = .ok (((List.range ((n : Int) - lo).toNat).map fun i : Nat => lo + (i : Int)).map D.int, none) (dl c1 m1 []) := by
      unfold lw
      simp only [evI_rg2, ev_bi, evs_cons, evs_nil, ev_k, ok_bind, ev_bin, ev_v, look_s, look_z, some_opt, bin_subI, Mx.Pl.bi_max2]
      rw [← hlo, rg2_int (by omega), List.map_map]
      rfl
    obtain ⟨c9, eC⟩ := for_no (c := eDone) hJ (by simp; omega) fun x hx => by
      obtain ⟨i, hi, rfl⟩ := List.mem_map.mp hx
      have hi := List.mem_range.mp hi
      obtain ⟨z, hz⟩ : ∃ z : Nat, lo + (i : Int) = z := ⟨(lo + i).toNat, by omega⟩
      rw [hz, done_ev V hl y (by omega) (by omega), suf_no (ho3 z (by omega))]
    have eC' : evS P G S9C (lw sc a2 (some (.tup (hs.map D.int))) a4 (some (.tup (evs.map evD))) a6 (some (.int (n : Nat))) (some (.int (mx evs))) b9) (dl c1 m1 []) = .ok (.nx (lw sc a2 (some (.tup (hs.map D.int))) a4 (some (.tup (evs.map evD))) a6 (some (.int (n : Nat))) (some (.int (mx evs))) c9)) (dl c1 m1 []) := eC
    refine ⟨c1, m1, c9, i1, ?_⟩
    have e7 : ev P G (.cmp .is_ (.v 7) (.k .non)) (lw sc a2 (some (.tup (hs.map D.int))) a4 (some (.tup (evs.map evD))) a6 (some (.int (n : Nat))) (some (.int (mx evs))) a9) (dl cells m []) = .ok (.bl false) (dl cells m []) := by
      unfold lw
      simp only [ev_cmp, ev_v, look_s, look_z, some_opt, ok_bind, ev_k, is_in]
    show evS P G S9 (lw sc a2 (some (.tup (hs.map D.int))) a4 (some (.tup (evs.map evD))) a6 (some (.int (n : Nat))) (some (.int (mx evs))) a9) (dl cells m []) = _
    rw [S9, evS_ite, e7]
    simp only [ok_bind, truth_bl, some_opt, Bool.false_eq_true, if_false, evS_seq, eA, next_nx, eB', eC', oD]
/-- one turn -/
theorem turn_ok (hc : cells.length ≤ 63) : ∃ (cs : List Int) (m' : Int) (b3 b4 b5 b6 b7 b8 b9 : Option D), cs.length ≤ 63 ∧ evS P G LB (lw sc a2 a3 a4 a5 a6 a7 a8 a9) (dl cells m []) = .ok (.nx (lw sc a2 b3 b4 b5 b6 b7 b8 b9)) (dl cs m' []) := by
  obtain ⟨c1, m1, hs, p1, y, x1⟩ := s1_ok (sc := sc) (a2 := a2) (a3 := a3) (a4 := a4) (a5 := a5) (a6 := a6) (a7 := a7) (a8 := a8) (a9 := a9) (m := m) hc
  obtain ⟨c2, m2, most, p2, hm, x2⟩ := s2_ok (sc := sc) (a2 := a2) (hs := hs) (a4 := a4) (a5 := a5) (a6 := a6) (a7 := a7) (a8 := a8) (a9 := a9) (m := m1) p1
  obtain ⟨c3, m3, es0, p3, V0, l0, x3⟩ := s3_ok (sc := sc) (a2 := a2) (a3 := some (.tup (hs.map D.int))) (a5 := a5) (a6 := a6) (a7 := a7) (a8 := a8) (a9 := a9) (m := m2) p2 hm
  obtain ⟨c4, m4, es, p4, V, l, x4⟩ := s4_ok (sc := sc) (a2 := a2) (a3 := some (.tup (hs.map D.int))) (a4 := some (.int most)) (a6 := a6) (a7 := a7) (a8 := a8) (a9 := a9) (m := m3) p3 V0 l0
  obtain ⟨o, ho, hx⟩ := fs_ex V y
  have hml := mx_le_len (evs := es)
  have hx2 : ∀ x, o = some x → x < 100 := fun x e => by
    have := hx x e
    have hne : hs ≠ [] := fun z => by have := y.1; rw [z] at this; simp at this
    have h1 := (y.2.2 _ (maxL_mem hne)).2
    have h2 : 0 ≤ hs.sum := sum_nn fun z hz => by have := (y.2.2 z hz).1; omega
    split at this <;> omega
  have x5 := s5_ok (sc := sc) (a2 := a2) (a4 := some (.int most)) (a6 := a6) (a7 := a7) (a8 := a8) (a9 := a9) (h := dl c4 m4 []) V l y ho hx2
  have x6 := s6_ok (sc := sc) (a2 := a2) (a4 := some (.int most)) (a6 := a6) (a8 := some (.int (mx es))) (a9 := a9) (h := dl c4 m4 []) V l y ho hx2
  have x7 := s7_ok (sc := sc) (a2 := a2) (a4 := some (.int most)) (a6 := a6) (a7 := some (oD o)) (a8 := some (.int (mx es))) (a9 := a9) (h := dl c4 m4 []) (hs := hs) V l
  have x8 := s8_ok (sc := sc) (a2 := a2) (a3 := some (.tup (hs.map D.int))) (a4 := some (.int most)) (a5 := some (.tup (es.map evD))) (a8 := some (.int (mx es))) (a9 := a9) (h := dl c4 m4 []) ho
  obtain ⟨c9, m9, b9, p9, x9⟩ := s9_ok (sc := sc) (a2 := a2) (a4 := some (.int most)) (a6 := some (.fls ((lack es hs).map D.int))) (a9 := a9) (m := m4) p4 V l y ho hx hx2
  refine ⟨c9, m9, some (.tup (hs.map D.int)), some (.int most), some (.tup (es.map evD)), some (.fls ((lack es hs).map D.int)), some (oD o), some (.int (mx es)), b9, p9, ?_⟩
  · unfold LB
    rw [evS_seq, x1, ok_bind, next_nx, evS_seq, x2, ok_bind, next_nx, evS_seq, x3, ok_bind, next_nx, evS_seq, x4, ok_bind, next_nx, evS_seq, x5, ok_bind, next_nx, evS_seq, x6, ok_bind, next_nx, evS_seq, x7, ok_bind, next_nx, evS_seq, x8, ok_bind, next_nx, x9]
end
theorem body {ns : List Int} (hl : ns.length ≤ 63) : wp (evS P G B_law (some (.scr (ns.map D.int)) :: none :: List.replicate 11 none) []) (fun fl _ => fl = .rt (.bl true)) NX := by
  obtain ⟨cs, m, hc, x0⟩ := e0 (r := List.replicate 11 none) hl
  unfold B_law
  refine seq_ok x0 ?_
  have hw : some (D.scr (ns.map D.int)) :: some (D.ref 1) :: List.replicate 11 none = lw (.scr (ns.map D.int)) none none none none none none none none := rfl
  rw [hw]
  obtain ⟨fl, h', ew, b2, b3, b4, b5, b6, b7, b8, b9, rfl⟩ := wp_get (r := evS P G L1 (lw (.scr (ns.map D.int)) none none none none none none none none) (dl cs m [])) (Q := fun fl h' => ∃ b2 b3 b4 b5 b6 b7 b8 b9, fl = .nx (lw (.scr (ns.map D.int)) b2 b3 b4 b5 b6 b7 b8 b9)) (by
    rw [L1_is, evS_for]
    have hI : evI P G (.iRg1 (.k (.int 4))) (lw (.scr (ns.map D.int)) none none none none none none none none) (dl cs m []) = .ok ((List.range 4).map fun i : Nat => D.int i, none) (dl cs m []) := by
      rw [evI_rg1, ev_k, ok_bind]
      exact rg1_nat (n := 4) (by omega)
    rw [hI, ok_bind, rIf_pos (rng_le (by omega))]
    refine wp_floop (fun i σ h' => ∃ (cs : List Int) (m : Int) (b2 b3 b4 b5 b6 b7 b8 b9 : Option D), cs.length ≤ 63 ∧ h' = dl cs m [] ∧ σ = lw (.scr (ns.map D.int)) b2 b3 b4 b5 b6 b7 b8 b9) (fun _ _ _ _ _ => True.intro) (fun i σ h' hi z => ?_) (fun σ h' z => ?_) ⟨cs, m, none, none, none, none, none, none, none, none, hc, rfl, rfl⟩
    · obtain ⟨cs, m, b2, b3, b4, b5, b6, b7, b8, b9, hc, rfl, rfl⟩ := z
      obtain ⟨c1, m1, d3, d4, d5, d6, d7, d8, d9, p1, x1⟩ := turn_ok (sc := .scr (ns.map D.int)) (a2 := some (((List.range 4).map fun i : Nat => D.int i)[i])) (a3 := b3) (a4 := b4) (a5 := b5) (a6 := b6) (a7 := b7) (a8 := b8) (a9 := b9) (m := m) hc
      refine wp_of (a := .nx (lw (.scr (ns.map D.int)) (some (((List.range 4).map fun i : Nat => D.int i)[i])) d3 d4 d5 d6 d7 d8 d9)) (h' := dl c1 m1 []) ?_ ⟨c1, m1, some (((List.range 4).map fun i : Nat => D.int i)[i]), d3, d4, d5, d6, d7, d8, d9, p1, rfl, rfl⟩
      unfold lw at x1 ⊢
      simp only [setT_nm, bindT_some, put_s, put_z, x1]
    · obtain ⟨cs, m, b2, b3, b4, b5, b6, b7, b8, b9, hc, rfl, rfl⟩ := z
      exact ⟨b2, b3, b4, b5, b6, b7, b8, b9, rfl⟩)
  refine seq_ok ew ?_
  refine wp_of (a := .rt (.bl true)) (h' := h') ?_ rfl
  simp only [L2, evS_ret, ev_k, ok_bind]
theorem law {ns : List Int} (hl : ns.length ≤ 63) : ∃ h', callN P 12 26 [.scr (ns.map D.int)] [] = .ok (.bl true) h' := by
  obtain ⟨fl, h', e, rfl⟩ := wp_get (body hl)
  refine ⟨h', ?_⟩
  rw [callN_eq f26 rfl]
  show (evS P (callN P 11) B_law [some (.scr (ns.map D.int)), none, none, none, none, none, none, none, none, none, none, none, none] []).bind endR = _
  have e' : evS P (callN P 11) B_law [some (.scr (ns.map D.int)), none, none, none, none, none, none, none, none, none, none, none, none] [] = _ := e
  rw [e']
  rfl
end K49
set_option maxHeartbeats 0
theorem PySem.Challenge.cw_staysdeep_k49_whole_a_further_stack_holds : PySem.Challenge.rw_staysdeep_k49_whole_a_further_stack.Holds := by
  exact K49.holds fun ns hl _ => K49.law hl
