import PyProof.Rows.All
import PyProof.P3Statements
import KE.SortData
import HandS.Text
import KE.KDictKeyed
import KE.KeyNested
import PyProof.ReprReads
import HandS.ForMost
import HandS.Exc
import HandS.TryMany
import HandS.ExcInit
import HandS.WordsExc
import HandS.CallSlots
import HandS.TupAny
import HandS.TupMul
import HandS.Wide
import HandS.Style
import HandS.Deep
import HandS.IsInst
import PyProof.DictRoadsH
import PyProof.DictMoreH
import HandS.ExcOwn
import HandS.Defaults
import HandS.Ends
import KE.KDictPairs
import KE.SortKeyHeap
import HandS.Iter
import KE.GoesMore
import HandS.OwnEq
import HandS.More
import PyProof.InstNe
import KE.KExcSuper
import HandS.ExcField
import HandS.HeadHook1
import HandS.Zip
import HandS.SortKw
import HandS.Conv
import HandS.ExcIs
import HandS.Small
import HandS.HeadEnd
import HandS.HeadHook4
import KE.SortCalls
import HandS.Head0
import HandS.Head1
import HandS.Head2
import PySem.Challenge.RW_neatbooks_k03_whole_terms_sizes_told_ter
set_option Elab.async false
set_option linter.all false
section
set_option maxRecDepth 10000
/-! The mini language: values by value, a heap of the mutable objects alone, the meaning of its syntax as a transformer of what is wanted behind. -/
namespace N
open PySem
/-! ### values, objects, heaps -/
inductive W where
  | non | bl (b : Bool) | int (i : Int) | str (s : Str) | tup (xs : List W) | fz (xs : List W) | ref (a : Addr) | exc (C : Str) (ws : List W)
  deriving Inhabited
/-- a locked dict: what it stands for -/
abbrev Gh := Obj × List (L2.Key × L2.V)
inductive O where
  | lst (xs : List W) | dct (kvs : List (W × W)) | ins (C : Str) (fs : List (Str × W)) | set (xs : List W) | dcl (g : Gh) (kvs : List (W × W)) | dnt (kvs : List (W × W))
abbrev AH := Addr → Option O
def up (A : AH) (a : Addr) (o : O) : AH := fun b => if b = a then some o else A b
def Sub (A B : AH) : Prop := ∀ a o, A a = some o → B a = some o
abbrev lim : Nat := 16777216
abbrev St := List (Option W)
def getv : St → Nat → Option W
  | [], _ => none
  | x :: _, 0 => x
  | _ :: r, n + 1 => getv r n
def setv : St → Nat → Option W → St
  | [], _, _ => []
  | _ :: r, 0, w => w :: r
  | x :: r, n + 1, w => x :: setv r n w
def wipe (σ : St) : List Nat → St
  | [] => σ
  | v :: vs => setv (wipe σ vs) v none
abbrev VK := W → AH → Prop
abbrev XK := Str → List W → AH → Prop
abbrev Sp := List W → AH → VK → XK → Prop
abbrev TE := St → AH → VK → Prop
/-! ### data: what may be compared -/
mutual
inductive DW (A : AH) : W → PyData → Prop
  | non : DW A .non .none
  | bl (b : Bool) : DW A (.bl b) (.bool b)
  | int (i : Int) : DW A (.int i) (.int i)
  | str (x : Str) : DW A (.str x) (.str x)
  | tup {xs : List W} {ds : List PyData} : DWs A xs ds → DW A (.tup xs) (.tuple ds)
  | lst {a : Addr} {xs : List W} {ds : List PyData} : A a = some (.lst xs) → DWs A xs ds → DW A (.ref a) (.list ds)
inductive DWs (A : AH) : List W → List PyData → Prop
  | nil : DWs A [] []
  | cons {x : W} {xs : List W} {d : PyData} {ds : List PyData} : DW A x d → DWs A xs ds → DWs A (x :: xs) (d :: ds)
end
def okD (d : PyData) : Prop := d.canLay0 = true ∧ d.depth ≤ 64
/-! ### operators -/
inductive BOp where
  | add | sub | mul | fdiv | mod | pow | shl | shr | band | bor
  deriving DecidableEq
inductive COp where
  | lt | le | gt | ge | eq | ne | isin | notin | isN | isnN | isT | isF | isnT | isnF
  deriving DecidableEq
def okMul (i j : Int) : Prop := i.natAbs.log2 + j.natAbs.log2 < 1000000
def okDiv (j : Int) : Prop := 0 < j ∧ j.natAbs.log2 < 9000
def okPow (i j : Int) : Prop := 0 ≤ j ∧ j ≤ 1000000 ∧ i.natAbs < 2 ^ 64
def addW (x y : W) (A : AH) (Q : VK) : Prop := match x, y with
  | .int i, .int j => Q (.int (i + j)) A
  | .str s, .str t => s.length + t.length ≤ lim ∧ Q (.str (s ++ t)) A
  | .tup xs, .tup ys => xs.length + ys.length ≤ lim ∧ Q (.tup (xs ++ ys)) A
  | .ref a, .ref b => ∃ xs ys, A a = some (.lst xs) ∧ A b = some (.lst ys) ∧ xs.length + ys.length ≤ lim ∧ ∀ p, A p = none → Q (.ref p) (up A p (.lst (xs ++ ys)))
  | _, _ => False
def mulW (x y : W) (A : AH) (Q : VK) : Prop := match x, y with
  | .int i, .int j => okMul i j ∧ Q (.int (i * j)) A
  | .tup xs, .int k => xs ≠ [] ∧ 2 ≤ k ∧ k ≤ 1000 ∧ xs.length ≤ 1000 ∧ Q (.tup (List.replicate k.toNat xs).flatten) A
  | .ref a, .int k => ∃ xs, A a = some (.lst xs) ∧ -(2 ^ 63) ≤ k ∧ k < 2 ^ 63 ∧ xs.length * k.toNat ≤ lim ∧ ∀ p, A p = none → Q (.ref p) (up A p (.lst (List.replicate k.toNat xs).flatten))
  | _, _ => False
def int2 (f : Int → Int → Prop) (x y : W) : Prop := match x, y with
  | .int i, .int j => f i j
  | _, _ => False
def binW : BOp → W → W → AH → VK → Prop
  | .add, x, y, A, Q => addW x y A Q
  | .sub, x, y, A, Q => int2 (fun i j => Q (.int (i - j)) A) x y
  | .mul, x, y, A, Q => mulW x y A Q
  | .fdiv, x, y, A, Q => int2 (fun i j => okDiv j ∧ Q (.int (i / j)) A) x y
  | .mod, x, y, A, Q => int2 (fun i j => 0 < j ∧ Q (.int (i % j)) A) x y
  | .pow, x, y, A, Q => int2 (fun i j => okPow i j ∧ Q (.int (i ^ j.toNat)) A) x y
  | .shl, x, y, A, Q => int2 (fun i j => okPow i j ∧ Q (.int (i * 2 ^ j.toNat)) A) x y
  | .shr, x, y, A, Q => int2 (fun i j => 0 ≤ j ∧ Q (.int (i / 2 ^ j.toNat)) A) x y
  | .band, _, _, _, _ => False
  | .bor, _, _, _, _ => False
/-- a op= b -/
def ipW : BOp → W → W → AH → VK → Prop
  | .add, .int i, .int j, A, Q => Q (.int (i + j)) A
  | .sub, .int i, .int j, A, Q => Q (.int (i - j)) A
  | _, _, _, _, _ => False
def eqW (x y : W) (A : AH) (k : Bool → Prop) : Prop := ∃ d e, DW A x d ∧ DW A y e ∧ okD d ∧ okD e ∧ k (PyData.eqv d e)
/-- keys: ints and texts -/
def keyB : W → W → Bool
  | .int i, .int j => i == j
  | .str s, .str t => s == t
  | _, _ => false
def isKey : W → Bool
  | .int _ => true
  | .str _ => true
  | _ => false
def getK (kvs : List (W × W)) (k : W) : Option W := (kvs.find? fun p => keyB p.1 k).map (·.2)
def putK (kvs : List (W × W)) (k v : W) : List (W × W) := if kvs.any (fun p => keyB p.1 k) then kvs.map (fun p => if keyB p.1 k then (p.1, v) else p) else kvs ++ [(k, v)]
-- keys that are tuples, nested
mutual
def nkW : W → NestedKey
  | .int i => .num i
  | .str s => .text s
  | .tup xs => .tup (nkL xs)
  | _ => .none
def nkL : List W → List NestedKey
  | [] => []
  | x :: r => nkW x :: nkL r
end
mutual
def nkok : W → Bool
  | .int _ => true
  | .str _ => true
  | .tup xs => nkoks xs
  | _ => false
def nkoks : List W → Bool
  | [] => true
  | x :: r => nkok x && nkoks r
end
def isNK : W → Bool
  | .tup xs => nkoks xs && decide ((nkW (.tup xs)).depth ≤ 8)
  | _ => false
def getN (kvs : List (W × W)) (k : W) : Option W := (kvs.find? fun p => decide (nkW p.1 = nkW k)).map (·.2)
def putN (kvs : List (W × W)) (k v : W) : List (W × W) := if (getN kvs k).isSome then kvs.map (fun p => if nkW p.1 = nkW k then (p.1, v) else p) else kvs ++ [(k, v)]
/-- a dict, locked or not -/
def Dc (A : AH) (a : Addr) (kvs : List (W × W)) : Prop := A a = some (.dct kvs) ∨ ∃ g, A a = some (.dcl g kvs)
/-- x in y -/
def inW (x y : W) (A : AH) (k : Bool → Prop) : Prop := match y with
  | .tup _ => ∃ d ds, DW A x d ∧ DW A y (.tuple ds) ∧ okD d ∧ okD (.tuple ds) ∧ k (ds.any fun z => PyData.eqv z d)
  | .ref a => (∃ d ds, DW A x d ∧ DW A y (.list ds) ∧ okD d ∧ okD (.list ds) ∧ k (ds.any fun z => PyData.eqv z d)) ∨ (∃ kvs, Dc A a kvs ∧ isKey x = true ∧ k (getK kvs x).isSome) ∨ ∃ kvs, A a = some (.dnt kvs) ∧ isNK x = true ∧ k (getN kvs x).isSome
  | .str t => ∃ c, x = .str ⟨#[c]⟩ ∧ k (decide (c ∈ t.cps.toList))
  | _ => False
def W.isNon : W → Bool
  | .non => true
  | _ => false
def cmpW : COp → W → W → AH → (Bool → Prop) → Prop
  | .lt, x, y, A, k => match x, y with
    | .int i, .int j => k (decide (i < j))
    | .str s, .str t => k (decide (s.cps.toList < t.cps.toList))
    | _, _ => False
  | .le, x, y, _, k => int2 (fun i j => k (decide (i ≤ j))) x y
  | .gt, x, y, _, k => int2 (fun i j => k (decide (j < i))) x y
  | .ge, x, y, _, k => int2 (fun i j => k (decide (j ≤ i))) x y
  | .eq, x, y, A, k => eqW x y A k
  | .ne, x, y, A, k => eqW x y A fun b => k (!b)
  | .isin, x, y, A, k => inW x y A k
  | .notin, x, y, A, k => inW x y A fun b => k (!b)
  | .isN, x, _, _, k => k x.isNon
  | .isnN, x, _, _, k => k (!x.isNon)
  | _, _, _, _, _ => False
/-! ### sequences -/
def idx (n : Nat) (i : Int) : Option Nat := if 0 ≤ i then (if i < n then some i.toNat else none) else if -(n : Int) ≤ i then some (i + n).toNat else none
def at? {α : Type} (xs : List α) (i : Int) : Option α := (idx xs.length i).bind fun j => xs[j]?
def cl (n d : Nat) : Option Int → Nat
  | none => d
  | some v => if v < 0 then (v + n).toNat else min v.toNat n
def cut {α : Type} (xs : List α) (lo hi : Option Int) : List α := (xs.drop (cl xs.length 0 lo)).take (cl xs.length xs.length hi - cl xs.length 0 lo)
/-- x[i] -/
def ixW (x i : W) (A : AH) (Q : VK) : Prop := match x, i with
  | .tup xs, .int j => ∃ v, at? xs j = some v ∧ Q v A
  | .fz xs, .int j => ∃ v, at? xs j = some v ∧ Q v A
  | .str s, .int j => s.length ≤ lim ∧ ∃ c, at? s.cps.toList j = some c ∧ Q (.str ⟨#[c]⟩) A
  | .ref a, k => (∃ xs j v, k = .int j ∧ A a = some (.lst xs) ∧ at? xs j = some v ∧ Q v A) ∨ (∃ kvs v, Dc A a kvs ∧ isKey k = true ∧ getK kvs k = some v ∧ Q v A) ∨ ∃ kvs v, A a = some (.dnt kvs) ∧ isNK k = true ∧ getN kvs k = some v ∧ Q v A
  | _, _ => False
/-- x[lo:hi] -/
def slW (x : W) (lo hi : Option Int) (A : AH) (Q : VK) : Prop := match x with
  | .tup xs => Q (.tup (cut xs lo hi)) A
  | .fz xs => ∀ p, A p = none → Q (.ref p) (up A p (.lst (cut xs lo hi)))
  | .str s => s.length ≤ lim ∧ Q (.str ⟨(cut s.cps.toList lo hi).toArray⟩) A
  | .ref a => ∃ xs, A a = some (.lst xs) ∧ ∀ p, A p = none → Q (.ref p) (up A p (.lst (cut xs lo hi)))
  | _ => False
/-- x[::-1] -/
def rvW (x : W) (A : AH) (Q : VK) : Prop := match x with
  | .tup xs => Q (.tup xs.reverse) A
  | .ref a => ∃ xs, A a = some (.lst xs) ∧ ∀ p, A p = none → Q (.ref p) (up A p (.lst xs.reverse))
  | _ => False
/-! ### classes of the program -/
/-- the errors: their own fields -/
def excF (C : Str) : List Str :=
  if C = "BadLore" then ["part"] else if C = "BadText" then ["place"] else if C = "BadStep" then ["index"] else if C = "TooMany" then ["most"]
  else if C = "BadDeed" then ["line"] else if C = "NoAnswer" then ["one", "other"] else if C = "NoName" then ["name"] else []
/-- C's method m -/
def meth (C m : Str) : Str := (if C = "RawLore" ∧ ¬ m = "__init__" then ("Lore" : Str) else C) ++ ("." : Str) ++ m
/-- isinstance of an own class -/
def subC (C D : Str) : Bool := C = D || (C = "RawLore" && D = "Lore")
def subX (C D : Str) : Bool := C = D || D = "LoreError" || D = "ValueError"
/-- constants of the modules -/
def con (x : Str) : Option W :=
  if x = "MOST_SIGNS" then some (.int 12) else if x = "MOST_PLACES" then some (.int 2) else if x = "MOST_LINES" then some (.int 24)
  else if x = "MOST_TERMS" then some (.int 60) else if x = "MOST_LETTERS" then some (.int 8) else if x = "LETTERS" then some (.str "abcdefghijklmnopqrstuvwxyz") else none
/-! ### kinds: isinstance -/
inductive Ty where
  | int | bool | str | tuple | list | dict | own (C : Str) | non
  deriving DecidableEq
def isiW (x : W) (t : Ty) (A : AH) (k : Bool → Prop) : Prop := match x with
  | .non => k false
  | .bl _ => k (t == .bool || t == .int)
  | .int _ => k (t == .int)
  | .str _ => k (t == .str)
  | .tup _ => k (t == .tuple)
  | .fz _ => k (t == .list)
  | .ref a => match A a with
    | some (.lst _) => k (t == .list)
    | some (.dct _) => k (t == .dict)
    | some (.ins C _) => k (match t with | .own D => subC C D | _ => false)
    | _ => False
  | .exc C _ => k (match t with | .own D => subX C D | _ => false)
/-! ### built-ins -/
inductive Bi where
  | len | tuple | list | int | all | any | sum | abs | max2 | min2 | dict | repr | str | max1 | min1 | range1
  deriving DecidableEq
def allB : List W → Option (List Bool)
  | [] => some []
  | .bl b :: r => (allB r).map (b :: ·)
  | _ => none
def allI : List W → Option (List Int)
  | [] => some []
  | .int i :: r => (allI r).map (i :: ·)
  | _ => none
def seqOf (x : W) (A : AH) (k : List W → Prop) : Prop := match x with
  | .tup xs => k xs
  | .ref a => ∃ xs, A a = some (.lst xs) ∧ k xs
  | _ => False
/-- the pairs of dict(xs) -/
def prsW : List W → Option (List (W × W))
  | [] => some []
  | .tup [k, v] :: r => if isKey k = true then (prsW r).map ((k, v) :: ·) else none
  | _ => none
def mrgW (acc kvs : List (W × W)) : List (W × W) := kvs.foldl (fun acc kv => putK acc kv.1 kv.2) acc
def biW : Bi → List W → AH → VK → Prop
  | .repr, [x], A, Q => ∃ d, DW A x d ∧ okD d ∧ d.showable = true ∧ d.shown.length ≤ lim ∧ Q (.str d.shown) A
  | .dict, [x], A, Q => seqOf x A fun xs => ∃ kvs, prsW xs = some kvs ∧ ∀ p, A p = none → Q (.ref p) (up A p (.dct (mrgW [] kvs)))
  | .len, [.tup xs], A, Q => Q (.int xs.length) A
  | .len, [.fz xs], A, Q => Q (.int xs.length) A
  | .len, [.str s], A, Q => s.length ≤ lim ∧ Q (.int s.length) A
  | .len, [.ref a], A, Q => (∃ xs, A a = some (.lst xs) ∧ Q (.int xs.length) A) ∨ (∃ kvs, A a = some (.dct kvs) ∧ Q (.int kvs.length) A)
  | .tuple, [x], A, Q => seqOf x A fun xs => Q (.tup xs) A
  | .list, [x], A, Q => seqOf x A fun xs => ∀ p, A p = none → Q (.ref p) (up A p (.lst xs))
  | .int, [.int i], A, Q => Q (.int i) A
  | .int, [.bl b], A, Q => Q (.int (if b then 1 else 0)) A
  | .all, [.ref a], A, Q => ∃ xs bs, A a = some (.lst xs) ∧ allB xs = some bs ∧ Q (.bl (bs.all id)) A
  | .any, [.ref a], A, Q => ∃ xs bs, A a = some (.lst xs) ∧ allB xs = some bs ∧ Q (.bl (bs.any id)) A
  | .sum, [.ref a], A, Q => ∃ xs ns, A a = some (.lst xs) ∧ allI xs = some ns ∧ Q (.int ns.sum) A
  | .abs, [.int i], A, Q => Q (.int (if i < 0 then -i else i)) A
  | .max2, [.int i, .int j], A, Q => Q (.int (if j > i then j else i)) A
  | .min2, [.int i, .int j], A, Q => Q (.int (if j < i then j else i)) A
  | _, _, _, _ => False
/-- methods of the built-in types -/
inductive Mt where
  | append | pop0 | popAt | extend | get1 | get2 | index | join | setdefault | count
  deriving DecidableEq
def mtW : Mt → W → List W → AH → VK → Prop
  | .append, .ref a, [y], A, Q => ∃ xs, A a = some (.lst xs) ∧ xs.length < lim ∧ Q .non (up A a (.lst (xs ++ [y])))
  | .pop0, .ref a, [], A, Q => ∃ xs y, A a = some (.lst xs) ∧ xs.getLast? = some y ∧ Q y (up A a (.lst xs.dropLast))
  | .popAt, .ref a, [.int i], A, Q => ∃ xs k y, A a = some (.lst xs) ∧ -(2 ^ 63) ≤ i ∧ i < 2 ^ 63 ∧ idx xs.length i = some k ∧ xs[k]? = some y ∧ Q y (up A a (.lst (xs.eraseIdx k)))
  | .extend, .ref a, [y], A, Q => ∃ xs, A a = some (.lst xs) ∧ seqOf y A fun ys => xs.length + ys.length ≤ lim ∧ Q .non (up A a (.lst (xs ++ ys)))
  | .get2, .ref a, [k, d], A, Q => (∃ kvs, A a = some (.dct kvs) ∧ isKey k = true ∧ Q ((getK kvs k).getD d) A) ∨ ∃ kvs, A a = some (.dnt kvs) ∧ isNK k = true ∧ Q ((getN kvs k).getD d) A
  | .index, .ref a, [y], A, Q => ∃ xs ds dy j z, A a = some (.lst xs) ∧ DWs A xs ds ∧ DW A y dy ∧ okD (.list ds) ∧ okD dy ∧ ds[j]? = some z ∧ PyData.eqv z dy = true ∧ (∀ (m : Nat) (z' : PyData), m < j → ds[m]? = some z' → PyData.eqv z' dy = false) ∧ Q (.int (j : Nat)) A
  | .setdefault, .ref a, [k, d], A, Q => ∃ kvs, A a = some (.dnt kvs) ∧ isNK k = true ∧ kvs.length < lim ∧ (∀ v, getN kvs k = some v → Q v A) ∧ (getN kvs k = none → Q d (up A a (.dnt (putN kvs k d))))
  | .join, .str s, [y], A, Q => seqOf y A fun xs => ∃ ys : List Str, xs = ys.map .str ∧ (ys.map (·.length)).sum + ys.length * s.length ≤ lim ∧ Q (.str (Txt.join s ys)) A
  | .get1, .ref a, [k], A, Q => ∃ kvs, A a = some (.dct kvs) ∧ isKey k = true ∧ Q ((getK kvs k).getD .non) A
  | _, _, _, _, _ => False
/-- the receiver of such a method -/
def mtOk : Mt → W → AH → Prop
  | .append, x, A | .pop0, x, A | .popAt, x, A | .extend, x, A | .index, x, A => ∃ a xs, x = .ref a ∧ A a = some (.lst xs)
  | .get1, x, A => ∃ a kvs, x = .ref a ∧ A a = some (.dct kvs)
  | .get2, x, A | .setdefault, x, A => ∃ a kvs, x = .ref a ∧ (A a = some (.dct kvs) ∨ A a = some (.dnt kvs))
  | .join, x, _ => ∃ s, x = .str s
  | _, _, _ => False
/-! ### syntax -/
/-- a target: a name, or names in a tuple -/
inductive G where
  | nm (i : Nat) | tp (is : List Nat)
mutual
inductive E where
  | v (i : Nat) | g (x : Str) | int (i : Int) | str (s : Str) | bl (b : Bool) | non
  | bin (op : BOp) (a b : E) | neg (a : E) | cmp (op : COp) (a b : E) | cmp2 (op op' : COp) (a b c : E)
  | and (a b : E) | or (a b : E) | not (a : E) | ite (c a b : E)
  | tup (as : Es) | lst (as : Es) | dct0
  | ix (a i : E) | sl (a : E) (lo hi : P) | rv (a : E)
  | fld (a : E) (f : Str) | call (f : Str) (as : Es) | make (C : Str) (as : Es) | mth (a : E) (m : Str) (as : Es)
  | bi (b : Bi) (as : Es) | mt (m : Mt) (a : E) (as : Es) | isi (a : E) (t : Ty)
  | srt (a : E) (f : Str) | oeq (ne : Bool) (a b : E)
  | lc (elt : E) (g : G) (it : I) (cond : P) (own : List Nat) | lock (i : Nat) (e : E) | lrg (a : E)
  | xfld (i : Nat) (f : Str) | xisi (i : Nat) (C : Str)
inductive Es where
  | nil | cons (a : E) (r : Es)
inductive P where
  | no | so (e : E)
inductive I where
  | val (e : E) | rng1 (a : E) | rng2 (a b : E) | rng3 (a b c : E) | enum (e : E) | zip (a b : E) | rev (e : E) | items (e : E)
end
def Es.len : Es → Nat
  | .nil => 0
  | .cons _ r => r.len + 1
mutual
inductive S where
  | asg (g : G) (e : E) | aug (i : Nat) (op : BOp) (e : E) | setix (a i e : E) | setfld (a : E) (f : Str) (e : E) | ex (e : E)
  | ret (e : E) | ife (c : E) (t u : Ss) | wh (c : E) (b : Ss) | fr (g : G) (it : I) (b : Ss) | brk | cont | pass
  | rais (C : Str) (as : Es) | tri (b : Ss) (hs : Hs) | nev | par (i j : Nat) (a b : E) | lock (i : Nat) (s : S)
inductive Ss where
  | nil | cons (a : S) (r : Ss)
inductive Hs where
  | nil | cons (C : Str) (i : Option Nat) (b : Ss) (r : Hs)
end
/-! ### meaning -/
def putFW (f : Str) (v : W) : List (Str × W) → List (Str × W)
  | [] => [(f, v)]
  | (g, x) :: r => if g = f then (g, v) :: r else (g, x) :: putFW f v r
def gvs : List Nat → List W → St → Option St
  | [], [], σ => some σ
  | i :: is, x :: xs, σ => gvs is xs (setv σ i (some x))
  | _, _, _ => none
def gW : G → W → St → Option St
  | .nm i, x, σ => some (setv σ i (some x))
  | .tp is, .tup xs, σ => gvs is xs σ
  | .tp _, _, _ => none
def gDo (g : G) (x : W) (σ : St) (k : St → Prop) : Prop := match gW g x σ with
  | some σ' => k σ'
  | none => False
/-- weaken the heap -/
def dn (A : AH) (P : AH → Prop) : Prop := ∃ B, Sub B A ∧ P B
def boolK (k : Bool → AH → Prop) : VK := fun w A => match w with
  | .bl b => k b A
  | _ => False
/-- a list comprehension: the items, what is made -/
def lcGo (ok : AH → Prop) (g : G) (σ : St) (c : Option TE) (e : TE) (Q : VK) : List W → List W → AH → Prop
  | [], acc, A => ok A ∧ ∀ p, A p = none → Q (.ref p) (up A p (.lst acc))
  | x :: r, acc, A => ok A ∧ gDo g x σ fun σ1 => match c with
    | none => e σ1 A fun y A2 => dn A2 fun A3 => lcGo ok g σ c e Q r (acc ++ [y]) A3
    | some t => t σ1 A (boolK fun b A1 => if b = true then e σ1 A1 fun y A2 => dn A2 fun A3 => lcGo ok g σ c e Q r (acc ++ [y]) A3 else dn A1 fun A3 => lcGo ok g σ c e Q r acc A3)
/-- what the defs promise; which there are -/
structure Gam where
  fn : Str → Sp
  has : Str → Bool
/-- sorted(xs, key = f): by what f gives, stable -/
def sortW (xs : List W) (ds : List PyData) : List W := ((xs.zip ds).mergeSort (PySem.W.dataLe false (·.2))).map (·.1)
def srtW (Γ : Gam) (f : Str) (x : W) (A : AH) (Q : VK) : Prop := ∃ (a : Addr) (xs ks : List W) (ds : List PyData), x = .ref a ∧ A a = some (.lst xs) ∧ ks.length = xs.length ∧ DWs A ks ds ∧ PySem.W.AllAlike ds ∧ PySem.W.Sortable ds ∧ (∀ d ∈ ds, d.depth ≤ 60) ∧
  (if f = "" then ks = xs else ∀ (i : Nat) (x k : W), xs[i]? = some x → ks[i]? = some k → Γ.fn f [x] A (fun v A' => v = k ∧ A' = A) fun _ _ _ => False) ∧ ∀ p, A p = none → Q (.ref p) (up A p (.lst (sortW xs ds)))
/-- == and != of own instances -/
def ownW (Γ : Gam) (ne : Bool) (x y : W) (A : AH) (Q : VK) : Prop := ∃ p q C E fs gs, x = .ref p ∧ y = .ref q ∧ A p = some (.ins C fs) ∧ A q = some (.ins E gs) ∧ (E = C ∨ subC E C = false) ∧ Γ.has (meth C "__eq__") = true ∧
  Γ.fn (meth C "__eq__") [x, y] A (fun v A' => ∃ k, v = .bl k ∧ Q (.bl (if ne = true then !k else k)) A') fun _ _ _ => False
/-- enumerate's pairs -/
def pairs : Nat → List W → List W
  | _, [] => []
  | n, x :: r => .tup [.int n, x] :: pairs (n + 1) r
def okR (i : Int) : Prop := -(2 ^ 62) ≤ i ∧ i < 2 ^ 62
def rangeL (lo : Int) : Nat → List W
  | 0 => []
  | n + 1 => .int lo :: rangeL (lo + 1) n
def rangeD (lo c : Int) : Nat → List W
  | 0 => []
  | n + 1 => .int lo :: rangeD (lo + c) c n
def valIt (x : W) (A : AH) (k : List W → (AH → Prop) → Prop) : Prop := match x with
  | .tup xs => k xs fun _ => True
  | .fz xs => k xs fun _ => True
  | .ref a => (∃ xs, A a = some (.lst xs) ∧ k xs fun A' => A' a = some (.lst xs)) ∨ ∃ g kvs, A a = some (.dcl g kvs) ∧ k (kvs.map (·.1)) fun A' => A' a = some (.dcl g kvs)
  | .str s => k (s.cps.toList.map fun c => .str ⟨#[c]⟩) fun _ => True
  | _ => False
def lstIt (x : W) (A : AH) (k : List W → (AH → Prop) → Prop) : Prop := match x with
  | .tup xs => k xs fun _ => True
  | .fz xs => k xs fun _ => True
  | .ref a => ∃ xs, A a = some (.lst xs) ∧ k xs fun A' => A' a = some (.lst xs)
  | _ => False
def zipL : List W → List W → List W
  | x :: xs, y :: ys => .tup [x, y] :: zipL xs ys
  | _, _ => []
mutual
def rdE (Γ : Gam) (xk : XK) : E → TE
  | .v i, σ, A, Q => match getv σ i with
    | some w => Q w A
    | none => False
  | .g x, _, A, Q => match con x with
    | some w => Q w A
    | none => False
  | .int i, _, A, Q => Q (.int i) A
  | .str s, _, A, Q => Q (.str s) A
  | .bl b, _, A, Q => Q (.bl b) A
  | .non, _, A, Q => Q .non A
  | .bin op a b, σ, A, Q => rdE Γ xk a σ A fun x A1 => rdE Γ xk b σ A1 fun y A2 => binW op x y A2 Q
  | .neg a, σ, A, Q => rdE Γ xk a σ A fun x A1 => match x with
    | .int i => Q (.int (-i)) A1
    | _ => False
  | .cmp op a b, σ, A, Q => rdE Γ xk a σ A fun x A1 => rdE Γ xk b σ A1 fun y A2 => cmpW op x y A2 fun k => Q (.bl k) A2
  | .cmp2 op op' a b c, σ, A, Q => rdE Γ xk a σ A fun x A1 => rdE Γ xk b σ A1 fun y A2 => cmpW op x y A2 fun k =>
      if k = true then rdE Γ xk c σ A2 fun z A3 => cmpW op' y z A3 fun k' => Q (.bl k') A3 else Q (.bl false) A2
  | .and a b, σ, A, Q => rdE Γ xk a σ A (boolK fun k A1 => if k = true then rdE Γ xk b σ A1 Q else Q (.bl false) A1)
  | .or a b, σ, A, Q => rdE Γ xk a σ A (boolK fun k A1 => if k = true then Q (.bl true) A1 else rdE Γ xk b σ A1 Q)
  | .not a, σ, A, Q => rdE Γ xk a σ A (boolK fun k A1 => Q (.bl (!k)) A1)
  | .ite c a b, σ, A, Q => rdE Γ xk c σ A (boolK fun k A1 => if k = true then rdE Γ xk a σ A1 Q else rdE Γ xk b σ A1 Q)
  | .tup as, σ, A, Q => rdEs Γ xk as σ A fun xs A1 => Q (.tup xs) A1
  | .lst as, σ, A, Q => rdEs Γ xk as σ A fun xs A1 => ∀ p, A1 p = none → Q (.ref p) (up A1 p (.lst xs))
  | .dct0, _, A, Q => (∀ p, A p = none → Q (.ref p) (up A p (.dct []))) ∨ ∀ p, A p = none → Q (.ref p) (up A p (.dnt []))
  | .ix a i, σ, A, Q => rdE Γ xk a σ A fun x A1 => rdE Γ xk i σ A1 fun y A2 => ixW x y A2 Q
  | .sl a lo hi, σ, A, Q => rdE Γ xk a σ A fun x A1 => rdP Γ xk lo σ A1 fun l A2 => rdP Γ xk hi σ A2 fun h A3 => slW x l h A3 Q
  | .rv a, σ, A, Q => rdE Γ xk a σ A fun x A1 => rvW x A1 Q
  | .fld a f, σ, A, Q => rdE Γ xk a σ A fun x A1 => ∃ p C fs v, x = .ref p ∧ A1 p = some (.ins C fs) ∧ Γ.has (meth C f) = false ∧ fs.lookup f = some v ∧ Q v A1
  | .call f as, σ, A, Q => rdEs Γ xk as σ A fun xs A1 => Γ.fn f xs A1 Q xk
  | .make C as, σ, A, Q => rdEs Γ xk as σ A fun xs A1 => ∀ p, A1 p = none → Γ.fn (meth C "__init__") (.ref p :: xs) (up A1 p (.ins C [])) (fun v A2 => v = .non ∧ Q (.ref p) A2) xk
  | .mth a m as, σ, A, Q => rdE Γ xk a σ A fun x A1 => ∃ p C fs, x = .ref p ∧ A1 p = some (.ins C fs) ∧ fs.lookup m = none ∧ Γ.has (meth C m) = true ∧ rdEs Γ xk as σ A1 fun xs A2 => Γ.fn (meth C m) (x :: xs) A2 Q xk
  | .bi b as, σ, A, Q => rdEs Γ xk as σ A fun xs A1 => biW b xs A1 Q
  | .mt m a as, σ, A, Q => rdE Γ xk a σ A fun x A1 => mtOk m x A1 ∧ rdEs Γ xk as σ A1 fun xs A2 => mtW m x xs A2 Q
  | .isi a t, σ, A, Q => rdE Γ xk a σ A fun x A1 => isiW x t A1 fun k => Q (.bl k) A1
  | .srt a f, σ, A, Q => rdE Γ xk a σ A fun x A1 => srtW Γ f x A1 Q
  | .oeq ne a b, σ, A, Q => rdE Γ xk a σ A fun x A1 => rdE Γ xk b σ A1 fun y A2 => ownW Γ ne x y A2 Q
  | .lc e g it c own, σ, A, Q => rdI Γ xk it σ A fun xs ok A1 => xs.length ≤ lim ∧
      lcGo ok g (wipe σ own) (rdC Γ c) (rdE Γ (fun _ _ _ => False) e) Q xs [] A1
  | .xfld i f, σ, A, Q => (match getv σ i with | some (.exc C ws) => ∃ (k : Nat) (v : W), (excF C)[k]? = some f ∧ ws[k]? = some v ∧ Q v A | _ => False)
  | .xisi i D, σ, A, Q => (match getv σ i with | some (.exc C _) => Q (.bl (subX C D)) A | _ => False)
  | .lrg a, σ, A, Q => rdE Γ xk a σ A fun x A1 => match x with
    | .int j => okR j ∧ j ≤ 16000000 ∧ ∀ p, A1 p = none → Q (.ref p) (up A1 p (.lst (rangeL 0 j.toNat)))
    | _ => False
  | .lock i e, σ, A, Q => match getv σ i with
    | some (.ref a) => ∃ kvs, A a = some (.dct kvs) ∧ ∀ g : Gh, rdE Γ (fun _ _ _ => False) e σ (up A a (.dcl g kvs)) fun w A1 => A1 a = some (.dcl g kvs) ∧ Q w (up A1 a (.dct kvs))
    | _ => False
def rdEs (Γ : Gam) (xk : XK) : Es → St → AH → (List W → AH → Prop) → Prop
  | .nil, _, A, Q => Q [] A
  | .cons a r, σ, A, Q => rdE Γ xk a σ A fun x A1 => rdEs Γ xk r σ A1 fun xs A2 => Q (x :: xs) A2
def rdC (Γ : Gam) : P → Option TE
  | .no => none
  | .so e => some (rdE Γ (fun _ _ _ => False) e)
def rdP (Γ : Gam) (xk : XK) : P → St → AH → (Option Int → AH → Prop) → Prop
  | .no, _, A, Q => Q none A
  | .so e, σ, A, Q => rdE Γ xk e σ A fun x A1 => match x with
    | .int i => Q (some i) A1
    | _ => False
def rdI (Γ : Gam) (xk : XK) : I → St → AH → (List W → (AH → Prop) → AH → Prop) → Prop
  | .val e, σ, A, Q => rdE Γ xk e σ A fun x A1 => valIt x A1 fun xs ok => Q xs ok A1
  | .rng1 a, σ, A, Q => rdE Γ xk a σ A fun x A1 => match x with
    | .int j => okR j ∧ Q (rangeL 0 j.toNat) (fun _ => True) A1
    | _ => False
  | .rng2 a b, σ, A, Q => rdE Γ xk a σ A fun x A1 => rdE Γ xk b σ A1 fun y A2 => int2 (fun i j => okR i ∧ okR j ∧ Q (rangeL i (j - i).toNat) (fun _ => True) A2) x y
  | .rng3 a b c, σ, A, Q => rdE Γ xk a σ A fun x A1 => rdE Γ xk b σ A1 fun y A2 => rdE Γ xk c σ A2 fun z A3 => int2 (fun i j => okR i ∧ okR j ∧ z = .int (-1) ∧ Q (rangeD i (-1) (i - j).toNat) (fun _ => True) A3) x y
  | .enum e, σ, A, Q => rdE Γ xk e σ A fun x A1 => lstIt x A1 fun xs ok => Q (pairs 0 xs) ok A1
  | .zip a b, σ, A, Q => rdE Γ xk a σ A fun x A1 => rdE Γ xk b σ A1 fun y A2 => valIt x A2 fun xs ok => valIt y A2 fun ys ok' => Q (zipL xs ys) (fun A' => ok A' ∧ ok' A') A2
  | .rev e, σ, A, Q => rdE Γ xk e σ A fun x A1 => valIt x A1 fun xs ok => Q xs.reverse ok A1
  | .items _, _, _, _ => False
end
structure Ends where
  nx : St → AH → Prop
  rt : VK
  bk : St → AH → Prop := fun _ _ => False
  ct : St → AH → Prop := fun _ _ => False
  ex : Str → List W → St → AH → Prop := fun _ _ _ _ => False
abbrev TS := Ends → St → AH → Prop
def whGo (c : TE) (b : TS) (D : Ends) : Nat → St → AH → Prop
  | 0, _, _ => False
  | n + 1, σ, A => c σ A (boolK fun k A1 => if k = true then b { D with nx := fun σ' A' => dn A' fun B => whGo c b D n σ' B, ct := fun σ' A' => dn A' fun B => whGo c b D n σ' B, bk := D.nx } σ A1 else D.nx σ A1)
def frGo (ok : AH → Prop) (g : G) (b : TS) (D : Ends) : List W → St → AH → Prop
  | [], σ, A => ok A ∧ D.nx σ A
  | x :: r, σ, A => ok A ∧ gDo g x σ fun σ1 => b { D with nx := fun σ' A' => dn A' fun B => frGo ok g b D r σ' B, ct := fun σ' A' => dn A' fun B => frGo ok g b D r σ' B, bk := D.nx } σ1 A
def xOf (D : Ends) (σ : St) : XK := fun C ws A => D.ex C ws σ A
mutual
def rdS (Γ : Gam) : S → TS
  | .asg g e, D, σ, A => rdE Γ (xOf D σ) e σ A fun w A1 => gDo g w σ fun σ1 => D.nx σ1 A1
  | .aug i op e, D, σ, A => match getv σ i with
    | some x => rdE Γ (xOf D σ) e σ A fun y A1 => ipW op x y A1 fun z A2 => D.nx (setv σ i (some z)) A2
    | none => False
  | .setix a i e, D, σ, A => rdE Γ (xOf D σ) e σ A fun v A1 => rdE Γ (xOf D σ) a σ A1 fun x A2 => rdE Γ (xOf D σ) i σ A2 fun k A3 => match x with
    | .ref p => (∃ xs n j, k = .int n ∧ A3 p = some (.lst xs) ∧ idx xs.length n = some j ∧ D.nx σ (up A3 p (.lst (xs.set j v)))) ∨ (∃ kvs, A3 p = some (.dct kvs) ∧ isKey k = true ∧ kvs.length < lim ∧ D.nx σ (up A3 p (.dct (putK kvs k v)))) ∨ ∃ kvs, A3 p = some (.dnt kvs) ∧ isNK k = true ∧ kvs.length < lim ∧ D.nx σ (up A3 p (.dnt (putN kvs k v)))
    | _ => False
  | .setfld a f e, D, σ, A => rdE Γ (xOf D σ) e σ A fun v A1 => rdE Γ (xOf D σ) a σ A1 fun x A2 => match x with
    | .ref p => ∃ C fs, A2 p = some (.ins C fs) ∧ Γ.has (meth C f) = false ∧ fs.length < 1000 ∧ D.nx σ (up A2 p (.ins C (putFW f v fs)))
    | _ => False
  | .ex e, D, σ, A => rdE Γ (xOf D σ) e σ A fun _ A1 => D.nx σ A1
  | .ret e, D, σ, A => rdE Γ (xOf D σ) e σ A fun w A1 => D.rt w A1
  | .ife c t u, D, σ, A => rdE Γ (xOf D σ) c σ A (boolK fun k A1 => if k = true then rdSs Γ t D σ A1 else rdSs Γ u D σ A1)
  | .wh c b, D, σ, A => ∃ n, whGo (fun σ A Q => rdE Γ (xOf D σ) c σ A Q) (rdSs Γ b) D n σ A
  | .fr g it b, D, σ, A => rdI Γ (xOf D σ) it σ A fun xs ok A1 => frGo ok g (rdSs Γ b) D xs σ A1
  | .brk, D, σ, A => D.bk σ A
  | .cont, D, σ, A => D.ct σ A
  | .pass, D, σ, A => D.nx σ A
  | .nev, _, _, _ => False
  | .par i j a b, D, σ, A => rdE Γ (xOf D σ) a σ A fun x A1 => rdE Γ (xOf D σ) b σ A1 fun y A2 => D.nx (setv (setv σ i (some x)) j (some y)) A2
  | .rais C as, D, σ, A => rdEs Γ (xOf D σ) as σ A fun ws A1 => D.ex C ws σ A1
  | .lock i s, D, σ, A => match getv σ i with
    | some (.ref a) => ∃ kvs, A a = some (.dct kvs) ∧ ∀ g : Gh, rdS Γ s { nx := fun σ' A' => A' a = some (.dcl g kvs) ∧ D.nx σ' (up A' a (.dct kvs)), rt := fun w A' => A' a = some (.dcl g kvs) ∧ D.rt w (up A' a (.dct kvs)), bk := fun σ' A' => A' a = some (.dcl g kvs) ∧ D.bk σ' (up A' a (.dct kvs)), ct := fun σ' A' => A' a = some (.dcl g kvs) ∧ D.ct σ' (up A' a (.dct kvs)) } σ (up A a (.dcl g kvs))
    | _ => False
  | .tri b hs, D, σ, A => rdSs Γ b { D with ex := fun C ws σ' A' => rdHs Γ hs D C ws σ' A' } σ A
def rdSs (Γ : Gam) : Ss → TS
  | .nil, D, σ, A => D.nx σ A
  | .cons a r, D, σ, A => rdS Γ a { D with nx := fun σ' A' => rdSs Γ r D σ' A' } σ A
def rdHs (Γ : Gam) : Hs → Ends → Str → List W → St → AH → Prop
  | .nil, D, C, ws, σ, A => D.ex C ws σ A
  | .cons C' i b r, D, C, ws, σ, A => if subX C C' = true then (match i with
      | none => rdSs Γ b { D with ex := fun _ _ _ _ => False } σ A
      | some j => rdSs Γ b { D with nx := fun σ' A' => D.nx (setv σ' j none) A', bk := fun σ' A' => D.bk (setv σ' j none) A', ct := fun σ' A' => D.ct (setv σ' j none) A', ex := fun _ _ _ _ => False } (setv σ j (some (.exc C ws))) A)
    else rdHs Γ r D C ws σ A
end
/-! ### a def, its promise -/
structure Def where
  ps : Nat
  ls : Nat
  body : Ss
def start (n : Nat) (ws : List W) : St := ws.map some ++ List.replicate (n - ws.length) none
/-- the body keeps the promise -/
def Keeps (Γ : Gam) (d : Def) (sp : Sp) : Prop := ∀ ws A Q E, sp ws A Q E → ws.length = d.ps ∧
  rdSs Γ d.body { nx := fun _ A' => dn A' (Q .non), rt := fun w A' => dn A' (Q w), ex := fun C vs _ A' => dn A' (E C vs) } (start d.ls ws) A
end N
end
section
set_option maxRecDepth 100000
set_option maxHeartbeats 2000000
/-! What stands for what: values of the mini language over the layer's values and heap. -/
namespace N
open PySem PySem.Spec PyProof.Rows
abbrev V := L2.V
abbrev Hp := L2.Hp
/-! ### values -/
/-- a plain tuple: locked, or static; no instance dict -/
def SqP (K : PySem.W.Frag) (H : Hp) (a : Addr) (vs : List V) : Prop := (∃ o, H a = some (.frz o (.tup vs)) ∧ o.dict = none) ∨
  ∃ (o : Obj) (its : Array Value) (n : Nat), K.lookup a = some o ∧ o.cls = .type "tuple" ∧ o.dict = none ∧ o.data = .seq its n ∧ its.size ≤ sizeLine ∧ L2.Vals vs its.toList
theorem SqP.t {K : PySem.W.Frag} {H : Hp} {a : Addr} {vs : List V} (h : SqP K H a vs) : L2.SqT K H a vs := by
  rcases h with ⟨o, h, _⟩ | ⟨o, its, n, h1, h2, _, h4, h5, h6⟩
  · exact .inl (.inr ⟨o, h⟩)
  · exact .inr ⟨o, its, n, h1, h2, h4, h5, h6⟩
theorem SqP.new {K : PySem.W.Frag} {H : Hp} {a : Addr} {o : Obj} {vs : List V} (h : o.dict = none) : SqP K (L2.upd H a (.frz o (.tup vs))) a vs := .inl ⟨o, L2.upd_same, h⟩
mutual
inductive Rep (K : PySem.W.Frag) (H : Hp) : V → W → Prop
  | non : Rep K H .non .non
  | bl (b : Bool) : Rep K H (.bl b) (.bl b)
  | int (i : Int) : Rep K H (.int i) (.int i)
  | str (s : Str) : Rep K H (.str s) (.str s)
  | ref (a : Addr) : Rep K H (.ref a) (.ref a)
  | tup {a : Addr} {vs : List V} {ws : List W} : SqP K H a vs → Reps K H vs ws → Rep K H (.ref a) (.tup ws)
  | fz {a : Addr} {p : Obj} {vs : List V} {ws : List W} : H a = some (.frz p (.lst vs)) → Reps K H vs ws → Rep K H (.ref a) (.fz ws)
  | fk {a : Addr} {vs : List V} {ws : List W} : L2.SqL K (fun _ => none) a vs → Reps K H vs ws → Rep K H (.ref a) (.fz ws)
inductive Reps (K : PySem.W.Frag) (H : Hp) : List V → List W → Prop
  | nil : Reps K H [] []
  | cons {v : V} {w : W} {vs : List V} {ws : List W} : Rep K H v w → Reps K H vs ws → Reps K H (v :: vs) (w :: ws)
end
theorem Reps.length {K : PySem.W.Frag} {H : Hp} : ∀ {vs : List V} {ws : List W}, Reps K H vs ws → vs.length = ws.length
  | _, _, .nil => rfl
  | _, _, .cons _ t => by rw [List.length_cons, List.length_cons, t.length]
theorem Reps.get {K : PySem.W.Frag} {H : Hp} : ∀ {vs : List V} {ws : List W} {i : Nat} {w : W}, Reps K H vs ws → ws[i]? = some w → ∃ v, vs[i]? = some v ∧ Rep K H v w
  | _, _, _, _, .nil, e => by simp at e
  | _, _, 0, _, .cons r _, e => by simp at e; subst e; exact ⟨_, rfl, r⟩
  | _, _, i + 1, w, .cons _ t, e => by
    obtain ⟨v, h1, h2⟩ := Reps.get (i := i) (w := w) t (by simpa using e)
    exact ⟨v, by simpa using h1, h2⟩
theorem Reps.append {K : PySem.W.Frag} {H : Hp} : ∀ {vs us : List V} {ws xs : List W}, Reps K H vs ws → Reps K H us xs → Reps K H (vs ++ us) (ws ++ xs)
  | _, _, _, _, .nil, s => s
  | _, _, _, _, .cons r t, s => .cons r (t.append s)
theorem Reps.take {K : PySem.W.Frag} {H : Hp} : ∀ {vs : List V} {ws : List W} (n : Nat), Reps K H vs ws → Reps K H (vs.take n) (ws.take n)
  | _, _, 0, _ => .nil
  | _, _, _ + 1, .nil => .nil
  | _, _, n + 1, .cons r t => .cons r (t.take n)
theorem Reps.drop {K : PySem.W.Frag} {H : Hp} : ∀ {vs : List V} {ws : List W} (n : Nat), Reps K H vs ws → Reps K H (vs.drop n) (ws.drop n)
  | _, _, 0, r => r
  | _, _, _ + 1, .nil => .nil
  | _, _, n + 1, .cons _ t => t.drop n
theorem Reps.reverse {K : PySem.W.Frag} {H : Hp} : ∀ {vs : List V} {ws : List W}, Reps K H vs ws → Reps K H vs.reverse ws.reverse
  | _, _, .nil => .nil
  | _, _, .cons r t => by rw [List.reverse_cons, List.reverse_cons]; exact t.reverse.append (.cons r .nil)
theorem Reps.set {K : PySem.W.Frag} {H : Hp} {v : V} {w : W} (r : Rep K H v w) : ∀ {vs : List V} {ws : List W} (i : Nat), Reps K H vs ws → Reps K H (vs.set i v) (ws.set i w)
  | _, _, _, .nil => .nil
  | _, _, 0, .cons _ t => .cons r t
  | _, _, i + 1, .cons q t => .cons q (Reps.set r i t)
theorem Reps.eraseIdx {K : PySem.W.Frag} {H : Hp} : ∀ {vs : List V} {ws : List W} (i : Nat), Reps K H vs ws → Reps K H (vs.eraseIdx i) (ws.eraseIdx i)
  | _, _, _, .nil => .nil
  | _, _, 0, .cons _ t => t
  | _, _, i + 1, .cons q t => .cons q (t.eraseIdx i)
theorem Reps.dropLast {K : PySem.W.Frag} {H : Hp} {vs : List V} {ws : List W} (h : Reps K H vs ws) : Reps K H vs.dropLast ws.dropLast := by
  rw [List.dropLast_eq_take, List.dropLast_eq_take, h.length]; exact h.take _
theorem Reps.rep {K : PySem.W.Frag} {H : Hp} {vs : List V} {ws : List W} (h : Reps K H vs ws) : ∀ k : Nat, Reps K H (List.replicate k vs).flatten (List.replicate k ws).flatten
  | 0 => .nil
  | k + 1 => by rw [List.replicate_succ, List.replicate_succ, List.flatten_cons, List.flatten_cons]; exact h.append (h.rep k)
/-! ### objects, heaps -/
structure Names where
  cls : Str → Option Addr
  exc : Str → Option Addr
  w : World
inductive KRep : L2.Key → W → Prop
  | int (i : Int) : KRep (.inl i) (.int i)
  | str (s : Str) : KRep (.inr s) (.str s)
inductive Kvs (K : PySem.W.Frag) (H : Hp) : List (L2.Key × V) → List (W × W) → Prop
  | nil : Kvs K H [] []
  | cons {k : L2.Key} {v : V} {x w : W} {r : List (L2.Key × V)} {s : List (W × W)} : KRep k x → Rep K H v w → Kvs K H r s → Kvs K H ((k, v) :: r) ((x, w) :: s)
/-- the entries of a dict with nested keys -/
inductive DN (K : PySem.W.Frag) (H : Hp) : List (NestedKey × Addr × Value) → List (W × W) → Prop
  | nil : DN K H [] []
  | cons {q : Addr} {u : Value} {v : V} {x w : W} {r : List (NestedKey × Addr × Value)} {s : List (W × W)} : isNK x = true → Rep K H (.ref q) x → Rep K H v w → L2.RelV v u → DN K H r s → DN K H ((nkW x, q, u) :: r) ((x, w) :: s)
inductive Fds (K : PySem.W.Frag) (H : Hp) : List (Str × V) → List (Str × W) → Prop
  | nil : Fds K H [] []
  | cons {f : Str} {v : V} {w : W} {r : List (Str × V)} {s : List (Str × W)} : Rep K H v w → Fds K H r s → Fds K H ((f, v) :: r) ((f, w) :: s)
def RO (K : PySem.W.Frag) (M : Names) (H : Hp) (a : Addr) : O → Prop
  | .lst ws => ∃ vs, H a = some (.lst vs) ∧ Reps K H vs ws
  | .dct kws => ∃ kvs, H a = some (.dK kvs) ∧ Kvs K H kvs kws
  | .ins C fs => ∃ c dx gs, H a = some (.ins c dx gs) ∧ M.cls C = some c ∧ Fds K H gs fs
  | .set _ => False
  | .dcl g kws => H a = some (.frz g.1 (.dK g.2)) ∧ Kvs K H g.2 kws
  | .dnt kws => ∃ (o : Obj) (es : Array DictEntry) (ep : Nat) (xs : List (NestedKey × Addr × Value)), H a = some (.ext fun h => h.get? a = some o) ∧ o.ExactDict ∧ o.data = .dict es ep ∧
      es.toList = xs.map (fun x => (⟨x.1.hash M.w, .ref x.2.1, x.2.2⟩ : DictEntry)) ∧ (xs.map (·.1)).Nodup ∧ xs.length ≤ lim ∧ (a == sysModules) = false ∧ DN K H xs kws
def RH (K : PySem.W.Frag) (M : Names) (H : Hp) (A : AH) : Prop := ∀ a o, A a = some o → RO K M H a o
/-- what is not seen stays -/
def Fr (H : Hp) (A : AH) (H' : Hp) (A' : AH) : Prop := ∀ b o, H b = some o → A b = none → H' b = some o ∧ A' b = none
theorem Fr.refl {H : Hp} {A : AH} : Fr H A H A := fun _ _ h n => ⟨h, n⟩
theorem Fr.trans {H H1 H2 : Hp} {A A1 A2 : AH} (a : Fr H A H1 A1) (b : Fr H1 A1 H2 A2) : Fr H A H2 A2 := fun x o h n => let ⟨h1, n1⟩ := a x o h n; b x o h1 n1
theorem Fr.dn {H H1 : Hp} {A A1 B : AH} (a : Fr H A H1 A1) (s : Sub B A1) : Fr H A H1 B := fun x o h n => by
  obtain ⟨h1, n1⟩ := a x o h n
  refine ⟨h1, ?_⟩
  cases e : B x with
  | none => rfl
  | some u => rw [s x u e] at n1; cases n1
theorem RH.dn {K : PySem.W.Frag} {M : Names} {H : Hp} {A B : AH} (r : RH K M H A) (s : Sub B A) : RH K M H B := fun a o e => r a o (s a o e)
/-- the tuples and the locked lists stay -/
def Tk (H H' : Hp) : Prop := (∀ a vs, L2.Rd H a (.tup vs) → H' a = H a) ∧ ∀ a p vs, H a = some (.frz p (.lst vs)) → H' a = H a
theorem RH.tk {K : PySem.W.Frag} {M : Names} {H H' : Hp} {A A' : AH} (r : RH K M H A) (f : Fr H A H' A') : Tk H H' := by
  have key : ∀ a o, H a = some o → (∀ vs, o ≠ .lst vs) → (∀ kv, o ≠ .dK kv) → (∀ c d g, o ≠ .ins c d g) → (∀ p kv, o ≠ .frz p (.dK kv)) → (∀ φ, o ≠ .ext φ) → H' a = H a := fun a o e h1 h2 h3 h4 h5 => by
    have n : A a = none := by
      cases q : A a with
      | none => rfl
      | some u =>
        have z := r a u q
        cases u with
        | lst ws => obtain ⟨vs, h, _⟩ := z; rw [e] at h; cases h; exact absurd rfl (h1 _)
        | dct ws => obtain ⟨vs, h, _⟩ := z; rw [e] at h; cases h; exact absurd rfl (h2 _)
        | ins C fs => obtain ⟨c, dx, gs, h, _⟩ := z; rw [e] at h; cases h; exact absurd rfl (h3 _ _ _)
        | set _ => exact z.elim
        | dcl g ws => obtain ⟨h, _⟩ := z; rw [e] at h; cases h; exact absurd rfl (h4 _ _)
        | dnt ws => obtain ⟨o1, es, ep, xs, h, _⟩ := z; rw [e] at h; cases h; exact absurd rfl (h5 _)
    rw [(f a o e n).1, e]
  refine ⟨fun a vs h => ?_, fun a p vs h => key a _ h (fun _ z => by cases z) (fun _ z => by cases z) (fun _ _ _ z => by cases z) (fun _ _ z => by cases z) fun _ z => by cases z⟩
  rcases h with h | ⟨o, h⟩
  · exact key a _ h (fun _ z => by cases z) (fun _ z => by cases z) (fun _ _ _ z => by cases z) (fun _ _ z => by cases z) fun _ z => by cases z
  · exact key a _ h (fun _ z => by cases z) (fun _ z => by cases z) (fun _ _ _ z => by cases z) (fun _ _ z => by cases z) fun _ z => by cases z
theorem Tk.sqT {K : PySem.W.Frag} {H H' : Hp} {a : Addr} {vs : List V} (t : Tk H H') (h : L2.SqT K H a vs) : L2.SqT K H' a vs := by
  rcases h with h | h
  · have e := t.1 a vs h
    exact .inl (by unfold L2.Rd at h ⊢; rw [e]; exact h)
  · exact .inr h
theorem Tk.sqP {K : PySem.W.Frag} {H H' : Hp} {a : Addr} {vs : List V} (t : Tk H H') (h : SqP K H a vs) : SqP K H' a vs := by
  rcases h with ⟨o, h, d⟩ | h
  · exact .inl ⟨o, by rw [t.1 a vs (.inr ⟨o, h⟩)]; exact h, d⟩
  · exact .inr h
theorem sqL_none {K : PySem.W.Frag} {H : Hp} {a : Addr} {vs : List V} (h : L2.SqL K (fun _ => none) a vs) : L2.SqL K H a vs := by
  rcases h with (h | ⟨_, h⟩) | h
  · cases h
  · cases h
  · exact .inr h
mutual
theorem Rep.tk {K : PySem.W.Frag} {H H' : Hp} (t : Tk H H') : ∀ {v : V} {w : W}, Rep K H v w → Rep K H' v w
  | _, _, .non => .non
  | _, _, .bl b => .bl b
  | _, _, .int i => .int i
  | _, _, .str s => .str s
  | _, _, .ref a => .ref a
  | _, _, .tup h r => .tup (t.sqP h) (r.tk t)
  | _, _, .fz h r => .fz (by rw [t.2 _ _ _ h]; exact h) (r.tk t)
  | _, _, .fk h r => .fk h (r.tk t)
theorem Reps.tk {K : PySem.W.Frag} {H H' : Hp} (t : Tk H H') : ∀ {vs : List V} {ws : List W}, Reps K H vs ws → Reps K H' vs ws
  | _, _, .nil => .nil
  | _, _, .cons r s => .cons (r.tk t) (s.tk t)
end
theorem Tk.trans {H H1 H2 : Hp} (a : Tk H H1) (b : Tk H1 H2) : Tk H H2 := by
  refine ⟨fun x vs h => ?_, fun x p vs h => ?_⟩
  · have e := a.1 x vs h
    exact (b.1 x vs (by unfold L2.Rd at h ⊢; rw [e]; exact h)).trans e
  · have e := a.2 x p vs h
    exact (b.2 x p vs (by rw [e]; exact h)).trans e
theorem Tk.refl {H : Hp} : Tk H H := ⟨fun _ _ _ => rfl, fun _ _ _ _ => rfl⟩
theorem Kvs.tk {K : PySem.W.Frag} {H H' : Hp} (t : Tk H H') : ∀ {vs : List (L2.Key × V)} {ws : List (W × W)}, Kvs K H vs ws → Kvs K H' vs ws
  | _, _, .nil => .nil
  | _, _, .cons k r s => .cons k (r.tk t) (s.tk t)
theorem DN.tk {K : PySem.W.Frag} {H H' : Hp} (t : Tk H H') : ∀ {vs : List (NestedKey × Addr × Value)} {ws : List (W × W)}, DN K H vs ws → DN K H' vs ws
  | _, _, .nil => .nil
  | _, _, .cons k q r l s => .cons k (q.tk t) (r.tk t) l (s.tk t)
theorem Fds.tk {K : PySem.W.Frag} {H H' : Hp} (t : Tk H H') : ∀ {vs : List (Str × V)} {ws : List (Str × W)}, Fds K H vs ws → Fds K H' vs ws
  | _, _, .nil => .nil
  | _, _, .cons r s => .cons (r.tk t) (s.tk t)
theorem RO.at {K : PySem.W.Frag} {M : Names} {H H' : Hp} {a : Addr} {o : O} (t : Tk H H') (e : H' a = H a) (r : RO K M H a o) : RO K M H' a o := by
  cases o with
  | lst ws => obtain ⟨vs, h, q⟩ := r; exact ⟨vs, e.trans h, q.tk t⟩
  | dct ws => obtain ⟨vs, h, q⟩ := r; exact ⟨vs, e.trans h, q.tk t⟩
  | ins C fs => obtain ⟨c, dx, gs, h, m, q⟩ := r; exact ⟨c, dx, gs, e.trans h, m, q.tk t⟩
  | set _ => exact r.elim
  | dcl g ws => obtain ⟨h, q⟩ := r; exact ⟨e.trans h, q.tk t⟩
  | dnt ws => obtain ⟨o, es, ep, xs, h, h1, h2, h3, h4, h5, h6, q⟩ := r; exact ⟨o, es, ep, xs, e.trans h, h1, h2, h3, h4, h5, h6, q.tk t⟩
theorem up_same {A : AH} {a : Addr} {o : O} : up A a o a = some o := if_pos rfl
theorem up_ne {A : AH} {a b : Addr} {o : O} (h : b ≠ a) : up A a o b = A b := if_neg h
/-- a new object, seen or not -/
theorem Tk.new {H : Hp} {p : Addr} {o : L2.HO} (hp : H p = none) : Tk H (L2.upd H p o) := by
  refine ⟨fun a vs h => ?_, fun a q vs h => ?_⟩
  · refine L2.upd_ne fun e => ?_
    subst e
    rcases h with h | ⟨_, h⟩ <;> · rw [hp] at h; cases h
  · refine L2.upd_ne fun e => ?_
    subst e
    rw [hp] at h; cases h
theorem RH.free {K : PySem.W.Frag} {M : Names} {H : Hp} {A : AH} {p : Addr} (r : RH K M H A) (hp : H p = none) : A p = none := by
  cases e : A p with
  | none => rfl
  | some o =>
    have z := r p o e
    cases o with
    | lst ws => obtain ⟨vs, h, _⟩ := z; rw [hp] at h; cases h
    | dct ws => obtain ⟨vs, h, _⟩ := z; rw [hp] at h; cases h
    | ins C fs => obtain ⟨c, dx, gs, h, _⟩ := z; rw [hp] at h; cases h
    | set _ => exact z.elim
    | dcl g ws => obtain ⟨h, _⟩ := z; rw [hp] at h; cases h
    | dnt ws => obtain ⟨o, es, ep, xs, h, _⟩ := z; rw [hp] at h; cases h
theorem RH.new {K : PySem.W.Frag} {M : Names} {H : Hp} {A : AH} {p : Addr} {o : L2.HO} {w : O} (r : RH K M H A) (hp : H p = none) (n : RO K M (L2.upd H p o) p w) : RH K M (L2.upd H p o) (up A p w) := fun a u e => by
  by_cases h : a = p
  · subst h; rw [up_same] at e; cases e; exact n
  · rw [up_ne h] at e
    exact (r a u e).at (Tk.new hp) (L2.upd_ne h)
theorem Fr.new {H : Hp} {A : AH} {p : Addr} {o : L2.HO} {w : O} (hp : H p = none) : Fr H A (L2.upd H p o) (up A p w) := fun b u h n => by
  have hb : b ≠ p := fun e => by subst e; rw [hp] at h; cases h
  exact ⟨by rw [L2.upd_ne hb]; exact h, by rw [up_ne hb]; exact n⟩
/-- a new tuple -/
theorem RH.newT {K : PySem.W.Frag} {M : Names} {H : Hp} {A : AH} {p : Addr} {o : L2.HO} (r : RH K M H A) (hp : H p = none) : RH K M (L2.upd H p o) A := fun a u e => by
  have h : a ≠ p := fun q => by subst q; rw [r.free hp] at e; cases e
  exact (r a u e).at (Tk.new hp) (L2.upd_ne h)
theorem Fr.newT {H : Hp} {A : AH} {p : Addr} {o : L2.HO} (hp : H p = none) : Fr H A (L2.upd H p o) A := fun b u h n => by
  have hb : b ≠ p := fun e => by subst e; rw [hp] at h; cases h
  exact ⟨by rw [L2.upd_ne hb]; exact h, n⟩
/-- an object that is seen, written -/
theorem Tk.mut {K : PySem.W.Frag} {M : Names} {H : Hp} {A : AH} {p : Addr} {o : L2.HO} {w : O} (r : RH K M H A) (h : A p = some w) : Tk H (L2.upd H p o) := by
  have z := r p w h
  refine ⟨fun a vs q => ?_, fun a f vs q => ?_⟩
  · refine L2.upd_ne fun e => ?_
    subst e
    cases w with
    | lst ws => obtain ⟨vs, e, _⟩ := z; rcases q with q | ⟨_, q⟩ <;> · rw [e] at q; cases q
    | dct ws => obtain ⟨vs, e, _⟩ := z; rcases q with q | ⟨_, q⟩ <;> · rw [e] at q; cases q
    | ins C fs => obtain ⟨c, dx, gs, e, _⟩ := z; rcases q with q | ⟨_, q⟩ <;> · rw [e] at q; cases q
    | set _ => exact z.elim
    | dcl g ws => obtain ⟨e, _⟩ := z; rcases q with q | ⟨_, q⟩ <;> · rw [e] at q; cases q
    | dnt ws => obtain ⟨o, es, ep, xs, e, _⟩ := z; rcases q with q | ⟨_, q⟩ <;> · rw [e] at q; cases q
  · refine L2.upd_ne fun e => ?_
    subst e
    cases w with
    | lst ws => obtain ⟨vs, e, _⟩ := z; rw [e] at q; cases q
    | dct ws => obtain ⟨vs, e, _⟩ := z; rw [e] at q; cases q
    | ins C fs => obtain ⟨c, dx, gs, e, _⟩ := z; rw [e] at q; cases q
    | set _ => exact z.elim
    | dcl g ws => obtain ⟨e, _⟩ := z; rw [e] at q; cases q
    | dnt ws => obtain ⟨o, es, ep, xs, e, _⟩ := z; rw [e] at q; cases q
theorem RH.mut {K : PySem.W.Frag} {M : Names} {H : Hp} {A : AH} {p : Addr} {o : L2.HO} {w u : O} (r : RH K M H A) (h : A p = some w) (n : RO K M (L2.upd H p o) p u) : RH K M (L2.upd H p o) (up A p u) := fun a x e => by
  by_cases q : a = p
  · subst q; rw [up_same] at e; cases e; exact n
  · rw [up_ne q] at e
    exact (r a x e).at (Tk.mut r h) (L2.upd_ne q)
theorem Fr.mut {H : Hp} {A : AH} {p : Addr} {o : L2.HO} {w u : O} (h : A p = some w) : Fr H A (L2.upd H p o) (up A p u) := fun b x e n => by
  have hb : b ≠ p := fun z => by subst z; rw [h] at n; cases n
  exact ⟨by rw [L2.upd_ne hb]; exact e, by rw [up_ne hb]; exact n⟩
/-! ### slots -/
inductive RS (K : PySem.W.Frag) (H : Hp) : L2.St → St → Prop
  | nil : RS K H [] []
  | none {x : Option V} {σ : L2.St} {τ : St} : RS K H σ τ → RS K H (x :: σ) (.none :: τ)
  | some {v : V} {w : W} {σ : L2.St} {τ : St} : Rep K H v w → RS K H σ τ → RS K H (.some v :: σ) (.some w :: τ)
theorem RS.tk {K : PySem.W.Frag} {H H' : Hp} (t : Tk H H') {σ : L2.St} {τ : St} (r : RS K H σ τ) : RS K H' σ τ := by
  induction r with
  | nil => exact .nil
  | none _ ih => exact .none ih
  | some q _ ih => exact .some (q.tk t) ih
theorem RS.get {K : PySem.W.Frag} {H : Hp} {σ : L2.St} {τ : St} (r : RS K H σ τ) : ∀ {i : Nat} {w : W}, getv τ i = .some w → ∃ v, σ[i]? = .some (.some v) ∧ Rep K H v w := by
  induction r with
  | nil => intro i w h; cases h
  | none _ ih =>
    intro i w h
    cases i with
    | zero => cases h
    | succ i => exact ih h
  | some q _ ih =>
    intro i w h
    cases i with
    | zero => cases h; exact ⟨_, rfl, q⟩
    | succ i => exact ih h
theorem RS.setv {K : PySem.W.Frag} {H : Hp} {σ : L2.St} {τ : St} (r : RS K H σ τ) {v : V} {w : W} (q : Rep K H v w) : ∀ (i : Nat), RS K H (σ.set i (.some v)) (setv τ i (.some w)) := by
  induction r with
  | nil => intro i; exact .nil
  | none r ih =>
    intro i
    cases i with
    | zero => exact .some q r
    | succ i => exact .none (ih i)
  | some p r ih =>
    intro i
    cases i with
    | zero => exact .some q r
    | succ i => exact .some p (ih i)
theorem RS.setn {K : PySem.W.Frag} {H : Hp} {σ : L2.St} {τ : St} (r : RS K H σ τ) : ∀ (i : Nat), RS K H (σ.set i .none) (N.setv τ i .none) := by
  induction r with
  | nil => intro i; exact .nil
  | none r ih =>
    intro i
    cases i with
    | zero => exact .none r
    | succ i => exact .none (ih i)
  | some p r ih =>
    intro i
    cases i with
    | zero => exact .none r
    | succ i => exact .some p (ih i)
theorem RS.wipe {K : PySem.W.Frag} {H : Hp} {σ : L2.St} {τ : St} (r : RS K H σ τ) : ∀ l : List Nat, RS K H (L2.wipe σ l) (N.wipe τ l)
  | [] => r
  | v :: vs => (r.wipe vs).setn v
/-! ### readings, lowered -/
/-- an exception: its class, its own dict, what it was made with -/
def XR (K : PySem.W.Frag) (M : Names) (H : Hp) (cls : Value) (d : Option Addr) (C : Str) (ws : List W) : Prop :=
  ∃ c, M.exc C = some c ∧ cls = .ref c ∧ (excF C = [] ∨ ∃ dx fs vs, d = some dx ∧ H dx = some (.xd fs) ∧ Reps K H vs ws ∧ ∀ (i : Nat) (f : Str), (excF C)[i]? = some f → fs.lookup f = vs[i]?)
/-- what is wanted behind, seen from H, A -/
def Lk (K : PySem.W.Frag) (M : Names) (H : Hp) (A : AH) (Q : L2.VK) : VK := fun w A' => ∀ v H', Rep K H' v w → RH K M H' A' → Fr H A H' A' → Q v H'
def LkX (K : PySem.W.Frag) (M : Names) (H : Hp) (A : AH) (E : L2.XK) : XK := fun C ws A' => ∀ cls d H', XR K M H' cls d C ws → RH K M H' A' → Fr H A H' A' → E cls d H'
def LkA (K : PySem.W.Frag) (M : Names) (H : Hp) (A : AH) (Q : List V → Hp → Prop) : List W → AH → Prop := fun ws A' => ∀ vs H', Reps K H' vs ws → RH K M H' A' → Fr H A H' A' → Q vs H'
theorem Lk.step {K : PySem.W.Frag} {M : Names} {H H1 : Hp} {A A1 : AH} {Q : L2.VK} {w : W} {A' : AH} (f : Fr H A H1 A1) (h : Lk K M H A Q w A') : Lk K M H1 A1 Q w A' := fun v H' r1 r2 f2 => h v H' r1 r2 (f.trans f2)
theorem LkX.step {K : PySem.W.Frag} {M : Names} {H H1 : Hp} {A A1 : AH} {E : L2.XK} {C : Str} {ws : List W} {A' : AH} (f : Fr H A H1 A1) (h : LkX K M H A E C ws A') : LkX K M H1 A1 E C ws A' := fun c d H' r1 r2 f2 => h c d H' r1 r2 (f.trans f2)
theorem LkA.step {K : PySem.W.Frag} {M : Names} {H H1 : Hp} {A A1 : AH} {Q : List V → Hp → Prop} {w : List W} {A' : AH} (f : Fr H A H1 A1) (h : LkA K M H A Q w A') : LkA K M H1 A1 Q w A' := fun v H' r1 r2 f2 => h v H' r1 r2 (f.trans f2)
/-- an expression's reading at xk, lowered over the wish W -/
structure LowX (K : PySem.W.Frag) (M : Names) (W : L2.WX) (xk : XK) (σ : L2.St) (H : Hp) (τ : St) (A : AH) : Prop where
  rs : RS K H σ τ
  rh : RH K M H A
  ex : ∀ C ws A', xk C ws A' → LkX K M H A (fun c d H' => W c d σ H') C ws A'
theorem LowX.step {K : PySem.W.Frag} {M : Names} {W : L2.WX} {xk : XK} {σ : L2.St} {H H1 : Hp} {τ : St} {A A1 : AH} (l : LowX K M W xk σ H τ A) (r : RH K M H1 A1) (f : Fr H A H1 A1) : LowX K M W xk σ H1 τ A1 :=
  ⟨l.rs.tk (l.rh.tk f), r, fun C ws A' h => (l.ex C ws A' h).step f⟩
def low (K : PySem.W.Frag) (M : Names) (W : L2.WX) (t : XK → TE) : L2.TE := fun σ H Q => ∃ τ A xk Qw, LowX K M W xk σ H τ A ∧ t xk τ A Qw ∧ ∀ w A', Qw w A' → Lk K M H A Q w A'
def lowA (K : PySem.W.Frag) (M : Names) (W : L2.WX) (n : Nat) (t : XK → St → AH → (List N.W → AH → Prop) → Prop) : L2.TA := fun σ H Q => ∃ τ A xk Qw, LowX K M W xk σ H τ A ∧ t xk τ A Qw ∧ ∀ w A', Qw w A' → w.length = n → LkA K M H A Q w A'
/-- a test -/
def lowT (K : PySem.W.Frag) (M : Names) (W : L2.WX) (t : XK → TE) : L2.TT := fun σ H Q => ∃ τ A xk Qw, LowX K M W xk σ H τ A ∧ t xk τ A (boolK Qw) ∧ ∀ b A', Qw b A' → ∀ H', RH K M H' A' → Fr H A H' A' → Q b H'
/-- by values -/
def lowR (K : PySem.W.Frag) (M : Names) (r : W → W → AH → VK → Prop) : L2.R2 := fun vx vy H Q => ∃ x y A Qw, Rep K H vx x ∧ Rep K H vy y ∧ RH K M H A ∧ r x y A Qw ∧ ∀ w A', Qw w A' → Lk K M H A Q w A'
def lowU (K : PySem.W.Frag) (M : Names) (r : W → AH → VK → Prop) : V → Hp → L2.VK → Prop := fun vx H Q => ∃ x A Qw, Rep K H vx x ∧ RH K M H A ∧ r x A Qw ∧ ∀ w A', Qw w A' → Lk K M H A Q w A'
def lowC (K : PySem.W.Frag) (M : Names) (r : List W → AH → VK → Prop) : List V → Hp → L2.VK → Prop := fun vs H Q => ∃ xs A Qw, Reps K H vs xs ∧ RH K M H A ∧ r xs A Qw ∧ ∀ w A', Qw w A' → Lk K M H A Q w A'
theorem line_of {n : Nat} (h : n ≤ lim) : n ≤ sizeLine := by rw [sizeLine_eq]; exact h
theorem line_lt {n : Nat} (h : n < lim) : n < sizeLine := by rw [sizeLine_eq]; exact h
theorem Reps.nil_iff {K : PySem.W.Frag} {H : Hp} {vs : List V} {ws : List W} (r : Reps K H vs ws) : vs = [] ↔ ws = [] := by
  cases r with
  | nil => simp
  | cons _ _ => simp
end N
end
section
set_option maxRecDepth 100000
set_option maxHeartbeats 4000000
/-! The rules that make a tuple, told with the new object: plain, without an instance dict. -/
namespace N
open PySem PySem.Spec PyProof.Rows
section
variable {X : L2.Cx} {es : List Expr} {t : L2.TA} {pos : Pos}
/-- a new plain tuple -/
abbrev tupO (its : List Value) : Obj := { cls := .type "tuple", data := .seq its.toArray }
abbrev NewT (H : Hp) (ys : List V) (Q : L2.VK) : Prop := ∀ p o, H p = none → o.dict = none → Q (.ref p) (L2.upd H p (.frz o (.tup ys)))
theorem pe_tupP {x1} (h : L2.PA X es t) : L2.PE X (.Tuple es x1 pos) (fun σ H Q => t σ H fun xs H1 => xs.length ≤ sizeLine ∧ NewT H1 xs Q) := by
  refine ⟨fun pins s σ H Q I hq => ?_⟩
  refine wpAny_Tuple_spliced (L2.thn (h.run pos pins s σ H _ I hq) fun us s1 ⟨xs, H1, I1, r, z, q⟩ => ⟨by rw [← r.length]; exact z, ?_⟩)
  have hf : H1 s1.heap.objs.size = none := I1.hok.fresh (Nat.le_refl _)
  refine ⟨.ref s1.heap.objs.size, L2.upd H1 s1.heap.objs.size (.frz (tupO us) (.tup xs)), I1.laid (t' := s1.toks) (fun b u e => Heap.get?_push_of_some _ e) (Nat.le_refl _) ?_, rfl, q _ _ hf ?_⟩
  · exact ⟨Heap.get?_push_size _ rfl, z, us, r, ⟨_, Heap.get?_push_size _ rfl, rfl, _, rfl⟩⟩
  · rfl
theorem op_catP : L2.OpR X (binaryOp .Add) (fun x y H Q => ∃ a b xs ys, x = .ref a ∧ y = .ref b ∧ L2.SqT X.K H a xs ∧ L2.SqT X.K H b ys ∧ xs.length + ys.length ≤ sizeLine ∧
    (xs = [] → Q (.ref b) H) ∧ (ys = [] → Q (.ref a) H) ∧ NewT H (xs ++ ys) Q) := by
  intro pins s σ H x y v u Q I rx ry h
  obtain ⟨a, b, xs, ys, rfl, rfl, ha, hb, hz, q0, q1, q2⟩ := h
  by_cases hx : xs = []
  · exact L2.op_catA pins s σ H _ _ v u Q I rx ry ⟨a, b, xs, ys, rfl, rfl, ha, hb, hz, q0, fun _ => q1, fun n => absurd hx n⟩
  · cases rx
    cases ry
    obtain ⟨its, r1, p1, _⟩ := I.tuple ha
    obtain ⟨its2, r2, p2, _⟩ := I.tuple hb
    refine HT.cat_tup p1 p2 (fun z => hx (r1.nil_iff.mp z)) (fun z => ⟨.ref a, H, I, rfl, q1 (r2.nil_iff.mp z)⟩) (fun z => ?_) (by rw [← r1.length, ← r2.length]; exact hz)
    refine ⟨.ref s.heap.objs.size, _, I.laid (t' := s.toks) (o := .frz (tupO (its ++ its2)) (.tup (xs ++ ys))) (fun b ob q => Heap.get?_push_of_some _ q) (Nat.le_refl _) ⟨Heap.get?_push_size _ rfl, by rw [List.length_append]; exact hz, _, r1.append r2, IsTup.new _ _⟩, rfl, q2 _ _ (I.hok.fresh (Nat.le_refl _)) rfl⟩
theorem sl_tupP : L2.SlR X (fun x lo hi H Q => ∃ a xs, x = .ref a ∧ L2.SqT X.K H a xs ∧ (HT.sIx xs.length 0 lo = 0 ∧ HT.sIx xs.length xs.length hi = xs.length → Q (.ref a) H) ∧ NewT H (L2.cutV xs lo hi) Q) := by
  intro pins s σ H x v vl vu lo hi sl Q I rx hs pl pu h
  obtain ⟨a, xs, rfl, hx, q1, q⟩ := h
  by_cases hw : HT.sIx xs.length 0 lo = 0 ∧ HT.sIx xs.length xs.length hi = xs.length
  · exact L2.sl_tupA pins s σ H _ v vl vu lo hi sl Q I rx hs pl pu ⟨a, xs, rfl, hx, q1, fun n => absurd hw n⟩
  · cases rx
    obtain ⟨its, r, ht, hz⟩ := I.tuple hx
    have hlen : its.toArray.size = xs.length := by rw [List.size_toArray]; exact r.length.symm
    refine ⟨"tuple", _, PyProof.Rows.slot_tuple_getitem.lookup, ht.typeIs, ?_⟩
    refine HT.getItem_tuple_cut ht hs pl pu (by rw [hlen]; exact hw) ?_ (by rw [hlen]; exact hz)
    rw [hlen]
    refine ⟨.ref s.heap.objs.size, _, I.laid (t' := s.toks) (o := .frz (tupO ((its.drop (HT.sIx xs.length 0 lo)).take (HT.sIx xs.length xs.length hi - HT.sIx xs.length 0 lo))) (.tup (L2.cutV xs lo hi))) (fun b ob q => Heap.get?_push_of_some _ q) (Nat.le_refl _) ⟨Heap.get?_push_size _ rfl, ?_⟩, rfl, q _ _ (I.hok.fresh (Nat.le_refl _)) rfl⟩
    exact ⟨Nat.le_trans (L2.cutV_length xs lo hi) hz, _, (r.drop (HT.sIx xs.length 0 lo)).take (HT.sIx xs.length xs.length hi - HT.sIx xs.length 0 lo), IsTup.new _ _⟩
theorem call_tupleP : L2.CallR X (.type "tuple") (fun xs H Q => ∃ p ys, xs = [.ref p] ∧ L2.SqL X.K H p ys ∧ NewT H ys Q) := by
  intro pins s σ H xs us Q I r h
  obtain ⟨p, ys, rfl, hq, q⟩ := h
  obtain ⟨u, rfl, rx⟩ := L2.vals1 r
  cases rx
  obtain ⟨its, r', pl, hz⟩ := I.list hq
  have hlen := r'.length
  refine call_tuple_list pl.isList (fun h' kp => ?_) (by simp only [List.size_toArray] <;> omega)
  have I1 : L2.Inv X pins σ H { s with heap := h' } := I.kept (t' := s.toks) kp
  have I2 : L2.Inv X pins σ (L2.upd H h'.objs.size (.frz (tupO its) (.tup ys))) { s with heap := h'.push { cls := .type "tuple", data := .seq its.toArray } } :=
    I1.laid (t' := s.toks) (fun b o e => Heap.get?_push_of_some _ e) (Nat.le_refl _) ⟨Heap.get?_push_size _ rfl, hz, its, r', IsTup.new _ _⟩
  exact ⟨.ref h'.objs.size, _, I2, rfl, q _ _ (I1.hok.fresh (Nat.le_refl _)) rfl⟩
/-- xs * k, k at least 2 -/
theorem op_repP : L2.OpR X (binaryOp .Mult) (fun x y H Q => ∃ l n xs, x = .ref l ∧ y = .int n ∧ L2.SqT X.K H l xs ∧ xs ≠ [] ∧ 2 ≤ n ∧ n ≤ 1000 ∧ xs.length ≤ 1000 ∧ NewT H (List.replicate n.toNat xs).flatten Q) := by
  intro pins s σ H x y v u Q I rx ry h
  obtain ⟨l, n, xs, rfl, rfl, hT, hne, h1, h2, hz, q⟩ := h
  cases rx
  obtain ⟨tn, rfl⟩ := ry
  obtain ⟨us, r, ⟨⟨oc, dd, od, sl⟩, ho, hc, en, hd⟩, hs⟩ := I.tuple hT
  simp only at hc hd
  subst hc hd
  have el : us.length = xs.length := r.length.symm
  have nn : us.toArray.isEmpty = false := by
    cases us with
    | nil => exact absurd (List.eq_nil_of_length_eq_zero el.symm) hne
    | cons a b => rfl
  have es : us.toArray.size = xs.length := by rw [List.size_toArray, el]
  have pr : ((us.toArray.size : Nat) : Int) * n ≤ 1000000 := by
    rw [es]
    have p1 : ((xs.length : Nat) : Int) * n ≤ 1000 * n := Int.mul_le_mul_of_nonneg_right (by omega) (by omega)
    omega
  have fl : (List.replicate n.toNat us).flatten.length ≤ sizeLine := by
    rw [PyProof.Rows.lm_len_rep_flat, el, sizeLine_eq]
    have p1 : n.toNat * xs.length ≤ 1000 * 1000 := Nat.mul_le_mul (by omega) hz
    omega
  have b0 : (decide (n < -(2 ^ 63)) || decide (n ≥ 2 ^ 63)) = false := by rw [decide_eq_false (by omega), decide_eq_false (by omega)] <;> rfl
  have b1 : (us.toArray.isEmpty || n == 1) = false := by rw [nn, Bool.false_or]; exact beq_eq_false_iff_ne.mpr (by omega)
  have b2 : (decide (n ≤ 0) || us.toArray.isEmpty) = false := by rw [nn, Bool.or_false]; exact decide_eq_false (by omega)
  have b4 : Builtin.Tuple.tupleTooMany (((us.toArray.size : Nat) : Int) * n) = false := by unfold Builtin.Tuple.tupleTooMany; rw [sizeLine_eq]; exact decide_eq_false (by omega)
  refine wpAny_binaryOp_repeat_ref (T := "tuple") (U := "int") (by decide) ⟨_, ho, rfl⟩ (fun s' => typeIs_int s' n tn) L2.noFill_tuple_mul PySem.F.fills_int_mul PySem.F.slot_int_rmul L2.repeat_tuple PySem.F.slot_int_index.lookup
    (call_meets PySem.F.slot_int_rmul (typeIs_int s n tn) PySem.F.entry_int_rmul (PySem.F.args_int_rmul_2 _ _) (L2.int_rmul_tuple n tn l us.toArray en dd sl)
      ⟨ho, rfl, ⟨_, ho, rfl⟩, call_meets PySem.F.slot_tuple_mul ⟨_, ho, rfl⟩ PySem.F.entry_tuple_mul (PySem.F.args_tuple_mul_2 _ _) (L2.tuple_mulW l us.toArray en dd sl n tn b0 b1 b2 (by omega) b4 (by rw [L2.size_rep, List.size_toArray]; exact fl)) ⟨ho, ?_⟩⟩)
  rw [L2.size_rep]
  refine ⟨.ref s.heap.objs.size, _, I.laid (t' := s.toks) (o := .frz (tupO (List.replicate n.toNat us).flatten) (.tup (List.replicate n.toNat xs).flatten)) (fun b ob e => Heap.get?_push_of_some _ e) (Nat.le_refl _) ⟨Heap.get?_push_size _ rfl, ?_⟩, rfl, q _ _ (I.hok.fresh (Nat.le_refl _)) rfl⟩
  have rr : ∀ m : Nat, L2.Vals (List.replicate m xs).flatten (List.replicate m us).flatten := fun m => by
    induction m with
    | zero => exact .nil
    | succ m ih => rw [List.replicate_succ, List.replicate_succ, List.flatten_cons, List.flatten_cons]; exact r.append ih
  refine ⟨?_, _, rr _, IsTup.new _ _⟩
  rw [(rr _).length]
  exact fl
end
end N
end
section
set_option maxRecDepth 100000
/-! Dicts whose keys are nested tuples: by value. -/
namespace N
open PySem PySem.Spec PyProof.Rows
section
variable {X : L2.Cx} {M : Names} {pins : List (Addr × Obj)} {σ : L2.St} {H : Hp} {s : Shared}
mutual
theorem nis_of (I : L2.Inv X pins σ H s) : ∀ {w : W} {v : V} {u : Value}, Rep X.K H v w → nkok w = true → L2.RelV v u → NestedIs s.heap (nkW w) u
  | .int i, _, _, .int _, _, rv => by obtain ⟨t, rfl⟩ := rv; unfold nkW; exact .int i t
  | .str x, _, _, .str _, _, rv => by obtain ⟨t, rfl⟩ := rv; unfold nkW; exact .text x t
  | .tup ws, _, u, .tup (a := a) hq r, h, rv => by
    cases (show u = Value.ref a from rv)
    obtain ⟨its, rl, ⟨o, e, c, n, d⟩, _⟩ := I.tuple hq.t
    unfold nkW
    refine .tup e c d ?_
    unfold nkok at h
    exact niss_of I r h rl
  | .non, _, _, _, h, _ => by unfold nkok at h; cases h
  | .bl _, _, _, _, h, _ => by unfold nkok at h; cases h
  | .fz _, _, _, _, h, _ => by unfold nkok at h; cases h
  | .ref _, _, _, _, h, _ => by unfold nkok at h; cases h
  | .exc _ _, _, _, _, h, _ => by unfold nkok at h; cases h
theorem niss_of (I : L2.Inv X pins σ H s) : ∀ {ws : List W} {vs : List V} {us : List Value}, Reps X.K H vs ws → nkoks ws = true → L2.Vals vs us → NestedAll s.heap (nkL ws) us
  | [], _, _, .nil, _, .nil => by unfold nkL; exact .nil
  | w :: ws, _, _, .cons r t, h, .cons a b => by
    unfold nkoks at h
    rw [Bool.and_eq_true] at h
    unfold nkL
    exact .cons (nis_of I r h.1 a) (niss_of I t h.2 b)
end
theorem nk_key (I : L2.Inv X pins σ H s) {x : W} {v : V} {u : Value} (hx : isNK x = true) (r : Rep X.K H v x) (rv : L2.RelV v u) : ∃ b, v = .ref b ∧ u = .ref b ∧ (nestedKind X.prog X.w).is s.heap (nkW x) b := by
  cases x with
  | tup ws =>
    cases r with
    | @tup a _ _ hq r =>
      unfold isNK at hx
      rw [Bool.and_eq_true] at hx
      cases (show u = Value.ref _ from rv)
      exact ⟨_, rfl, rfl, nis_of I (.tup hq r) (by unfold nkok; exact hx.1) rv, of_decide_eq_true hx.2⟩
  | _ => cases hx
theorem DN.length {K : PySem.W.Frag} {H : Hp} : ∀ {xs : List (NestedKey × Addr × Value)} {kws : List (W × W)}, DN K H xs kws → xs.length = kws.length
  | _, _, .nil => rfl
  | _, _, .cons _ _ _ _ t => by rw [List.length_cons, List.length_cons, t.length]
theorem DN.at {K : PySem.W.Frag} {H : Hp} {x : W} : ∀ {xs : List (NestedKey × Addr × Value)} {kws : List (W × W)}, DN K H xs kws → (atKey xs (nkW x) = none ∧ getN kws x = none) ∨ ∃ q u v w, atKey xs (nkW x) = some (q, u) ∧ getN kws x = some w ∧ Rep K H v w ∧ L2.RelV v u
  | _, _, .nil => .inl ⟨rfl, rfl⟩
  | _, _, .cons (q := q) (u := u) (v := v) (x := y) (w := w) _ _ r l t => by
    by_cases e : nkW y = nkW x
    · refine .inr ⟨q, u, v, w, ?_, ?_, r, l⟩
      · unfold atKey
        rw [List.find?_cons]
        simp only [e, decide_true]
        rfl
      · unfold getN
        rw [List.find?_cons]
        simp only [e, decide_true]
        rfl
    · have h1 : decide (nkW y = nkW x) = false := decide_eq_false e
      rcases t.at (x := x) with ⟨a, b⟩ | ⟨q', u', v', w', a, b, c, d⟩
      · refine .inl ⟨?_, ?_⟩
        · unfold atKey at a ⊢
          rw [List.find?_cons]
          simp only [h1]
          exact a
        · unfold getN at b ⊢
          rw [List.find?_cons]
          simp only [h1]
          exact b
      · refine .inr ⟨q', u', v', w', ?_, ?_, c, d⟩
        · unfold atKey at a ⊢
          rw [List.find?_cons]
          simp only [h1]
          exact a
        · unfold getN at b ⊢
          rw [List.find?_cons]
          simp only [h1]
          exact b
theorem DN.isSome {K : PySem.W.Frag} {H : Hp} {x : W} {xs : List (NestedKey × Addr × Value)} {kws : List (W × W)} (d : DN K H xs kws) : (atKey xs (nkW x)).isSome = (getN kws x).isSome := by
  rcases d.at (x := x) with ⟨a, b⟩ | ⟨q, u, v, w, a, b, _⟩ <;> rw [a, b] <;> rfl
theorem DN.over {K : PySem.W.Frag} {H : Hp} {x w : W} {v : V} {u : Value} (r : Rep K H v w) (l : L2.RelV v u) : ∀ {xs : List (NestedKey × Addr × Value)} {kws : List (W × W)}, DN K H xs kws → DN K H (xs.map (putAt (nkW x) u)) (kws.map fun p => if nkW p.1 = nkW x then (p.1, w) else p)
  | _, _, .nil => .nil
  | _, _, .cons (q := q) (u := u0) (v := v0) (x := y) (w := w0) a b c d t => by
    rw [List.map_cons, List.map_cons]
    by_cases e : nkW y = nkW x
    · have h1 : putAt (nkW x) u (nkW y, q, u0) = (nkW y, q, u) := by unfold putAt; rw [if_pos e]
      rw [h1, if_pos e]
      exact .cons a b r l (t.over r l)
    · have h1 : putAt (nkW x) u (nkW y, q, u0) = (nkW y, q, u0) := by unfold putAt; rw [if_neg e]
      rw [h1, if_neg e]
      exact .cons a b c d (t.over r l)
theorem DN.app {K : PySem.W.Frag} {H : Hp} : ∀ {a c : List (NestedKey × Addr × Value)} {b d : List (W × W)}, DN K H a b → DN K H c d → DN K H (a ++ c) (b ++ d)
  | _, _, _, _, .nil, h => h
  | _, _, _, _, .cons k q r l t, h => .cons k q r l (t.app h)
theorem DN.put {K : PySem.W.Frag} {H : Hp} {x w : W} {v : V} {u : Value} {q : Addr} {xs : List (NestedKey × Addr × Value)} {kws : List (W × W)} (d : DN K H xs kws) (hx : isNK x = true) (rx : Rep K H (.ref q) x) (r : Rep K H v w) (l : L2.RelV v u) : DN K H (storedH xs (nkW x) q u) (putN kws x w) := by
  unfold storedH putN
  rw [d.isSome]
  split
  · exact d.over r l
  · exact d.app (.cons hx rx r l .nil)
theorem stored_len {K : Type} [DecidableEq K] (xs : List (K × Addr × Value)) (k : K) (a : Addr) (v : Value) : (storedH xs k a v).length ≤ xs.length + 1 := by
  unfold storedH
  split
  · rw [List.length_map]; omega
  · rw [List.length_append, List.length_singleton]; omega
theorem dn_at (I : L2.Inv X pins σ H s) (hM : M.w = X.w) {a : Addr} {kws : List (W × W)} (g : RO X.K M H a (.dnt kws)) :
    ∃ xs, s.heap.DictOfH (nestedKind X.prog X.w) a xs ∧ DN X.K H xs kws ∧ xs.length ≤ lim ∧ (a == sysModules) = false := by
  obtain ⟨o, es, ep, xs, h, h1, h2, h3, h4, h5, h6, q⟩ := g
  obtain ⟨ho, _⟩ := I.hok a _ h
  refine ⟨xs, ⟨o, es, ep, ho, h1, h2, ?_, ?_, h4⟩, q, h5, h6⟩
  · rw [h3, hM]; rfl
  · intro x hx
    have key : ∀ {xs : List (NestedKey × Addr × Value)} {kws : List (W × W)}, DN X.K H xs kws → ∀ x ∈ xs, (nestedKind X.prog X.w).is s.heap x.1 x.2.1 := by
      intro xs kws d
      induction d with
      | nil => intro x hx; cases hx
      | cons k r _ _ _ ih =>
        intro x hx
        rcases List.mem_cons.mp hx with rfl | hx
        · obtain ⟨b, e1, e2, z⟩ := nk_key I k r (show L2.RelV (.ref _) (Value.ref _) from rfl)
          cases e2
          exact z
        · exact ih x hx
    exact key q x hx
/-- what stands there behind a store -/
theorem dn_new (hM : M.w = X.w) {h' : Heap} {a : Addr} {xs : List (NestedKey × Addr × Value)} {kws : List (W × W)} (hm : h'.DictOfH (nestedKind X.prog X.w) a xs) (d : DN X.K H xs kws) (hl : xs.length ≤ lim) (hs : (a == sysModules) = false) :
    ∃ o : Obj, L2.ObjOk X.prog X.w (L2.upd H a (.ext fun h => h.get? a = some o)) h' a (.ext fun h => h.get? a = some o) ∧ (∃ q, h'.get? a = some q) ∧ ∀ H2, H2 a = some (.ext fun h => h.get? a = some o) → DN X.K H2 xs kws → RO X.K M H2 a (.dnt kws) := by
  obtain ⟨o, es, ep, ho, h1, h2, h3, h4, h5⟩ := hm
  refine ⟨o, ⟨ho, ⟨o, ho⟩, fun h1 h2 z k => k _ z⟩, ⟨o, ho⟩, fun H2 e d2 => ⟨o, es, ep, xs, e, h1, h2, ?_, h5, hl, hs, d2⟩⟩
  rw [h3, hM]; rfl
theorem nroom (h : X.A.units + 65 < cLine) : (nestedKind X.prog X.w).room X.A.in1 := by
  show X.A.in1.units + 8 < cLine
  have e : X.A.in1.units = X.A.units + 1 := rfl
  omega
theorem n_in {Q : Value → Shared → Prop} {E : Value → Shared → Prop} (I : L2.Inv X pins σ H s) (hM : M.w = X.w) (hu : X.A.units + 65 < cLine) {a : Addr} {kws : List (W × W)} (g : RO X.K M H a (.dnt kws)) {x : W} {v : V} {u : Value} (hx : isNK x = true) (r : Rep X.K H v x) (rv : L2.RelV v u)
    (h : ∀ s', L2.Inv X pins σ H s' → Q (.bool (getN kws x).isSome) s') : wpAny (model X.prog X.w) X.A (compareOp .In u (.ref a)) Q E s := by
  obtain ⟨xs, hm, d, _, hs⟩ := dn_at I hM g
  obtain ⟨b, rfl, rfl, hk⟩ := nk_key I hx r rv
  refine wpAny_in_heap (nroom hu) hk hs hm ?_
  rw [d.isSome]
  exact h _ (I.tok _)
theorem n_notin {Q : Value → Shared → Prop} {E : Value → Shared → Prop} (I : L2.Inv X pins σ H s) (hM : M.w = X.w) (hu : X.A.units + 65 < cLine) {a : Addr} {kws : List (W × W)} (g : RO X.K M H a (.dnt kws)) {x : W} {v : V} {u : Value} (hx : isNK x = true) (r : Rep X.K H v x) (rv : L2.RelV v u)
    (h : ∀ s', L2.Inv X pins σ H s' → Q (.bool (!(getN kws x).isSome)) s') : wpAny (model X.prog X.w) X.A (compareOp .NotIn u (.ref a)) Q E s := by
  obtain ⟨xs, hm, d, _, hs⟩ := dn_at I hM g
  obtain ⟨b, rfl, rfl, hk⟩ := nk_key I hx r rv
  show wpAny _ _ (do return .bool (!(← contains (.ref a) (.ref b)))) Q E s
  refine wpAny_bind (wpAny_contains_heap (nroom hu) hk hs hm (wpAny_pure ?_))
  rw [d.isSome]
  exact h _ (I.tok _)
theorem n_get {Q : Value → Shared → Prop} {E : Value → Shared → Prop} (I : L2.Inv X pins σ H s) (hM : M.w = X.w) (hu : X.A.units + 65 < cLine) {a : Addr} {kws : List (W × W)} (g : RO X.K M H a (.dnt kws)) {x w : W} {v : V} {u : Value} (hx : isNK x = true) (r : Rep X.K H v x) (rv : L2.RelV v u) (hw : getN kws x = some w)
    (h : ∀ z y s', L2.Inv X pins σ H s' → Rep X.K H z w → L2.RelV z y → Q y s') : wpAny (model X.prog X.w) X.A (getItem (.ref a) u) Q E s := by
  obtain ⟨xs, hm, d, _, hs⟩ := dn_at I hM g
  obtain ⟨b, rfl, rfl, hk⟩ := nk_key I hx r rv
  rcases d.at (x := x) with ⟨_, e⟩ | ⟨q, y, z, w', e1, e2, r2, l2⟩
  · rw [e] at hw; cases hw
  · rw [e2] at hw; cases hw
    exact wpAny_getItem_heap (nroom hu) hk hm e1 (h z y _ (I.tok _) r2 l2)
theorem n_getD {Q : Value → Shared → Prop} {E : Value → Shared → Prop} (I : L2.Inv X pins σ H s) (hM : M.w = X.w) (hu : X.A.units + 65 < cLine) {a : Addr} {kws : List (W × W)} (g : RO X.K M H a (.dnt kws)) {x w0 : W} {v v0 : V} {u u0 : Value} (hx : isNK x = true) (r : Rep X.K H v x) (rv : L2.RelV v u) (r0 : Rep X.K H v0 w0) (rv0 : L2.RelV v0 u0)
    (h : ∀ z y s', L2.Inv X pins σ H s' → Rep X.K H z ((getN kws x).getD w0) → L2.RelV z y → Q y s') : wpAny (model X.prog X.w) X.A (call (.builtin "dict.get") [.ref a, u, u0]) Q E s := by
  obtain ⟨xs, hm, d, _, hs⟩ := dn_at I hM g
  obtain ⟨b, rfl, rfl, hk⟩ := nk_key I hx r rv
  refine call_meetsIn F.slot_dict_get hm.typeIs F.entry_dict_get (F.args_dict_get_3 _ _ _) (meetsH_dict_get_default _ a b hs u0) ⟨nroom hu, nkW x, xs, hk, hm, ?_⟩
  rcases d.at (x := x) with ⟨e1, e2⟩ | ⟨q, y, z, w', e1, e2, r2, l2⟩
  · rw [e1]; rw [e2] at h
    exact h v0 u0 _ (I.tok _) r0 rv0
  · rw [e1]; rw [e2] at h
    exact h z y _ (I.tok _) r2 l2
theorem n_put (I : L2.Inv X pins σ H s) (hM : M.w = X.w) {a q : Addr} {h' : Heap} {t' : Nat} {kws : List (W × W)} (g : RO X.K M H a (.dnt kws)) {A : AH} (hA : RH X.K M H A) (ha : A a = some (.dnt kws)) {x w : W} {v : V} {u : Value} {xs : List (NestedKey × Addr × Value)} (hx : isNK x = true) (rx : Rep X.K H (.ref q) x) (r : Rep X.K H v w) (l : L2.RelV v u)
    (d : DN X.K H xs kws) (hl : kws.length < lim) (hs : (a == sysModules) = false) (hm : h'.DictOfH (nestedKind X.prog X.w) a (storedH xs (nkW x) q u)) (sb : Heap.SameBut a s.heap h') :
    ∃ H', L2.Inv X pins σ H' { s with heap := h', toks := t' } ∧ RH X.K M H' (up A a (.dnt (putN kws x w))) ∧ Fr H A H' (up A a (.dnt (putN kws x w))) ∧ Tk H H' := by
  have hl2 := stored_len xs (nkW x) q u
  have hl3 := d.length
  obtain ⟨o, k1, k2, k3⟩ := dn_new hM hm (d.put hx rx r l) (by omega) hs
  obtain ⟨o0, es, ep, xs0, e, _⟩ := g
  have tk : Tk H (L2.upd H a (.ext fun h => h.get? a = some o)) := Tk.mut hA ha
  exact ⟨_, L2.d_write I (by rw [e]; exact True.intro) sb k2 k1, RH.mut hA ha (k3 _ L2.upd_same ((d.put hx rx r l).tk tk)), Fr.mut ha, tk⟩
theorem n_set {Q : Unit → Shared → Prop} {E : Value → Shared → Prop} (I : L2.Inv X pins σ H s) (hM : M.w = X.w) (hu : X.A.units + 65 < cLine) {a : Addr} {kws : List (W × W)} {A : AH} (hA : RH X.K M H A) (ha : A a = some (.dnt kws)) {x w : W} {v v1 : V} {u u1 : Value} (hx : isNK x = true) (r : Rep X.K H v x) (rv : L2.RelV v u) (r1 : Rep X.K H v1 w) (rv1 : L2.RelV v1 u1) (hl : kws.length < lim)
    (h : ∀ H' s', L2.Inv X pins σ H' s' → RH X.K M H' (up A a (.dnt (putN kws x w))) → Fr H A H' (up A a (.dnt (putN kws x w))) → Tk H H' → Q () s') : wpAny (model X.prog X.w) X.A (setItem (.ref a) u u1) Q E s := by
  have g := hA _ _ ha
  obtain ⟨xs, hm, d, hxl, hs⟩ := dn_at I hM g
  obtain ⟨b, rfl, rfl, hk⟩ := nk_key I hx r rv
  refine wpAny_setItem_heap (hsz := line_of hxl) (nroom hu) hk hm fun h' hm' sb => ?_
  obtain ⟨H', k1, k2, k3, k4⟩ := n_put I hM g hA ha hx r r1 rv1 d hl hs hm' sb
  exact h H' _ k1 k2 k3 k4
theorem n_dflt {Q : Value → Shared → Prop} {E : Value → Shared → Prop} (I : L2.Inv X pins σ H s) (hM : M.w = X.w) (hu : X.A.units + 65 < cLine) {a : Addr} {kws : List (W × W)} {A : AH} (hA : RH X.K M H A) (ha : A a = some (.dnt kws)) {x w : W} {v v1 : V} {u u1 : Value} (hx : isNK x = true) (r : Rep X.K H v x) (rv : L2.RelV v u) (r1 : Rep X.K H v1 w) (rv1 : L2.RelV v1 u1) (hl : kws.length < lim)
    (h1 : ∀ w' z y s', getN kws x = some w' → L2.Inv X pins σ H s' → Rep X.K H z w' → L2.RelV z y → Q y s')
    (h2 : getN kws x = none → ∀ H' s', L2.Inv X pins σ H' s' → RH X.K M H' (up A a (.dnt (putN kws x w))) → Fr H A H' (up A a (.dnt (putN kws x w))) → Tk H H' → Q u1 s') : wpAny (model X.prog X.w) X.A (call (.builtin "dict.setdefault") [.ref a, u, u1]) Q E s := by
  have g := hA _ _ ha
  obtain ⟨xs, hm, d, hxl, hs⟩ := dn_at I hM g
  obtain ⟨b, rfl, rfl, hk⟩ := nk_key I hx r rv
  refine call_setdefault_heap (hsz := line_of hxl) (nroom hu) hk hs hm (fun p hp => ?_) fun hn h' hm' sb => ?_
  · rcases d.at (x := x) with ⟨e1, _⟩ | ⟨q, y, z, w', e1, e2, r2, l2⟩
    · rw [e1] at hp; cases hp
    · rw [e1] at hp; cases hp
      exact h1 w' z y _ e2 (I.tok _) r2 l2
  · have hn2 : getN kws x = none := by
      have := d.isSome (x := x)
      rw [hn] at this
      cases e : getN kws x with
      | none => rfl
      | some _ => rw [e] at this; cases this
    obtain ⟨H', k1, k2, k3, k4⟩ := n_put I hM g hA ha hx r r1 rv1 d hl hs hm' sb
    exact h2 hn2 H' _ k1 k2 k3 k4
/-- {}, its keys nested -/
def tDNewN : L2.TE := fun _ H Q => ∀ (p : Addr) (o : Obj), o.ExactDict → o.data = .dict #[] 0 → H p = none → (p == sysModules) = false → Q (.ref p) (L2.upd H p (.ext fun h => h.get? p = some o))
theorem pe_dnewN {pos : Pos} : L2.PE X (.Dict [] [] pos) tDNewN := by
  refine ⟨fun pins s σ H Q I h => ?_⟩
  have e : (s.heap.push { cls := .type "dict", data := .dict #[] }).get? s.heap.objs.size = some ({ cls := .type "dict", data := .dict #[] } : Obj) := Heap.get?_push_size _ rfl
  refine wpAny_Dict_empty ⟨.ref s.heap.objs.size, _, I.laid (a := s.heap.objs.size) (o := .ext fun h => h.get? s.heap.objs.size = some { cls := .type "dict", data := .dict #[] }) (t' := s.toks) (fun _ _ q => Heap.get?_push_of_some _ q) (Nat.le_refl _) ⟨e, ⟨_, e⟩, fun h1 h2 z k => k _ z⟩, rfl,
    h _ _ ⟨rfl, rfl, rfl⟩ rfl (I.hok.fresh (Nat.le_refl _)) (beq_eq_false_iff_ne.mpr (Ne.symm (Nat.ne_of_lt I.big)))⟩
theorem new_ro {K : PySem.W.Frag} {H : Hp} {p : Addr} {o : Obj} (h1 : o.ExactDict) (h2 : o.data = .dict #[] 0) (h3 : (p == sysModules) = false) : RO K M (L2.upd H p (.ext fun h => h.get? p = some o)) p (.dnt []) :=
  ⟨o, #[], 0, [], L2.upd_same, h1, h2, rfl, List.nodup_nil, Nat.zero_le _, h3, .nil⟩
end
end N
end
section
set_option maxRecDepth 100000
set_option maxHeartbeats 2000000
/-! Promises of defs that are called while no repr is under way. -/
namespace N
open PySem PySem.Spec PyProof.Rows
structure FnG (P : Program) (w : World) (K : PySem.W.Frag) (mg : Str → Option Value) (base : Heap) (CX : L2.CXT) (k : Nat) (f : Addr) (fd : FuncData) (ps : List Str) (sp : L2.Sp) : Prop where
  len : ∀ vs H Q E, sp vs H Q E → vs.length = ps.length
  run : ∀ (A : Around) (outer : List Env) (s : Shared) (H : Hp) (args : Args) (us : List Value) (vs : List V) (Q : L2.VK) (E : L2.XK), A.guards = some [] → L2.Room k A → L2.Env0 P w K mg base A outer s H → BindsTo s fd args (ps.zip us) → L2.Vals vs us → sp vs H Q E →
    codeAny (model P w) A (.call (.ref f) args) (L2.CR CX outer P w H s Q E) s
theorem FnG.imp {P : Program} {w : World} {K : PySem.W.Frag} {mg : Str → Option Value} {base : Heap} {CX : L2.CXT} {k : Nat} {f : Addr} {fd : FuncData} {ps : List Str} {sp sp' : L2.Sp} (F : FnG P w K mg base CX k f fd ps sp) (h : ∀ vs H Q E, sp' vs H Q E → sp vs H Q E) : FnG P w K mg base CX k f fd ps sp' :=
  ⟨fun vs H Q E q => F.len vs H Q E (h _ _ _ _ q), fun A o s H a us vs Q E g r e b v q => F.run A o s H a us vs Q E g r e b v (h _ _ _ _ q)⟩
theorem FnG.mono {P : Program} {w : World} {K : PySem.W.Frag} {mg : Str → Option Value} {base : Heap} {CX : L2.CXT} {j k : Nat} {f : Addr} {fd : FuncData} {ps : List Str} {sp : L2.Sp} (F : FnG P w K mg base CX j f fd ps sp) (l : j ≤ k) : FnG P w K mg base CX k f fd ps sp :=
  ⟨F.len, fun A o s H a us vs Q E g r e b v q => F.run A o s H a us vs Q E g (r.mono l) e b v q⟩
theorem run_fnG {X : L2.Cx} {CX : L2.CXT} {k : Nat} {f : Addr} {fd : FuncData} {ps : List Str} {sp : L2.Sp} {E : L2.St → L2.XK} {pins : List (Addr × Obj)} {σ : L2.St} {H : Hp} {s : Shared} {Q : L2.VK} {us : List Value} {vs : List V}
    (F : FnG X.prog X.w X.K X.mg X.base CX k f fd ps sp) (gd : X.A.guards = some []) (room : L2.Room k X.A) (bd : L2.Binds X.K fd ps []) (px : L2.PassesAt CX X σ (E σ)) (I : L2.Inv X pins σ H s) (rv : L2.Vals vs us) (q : sp vs H Q (E σ)) :
    wpAny (model X.prog X.w) X.A (call (.ref f) us) (L2.EP X pins σ Q) X.xe s := by
  have e1 : us.length = ps.length := rv.length.symm.trans (F.len _ _ _ _ q)
  have e2 := bd s us I.kIn ((congrArg List.length (List.append_nil us)).trans e1)
  rw [List.append_nil] at e2
  refine wpAny_call (codeAny_mono (F.run X.A X.stack s H ⟨us, []⟩ us vs Q (E σ) gd room I.env0 e2 rv q) fun res t z => ?_)
  cases res with
  | error x => exact px pins H s x t I z
  | ok fl =>
    cases fl with
    | ret u => exact I.after z
    | next => exact z.elim
    | brk => exact z.elim
    | cont => exact z.elim
theorem fn_ofG {CX : L2.CXT} {P : Program} {w : World} {K : PySem.W.Frag} {mg : Str → Option Value} {base : Heap} {k : Nat} {f : Addr} {x qual : Str} {params : Arguments} {body : List Stmt} {scope : Scope} {fd : FuncData} {NN ps : List Str} {sp : L2.Sp}
    (FD : L2.FunD K x qual params body scope [] [] f fd) (S : L2.FnScope NN ps scope) (ln : ∀ vs H Q E, sp vs H Q E → vs.length = ps.length)
    (bdy : ∀ (cdv : Value) (A : Around) (outer : List Env) (s : Shared) (H : Hp) (vs : List V) (Q : L2.VK) (E : L2.XK), A.guards = some [] → L2.Room k (A.deeper (envOfC qual scope s.heap.objs.size f cdv)) → sp vs H Q E →
      ∃ t, L2.PSs (L2.cxOf CX P w K mg base NN qual scope f cdv A outer s H E) body t ∧ t { nx := fun _ H' => Q .non H', rt := Q } (L2.start NN vs) H) : FnG P w K mg base CX (k + 1) f fd ps sp := by
  obtain ⟨oc, od, dV, kV, doc, pm, an, cdv, ct, osl, rfl, look, rec, _, _⟩ := FD.ex
  refine ⟨ln, fun A outer s H args us vs Q E gd room e0 bd rv q => ?_⟩
  have kin : K.In s.heap := e0.mod.kin.keeps fun b o z => (e0.bs b o z).1
  have kinds : ∀ y ∈ ps.zip us, scope.names.lookup y.1 = some .local ∨ (scope.names.lookup y.1 = some .cell ∧ ((cellsFrom (s.heap.objs.size + 1) scope.names []).lookup y.1).isSome = true) := by
    rintro ⟨n, v⟩ hy
    exact (S.par n (List.of_mem_zip hy).1).imp id fun z => ⟨z, PySem.W.cellsFrom_some _ _ _ (.inl z)⟩
  refine codeAny_call_function room.depth (kin _ _ look) rfl S.co S.gen rfl (PySem.W.codeRec_of kin rec) (bd _ _ _ _ (wpAny_newFunctionEnv_cells S.kind kinds fun env ee s1 ic => ?_))
  subst ee
  refine ⟨(e0.mod.nolimit.keeps fun b o z => (e0.bs b o z).1).keeps ic.toInCall.keep, codeAny_func ?_⟩
  obtain ⟨t, pt, qt⟩ := bdy cdv A outer s H vs Q E gd (room.deeper _) q
  have I0 : L2.Inv (L2.cxOf CX P w K mg base NN qual scope f cdv A outer s H E) [] (L2.start NN vs) H s1 := L2.inv_start S room.hd e0 (ln _ _ _ _ q) rv ic
  refine wpAny_mono (pt.run [] s1 (L2.start NN vs) H _ I0 qt) (fun fl s2 z => ?_) fun e s2 z => z
  cases fl with
  | ret u =>
    obtain ⟨v, σ2, H2, J, r2, q2⟩ := z
    exact ⟨v, H2, J.os, J.bare, J.base, J.hok, r2, q2⟩
  | next =>
    obtain ⟨σ2, H2, J, q2⟩ := z
    exact ⟨L2.V.non, H2, J.os, J.bare, J.base, J.hok, rfl, q2⟩
  | brk =>
    obtain ⟨_, _, _, q2⟩ := z
    exact q2.elim
  | cont =>
    obtain ⟨_, _, _, q2⟩ := z
    exact q2.elim
section
variable {P : Program} {w : World} {K : PySem.W.Frag} {mg mb : Str → Option Value} {CX : L2.CXT} {k : Nat} {fa a : Addr} {fd : FuncData} {x : Str} {sp : L2.Sp} {t : Shared} {us : List Value} {ns : List Int}
/-- the law's call, from an abstract heap in which the script alone is seen -/
theorem lawG_at (kin : K.In t.heap) (gl : t.heap.Ns mainGlobals mg) (bl : t.heap.Ns builtinsNs mb) (bb : ∀ y : Str, y ≠ "__name__" → mb y = bootBuiltins y) (nl : t.heap.NoLimit) (ng : t.gens = #[])
    (la : t.heap.get? a = some { cls := .type "list", data := .seq us.toArray }) (room : L2.Room k callerA)
    (F : ∀ base : Heap, K.In base → base.Ns mainGlobals mg → FnG P w K mg base CX k fa fd [x] sp) (bd : ∀ (s : Shared) (u : Value), BindsTo s fd ⟨[u], []⟩ [(x, u)])
    (nx : ∀ H e s', CX [] H t (fun _ _ _ => False) e s' → False) (H : Hp) (on : L2.Only H) (good : sp [.ref a] H (fun v _ => v = .bl true) fun _ _ _ => False) (hk : L2.HOk P w H t.heap) (sole : ∀ b, H b ≠ none → b = a) (own : H a ≠ none → K.lookup a = none) :
    codeAny (model P w) callerA (.call (.ref fa) ⟨[.ref a], []⟩) (fun r z => r = .ok (.ret (.bool true)) ∧ OldK t.heap z.heap ∧ z.os = t.os ∧ AllBare z.gens) t := by
  have seen : ∀ {b : Addr}, (b = a → H a ≠ none → False) → H b = none := fun {b} q => Classical.byContradiction fun n => q (sole b n) (sole b n ▸ n)
  have down : ∀ {b : Addr} {m : Str → Option Value}, t.heap.Ns b m → (L2.hidT t.heap H).Ns b m := by
    rintro b m ⟨o, es, ep, z, d, r⟩
    refine ⟨o, es, ep, L2.hidT_get z (seen fun e _ => ?_), d, r⟩
    subst e
    rw [la] at z
    cases z
    exact nomatch (show Data.seq us.toArray _ = Data.dict es ep from d)
  have kinD : K.In (L2.hidT t.heap H) := fun b o z => L2.hidT_get (kin b o z) (seen fun e n => by
    subst e
    rw [own n] at z
    cases z)
  have md : L2.Mod K mg (L2.hidT t.heap H) := ⟨kinD, down gl, ⟨mb, down bl, bb⟩, let ⟨mc, h1, h2⟩ := nl; ⟨mc, down h1, h2⟩⟩
  have start : L2.Env0 P w K mg (L2.hidT t.heap H) callerA [] t H := ⟨rfl, md, fun b o z => L2.of_hidT z, Nat.le_of_eq (L2.hidT_size _ _), trivial, fun b z => (nomatch (show b ∈ ([] : List Addr) from z)), hk, .of_eq ng⟩
  refine codeAny_mono ((F _ kinD (down gl)).run callerA [] t H ⟨[.ref a], []⟩ [.ref a] [.ref a] _ _ rfl room start (bd t (.ref a)) (.cons rfl .nil) good) ?_
  rintro (e | fl) z h
  · exact (nx H e z h).elim
  · cases fl with
    | ret u =>
      obtain ⟨v, H2, os, bare, un, hk2, rv, e⟩ := h
      cases (show v = .bl true from e)
      obtain rfl : u = Value.bool true := rv
      refine ⟨rfl, OldK.of_keep fun b o q => ?_, os, bare⟩
      cases n : H b with
      | none => exact un.keep b o q n (fun y => nomatch (show b ∈ ([] : List Addr) from y)) (by simp)
      | some y =>
        rcases on b with m | ⟨ob, xs, m⟩
        · rw [n] at m; cases m
        · have r1 := (hk b _ m).1
          have r2 := (hk2 b _ (un.frzs b ob _ m)).1
          rw [q] at r1
          cases r1
          exact r2
    | next => exact h.elim
    | brk => exact h.elim
    | cont => exact h.elim
theorem law_callG (kin : K.In t.heap) (gl : t.heap.Ns mainGlobals mg) (bl : t.heap.Ns builtinsNs mb) (bb : ∀ y : Str, y ≠ "__name__" → mb y = bootBuiltins y) (nl : t.heap.NoLimit) (ng : t.gens = #[])
    (la : t.heap.get? a = some { cls := .type "list", data := .seq us.toArray }) (hi : IntsAre us ns) (hl : ns.length ≤ sizeLine) (room : L2.Room k callerA)
    (F : ∀ base : Heap, K.In base → base.Ns mainGlobals mg → FnG P w K mg base CX k fa fd [x] sp) (bd : ∀ (s : Shared) (u : Value), BindsTo s fd ⟨[u], []⟩ [(x, u)])
    (good : ∀ H : Hp, L2.Only H → L2.SqL K H a (ns.map L2.V.int) → sp [.ref a] H (fun v _ => v = .bl true) fun _ _ _ => False) (nx : ∀ H e s', CX [] H t (fun _ _ _ => False) e s' → False) :
    codeAny (model P w) callerA (.call (.ref fa) ⟨[.ref a], []⟩) (fun r z => r = .ok (.ret (.bool true)) ∧ OldK t.heap z.heap ∧ z.os = t.os ∧ AllBare z.gens) t := by
  have rv := L2.vals_ints hi
  have ln := hi.length
  have go := lawG_at kin gl bl bb nl ng la room F bd nx
  by_cases m : ∃ o, K.lookup a = some o
  · obtain ⟨o, m⟩ := m
    have z := kin a o m
    rw [la] at z
    cases z
    have e0 : L2.Only fun _ => none := fun _ => .inl rfl
    refine go (fun _ => none) e0 (good _ e0 (.inr ⟨_, us.toArray, _, m, rfl, rfl, rfl, ?_, ?_⟩)) (fun b u y => nomatch (show (none : Option L2.HO) = some u from y)) (fun b y => absurd rfl y) fun y => absurd rfl y
    · rw [List.size_toArray, ln]; exact hl
    · simpa using rv
  · have m2 : K.lookup a = none := by
      cases e : K.lookup a with
      | none => rfl
      | some o => exact absurd ⟨o, e⟩ m
    let ob : Obj := { cls := .type "list", data := .seq us.toArray }
    let H : Hp := fun b => if b = a then some (.frz ob (.lst (ns.map L2.V.int))) else none
    have ha : H a = some (.frz ob (.lst (ns.map L2.V.int))) := if_pos rfl
    have hn : ∀ {b}, b ≠ a → H b = none := fun {b} e => if_neg e
    have on : L2.Only H := fun b => by
      by_cases e : b = a
      · subst e; exact .inr ⟨_, _, ha⟩
      · exact .inl (hn e)
    refine go H on (good H on (.inl (.inr ⟨ob, ha⟩))) (fun b u y => ?_) (fun b y => Classical.byContradiction fun e => y (hn e)) fun _ => m2
    by_cases e : b = a
    · subst e
      rw [ha] at y
      cases y
      exact ⟨la, by rw [List.length_map]; exact hl, us, _, rv, la⟩
    · rw [hn e] at y
      cases y
end
end N
end
section
set_option maxRecDepth 100000
set_option maxHeartbeats 2000000
/-! The operators by values: each keeps the layer's rule. -/
namespace N
open PySem PySem.Spec PyProof.Rows
section
variable {X : L2.Cx} {M : Names}
def bop : BOp → Operator
  | .add => .Add | .sub => .Sub | .mul => .Mult | .fdiv => .FloorDiv | .mod => .Mod | .pow => .Pow | .shl => .LShift | .shr => .RShift | .band => .BitAnd | .bor => .BitOr
theorem op_bin (op : BOp) : L2.OpR X (binaryOp (bop op)) (lowR X.K M (binW op)) := by
  intro pins s σ H vx vy v u Q I rv ru h
  obtain ⟨x, y, A, Qw, rx, ry, hA, h, k⟩ := h
  cases op with
  | add =>
    cases x <;> cases y <;> first | exact False.elim h | skip
    · cases rx; cases ry
      exact L2.op_add pins s σ H _ _ v u Q I rv ru ⟨_, _, rfl, rfl, k _ _ h _ _ (.int _) hA Fr.refl⟩
    · cases rx; cases ry
      exact L2.op_add_str pins s σ H _ _ v u Q I rv ru ⟨_, _, rfl, rfl, line_of h.1, k _ _ h.2 _ _ (.str _) hA Fr.refl⟩
    · cases rx with
      | tup h1 r1 =>
        cases ry with
        | tup h2 r2 =>
          have hl := h.1
          rw [← r1.length, ← r2.length] at hl
          refine op_catP pins s σ H _ _ v u Q I rv ru ⟨_, _, _, _, rfl, rfl, h1.t, h2.t, line_of hl, fun e => ?_, fun e => ?_, fun p o hp ho => ?_⟩
          · subst e; cases r1
            exact k _ _ h.2 _ _ (.tup h2 r2) hA Fr.refl
          · subst e; cases r2
            refine k _ _ h.2 _ _ (.tup h1 ?_) hA Fr.refl
            rw [List.append_nil]; exact r1
          · refine k _ _ h.2 _ _ (.tup (SqP.new ho) ((r1.append r2).tk (Tk.new hp))) (hA.newT hp) (Fr.newT hp)
    · cases rx; cases ry
      obtain ⟨xs, ys, ha, hb, hz, h⟩ := h
      obtain ⟨vs, h1, r1⟩ := hA _ _ ha
      obtain ⟨us, h2, r2⟩ := hA _ _ hb
      rw [← r1.length, ← r2.length] at hz
      refine L2.op_cat pins s σ H _ _ v u Q I rv ru ⟨_, _, _, _, rfl, rfl, h1, h2, line_of hz, fun p hp => ?_⟩
      exact k _ _ (h p (hA.free hp)) _ _ (.ref p) (hA.new hp ⟨_, L2.upd_same, (r1.append r2).tk (Tk.new hp)⟩) (Fr.new hp)
  | sub =>
    cases x <;> cases y <;> first | exact False.elim h | skip
    cases rx; cases ry
    exact L2.op_sub pins s σ H _ _ v u Q I rv ru ⟨_, _, rfl, rfl, k _ _ h _ _ (.int _) hA Fr.refl⟩
  | mul =>
    cases x <;> cases y <;> first | exact False.elim h | skip
    · cases rx; cases ry
      exact L2.op_mulW pins s σ H _ _ v u Q I rv ru ⟨_, _, rfl, rfl, h.1, k _ _ h.2 _ _ (.int _) hA Fr.refl⟩
    · cases ry
      cases rx with
      | tup h1 r1 =>
        obtain ⟨a1, a2, a3, a4, h⟩ := h
        refine op_repP pins s σ H _ _ v u Q I rv ru ⟨_, _, _, rfl, rfl, h1.t, fun e => a1 (r1.nil_iff.mp e), a2, a3, by rw [r1.length]; exact a4, fun p o hp ho => ?_⟩
        exact k _ _ h _ _ (.tup (SqP.new ho) ((r1.rep _).tk (Tk.new hp))) (hA.newT hp) (Fr.newT hp)
    · cases rx; cases ry
      obtain ⟨xs, ha, a2, a3, a4, h⟩ := h
      obtain ⟨vs, h1, r1⟩ := hA _ _ ha
      refine L2.op_rep pins s σ H _ _ v u Q I rv ru ⟨_, _, _, rfl, rfl, h1, a2, a3, line_of (by rw [r1.length]; exact a4), fun p hp => ?_⟩
      exact k _ _ (h p (hA.free hp)) _ _ (.ref p) (hA.new hp ⟨_, L2.upd_same, (r1.rep _).tk (Tk.new hp)⟩) (Fr.new hp)
  | fdiv =>
    cases x <;> cases y <;> first | exact False.elim h | skip
    cases rx; cases ry
    exact L2.op_fdivW pins s σ H _ _ v u Q I rv ru ⟨_, _, rfl, rfl, h.1, k _ _ h.2 _ _ (.int _) hA Fr.refl⟩
  | mod =>
    cases x <;> cases y <;> first | exact False.elim h | skip
    cases rx; cases ry
    exact L2.op_mod pins s σ H _ _ v u Q I rv ru ⟨_, _, rfl, rfl, h.1, k _ _ h.2 _ _ (.int _) hA Fr.refl⟩
  | pow =>
    cases x <;> cases y <;> first | exact False.elim h | skip
    cases rx; cases ry
    exact L2.op_pow pins s σ H _ _ v u Q I rv ru ⟨_, _, rfl, rfl, h.1, k _ _ h.2 _ _ (.int _) hA Fr.refl⟩
  | shl =>
    cases x <;> cases y <;> first | exact False.elim h | skip
    cases rx; cases ry
    exact L2.op_shl pins s σ H _ _ v u Q I rv ru ⟨_, _, rfl, rfl, h.1, k _ _ h.2 _ _ (.int _) hA Fr.refl⟩
  | shr =>
    cases x <;> cases y <;> first | exact False.elim h | skip
    cases rx; cases ry
    exact L2.op_shr pins s σ H _ _ v u Q I rv ru ⟨_, _, rfl, rfl, h.1, k _ _ h.2 _ _ (.int _) hA Fr.refl⟩
  | band => exact False.elim h
  | bor => exact False.elim h
theorem op_negW : L2.UnR X (unaryOp .USub) (lowU X.K M fun x A Q => match x with
    | .int i => Q (.int (-i)) A
    | _ => False) := by
  intro pins s σ H vx v Q I rv h
  obtain ⟨x, A, Qw, rx, hA, h, k⟩ := h
  cases x <;> first | exact False.elim h | skip
  cases rx
  exact L2.un_neg pins s σ H _ v Q I rv ⟨_, rfl, k _ _ h _ _ (.int _) hA Fr.refl⟩
/-! ### data -/
mutual
theorem dp_of {K : PySem.W.Frag} {H : Hp} {A : AH} (hA : RH K M H A) : ∀ {d : PyData} {v : V} {w : W}, DW A w d → Rep K H v w → L2.Dp K H v d
  | _, _, _, .non, .non => .non
  | _, _, _, .bl b, .bl _ => .bl b
  | _, _, _, .int i, .int _ => .int i
  | _, _, _, .str x, .str _ => .str x
  | _, _, _, .tup h, .tup q r => .tup q.t (dps_of hA h r)
  | _, _, _, .lst h d, .ref _ => by
    obtain ⟨vs, e, r⟩ := hA _ _ h
    exact .lst (L2.SqL.of e) (dps_of hA d r)
theorem dps_of {K : PySem.W.Frag} {H : Hp} {A : AH} (hA : RH K M H A) : ∀ {ds : List PyData} {vs : List V} {ws : List W}, DWs A ws ds → Reps K H vs ws → L2.DpAll K H vs ds
  | _, _, _, .nil, .nil => .nil
  | _, _, _, .cons d ds, .cons r rs => .cons (dp_of hA d r) (dps_of hA ds rs)
end
theorem okD.sh {d : PyData} (h : okD d) : SeqAt.shaped d = true := by
  unfold SeqAt.shaped
  rw [h.1, Bool.true_and]
  exact decide_eq_true h.2
/-! ### dicts -/
theorem dc_of {K : PySem.W.Frag} {M : Names} {H : Hp} {A : AH} (hA : RH K M H A) {a : Addr} {kws : List (W × W)} (h : Dc A a kws) : ∃ kv, L2.Rd H a (.dK kv) ∧ Kvs K H kv kws := by
  rcases h with h | ⟨g, h⟩
  · obtain ⟨kv, e, q⟩ := hA _ _ h
    exact ⟨kv, .inl e, q⟩
  · obtain ⟨e, q⟩ := hA _ _ h
    exact ⟨g.2, .inr ⟨g.1, e⟩, q⟩
theorem dget {H : Hp} {a : Addr} {kv : List (L2.Key × V)} {k : L2.Key} (e : L2.Rd H a (.dK kv)) : L2.DGet H a (L2.kV k) (L2.valV kv k) := .inl ⟨_, _, e, rfl, rfl⟩
theorem key_of {K : PySem.W.Frag} {H : Hp} {v : V} {w : W} (h : isKey w = true) (r : Rep K H v w) : ∃ k, v = L2.kV k ∧ KRep k w := by
  cases r with
  | int i => exact ⟨.inl i, rfl, .int i⟩
  | str x => exact ⟨.inr x, rfl, .str x⟩
  | _ => cases h
theorem KRep.b {k j : L2.Key} {x y : W} (a : KRep k x) (b : KRep j y) : keyB x y = decide (k = j) := by
  cases a <;> cases b
  · rw [L2.key_ll]; rfl
  · rw [L2.key_lr]; rfl
  · rw [L2.key_rl]; rfl
  · rw [L2.key_rr]
    show (_ == _) = _
    rw [Bool.eq_iff_iff]; simp
theorem Kvs.at {K : PySem.W.Frag} {H : Hp} {k : L2.Key} {x : W} (kr : KRep k x) : ∀ {kvs : List (L2.Key × V)} {kws : List (W × W)}, Kvs K H kvs kws → (getK kws x = none ∧ L2.valV kvs k = none) ∨ ∃ v w, getK kws x = some w ∧ L2.valV kvs k = some v ∧ Rep K H v w
  | _, _, .nil => .inl ⟨rfl, rfl⟩
  | _, _, .cons (k := j) (x := y) kr' r t => by
    have e := kr'.b kr
    by_cases h : j = k
    · refine .inr ⟨_, _, ?_, L2.valV_pos h, r⟩
      unfold getK
      rw [List.find?_cons]
      simp only [e, h, decide_true]
      rfl
    · have e2 : keyB y x = false := by rw [e]; exact decide_eq_false h
      rcases Kvs.at kr t with ⟨h1, h2⟩ | ⟨v, w, h1, h2, h3⟩
      · refine .inl ⟨?_, by rw [L2.valV_neg h]; exact h2⟩
        unfold getK at h1 ⊢
        rw [List.find?_cons]
        simp only [e2]
        exact h1
      · refine .inr ⟨v, w, ?_, by rw [L2.valV_neg h]; exact h2, h3⟩
        unfold getK at h1 ⊢
        rw [List.find?_cons]
        simp only [e2]
        exact h1
theorem Kvs.isSome {K : PySem.W.Frag} {H : Hp} {k : L2.Key} {x : W} {kvs : List (L2.Key × V)} {kws : List (W × W)} (q : Kvs K H kvs kws) (kr : KRep k x) : (L2.valV kvs k).isSome = (getK kws x).isSome := by
  rcases q.at kr with ⟨h1, h2⟩ | ⟨v, w, h1, h2, _⟩ <;> rw [h1, h2] <;> rfl
theorem Kvs.get {K : PySem.W.Frag} {H : Hp} {k : L2.Key} {x w : W} {kvs : List (L2.Key × V)} {kws : List (W × W)} (q : Kvs K H kvs kws) (kr : KRep k x) (h : getK kws x = some w) : ∃ v, L2.valV kvs k = some v ∧ Rep K H v w := by
  rcases q.at kr with ⟨h1, h2⟩ | ⟨v, w', h1, h2, h3⟩
  · rw [h1] at h; cases h
  · rw [h1] at h; cases h; exact ⟨v, h2, h3⟩
theorem Kvs.length {K : PySem.W.Frag} {H : Hp} : ∀ {kvs : List (L2.Key × V)} {kws : List (W × W)}, Kvs K H kvs kws → kvs.length = kws.length
  | _, _, .nil => rfl
  | _, _, .cons _ _ t => by rw [List.length_cons, List.length_cons, t.length]
theorem Kvs.append {K : PySem.W.Frag} {H : Hp} : ∀ {a c : List (L2.Key × V)} {b d : List (W × W)}, Kvs K H a b → Kvs K H c d → Kvs K H (a ++ c) (b ++ d)
  | _, _, _, _, .nil, h => h
  | _, _, _, _, .cons k r t, h => .cons k r (t.append h)
theorem Kvs.any {K : PySem.W.Frag} {H : Hp} {k : L2.Key} {x : W} (kr : KRep k x) : ∀ {kvs : List (L2.Key × V)} {kws : List (W × W)}, Kvs K H kvs kws → (kvs.any fun kv => decide (kv.1 = k)) = kws.any fun p => keyB p.1 x
  | _, _, .nil => rfl
  | _, _, .cons kr' r t => by rw [List.any_cons, List.any_cons, Kvs.any kr t, kr'.b kr]
theorem Kvs.repl {K : PySem.W.Frag} {H : Hp} {k : L2.Key} {x w : W} {v : V} (kr : KRep k x) (rv : Rep K H v w) : ∀ {kvs : List (L2.Key × V)} {kws : List (W × W)}, Kvs K H kvs kws →
    Kvs K H (kvs.map fun kv => if kv.1 = k then (kv.1, v) else kv) (kws.map fun p => if keyB p.1 x then (p.1, w) else p)
  | _, _, .nil => .nil
  | _, _, .cons (k := j) kr' r t => by
    rw [List.map_cons, List.map_cons]
    have e := kr'.b kr
    by_cases h : j = k
    · simp only [h, if_true, e, decide_true]
      exact .cons (h ▸ kr') rv (t.repl kr rv)
    · have e2 := e.trans (decide_eq_false h)
      simp only [h, if_false, e2]
      exact .cons kr' r (t.repl kr rv)
theorem Kvs.put {K : PySem.W.Frag} {H : Hp} {k : L2.Key} {x w : W} {v : V} {kvs : List (L2.Key × V)} {kws : List (W × W)} (q : Kvs K H kvs kws) (kr : KRep k x) (rv : Rep K H v w) : Kvs K H (L2.putK kvs k v) (putK kws x w) := by
  unfold L2.putK putK
  rw [q.any kr]
  split
  · exact q.repl kr rv
  · exact q.append (.cons kr rv .nil)
/-! ### comparisons -/
def cop : COp → Option CmpOp
  | .lt => some .Lt | .le => some .LtE | .gt => some .Gt | .ge => some .GtE | .eq => some .Eq | .ne => some .NotEq | .isin => some .In | .notin => some .NotIn
  | _ => none
theorem cop_cases (op : COp) {cp : CmpOp} (hc : cop op = some cp) : (op = .lt ∧ cp = .Lt) ∨ (op = .le ∧ cp = .LtE) ∨ (op = .gt ∧ cp = .Gt) ∨ (op = .ge ∧ cp = .GtE) ∨ (op = .eq ∧ cp = .Eq) ∨ (op = .ne ∧ cp = .NotEq) ∨ (op = .isin ∧ cp = .In) ∨ (op = .notin ∧ cp = .NotIn) := by
  cases op <;> simp [cop] at hc <;> simp [hc]
theorem op_cmp (hu : X.A.units + 65 < cLine) (hM : M.w = X.w) (op : COp) (cp : CmpOp) (hc : cop op = some cp) : L2.OpR X (compareOp cp) (lowR X.K M fun x y A Q => cmpW op x y A fun b => Q (.bl b) A) := by
  intro pins s σ H vx vy v u Q I rv ru h
  obtain ⟨x, y, A, Qw, rx, ry, hA, h, k⟩ := h
  have hu' : X.A.units + 64 < cLine := by omega
  rcases cop_cases op hc with ⟨rfl, rfl⟩ | ⟨rfl, rfl⟩ | ⟨rfl, rfl⟩ | ⟨rfl, rfl⟩ | ⟨rfl, rfl⟩ | ⟨rfl, rfl⟩ | ⟨rfl, rfl⟩ | ⟨rfl, rfl⟩
  · cases x <;> cases y <;> first | exact False.elim h | skip
    · cases rx; cases ry
      exact L2.op_lt pins s σ H _ _ v u Q I rv ru ⟨_, _, rfl, rfl, k _ _ h _ _ (.bl _) hA Fr.refl⟩
    · cases rx; cases ry
      exact L2.op_lt_str pins s σ H _ _ v u Q I rv ru ⟨_, _, rfl, rfl, k _ _ h _ _ (.bl _) hA Fr.refl⟩
  · cases x <;> cases y <;> first | exact False.elim h | skip
    cases rx; cases ry
    exact L2.op_le pins s σ H _ _ v u Q I rv ru ⟨_, _, rfl, rfl, k _ _ h _ _ (.bl _) hA Fr.refl⟩
  · cases x <;> cases y <;> first | exact False.elim h | skip
    cases rx; cases ry
    exact L2.op_gt pins s σ H _ _ v u Q I rv ru ⟨_, _, rfl, rfl, k _ _ h _ _ (.bl _) hA Fr.refl⟩
  · cases x <;> cases y <;> first | exact False.elim h | skip
    cases rx; cases ry
    exact L2.op_ge pins s σ H _ _ v u Q I rv ru ⟨_, _, rfl, rfl, k _ _ h _ _ (.bl _) hA Fr.refl⟩
  · obtain ⟨d, e, hd, he, sd, se, h⟩ := h
    exact L2.op_eqD hu' pins s σ H _ _ v u Q I rv ru ⟨d, e, dp_of hA hd rx, dp_of hA he ry, sd.sh, se.sh, k _ _ h _ _ (.bl _) hA Fr.refl⟩
  · obtain ⟨d, e, hd, he, sd, se, h⟩ := h
    exact L2.op_neD hu' pins s σ H _ _ v u Q I rv ru ⟨d, e, dp_of hA hd rx, dp_of hA he ry, sd.sh, se.sh, k _ _ h _ _ (.bl _) hA Fr.refl⟩
  · cases y <;> first | exact False.elim h | skip
    · obtain ⟨c, rfl, h⟩ := h
      cases rx; cases ry
      exact L2.op_in_sign pins s σ H _ _ v u Q I rv ru ⟨_, _, rfl, rfl, k _ _ h _ _ (.bl _) hA Fr.refl⟩
    · obtain ⟨d, ds, hd, he, sd, se, h⟩ := h
      obtain ⟨as, r1⟩ := L2.Dp.reads I d vx v (dp_of hA hd rx) rv
      obtain ⟨bs, r2⟩ := L2.Dp.reads I (.tuple ds) vy u (dp_of hA he ry) ru
      exact SeqAt.in_tuple_reads r2 r1 (SeqAt.canLay_of_shaped se.sh) (SeqAt.canLay_of_shaped sd.sh) (PyProof.Rows.room_in_shaped sd.sh hu) ⟨.bl _, H, I, rfl, k _ _ h _ _ (.bl _) hA Fr.refl⟩
    · cases ry
      rcases h with ⟨d, ds, hd, he, sd, se, h⟩ | ⟨kvs, ha, hk, h⟩ | ⟨kvs, ha, hk, h⟩
      · exact L2.op_inD hu pins s σ H _ _ v u Q I rv ru ⟨d, ds, dp_of hA hd rx, dp_of hA he (.ref _), sd.sh, se.sh, k _ _ h _ _ (.bl _) hA Fr.refl⟩
      · obtain ⟨kv, e, q⟩ := dc_of hA ha
        obtain ⟨ky, rfl, kr⟩ := key_of hk rx
        cases (show u = Value.ref _ from ru)
        exact L2.d_in (by omega) I (dget e) rv fun s' I' => ⟨.bl _, H, I', rfl, by rw [q.isSome kr]; exact k _ _ h _ _ (.bl _) hA Fr.refl⟩
      · cases (show u = Value.ref _ from ru)
        exact n_in I hM hu (hA _ _ ha) hk rx rv fun s' I' => ⟨.bl _, H, I', rfl, k _ _ h _ _ (.bl _) hA Fr.refl⟩
  · cases y <;> first | exact False.elim h | skip
    · obtain ⟨c, rfl, h⟩ := h
      cases rx; cases ry
      exact L2.op_notIn_sign pins s σ H _ _ v u Q I rv ru ⟨_, _, rfl, rfl, k _ _ h _ _ (.bl _) hA Fr.refl⟩
    · obtain ⟨d, ds, hd, he, sd, se, h⟩ := h
      obtain ⟨as, r1⟩ := L2.Dp.reads I d vx v (dp_of hA hd rx) rv
      obtain ⟨bs, r2⟩ := L2.Dp.reads I (.tuple ds) vy u (dp_of hA he ry) ru
      exact SeqAt.notIn_tuple_reads r2 r1 (SeqAt.canLay_of_shaped se.sh) (SeqAt.canLay_of_shaped sd.sh) (PyProof.Rows.room_in_shaped sd.sh hu) ⟨.bl _, H, I, rfl, k _ _ h _ _ (.bl _) hA Fr.refl⟩
    · cases ry
      rcases h with ⟨d, ds, hd, he, sd, se, h⟩ | ⟨kvs, ha, hk, h⟩ | ⟨kvs, ha, hk, h⟩
      · exact L2.op_notInD hu pins s σ H _ _ v u Q I rv ru ⟨d, ds, dp_of hA hd rx, dp_of hA he (.ref _), sd.sh, se.sh, k _ _ h _ _ (.bl _) hA Fr.refl⟩
      · obtain ⟨kv, e, q⟩ := dc_of hA ha
        obtain ⟨ky, rfl, kr⟩ := key_of hk rx
        cases (show u = Value.ref _ from ru)
        exact L2.d_notIn (by omega) I (dget e) rv fun s' I' => ⟨.bl _, H, I', rfl, by rw [q.isSome kr]; exact k _ _ h _ _ (.bl _) hA Fr.refl⟩
      · cases (show u = Value.ref _ from ru)
        exact n_notin I hM hu (hA _ _ ha) hk rx rv fun s' I' => ⟨.bl _, H, I', rfl, k _ _ h _ _ (.bl _) hA Fr.refl⟩
theorem Rep.isNon {K : PySem.W.Frag} {H : Hp} {v : V} {w : W} (r : Rep K H v w) : w.isNon = decide (v = .non) := by cases r <;> rfl
/-- is None -/
theorem op_isN (b : Bool) : L2.OpR X (compareOp (if b then .IsNot else .Is)) (fun x y H Q => y = .non ∧ lowU X.K M (fun x A Q => cmpW (if b then .isnN else .isN) x .non A fun k => Q (.bl k) A) x H Q) := by
  intro pins s σ H vx vy v u Q I rv ru h
  obtain ⟨rfl, x, A, Qw, rx, hA, h, k⟩ := h
  cases b with
  | false =>
    refine L2.op_isN pins s σ H _ _ v u Q I rv ru ⟨rfl, ?_⟩
    rw [← rx.isNon]
    exact k _ _ h _ _ (.bl _) hA Fr.refl
  | true =>
    refine L2.op_notN pins s σ H _ _ v u Q I rv ru ⟨rfl, ?_⟩
    rw [← rx.isNon]
    exact k _ _ h _ _ (.bl _) hA Fr.refl
/-! ### subscripts -/
theorem idx_eq (n : Nat) (i : Int) : idx n i = L2.ixN n i := rfl
theorem at_eq {α : Type} (xs : List α) (i : Int) : at? xs i = L2.atI xs i := rfl
theorem Reps.atI {K : PySem.W.Frag} {H : Hp} {vs : List V} {ws : List W} {j : Int} {w : W} (r : Reps K H vs ws) (e : at? ws j = some w) : ∃ v, L2.atI vs j = some v ∧ Rep K H v w := by
  rw [at_eq] at e
  unfold L2.atI at e ⊢
  rw [r.length]
  cases h : L2.ixN ws.length j with
  | none => rw [h] at e; cases e
  | some m =>
    rw [h] at e
    exact r.get (i := m) e
theorem ix_lst {K : PySem.W.Frag} {H : Hp} {a : Addr} {ws : List W} (h : ∃ vs, L2.SqL K H a vs ∧ Reps K H vs ws) : True := trivial
theorem fz_of {K : PySem.W.Frag} {H : Hp} {v : V} {ws : List W} (r : Rep K H v (.fz ws)) : ∃ a vs, v = .ref a ∧ L2.SqL K H a vs ∧ Reps K H vs ws := by
  cases r with
  | fz h q => exact ⟨_, _, rfl, .inl (.inr ⟨_, h⟩), q⟩
  | fk h q => exact ⟨_, _, rfl, sqL_none h, q⟩
theorem ix_any (hu0 : X.A.units + 65 < cLine) (hM : M.w = X.w) : L2.IxR X (lowR X.K M ixW) := by
  have hu : X.A.units + 1 < cLine := by omega
  intro ev es pins s σ H vx vy v u Q I rv ru h hsub
  obtain ⟨x, y, A, Qw, rx, ry, hA, h, k⟩ := h
  cases x with
  | str z =>
    cases y <;> first | exact False.elim h | skip
    cases rx; cases ry
    obtain ⟨hz, c, hc, h⟩ := h
    exact L2.ix_str ev es pins s σ H _ _ v u Q I rv ru ⟨_, _, _, rfl, rfl, line_of hz, hc, k _ _ h _ _ (.str _) hA Fr.refl⟩ hsub
  | tup xs =>
    cases y <;> first | exact False.elim h | skip
    cases ry
    cases rx with
    | tup h1 r1 =>
      obtain ⟨w, hw, h⟩ := h
      obtain ⟨z, hz, rz⟩ := r1.atI hw
      exact L2.ix_tup ev es pins s σ H _ _ v u Q I rv ru ⟨_, _, _, _, rfl, rfl, h1.t, hz, k _ _ h _ _ rz hA Fr.refl⟩ hsub
  | fz xs =>
    cases y <;> first | exact False.elim h | skip
    cases ry
    obtain ⟨a, vs, rfl, h1, r1⟩ := fz_of rx
    obtain ⟨w, hw, h⟩ := h
    obtain ⟨z, hz, rz⟩ := r1.atI hw
    exact L2.ix_list ev es pins s σ H _ _ v u Q I rv ru ⟨_, _, _, _, rfl, rfl, h1, hz, k _ _ h _ _ rz hA Fr.refl⟩ hsub
  | ref a =>
    cases rx
    have h' : (∃ xs j v, y = .int j ∧ A a = some (.lst xs) ∧ at? xs j = some v ∧ Qw v A) ∨ (∃ kvs v, Dc A a kvs ∧ isKey y = true ∧ getK kvs y = some v ∧ Qw v A) ∨ ∃ kvs v, A a = some (.dnt kvs) ∧ isNK y = true ∧ getN kvs y = some v ∧ Qw v A := by
      cases y <;> exact h
    rcases h' with ⟨xs, j, w, rfl, ha, hw, h⟩ | ⟨kvs, w, ha, hk, hw, h⟩ | ⟨kvs, w, ha, hk, hw, h⟩
    · cases ry
      obtain ⟨vs, e, r1⟩ := hA _ _ ha
      obtain ⟨z, hz, rz⟩ := r1.atI hw
      exact L2.ix_list ev es pins s σ H _ _ v u Q I rv ru ⟨_, _, _, _, rfl, rfl, L2.SqL.of e, hz, k _ _ h _ _ rz hA Fr.refl⟩ hsub
    · obtain ⟨kv, e, q⟩ := dc_of hA ha
      obtain ⟨ky, rfl, kr⟩ := key_of hk ry
      obtain ⟨z, hz, rz⟩ := q.get kr hw
      have g : L2.DGet H a (L2.kV ky) (some z) := hz ▸ dget e
      cases (show v = Value.ref _ from rv)
      exact tail_any (L2.dict_typeIs I g) PySem.F.slot_dict_getitem.lookup (L2.d_getItem hu I g ru fun w' s' I' r' => ⟨z, H, I', r', k _ _ h _ _ rz hA Fr.refl⟩) hsub
    · obtain ⟨xs, hm, _⟩ := dn_at I hM (hA _ _ ha)
      cases (show v = Value.ref _ from rv)
      exact tail_any hm.typeIs PySem.F.slot_dict_getitem.lookup (n_get I hM hu0 (hA _ _ ha) hk ry ru hw fun z y s' I' r' l' => ⟨z, H, I', l', k _ _ h _ _ r' hA Fr.refl⟩) hsub
  | _ => exact False.elim h
theorem cl_eq (n d : Nat) (o : Option Int) : cl n d o = HT.sIx n d o := by
  cases o with
  | none => rfl
  | some v => rfl
theorem cut_eq (vs : List V) (lo hi : Option Int) : cut vs lo hi = L2.cutV vs lo hi := by
  unfold cut L2.cutV
  rw [cl_eq, cl_eq]
theorem Reps.cut {K : PySem.W.Frag} {H : Hp} {vs : List V} {ws : List W} (r : Reps K H vs ws) (lo hi : Option Int) : Reps K H (L2.cutV vs lo hi) (N.cut ws lo hi) := by
  rw [← cut_eq]
  unfold N.cut
  rw [r.length]
  exact (r.drop _).take _
def lowSl (K : PySem.W.Frag) (M : Names) : V → Option Int → Option Int → Hp → L2.VK → Prop := fun vx lo hi H Q => ∃ x A Qw, Rep K H vx x ∧ RH K M H A ∧ slW x lo hi A Qw ∧ ∀ w A', Qw w A' → Lk K M H A Q w A'
theorem sl_any : L2.SlR X (lowSl X.K M) := by
  intro pins s σ H vx v vl vu lo hi sl Q I rv hs pl pu h
  obtain ⟨x, A, Qw, rx, hA, h, k⟩ := h
  cases x with
  | str z =>
    cases rx
    obtain ⟨hz, h⟩ := h
    have e : L2.cutS z lo hi = ⟨(cut z.cps.toList lo hi).toArray⟩ := by
      unfold L2.cutS cut
      rw [cl_eq, cl_eq]
      have el : z.cps.toList.length = z.length := by simp [Str.length]
      rw [el]
    exact L2.sl_str pins s σ H _ v vl vu lo hi sl Q I rv hs pl pu ⟨z, rfl, line_of hz, by rw [e]; exact k _ _ h _ _ (.str _) hA Fr.refl⟩
  | tup xs =>
    cases rx with
    | tup h1 r1 =>
      refine sl_tupP pins s σ H _ v vl vu lo hi sl Q I rv hs pl pu ⟨_, _, rfl, h1.t, fun e => ?_, fun p o hp ho => ?_⟩
      · refine k _ _ h _ _ (.tup h1 ?_) hA Fr.refl
        have q := r1.cut lo hi
        unfold L2.cutV at q
        rw [e.1, e.2, List.drop_zero, Nat.sub_zero, List.take_length] at q
        exact q
      · exact k _ _ h _ _ (.tup (SqP.new ho) ((r1.cut lo hi).tk (Tk.new hp))) (hA.newT hp) (Fr.newT hp)
  | fz xs =>
    obtain ⟨a, vs, rfl, h1, r1⟩ := fz_of rx
    refine L2.sl_list pins s σ H _ v vl vu lo hi sl Q I rv hs pl pu ⟨_, _, rfl, h1, fun p hp => ?_⟩
    exact k _ _ (h p (hA.free hp)) _ _ (.ref p) (hA.new hp ⟨_, L2.upd_same, (r1.cut lo hi).tk (Tk.new hp)⟩) (Fr.new hp)
  | ref a =>
    cases rx
    obtain ⟨xs, ha, h⟩ := h
    obtain ⟨vs, e, r1⟩ := hA _ _ ha
    refine L2.sl_list pins s σ H _ v vl vu lo hi sl Q I rv hs pl pu ⟨_, _, rfl, L2.SqL.of e, fun p hp => ?_⟩
    exact k _ _ (h p (hA.free hp)) _ _ (.ref p) (hA.new hp ⟨_, L2.upd_same, (r1.cut lo hi).tk (Tk.new hp)⟩) (Fr.new hp)
  | _ => exact False.elim h
/-! ### built-ins by their names -/
theorem reps1 {K : PySem.W.Frag} {H : Hp} {vs : List V} {w : W} (r : Reps K H vs [w]) : ∃ v, vs = [v] ∧ Rep K H v w := by
  cases r with
  | cons a b => cases b; exact ⟨_, rfl, a⟩
theorem reps2 {K : PySem.W.Frag} {H : Hp} {vs : List V} {w x : W} (r : Reps K H vs [w, x]) : ∃ v u, vs = [v, u] ∧ Rep K H v w ∧ Rep K H u x := by
  cases r with
  | cons a b =>
    obtain ⟨u, rfl, q⟩ := reps1 b
    exact ⟨_, _, rfl, a, q⟩
/-- a list or a tuple that may be read -/
theorem seq_of {K : PySem.W.Frag} {H : Hp} {A : AH} {v : V} {w : W} {k : List W → Prop} (hA : RH K M H A) (r : Rep K H v w) (h : seqOf w A k) : ∃ a vs ws, v = .ref a ∧ (L2.SqL K H a vs ∨ L2.SqT K H a vs) ∧ Reps K H vs ws ∧ k ws ∧ (L2.SqL K H a vs ∨ w = .tup ws) := by
  cases w with
  | tup xs =>
    cases r with
    | tup h1 r1 => exact ⟨_, _, xs, rfl, .inr h1.t, r1, h, .inr rfl⟩
  | ref a =>
    cases r
    obtain ⟨xs, ha, h⟩ := h
    obtain ⟨vs, e, r1⟩ := hA _ _ ha
    exact ⟨a, vs, xs, rfl, .inl (L2.SqL.of e), r1, h, .inl (L2.SqL.of e)⟩
  | _ => exact False.elim h
theorem reps_bl {K : PySem.W.Frag} {H : Hp} : ∀ {ws : List W} {vs : List V} {bs : List Bool}, Reps K H vs ws → allB ws = some bs → vs = bs.map .bl
  | [], _, _, .nil, h => by cases h; rfl
  | .bl b :: r, _, _, .cons (.bl _) t, h => by
    unfold allB at h
    cases e : allB r with
    | none => rw [e] at h; cases h
    | some l => rw [e] at h; cases h; rw [reps_bl t e]; rfl
  | .non :: _, _, _, _, h => by cases h
  | .int _ :: _, _, _, _, h => by cases h
  | .str _ :: _, _, _, _, h => by cases h
  | .tup _ :: _, _, _, _, h => by cases h
  | .fz _ :: _, _, _, _, h => by cases h
  | .ref _ :: _, _, _, _, h => by cases h
  | .exc _ _ :: _, _, _, _, h => by cases h
theorem reps_int {K : PySem.W.Frag} {H : Hp} : ∀ {ws : List W} {vs : List V} {bs : List Int}, Reps K H vs ws → allI ws = some bs → vs = bs.map .int
  | [], _, _, .nil, h => by cases h; rfl
  | .int b :: r, _, _, .cons (.int _) t, h => by
    unfold allI at h
    cases e : allI r with
    | none => rw [e] at h; cases h
    | some l => rw [e] at h; cases h; rw [reps_int t e]; rfl
  | .non :: _, _, _, _, h => by cases h
  | .bl _ :: _, _, _, _, h => by cases h
  | .str _ :: _, _, _, _, h => by cases h
  | .tup _ :: _, _, _, _, h => by cases h
  | .fz _ :: _, _, _, _, h => by cases h
  | .ref _ :: _, _, _, _, h => by cases h
  | .exc _ _ :: _, _, _, _, h => by cases h
/-! ### dict(pairs) -/
theorem Kvs.merge {K : PySem.W.Frag} {H : Hp} : ∀ {more acc : List (L2.Key × V)} {mw aw : List (W × W)}, Kvs K H more mw → Kvs K H acc aw → Kvs K H (L2.mergeK acc more) (mrgW aw mw)
  | _, _, _, _, .nil, q => q
  | _, acc, _, aw, .cons (k := ky) (v := v) (x := x) (w := w) (r := r) (s := s) kr rv t, q => by
    show Kvs K H (L2.mergeK (L2.putK acc ky v) r) (mrgW (putK aw x w) s)
    exact Kvs.merge t (q.put kr rv)
theorem pairs_at {pins : List (Addr × Obj)} {σ : L2.St} {H : Hp} {s : Shared} (I : L2.Inv X pins σ H s) : ∀ {xs : List W} {kws : List (W × W)} {vs : List V} {its : List Value}, Reps X.K H vs xs → L2.Vals vs its → prsW xs = some kws →
    ∃ (Ts : List Addr) (ps : List (Value × Value)) (kvs : List (L2.Key × V)) (prs : List (L2.Key × Value)), its = Ts.map Value.ref ∧ ps.length = Ts.length ∧ prs.length = Ts.length ∧
      (∀ (j : Nat) (p : Value × Value), ps[j]? = some p → ∃ (T : Addr) (q : L2.Key × Value), Ts[j]? = some T ∧ prs[j]? = some q ∧ s.heap.IsTuple T #[p.1, p.2] ∧ q.2 = p.2 ∧ (L2.mixKind X.prog X.w).is q.1 p.1 = true) ∧ L2.KV kvs prs ∧ Kvs X.K H kvs kws
  | [], _, _, _, .nil, .nil, h => by
    cases h
    exact ⟨[], [], [], [], rfl, rfl, rfl, (fun j p h => by simp at h), .nil, .nil⟩
  | x :: xs, kws, _, _, .cons rx rxs, .cons r rs, h => by
    unfold prsW at h
    split at h
    · rename_i hnil; cases hnil
    · rename_i k v r' heq
      cases heq
      split at h
      · rename_i hk
        cases hp : prsW xs with
        | none => rw [hp] at h; cases h
        | some kws' =>
          rw [hp] at h
          cases h
          obtain ⟨Ts, ps, kvs, prs, rfl, l1, l2, hj, kv, kw⟩ := pairs_at I rxs rs hp
          cases rx with
          | tup hq r2 =>
            cases r2 with
            | cons rk r3 =>
              cases r3 with
              | cons rv r4 =>
                cases r4
                obtain ⟨ky, rfl, kr⟩ := key_of hk rk
                obtain ⟨its2, rvs, ht, _⟩ := I.tuple hq.t
                obtain ⟨u1, u2, rfl, ru1, ru2⟩ := L2.vals2 rvs
                rename_i T vs' v'
                cases (show _ = Value.ref _ from r)
                refine ⟨_ :: Ts, (u1, u2) :: ps, (ky, _) :: kvs, (ky, u2) :: prs, rfl, by rw [List.length_cons, List.length_cons, l1], by rw [List.length_cons, List.length_cons, l2], fun j p hjp => ?_, .cons ⟨rfl, ru2⟩ kv, .cons kr rv kw⟩
                cases j with
                | zero =>
                  have e' : (u1, u2) = p := Option.some.inj hjp
                  subst e'
                  exact ⟨_, _, rfl, rfl, ht, rfl, L2.kV_is ru1⟩
                | succ j =>
                  obtain ⟨T', q, e1, e2, e3⟩ := hj j p (by simpa using hjp)
                  exact ⟨T', q, by simpa using e1, by simpa using e2, e3⟩
      · cases h
    · cases h
theorem dict_src {pins : List (Addr × Obj)} {σ : L2.St} {H : Hp} {s : Shared} {Q : L2.VK} {A : AH} {T : String} {a : Addr} {items : List Value} {vs : List V} {xs : List W} {kws : List (W × W)} (hT : T = "list" ∨ T = "tuple") (hc : X.calm = true) (I : L2.Inv X pins σ H s) (g : RH X.K M H A)
    (hp : PlainSeq T s.heap a items.toArray) (rv : L2.Vals vs items) (r : Reps X.K H vs xs) (hz : vs.length ≤ sizeLine) (h : prsW xs = some kws) (k : ∀ p, H p = none → ∀ kvs, Kvs X.K H kvs (mrgW [] kws) → Q (.ref p) (L2.upd H p (.dK kvs))) :
    wpAny (model X.prog X.w) X.A (call (.type "dict") [.ref a]) (L2.EP X pins σ Q) X.xe s := by
  obtain ⟨Ts, ps, kvs, prs, rfl, l1, l2, hj, kv, kw⟩ := pairs_at I r rv h
  have hl : vs.length = Ts.length := by have q := rv.length; rw [List.length_map] at q; exact q
  have pit : PairItems s.heap (Ts.map Value.ref).toArray (fun j => (Ts[j]?).getD 0) ps := by
    refine ⟨by simp [l1], fun j kk v e => ?_⟩
    obtain ⟨T', q, e1, _, e3, _⟩ := hj j (kk, v) e
    exact ⟨by simp [e1], by show PairAt s.heap ((Ts[j]?).getD 0) kk v; rw [e1]; exact .inl e3⟩
  have have_ : PairsHave (L2.mixKind X.prog X.w) ps.length (PairRel ps) prs := by
    refine ⟨by rw [l1, l2], fun i key v e => ?_⟩
    obtain ⟨T', q, _, e2, _, e4, e5⟩ := hj i (key, v) e
    refine ⟨q.1, ?_, e5⟩
    obtain ⟨q1, q2⟩ := q
    have e4' : q2 = v := e4
    rw [e2, e4']
  have fin : ∀ h' tk, h'.DictOf (L2.mixKind X.prog X.w) s.heap.objs.size (merged [] prs) → (∀ b o, s.heap.get? b = some o → h'.get? b = some o) → L2.EP X pins σ Q (.ref s.heap.objs.size) { s with heap := h', toks := tk } := fun h' tk hd kp => by
    have hm : (s.heap.objs.size == sysModules) = false := beq_eq_false_iff_ne.mpr (Nat.ne_of_gt I.big)
    have hlen : (L2.mergeK [] kvs).length ≤ sizeLine := by
      refine Nat.le_trans (L2.length_mergeK kvs []) ?_
      rw [List.length_nil, Nat.zero_add, kv.length, l2, ← hl]
      exact hz
    exact ⟨.ref s.heap.objs.size, L2.upd H s.heap.objs.size (.dK (L2.mergeK [] kvs)), I.laid (t' := tk) kp (Nat.le_refl _) (show L2.ObjOk X.prog X.w _ _ _ (.dK (L2.mergeK [] kvs)) from ⟨hlen, hm, merged [] prs, L2.KV.merge kv .nil, hd⟩), rfl, k _ (I.hok.fresh (Nat.le_refl _)) _ (Kvs.merge kw .nil)⟩
  rcases hT with rfl | rfl
  · exact call_dict_pairs (PairArg.list a _ (fun j => (Ts[j]?).getD 0) ps) (I.ok.hd hc) ⟨hp, pit⟩ have_ (by rw [l1, ← hl]; exact hz) fun h' tk hd kp => fin h' tk hd fun b o e => kp b o (by simp) e
  · exact call_dict_pairs (PairArg.tuple a _ (fun j => (Ts[j]?).getD 0) ps) (I.ok.hd hc) ⟨hp, pit⟩ have_ (by rw [l1, ← hl]; exact hz) fun h' tk hd kp => fin h' tk hd fun b o e => kp b o (by simp) e
theorem call_dictW (hc : X.calm = true) : L2.CallR X (.type "dict") (lowC X.K M (biW .dict)) := by
  intro pins s σ H vs us Q I rv h
  obtain ⟨ws, A, Qw, rs, hA, h, k⟩ := h
  match ws, h with
  | [x], h =>
    obtain ⟨v, rfl, r⟩ := reps1 rs
    obtain ⟨u, rfl, ru⟩ := L2.vals1 rv
    cases x with
    | tup xs =>
      obtain ⟨kws, hp, h⟩ := h
      cases r with
      | tup hq r2 =>
        rename_i a0 vs0
        cases (show u = Value.ref _ from ru)
        obtain ⟨its, rv2, ht, hz⟩ := I.tuple hq.t
        have pl : PlainSeq "tuple" s.heap a0 its.toArray := by
          obtain ⟨o, ho, hcl, n, hd⟩ := id ht
          refine ⟨o, n, ho, hcl, ?_, hd⟩
          rcases hq with ⟨o', h1, h2⟩ | ⟨o', _, _, h1, _, h3, _⟩
          · have q := (I.hok _ _ h1).1
            rw [ho] at q; cases q; exact h2
          · have q := I.kIn _ _ h1
            rw [ho] at q; cases q; exact h3
        exact dict_src (.inr rfl) hc I hA pl rv2 r2 hz hp fun p hp kvs kw => k _ _ (h p (hA.free hp)) _ _ (.ref p) (hA.new hp ⟨_, L2.upd_same, kw.tk (Tk.new hp)⟩) (Fr.new hp)
    | ref a =>
      obtain ⟨xs, ha, kws, hp, h⟩ := h
      cases r
      cases (show u = Value.ref _ from ru)
      obtain ⟨vs, e, r2⟩ := hA _ _ ha
      obtain ⟨z, its, n, rr, hl, e2⟩ := I.lstM e
      exact dict_src (.inl rfl) hc I hA ⟨_, n, e2, rfl, rfl, rfl⟩ rr r2 z hp fun p hp kvs kw => k _ _ (h p (hA.free hp)) _ _ (.ref p) (hA.new hp ⟨_, L2.upd_same, kw.tk (Tk.new hp)⟩) (Fr.new hp)
    | _ => exact False.elim h
def biN : Bi → Option (Str × Value)
  | .repr => some ("repr", .builtin "repr")
  | .dict => some ("dict", .type "dict")
  | .len => some ("len", .builtin "len")
  | .tuple => some ("tuple", .type "tuple")
  | .list => some ("list", .type "list")
  | .int => some ("int", .type "int")
  | .all => some ("all", .builtin "all")
  | .any => some ("any", .builtin "any")
  | .sum => some ("sum", .builtin "sum")
  | .abs => some ("abs", .builtin "abs")
  | .max2 => some ("max", .builtin "max")
  | .min2 => some ("min", .builtin "min")
  | _ => none
theorem call_reprW (hu : X.A.units + 65 < cLine) (gd : X.A.guards = some []) : L2.CallR X (.builtin "repr") (lowC X.K M (biW .repr)) := by
  intro pins s σ H vs us Q I rv h
  obtain ⟨ws, A, Qw, rs, hA, h, k⟩ := h
  match ws, h with
  | [w], h =>
    obtain ⟨v, rfl, r⟩ := reps1 rs
    obtain ⟨u, rfl, ru⟩ := L2.vals1 rv
    obtain ⟨d, hd, ok, hs, hl, h⟩ := h
    have dp := dp_of hA hd r
    obtain ⟨as, rd⟩ := L2.Dp.reads I d v u dp ru
    have fin : ∀ {t : Tok} {h' : Heap} {tk : Nat}, (∀ b o, s.heap.get? b = some o → h'.get? b = some o) → L2.EP X pins σ Q (.str d.shown t) { s with heap := h', toks := tk } := fun {t h' tk} kp => ⟨.str _, H, I.kept (t' := tk) kp, ⟨t, rfl⟩, k _ _ h _ _ (.str _) hA Fr.refl⟩
    have fin0 : ∀ {t : Tok} {tk : Nat}, L2.EP X pins σ Q (.str d.shown t) { s with toks := tk } := fun {t tk} => fin (h' := s.heap) fun _ _ e => e
    have hz := line_of hl
    have rd0 := rd
    cases rd with
    | none => exact PySem.P.repr_of_none fin0
    | bool b => exact PySem.P.repr_of_bool fin0
    | int i t => exact PySem.P.repr_of_int (of_decide_eq_true (by simpa [PyData.showable] using hs)) fin0
    | str x t => exact PySem.P.repr_of_str (hsz := hz) fin0
    | _ => exact PySem.repr_of_reads' (hsz := hz) rd0 hs (fun e => by rw [PyData.hasDict_of_canLay _ ok.1] at e; cases e) gd (by have := ok.2; omega) (fun _ _ e => e) fun h' u tk kp => fin kp
theorem call_bi (hc : X.calm = true) (hu0 : X.A.units + 65 < cLine) (gd : X.A.guards = some []) (b : Bi) {n : Str} {f : Value} (hn : biN b = some (n, f)) : L2.CallR X f (lowC X.K M (biW b)) := by
  intro pins s σ H vs us Q I rv h
  obtain ⟨ws, A, Qw, rs, hA, h, k⟩ := h
  cases b <;> first | (exfalso; revert hn; simp [biN]; done) | (cases hn)
  rotate_left 10
  · exact call_dictW hc pins s σ H vs us Q I rv ⟨ws, A, Qw, rs, hA, h, k⟩
  · exact call_reprW hu0 gd pins s σ H vs us Q I rv ⟨ws, A, Qw, rs, hA, h, k⟩
  rotate_right 10
  · -- len
    match ws, h with
    | [.tup xs], h =>
      obtain ⟨v, rfl, r⟩ := reps1 rs
      cases r with
      | tup h1 r1 => exact L2.call_len pins s σ H _ us Q I rv ⟨_, _, rfl, .inr ⟨_, h1.t, rfl⟩, by rw [r1.length]; exact k _ _ h _ _ (.int _) hA Fr.refl⟩
    | [.fz xs], h =>
      obtain ⟨v, rfl, r⟩ := reps1 rs
      obtain ⟨a, vs, rfl, h1, r1⟩ := fz_of r
      exact L2.call_len pins s σ H _ us Q I rv ⟨_, _, rfl, .inl ⟨_, h1, rfl⟩, by rw [r1.length]; exact k _ _ h _ _ (.int _) hA Fr.refl⟩
    | [.str z], h =>
      obtain ⟨v, rfl, r⟩ := reps1 rs
      cases r
      exact L2.call_len pins s σ H _ us Q I rv ⟨_, _, rfl, ⟨line_of h.1, rfl⟩, k _ _ h.2 _ _ (.int _) hA Fr.refl⟩
    | [.ref a], h =>
      obtain ⟨v, rfl, r⟩ := reps1 rs
      cases r
      rcases h with ⟨xs, ha, h⟩ | ⟨kvs, ha, h⟩
      · obtain ⟨ys, e, r1⟩ := hA _ _ ha
        exact L2.call_len pins s σ H _ us Q I rv ⟨_, _, rfl, .inl ⟨_, L2.SqL.of e, rfl⟩, by rw [r1.length]; exact k _ _ h _ _ (.int _) hA Fr.refl⟩
      · obtain ⟨ys, e, r1⟩ := hA _ _ ha
        obtain ⟨u, rfl, ru⟩ := L2.vals1 rv
        cases (show u = Value.ref a from ru)
        exact L2.d_len I (.inl e) fun t s' I' => ⟨.int _, H, I', ⟨t, rfl⟩, by rw [r1.length]; exact k _ _ h _ _ (.int _) hA Fr.refl⟩
  · -- tuple
    match ws, h with
    | [w], h =>
      obtain ⟨v, rfl, r⟩ := reps1 rs
      obtain ⟨a, vs, xs, rfl, hq, r1, h, hw⟩ := seq_of hA r h
      rcases hw with hl | rfl
      · exact call_tupleP pins s σ H _ us Q I rv ⟨_, _, rfl, hl, fun l o hp ho => k _ _ h _ _ (.tup (SqP.new ho) (r1.tk (Tk.new hp))) (hA.newT hp) (Fr.newT hp)⟩
      · cases r with
        | tup h1 r2 => exact L2.call_tuple_of pins s σ H _ us Q I rv ⟨_, _, rfl, .inr ⟨h1.t, k _ _ h _ _ (.tup h1 r2) hA Fr.refl⟩⟩
  · -- list
    match ws, h with
    | [w], h =>
      obtain ⟨v, rfl, r⟩ := reps1 rs
      obtain ⟨a, vs, xs, rfl, hq, r1, h, hw⟩ := seq_of hA r h
      exact L2.call_list_of pins s σ H _ us Q I rv ⟨_, _, rfl, hq, fun p hp => k _ _ (h p (hA.free hp)) _ _ (.ref p) (hA.new hp ⟨_, L2.upd_same, r1.tk (Tk.new hp)⟩) (Fr.new hp)⟩
  · -- int
    match ws, h with
    | [.int i], h =>
      obtain ⟨v, rfl, r⟩ := reps1 rs
      cases r
      exact L2.call_int1 pins s σ H _ us Q I rv (.inl ⟨_, rfl, k _ _ h _ _ (.int _) hA Fr.refl⟩)
    | [.bl b], h =>
      obtain ⟨v, rfl, r⟩ := reps1 rs
      cases r
      exact L2.call_int1 pins s σ H _ us Q I rv (.inr ⟨_, rfl, k _ _ h _ _ (.int _) hA Fr.refl⟩)
  · -- all
    match ws, h with
    | [.ref a], h =>
      obtain ⟨v, rfl, r⟩ := reps1 rs
      cases r
      obtain ⟨xs, bs, ha, hb, h⟩ := h
      obtain ⟨ys, e, r1⟩ := hA _ _ ha
      have e2 := reps_bl r1 hb
      subst e2
      exact L2.cr_all hc pins s σ H _ us Q I rv ⟨a, bs, rfl, L2.SqL.of e, k _ _ h _ _ (.bl _) hA Fr.refl⟩
  · match ws, h with
    | [.ref a], h =>
      obtain ⟨v, rfl, r⟩ := reps1 rs
      cases r
      obtain ⟨xs, bs, ha, hb, h⟩ := h
      obtain ⟨ys, e, r1⟩ := hA _ _ ha
      have e2 := reps_bl r1 hb
      subst e2
      exact L2.cr_any hc pins s σ H _ us Q I rv ⟨a, bs, rfl, L2.SqL.of e, k _ _ h _ _ (.bl _) hA Fr.refl⟩
  · match ws, h with
    | [.ref a], h =>
      obtain ⟨v, rfl, r⟩ := reps1 rs
      cases r
      obtain ⟨xs, bs, ha, hb, h⟩ := h
      obtain ⟨ys, e, r1⟩ := hA _ _ ha
      have e2 := reps_int r1 hb
      subst e2
      exact L2.cr_sum hc pins s σ H _ us Q I rv ⟨a, bs, rfl, L2.SqL.of e, k _ _ h _ _ (.int _) hA Fr.refl⟩
  · match ws, h with
    | [.int i], h =>
      obtain ⟨v, rfl, r⟩ := reps1 rs
      cases r
      exact L2.call_abs pins s σ H _ us Q I rv ⟨_, rfl, k _ _ h _ _ (.int _) hA Fr.refl⟩
  · match ws, h with
    | [.int i, .int j], h =>
      obtain ⟨v, w, rfl, r, r'⟩ := reps2 rs
      cases r; cases r'
      exact L2.call_max2 hc pins s σ H _ us Q I rv ⟨_, _, rfl, k _ _ h _ _ (.int _) hA Fr.refl⟩
  · match ws, h with
    | [.int i, .int j], h =>
      obtain ⟨v, w, rfl, r, r'⟩ := reps2 rs
      cases r; cases r'
      exact L2.call_min2 hc pins s σ H _ us Q I rv ⟨_, _, rfl, k _ _ h _ _ (.int _) hA Fr.refl⟩
/-! ### methods of the built-in types -/
def lowM (K : PySem.W.Frag) (M : Names) (m : Mt) : V → List V → Hp → L2.VK → Prop := fun vx vs H Q => ∃ x xs A Qw, Rep K H vx x ∧ Reps K H vs xs ∧ RH K M H A ∧ mtW m x xs A Qw ∧ ∀ w A', Qw w A' → Lk K M H A Q w A'
theorem reps0 {K : PySem.W.Frag} {H : Hp} {vs : List V} (r : Reps K H vs []) : vs = [] := by cases r; rfl
theorem mt_append : L2.MtR X "list.append" (lowM X.K M .append) := by
  intro pins s σ H x xs v us Q I rx rs h
  obtain ⟨w, ws, A, Qw, rw', rws, hA, h, k⟩ := h
  match w, ws, h with
  | .ref a, [y], h =>
    obtain ⟨ys, ha, hz, h⟩ := h
    cases rw'
    obtain ⟨u, rfl, ru⟩ := reps1 rws
    obtain ⟨vs, e, r1⟩ := hA _ _ ha
    refine L2.mt_append pins s σ H _ _ v us Q I rx rs ⟨a, vs, u, rfl, rfl, e, line_lt (by rw [r1.length]; exact hz), ?_⟩
    have t := Tk.mut (o := .lst (vs ++ [u])) hA ha
    exact k _ _ h _ _ .non (hA.mut ha ⟨_, L2.upd_same, (r1.append (.cons ru .nil)).tk t⟩) (Fr.mut ha)
theorem mt_pop0 : L2.MtR X "list.pop" (lowM X.K M .pop0) := by
  intro pins s σ H x xs v us Q I rx rs h
  obtain ⟨w, ws, A, Qw, rw', rws, hA, h, k⟩ := h
  match w, ws, h with
  | .ref a, [], h =>
    obtain ⟨ys, y, ha, hy, h⟩ := h
    cases rw'
    obtain rfl := reps0 rws
    obtain ⟨vs, e, r1⟩ := hA _ _ ha
    have hy' : ys[ys.length - 1]? = some y := by rw [← List.getLast?_eq_getElem?]; exact hy
    obtain ⟨u, hu, ru⟩ := r1.get hy'
    refine L2.mt_pop pins s σ H _ _ v us Q I rx rs ⟨a, vs, u, rfl, rfl, e, by rw [r1.length]; exact hu, ?_⟩
    have t := Tk.mut (o := .lst vs.dropLast) hA ha
    exact k _ _ h _ _ (ru.tk t) (hA.mut ha ⟨_, L2.upd_same, r1.dropLast.tk t⟩) (Fr.mut ha)
theorem mt_popAt : L2.MtR X "list.pop" (lowM X.K M .popAt) := by
  intro pins s σ H x xs v us Q I rx rs h
  obtain ⟨w, ws, A, Qw, rw', rws, hA, h, k⟩ := h
  match w, ws, h with
  | .ref a, [.int i], h =>
    obtain ⟨ys, j, y, ha, b1, b2, hi, hy, h⟩ := h
    cases rw'
    obtain ⟨u', rfl, ru'⟩ := reps1 rws
    cases ru'
    obtain ⟨vs, e, r1⟩ := hA _ _ ha
    obtain ⟨u, hu, ru⟩ := r1.get hy
    refine L2.mt_popAt pins s σ H _ _ v us Q I rx rs ⟨a, vs, i, j, u, rfl, rfl, e, b1, b2, by rw [r1.length]; exact (L2.ixN_seq hi).1, hu, ?_⟩
    have t := Tk.mut (o := .lst (vs.eraseIdx j)) hA ha
    exact k _ _ h _ _ (ru.tk t) (hA.mut ha ⟨_, L2.upd_same, (r1.eraseIdx j).tk t⟩) (Fr.mut ha)
theorem list_extend_tupleW (l : Addr) (items : Array Value) (n : Nat) (b : Addr) (items2 : Array Value) (n2 : Nat) (dd : Option Addr) (sl : Array (Option Value)) (hs0 : ¬(!items.isEmpty && Builtin.List.listTooLong (items.size + items2.size)) = true) (hs1 : items.size ≤ sizeLine) (hs2 : items.size + items2.size ≤ sizeLine + 1) :
    Meets (Builtin.«list.extend» ⟨[.ref l, .ref b], []⟩) (fun _ R s => s.heap.get? l = some { cls := .type "list", dict := none, data := .seq items n, slots := #[] } ∧ s.heap.get? b = some { cls := .type "tuple", dict := dd, data := .seq items2 n2, slots := sl } ∧ R (.ok (.ret Value.none)) { s with heap := s.heap.update l (Obj.mapSeq fun x => x ++ items2), toks := s.toks }) :=
  .of_wp fun prog w A R s h => by
    obtain ⟨hp, g, d, tk, os⟩ := s; obtain ⟨hl, hb, h⟩ := h; have f1 := PySem.AutoSeq1.idx_int; have f2 := PySem.AutoSeq1.sub_tuple_tuple; have f3 := PySem.AutoSeq1.sub_list_list; have f4 := PySem.AutoSeq1.sub_tuple_list; have f5 := PySem.AutoSeq1.sub_list_tuple;
    have hz' : (items ++ items2).size ≤ sizeLine + 1 := by rw [Array.size_append]; exact hs2
    wp_walk using (wpAny_updateSeq hl rfl (hz := hs1) (_hz' := hz')), PySem.AutoSeq1.wpAny_loadPart' hl, PySem.AutoSeq1.wpAny_loadPart' hb; exact ⟨_, rfl, h⟩
theorem mt_extendT {pins : List (Addr × Obj)} {s : Shared} {σ : L2.St} {H : Hp} {l b : Addr} {xs zs : List V} {Q : L2.VK} (I : L2.Inv X pins σ H s) (hH : H l = some (.lst xs)) (hB : L2.SqT X.K H b zs) (hz : xs.length + zs.length ≤ sizeLine) (q : Q .non (L2.upd H l (.lst (xs ++ zs)))) :
    wpAny (model X.prog X.w) X.A (call (.builtin "list.extend") [.ref l, .ref b]) (L2.EP X pins σ Q) X.xe s := by
  obtain ⟨z, its, n, r, hl, e⟩ := I.lstM hH
  obtain ⟨its2, r2, ⟨⟨cls, dd, data, sl⟩, e2, hc, n2, hd⟩, hz2⟩ := I.tuple hB
  simp only at hc hd
  subst hc hd
  have hl2 := r2.length
  have hsz : its.toArray.size + its2.toArray.size ≤ sizeLine := by rw [List.size_toArray, List.size_toArray]; omega
  have hlong : ¬ (!its.toArray.isEmpty && Builtin.List.listTooLong (its.toArray.size + its2.toArray.size)) = true := by
    rw [L2.notLongL hsz, Bool.and_false]
    exact Bool.false_ne_true
  refine call_meets PySem.F.slot_list_extend ⟨_, e, rfl⟩ PySem.F.entry_list_extend (PySem.F.args_list_extend_2 _ _)
    (list_extend_tupleW l its.toArray n b its2.toArray n2 dd sl hlong (by rw [List.size_toArray]; omega) (by omega)) ⟨e, e2, ?_⟩
  refine ⟨.non, _, I.lset (its' := its ++ its2) hH e (by simp) (r.append r2) ?_, rfl, q⟩
  rw [List.length_append]
  omega
theorem mt_extend : L2.MtR X "list.extend" (lowM X.K M .extend) := by
  intro pins s σ H x xs v us Q I rx rs h
  obtain ⟨w, ws, A, Qw, rw', rws, hA, h, k⟩ := h
  match w, ws, h with
  | .ref a, [y], h =>
    obtain ⟨ys, ha, h⟩ := h
    cases rw'
    obtain ⟨u, rfl, ru⟩ := reps1 rws
    obtain ⟨vs, e, r1⟩ := hA _ _ ha
    cases (show v = Value.ref a from rx)
    cases y with
    | tup zs =>
      obtain ⟨hz, h⟩ := h
      cases ru with
      | tup h1 r2 =>
        obtain ⟨z1, rfl, rz⟩ := L2.vals1 rs
        cases rz
        rename_i a' us'
        rw [← r1.length, ← r2.length] at hz
        have t := Tk.mut (o := .lst (vs ++ us')) hA ha
        exact mt_extendT I e h1.t (line_of hz) (k _ _ h _ _ .non (hA.mut ha ⟨_, L2.upd_same, (r1.append r2).tk t⟩) (Fr.mut ha))
    | ref b =>
      obtain ⟨zs, hb, hz, h⟩ := h
      cases ru
      obtain ⟨us', e2, r2⟩ := hA _ _ hb
      rw [← r1.length, ← r2.length] at hz
      refine L2.mt_extend pins s σ H (.ref a) _ (.ref a) us Q I (show L2.RelV (.ref a) (.ref a) from rfl) rs ⟨a, b, vs, us', rfl, rfl, e, e2, line_of hz, ?_⟩
      have t := Tk.mut (o := .lst (vs ++ us')) hA ha
      exact k _ _ h _ _ .non (hA.mut ha ⟨_, L2.upd_same, (r1.append r2).tk t⟩) (Fr.mut ha)
    | _ => exact False.elim h
theorem mt_get2 (hu0 : X.A.units + 65 < cLine) (hM : M.w = X.w) : L2.MtR X "dict.get" (lowM X.K M .get2) := by
  have hu : X.A.units + 1 < cLine := by omega
  intro pins s σ H x xs v us Q I rx rs h
  obtain ⟨w, ws, A, Qw, rw', rws, hA, h, k⟩ := h
  match w, ws, h with
  | .ref a, [y, d], h =>
    cases rw'
    obtain ⟨u1, u2, rfl, ru1, ru2⟩ := reps2 rws
    rcases h with ⟨kvs, ha, hk, h⟩ | ⟨kvs, ha, hk, h⟩
    rotate_left
    · obtain ⟨z1, z2, rfl, rz1, rz2⟩ := L2.vals2 rs
      cases (show v = Value.ref a from rx)
      exact n_getD I hM hu0 (hA _ _ ha) hk ru1 rz1 ru2 rz2 fun z y s' I' r' l' => ⟨z, H, I', l', k _ _ h _ _ r' hA Fr.refl⟩
    obtain ⟨kv, e, q⟩ := hA _ _ ha
    obtain ⟨ky, rfl, kr⟩ := key_of hk ru1
    obtain ⟨z1, z2, rfl, rz1, rz2⟩ := L2.vals2 rs
    cases (show v = Value.ref a from rx)
    exact L2.d_get2 hu I (L2.DGet.k e) rz1 rz2 fun w' s' I' r' => ⟨_, H, I', r', k _ _ h _ _ (by
      rcases q.at kr with ⟨h1, h2⟩ | ⟨v, w, h1, h2, h3⟩
      · rw [h1, h2]; exact ru2
      · rw [h1, h2]; exact h3) hA Fr.refl⟩
theorem mt_indexW (hu : X.A.units + 65 < cLine) : L2.MtR X "list.index" (lowM X.K M .index) := by
  intro pins s σ H x xs v us Q I rx rs h
  obtain ⟨w, ws, A, Qw, rw', rws, hA, h, k⟩ := h
  match w, ws, h with
  | .ref a, [y], h =>
    obtain ⟨u1, rfl, ru1⟩ := reps1 rws
    obtain ⟨zs, ds, dy, j, z, ha, h1, h2, h3, h4, h5, h6, h7, h⟩ := h
    have q := L2.mt_indexD hu pins s σ H x [u1] v us Q I rx rs
    cases rw'
    exact q ⟨a, u1, dy, ds, j, z, rfl, rfl, dp_of hA (.lst ha h1) (.ref a), dp_of hA h2 ru1, h3.sh, h4.sh, h5, h6, h7, k _ _ h _ _ (.int _) hA Fr.refl⟩
theorem mt_dflt (hu : X.A.units + 65 < cLine) (hM : M.w = X.w) : L2.MtR X "dict.setdefault" (lowM X.K M .setdefault) := by
  intro pins s σ H x xs v us Q I rx rs h
  obtain ⟨w, ws, A, Qw, rw', rws, hA, h, k⟩ := h
  match w, ws, h with
  | .ref a, [y, d], h =>
    cases rw'
    obtain ⟨u1, u2, rfl, ru1, ru2⟩ := reps2 rws
    obtain ⟨kvs, ha, hk, hl, h1, h2⟩ := h
    obtain ⟨z1, z2, rfl, rz1, rz2⟩ := L2.vals2 rs
    cases (show v = Value.ref a from rx)
    exact n_dflt I hM hu hA ha hk ru1 rz1 ru2 rz2 hl (fun w' z y s' e I' r' l' => ⟨z, H, I', l', k _ _ (h1 _ e) _ _ r' hA Fr.refl⟩) fun e H' s' I' g' f' t' => ⟨u2, H', I', rz2, k _ _ (h2 e) _ _ (ru2.tk t') g' f'⟩
theorem mt_get1 (hu : X.A.units + 1 < cLine) : L2.MtR X "dict.get" (lowM X.K M .get1) := by
  intro pins s σ H x xs v us Q I rx rs h
  obtain ⟨w, ws, A, Qw, rw', rws, hA, h, k⟩ := h
  match w, ws, h with
  | .ref a, [y], h =>
    obtain ⟨kvs, ha, hk, h⟩ := h
    cases rw'
    obtain ⟨u1, rfl, ru1⟩ := reps1 rws
    obtain ⟨kv, e, q⟩ := hA _ _ ha
    obtain ⟨ky, rfl, kr⟩ := key_of hk ru1
    obtain ⟨z1, rfl, rz1⟩ := L2.vals1 rs
    cases (show v = Value.ref a from rx)
    exact L2.d_get1 hu I (L2.DGet.k e) rz1 fun w' s' I' r' => ⟨_, H, I', r', k _ _ h _ _ (by
      rcases q.at kr with ⟨h1, h2⟩ | ⟨v, w, h1, h2, h3⟩
      · rw [h1, h2]; exact .non
      · rw [h1, h2]; exact h3) hA Fr.refl⟩
theorem strs_back {K : PySem.W.Frag} {H : Hp} : ∀ {vs : List V} {ys : List Str}, Reps K H vs (ys.map .str) → vs = ys.map L2.V.str
  | [], [], _ => rfl
  | _ :: _, y :: ys, .cons r t => by
    cases r
    rw [strs_back (ys := ys) t, List.map_cons]
theorem mt_joinW : L2.MtR X "str.join" (lowM X.K M .join) := by
  intro pins s σ H x xs v us Q I rx rs h
  obtain ⟨w, ws, A, Qw, rw', rws, hA, h, k⟩ := h
  match w, ws, h with
  | .str a, [y], h =>
    cases rw'
    obtain ⟨u, rfl, ru⟩ := reps1 rws
    cases y with
    | tup zs =>
      obtain ⟨ys, rfl, hz, h⟩ := h
      cases ru with
      | tup h1 r2 =>
        have e := strs_back r2
        subst e
        exact L2.mt_join pins s σ H _ _ v us Q I rx rs ⟨a, _, ys, rfl, rfl, .inr h1.t, hz, k _ _ h _ _ (.str _) hA Fr.refl⟩
    | ref b =>
      obtain ⟨zs, hb, ys, rfl, hz, h⟩ := h
      cases ru
      obtain ⟨us', e2, r2⟩ := hA _ _ hb
      have e := strs_back r2
      subst e
      exact L2.mt_join pins s σ H _ _ v us Q I rx rs ⟨a, _, ys, rfl, rfl, .inl (L2.SqL.of e2), hz, k _ _ h _ _ (.str _) hA Fr.refl⟩
    | _ => exact False.elim h
end
end N
end
section
set_option maxRecDepth 100000
set_option maxHeartbeats 4000000
/-! sorted(xs, key = f), f an own def that may lay objects and turn tokens: the keys are data. -/
namespace N
open PySem PySem.Spec PySem.W PyProof.Rows
section
variable {X : L2.Cx} {pins : List (Addr × Obj)} {σ : L2.St} {H : Hp} {s : Shared}
abbrev in2 (X : L2.Cx) : L2.Cx := { X with A := X.A.in1.in1, xe := fun _ _ => False }
theorem inv_in2 (I : L2.Inv X pins σ H s) : L2.Inv (in2 X) pins σ H s :=
  ⟨⟨I.ok.mod, I.ok.kind, I.ok.glob, I.ok.blt, I.ok.above, I.ok.inj, I.ok.has, I.ok.cab, I.ok.hd, I.ok.frames, I.ok.stk, I.ok.exf, I.ok.bs, I.ok.bsz, I.ok.noex, I.ok.exfs, I.ok.funs, I.ok.frf⟩, I.os, I.bare, I.base, I.loc, I.cell, I.free, I.freeC, I.pin, I.hok, I.len⟩
theorem inv_out2 (ok : X.Ok) (I : L2.Inv (in2 X) pins σ H s) : L2.Inv X pins σ H s := ⟨ok, I.os, I.bare, I.base, I.loc, I.cell, I.free, I.freeC, I.pin, I.hok, I.len⟩
/-- the object at T, one of ch, written and seen from now on -/
theorem turnedAt {t' : Nat} {h' : Heap} {ch : List Addr} {T : Addr} {ob : L2.HO} (I : L2.Inv X pins σ H s) (k : ∀ b o, b ∉ ch → s.heap.get? b = some o → h'.get? b = some o) (hf : ∀ b ∈ ch, L2.FpOk X pins H b) (hT : T ∈ ch)
    (new : L2.ObjOk X.prog X.w (L2.upd H T ob) h' T ob) : L2.Inv X pins σ (L2.upd H T ob) { s with heap := h', toks := t' } := by
  have hn : H T = none := (hf T hT).1
  have ne : ∀ {b u}, H b = some u → b ≠ T := fun {b u} e z => by rw [z, hn] at e; cases e
  have nit : ∀ b u, H b = some u → b ∉ ch := fun b u e z => by rw [(hf b z).1] at e; cases e
  refine I.step (g' := s.gens) (d' := s.drawn) (ch := ch) (fun b hb => ⟨(hf b hb).2.2.2.1, (hf b hb).2.1, (hf b hb).2.2.2.2.1, (hf b hb).2.2.2.2.2⟩) (fun b o _ _ hc e _ => k b o hc e) (fun b o _ _ hc e _ => ⟨o.slots, k b o hc e⟩)
    (fun b o hc e n => ?_) (fun b o hc e => ⟨o, k b o hc e⟩) (fun b xs e => by rw [L2.upd_ne (ne e)]; exact e) (fun b o u e => by rw [L2.upd_ne (ne e)]; exact e) (fun b ps e => ⟨#[], by rw [L2.upd_ne (ne e), e]; simp⟩) (fun m hm => ?_) (fun b u e => ?_) I.bare
  · rw [L2.upd_ne (fun z => hc (by rw [z]; exact hT))]; exact n
  · obtain ⟨o, es, ep, ho, r⟩ := hm
    exact ⟨o, es, ep, k _ o (fun z => (hf _ z).2.1 rfl) ho, r⟩
  · by_cases hb : b = T
    · subst hb
      rw [L2.upd_same] at e
      cases e
      exact new
    · rw [L2.upd_ne hb] at e
      refine (I.hok b u e).stay (fun c v hc q => k c v ?_ q) (fun c q => by rw [L2.upd_ne (ne q)]; exact q) fun c y q => by rw [L2.upd_ne (ne q)]; exact q
      rcases hc with z | z
      · rw [z]; exact nit b u e
      · exact nit c _ z
/-- a heap without the object at a -/
def holeAt (h : Heap) (a : Addr) : Heap := ⟨h.objs.setIfInBounds a ⟨.none, none, .freed, #[]⟩, h.life⟩
theorem hole_none (h : Heap) (a : Addr) : (holeAt h a).get? a = none := by
  unfold holeAt Heap.get?
  by_cases hl : a < h.objs.size
  · simp [Array.getElem?_setIfInBounds, hl]
  · simp [Array.getElem?_setIfInBounds, hl]
theorem hole_ne {h : Heap} {a b : Addr} (hb : b ≠ a) : (holeAt h a).get? b = h.get? b := by
  unfold holeAt Heap.get?
  rw [Array.getElem?_setIfInBounds, if_neg (Ne.symm hb)]
/-- the two lists that the sort works with, as pins -/
abbrev wk (kS a : Addr) (kA : Array Value) (e e1 : Nat) : List (Addr × Obj) := [(kS, seqObj "list" kA e), (a, seqObj "list" #[] e1)]
theorem sort_rest {prog : Program} {w : World} {A : Around} {E : Value → Shared → Prop} {P : PySem.Fin → Shared → Prop} {uf : Value} {vs : List Value} {kS a : Addr} {e1 : Nat} {s : Shared}
    (J : Nat → Array Value → Nat → Shared → Prop) (h0 : J 0 #[] 0 s) (hZ : vs.length ≤ sizeLine)
    (sz : ∀ i kA e s', J i kA e s' → kA.size ≤ vs.length ∧ s'.heap.get? kS = some (seqObj "list" kA e))
    (turn : ∀ i kA e s' v, J i kA e s' → vs[i]? = some v → wpAny (model prog w) A (call uf [v]) (fun u s'' => (kA.size ≤ vs.length ∧ s''.heap.get? kS = some (seqObj "list" kA e)) ∧ ∀ c, (s''.heap.update kS (Obj.mapSeq (·.push u))).get? kS = some (seqObj "list" (kA.push u) c) →
      J (i + 1) (kA.push u) c { s'' with heap := s''.heap.update kS (Obj.mapSeq (·.push u)) }) (fun _ _ => False) s')
    (done : ∀ kA e s', J vs.length kA e s' → wpAny (model prog w) A (ksk_end a false vs.toArray e1 (.ref kS) kA) P E s') :
    wpAny (model prog w) A (ksk_rest a uf false vs.toArray e1 (.ref kS)) P E s := by
  unfold ksk_rest
  refine wpAny_bind (wpAny_rule ?_)
  first
    | rw [List.forIn_toArray]
    | (rw [← Array.forIn_toList]; simp only [List.toList_toArray])
    | rw [← Array.forIn_toList]
  refine wpAny_bind (ksk_fold (fun i s' => ∃ kA e, J i kA e s') vs 0 s ⟨_, _, h0⟩ ?step ?fin)
  case step =>
    rintro j x s' hx ⟨kA, e, hj⟩
    rw [Nat.zero_add] at hj
    refine wpAny_bind (wpAny_attempt (wpAny_mono (turn j kA e s' x hj hx) (fun u s'' hq => ?_) fun _ _ hF => hF.elim))
    obtain ⟨⟨z, nk⟩, hq⟩ := hq
    try dsimp only
    obtain ⟨c, hc⟩ : ∃ c, (s''.heap.update kS (Obj.mapSeq (·.push u))).get? kS = some (seqObj "list" (kA.push u) c) := ⟨_, get?_update_seq nk (·.push u)⟩
    refine wpAny_bind (listUpdate_at nk rfl ?_ (Nat.le_trans z hZ) (Nat.le_trans (Nat.le_of_eq (Array.size_push ..)) (Nat.succ_le_succ (Nat.le_trans z hZ))))
    refine wpAny_pure ⟨rfl, kA.push u, c, ?_⟩
    rw [Nat.zero_add]
    exact hq c hc
  case fin =>
    rintro s' ⟨kA, e, hj⟩
    rw [Nat.zero_add] at hj
    obtain ⟨z, nk⟩ := sz _ _ _ _ hj
    try dsimp only
    refine wpAny_bind (listItems_at nk rfl ?_)
    exact done kA e s' hj
theorem each_zip {xs : List V} {vs : List Value} (r : L2.Vals xs vs) : ∀ {kz : List PyData}, kz.length = xs.length → EachIs (fun (v : Value) (p : V × PyData) => L2.RelV p.1 v) vs (xs.zip kz) := by
  induction r with
  | nil => intro kz h; exact .nil
  | cons q r ih =>
    intro kz h
    cases kz with
    | nil => cases h
    | cons k kz => exact .cons q (ih (by simpa using h))
theorem vals_each : ∀ {vs : List Value} {ps : List (V × PyData)}, EachIs (fun (v : Value) (p : V × PyData) => L2.RelV p.1 v) vs ps → L2.Vals (ps.map (·.1)) vs
  | _, _, .nil => .nil
  | _, _, .cons q r => .cons q (vals_each r)
theorem map_snd : ∀ {xs : List V} {kz : List PyData}, kz.length = xs.length → (xs.zip kz).map (·.2) = kz
  | [], [], _ => rfl
  | _ :: xs, k :: kz, h => by show k :: (xs.zip kz).map (·.2) = _; rw [map_snd (by simpa using h)]
  | [], _ :: _, h => by cases h
  | _ :: _, [], h => by cases h
theorem reads_all {X : L2.Cx} {pins : List (Addr × Obj)} {σ : L2.St} {H : Hp} {s : Shared} (I : L2.Inv X pins σ H s) : ∀ {ks : List V} {vs : List Value} {kz : List PyData}, L2.Vals ks vs → EachIs (fun k d => L2.Dp X.K H k d) ks kz → EachIs (fun v d => ∃ as, Reads s.heap v d as) vs kz
  | _, _, _, .nil, .nil => .nil
  | _, _, _, .cons r t, .cons q u => .cons (L2.Dp.reads I _ _ _ q r) (reads_all I t u)
theorem sort_key {l fa : Addr} {xs : List V} {Q : L2.VK} (I : L2.Inv X pins σ H s) (hs : L2.SqL X.K H l xs) (St : Nat → List V → Hp → Prop) (h0 : St 0 [] H)
    (step : ∀ i ks H' pins' s' x u, L2.Inv (in2 X) pins' σ H' s' → St i ks H' → xs[i]? = some x → L2.RelV x u → wpAny (model X.prog X.w) X.A.in1.in1 (call (.ref fa) [u]) (L2.EP (in2 X) pins' σ fun k H'' => St (i + 1) (ks ++ [k]) H'') (fun _ _ => False) s')
    (done : ∀ ks H', St xs.length ks H' → ∃ kz : List PyData, EachIs (fun k d => L2.Dp X.K H' k d) ks kz ∧ kz.length = xs.length ∧ AllAlike kz ∧ Sortable kz ∧ (∀ d ∈ kz, X.A.units + 2 + d.depth < cLine) ∧
      ∀ p, H' p = none → Q (.ref p) (L2.upd H' p (.lst (((xs.zip kz).mergeSort (dataLe false (·.2))).map (·.1))))) :
    wpAny (model X.prog X.w) X.A (call (.builtin "sorted") [.ref l] [(Str.ofString "key", .ref fa)]) (L2.EP X pins σ Q) X.xe s := by
  obtain ⟨its, rv, hl, hz⟩ := I.list hs
  have hlen := rv.length
  have hL : its.length ≤ sizeLine := by rw [← hlen]; exact hz
  refine sorted_of_sort hl.isList hL (ksk_s1 _ _) (fun _ => ksk_l1 _ _) fun E' => ?_
  rw [ksk_t1]
  generalize ha : s.heap.objs.size + 1 = a
  have ho : (copyHeap s.heap its).get? a = some (seqObj "list" its.toArray 0) := by rw [← ha]; exact copyHeap_at s.heap its
  have hal : a < (copyHeap s.heap its).objs.size := Heap.lt_size ho
  obtain ⟨e1, ho1⟩ : ∃ e1, ((copyHeap s.heap its).update a (Obj.mapSeq fun _ => (#[] : Array Value))).get? a = some (seqObj "list" #[] e1) := ⟨_, get?_update_seq ho fun _ => #[]⟩
  generalize hK : (((copyHeap s.heap its).update a (Obj.mapSeq fun _ => (#[] : Array Value))).push (seqObj "tuple" its.toArray 0)).objs.size = kS
  have hK2 : kS = (copyHeap s.heap its).objs.size + 1 := by rw [← hK, size_push', Heap.size_update]
  have hka : kS ≠ a := by omega
  unfold ksk_tree
  refine wpAny_bind (listItems_at (s := { s with heap := copyHeap s.heap its }) ho rfl ?_)
  refine wpAny_bind (listUpdate_at (s := { s with heap := copyHeap s.heap its }) ho rfl ?_ (by rw [List.size_toArray]; exact hL) (Nat.zero_le _))
  refine wpAny_bind (seqEpoch_at ho1 rfl ?_)
  refine wpAny_bind (wpAny_newTuple ?_ (by show its.length ≤ _; exact hL))
  refine wpAny_bind (wpAny_newList ?_ (Nat.zero_le _))
  refine wpAny_holding ?_
  show wpAny _ _ (ksk_rest a (.ref fa) false its.toArray e1 (.ref (((copyHeap s.heap its).update a (Obj.mapSeq fun _ => (#[] : Array Value))).push (seqObj "tuple" its.toArray 0)).objs.size)) _ _ { s with heap := sortingHeap (copyHeap s.heap its) a its }
  rw [hK]
  have fS : s.heap.objs.size ≤ kS := by omega
  have fA : s.heap.objs.size ≤ a := by omega
  have okS := I.fpOk (H' := H) fS (I.hok.fresh fS)
  have okA := I.fpOk (H' := H) fA (I.hok.fresh fA)
  have okC : ∀ {H' : Hp}, H' kS = none → H' a = none → ∀ b ∈ [kS, a], L2.FpOk X pins H' b := fun {H'} n1 n2 b hb => by
    have e : b = kS ∨ b = a := by simpa using hb
    rcases e with e | e
    · rw [e]; exact ⟨n1, okS.2⟩
    · rw [e]; exact ⟨n2, okA.2⟩
  have nS : (sortingHeap (copyHeap s.heap its) a its).get? kS = some (seqObj "list" #[] 0) := by rw [← hK]; exact Heap.get?_push_size _ rfl
  have nA : (sortingHeap (copyHeap s.heap its) a its).get? a = some (seqObj "list" #[] e1) := Heap.get?_push_of_some _ (Heap.get?_push_of_some _ ho1)
  have pinned : ∀ {H' : Hp} {s' : Shared} {kA : Array Value} {e : Nat}, L2.Inv X pins σ H' s' → s'.heap.get? kS = some (seqObj "list" kA e) → s'.heap.get? a = some (seqObj "list" #[] e1) → H' kS = none → H' a = none → L2.Inv (in2 X) (pins ++ wk kS a kA e e1) σ H' s' := fun {H' s' kA e} I' q1 q2 q3 q4 =>
    inv_in2 (I'.pins_of fun p hp => by
      rcases List.mem_append.mp hp with hp | hp
      · exact I'.pin p (List.mem_append_right _ hp)
      · have e' : p = (kS, seqObj "list" kA e) ∨ p = (a, seqObj "list" #[] e1) := by simpa using hp
        rcases e' with e' | e'
        · rw [e']; exact ⟨q1, q3, okS.2.1, okS.2.2.1, fun v z => nomatch z⟩
        · rw [e']; exact ⟨q2, q4, okA.2.1, okA.2.2.1, fun v z => nomatch z⟩)
  have unp : ∀ {H' : Hp} {s' : Shared} {kA : Array Value} {e : Nat}, L2.Inv (in2 X) (pins ++ wk kS a kA e e1) σ H' s' → L2.Inv X pins σ H' s' ∧ s'.heap.get? kS = some (seqObj "list" kA e) ∧ s'.heap.get? a = some (seqObj "list" #[] e1) ∧ H' kS = none ∧ H' a = none := fun {H' s' kA e} I' => by
    have p1 := I'.pin (kS, seqObj "list" kA e) (List.mem_append_right _ (List.mem_append_right _ (by simp)))
    have p2 := I'.pin (a, seqObj "list" #[] e1) (List.mem_append_right _ (List.mem_append_right _ (by simp)))
    exact ⟨inv_out2 I.ok I'.unpinned, p1.1, p2.1, p1.2.1, p2.2.1⟩
  have I1 : L2.Inv X pins σ H { s with heap := sortingHeap (copyHeap s.heap its) a its } := I.kept (t' := s.toks) fun b o e => by rw [← ha]; exact sorting_copy_old e
  refine sort_rest (vs := its) (fun i kA e s' => ∃ ks H', L2.Inv (in2 X) (pins ++ wk kS a kA e e1) σ H' s' ∧ St i ks H' ∧ L2.Vals ks kA.toList ∧ kA.size = i ∧ i ≤ its.length)
    ⟨[], H, pinned I1 nS nA okS.1 okA.1, h0, .nil, rfl, Nat.zero_le _⟩ hL (fun i kA e s' ⟨ks, H', I', _, _, q1, q2⟩ => ⟨by omega, (unp I').2.1⟩) ?turn ?done
  case turn =>
    rintro i kA e s' v ⟨ks, H', I', st, rk, q1, q2⟩ hv
    obtain ⟨x, hx, rx⟩ : ∃ x, xs[i]? = some x ∧ L2.RelV x v := by
      have hi : i < xs.length := by rw [hlen]; exact (List.getElem?_eq_some_iff.mp hv).1
      obtain ⟨u, hu, ru⟩ := rv.get (List.getElem?_eq_getElem hi)
      rw [hv] at hu
      cases hu
      exact ⟨_, List.getElem?_eq_getElem hi, ru⟩
    refine wpAny_mono (step i ks H' _ s' x v I' st hx rx) (fun u s'' hq => ?_) fun _ _ z => z
    obtain ⟨k, H2, I2, rku, st2⟩ := hq
    obtain ⟨I3, p1, p2, p3, p4⟩ := unp I2
    have hi : i < its.length := (List.getElem?_eq_some_iff.mp hv).1
    refine ⟨⟨by omega, p1⟩, fun c hc => ⟨ks ++ [k], H2, ?_, st2, ?_, by rw [Array.size_push]; omega, by omega⟩⟩
    · have sb := Heap.SameBut.update s''.heap kS (Obj.mapSeq (·.push u))
      have f := okC p3 p4 kS (by simp)
      have I4 : L2.Inv X pins σ H2 { s'' with heap := s''.heap.update kS (Obj.mapSeq (·.push u)) } := I3.turned (t' := s''.toks) (fun b o hb e => (sb.2 b hb).trans e) f.1 f.2.1 f.2.2.2.1 f.2.2.2.2.1 f.2.2.2.2.2
      exact pinned I4 hc ((sb.2 a hka.symm).trans p2) p3 p4
    · rw [show (kA.push u).toList = kA.toList ++ [u] by simp]
      exact rk.append (.cons rku .nil)
  case done =>
    rintro kA e s' ⟨ks, H', I', st, rk, q1, q2⟩
    obtain ⟨I2, p1, p2, p3, p4⟩ := unp I'
    rw [← hlen] at st
    obtain ⟨kz, d1, d2, d3, d4, d5, hQ⟩ := done ks H' st
    have hR := reads_all I2 rk d1
    have hsz : kA.size = its.length := q1
    refine keyH_end (κ := dataKind s'.heap kz) (h₁ := holeAt s'.heap kS) (e := e) (fun b o hb q => ?_) (hole_none _ _) p1 p2 hka (SortsAt.data (s := s') hR d3 d4 d5) hsz hL fun h3 tk3 c k3 n3 => ⟨rfl, ?_⟩
    · by_cases hb2 : b = kS
      · rw [hb2, hole_none] at q; cases q
      · rw [hole_ne hb2] at q; exact q
    · have ko : KeyedOut false kz its (sortVals (dataKind s'.heap kz) false kA.toList its) := ⟨s'.heap, kA.toList, d3, rfl, hR⟩
      have ez := each_zip rv d2
      rw [← map_snd d2] at ko
      have out := vals_each (keyedOut_each (·.2) ko ez)
      rw [map_snd d2] at out
      have I5 : L2.Inv X pins σ (L2.upd H' a (.lst (((xs.zip kz).mergeSort (dataLe false (·.2))).map (·.1)))) { s' with heap := h3, toks := tk3 } := by
        refine turnedAt (ch := [kS, a]) I2 (fun b o hb q => ?_) (okC p3 p4) (by simp) ⟨?_, _, c, out, n3⟩
        · have e1 : b ≠ kS := fun z => hb (by simp [z])
          have e2 : b ≠ a := fun z => hb (by simp [z])
          exact k3 b o e2 (by rw [hole_ne e1]; exact q)
        · rw [List.length_map, List.length_mergeSort, List.length_zip, d2, Nat.min_self]; exact hz
      exact ⟨.ref a, _, I5, rfl, hQ a p4⟩
end
end N
end
section
set_option maxRecDepth 100000
set_option maxHeartbeats 4000000
/-! A tuple turned round; enumerate over a tuple. -/
namespace N
open PySem PySem.Spec PyProof.Rows
theorem rev_pick (xs : Array Value) : ((List.range xs.size).filterMap fun (m : Nat) => xs[(((xs.size : Int) - 1) + (m : Int) * (-1)).toNat]?).toArray = xs.toList.reverse.toArray := by
  have e : (List.range xs.size).filterMap (fun (m : Nat) => xs[(((xs.size : Int) - 1) + (m : Int) * (-1)).toNat]?) = ((List.range xs.size).reverse).filterMap (xs[·]?) := by
    have er : (List.range xs.size).reverse = (List.range xs.size).map fun k => xs.size - 1 - k := by
      refine List.ext_getElem? fun i => ?_
      by_cases hi : i < xs.size
      · rw [List.getElem?_reverse (by simpa using hi), List.getElem?_map, List.getElem?_range (by simp; omega), List.getElem?_range hi]; simp
      · rw [List.getElem?_eq_none (by simpa using hi), List.getElem?_eq_none (by simpa using hi)]
    rw [er, List.filterMap_map]
    congr 1
    funext m
    show xs[(((xs.size : Int) - 1) + (m : Int) * (-1)).toNat]? = xs[xs.size - 1 - m]?
    rw [show (((xs.size : Int) - 1) + (m : Int) * (-1)).toNat = xs.size - 1 - m by omega]
  rw [e, List.filterMap_reverse, PySem.W.krv_all]
section
variable {prog : Program} {w : World} {A : Around} {E : Value → Shared → Prop} {s : Shared}
theorem tuple_rev {t sl : Addr} {items : Array Value} {vl vu vs : Value} {Q : Value → Shared → Prop} (ht : IsTup s.heap t items) (hs : s.heap.IsSliceOf sl vl vu vs) (pl : IsPart vl none) (pu : IsPart vu none) (ps : IsPart vs (some (-1)))
    (h : Q (.ref s.heap.objs.size) { s with heap := s.heap.push { cls := .type "tuple", data := .seq items.toList.reverse.toArray } }) (hsz : items.size ≤ sizeLine) : wpAny (model prog w) A (getItem (.ref t) (.ref sl)) Q E s := by
  obtain ⟨os, hos, hcs, hds⟩ := id hs
  have hTs : s.TypeIs (.ref sl) "slice" := ⟨os, hos, hcs⟩
  unfold getItem
  try with_reducible refine wpAny_holding ?_
  first | refine wpAny_bind (wpAny_pure ?_) | skip
  refine wpAny_bind (wpAny_sequenceKey ht.typeIs (by decide) ?_)
  refine wpAny_bind (wpAny_callSpecial?_slot (name := Str.ofString "__getitem__") ht.typeIs PyProof.Rows.slot_tuple_getitem
    (wpAny_call_entry PyProof.Rows.slot_tuple_getitem ht.typeIs entry_tuple_getitem ?_ (args_tuple_getitem _ _)))
  show wpAny _ _ (Builtin.Tuple.tupleItemsOf (.ref t) >>= _) _ _ s
  refine wpAny_bind (tupleItemsOf_ ht ?_)
  refine wpAny_bind (wpAny_typeOf hTs ?_)
  rw [if_pos (by decide)]
  have ap : ∀ {Q' : Int × Int × Nat → Shared → Prop}, Q' ((items.size : Int) - 1, -1, items.size) s → wpAny (model prog w) A.in1 (Builtin.Slice.sliceApplied (.ref sl) (pure (items.size : Int))) Q' E s := fun {Q'} hq => by
    unfold Builtin.Slice.sliceApplied Builtin.Slice.sliceFields
    refine wpAny_bind (wpAny_bind (wpAny_field hos hds (x := vl) rfl (wpAny_bind (wpAny_field hos hds (x := vu) rfl (wpAny_bind (wpAny_field hos hds (x := vs) rfl (wpAny_pure ?_)))))))
    refine wpAny_bind (HT.slicePart_ ps ?_)
    show wpAny _ _ (if ((-1 : Int) == 0) = true then _ else _) _ _ s
    rw [if_neg (by decide)]
    refine wpAny_bind (HT.slicePart_ pl (wpAny_bind (HT.slicePart_ pu (wpAny_bind (wpAny_pure ?_)))))
    show wpAny _ _ (match Builtin.Slice.sliceAdjust none none (-1) (items.size : Int) with | (lo, hi) => pure (lo, (-1 : Int), Builtin.Slice.slicePlaces lo hi (-1))) _ _ s
    have e1 : Builtin.Slice.sliceAdjust none none (-1) (items.size : Int) = ((items.size : Int) - 1, -1) := by
      unfold Builtin.Slice.sliceAdjust
      simp
    rw [e1]
    have e2 : Builtin.Slice.slicePlaces ((items.size : Int) - 1) (-1) (-1) = items.size := by
      unfold Builtin.Slice.slicePlaces
      simp
      try omega
    show wpAny _ _ (pure ((items.size : Int) - 1, (-1 : Int), Builtin.Slice.slicePlaces ((items.size : Int) - 1) (-1) (-1))) _ _ s
    rw [e2]
    exact wpAny_pure hq
  refine wpAny_bind (ap ?_)
  show wpAny _ _ (if (((items.size : Int) - 1) == 0 && (-1 : Int) == 1 && items.size == items.size) = true then _ else _) _ _ s
  rw [if_neg (by simp), rev_pick]
  have htake : sizeOk (.seq items.toList.reverse.toArray) := by
    show items.toList.reverse.toArray.size ≤ sizeLine
    simpa using hsz
  first
    | exact wpAny_bind (m := Builtin.Tuple.tupleExact _) (wpAny_newObj_type (wpAny_pure ⟨_, rfl, wpAny_pure h⟩) htake)
    | exact wpAny_bind (m := Builtin.Tuple.tupleExact _) (wpAny_newObj_type (wpAny_bind (wpAny_pure (wpAny_pure ⟨_, rfl, wpAny_pure h⟩))) htake)
    | exact wpAny_bind (wpAny_bind (m := Builtin.Tuple.tupleExact _) (wpAny_newObj_type (wpAny_pure (wpAny_pure ⟨_, rfl, wpAny_pure h⟩)) htake))
    | exact wpAny_bind (wpAny_bind (m := Builtin.Tuple.tupleExact _) (wpAny_newObj_type (wpAny_pure ⟨_, rfl, wpAny_pure h⟩) htake))
end
/-! ### x[::-1] by value -/
theorem pe_rev {X : L2.Cx} {M : Names} {e : Expr} {te : L2.TE} {k : Nat} {p1 p2 p3 pos : Pos} (he : L2.PE X e te) :
    L2.PE X (.Subscript e (.Slice none none (some (.UnaryOp .USub (.Constant (.int 1) k p1) p2)) p3) pos) (fun σ H Q => te σ H fun v H1 => ∃ w A Qw, Rep X.K H1 v w ∧ RH X.K M H1 A ∧ rvW w A Qw ∧ ∀ w A', Qw w A' → Lk X.K M H1 A Q w A') := by
  refine ⟨fun pins s σ H Q I h => ?_⟩
  refine Subscript_ (L2.thn (he.run pins s σ H _ I h) fun v s1 ⟨x, H1, I1, r1, w, A, Qw, rx, g, hw, kk⟩ => ?_)
  have hst : L2.PO X (some (.UnaryOp .USub (.Constant (.int 1) k p1) p2)) (L2.tPart (L2.tUn (L2.rU fun i => .int (-i)) (L2.tC (.int 1)))) := L2.po_some (L2.pe_un L2.un_neg L2.pe_int)
  refine wpAny_Slice (L2.thn (L2.po_none.run pins s1 σ H1 (fun o H2 => o = none ∧ H2 = H1) I1 ⟨rfl, rfl⟩) fun vl s2 ⟨l, H2, I2, pl, el, e2⟩ => ?_)
  subst el e2
  refine L2.thn (L2.po_none.run pins s2 σ H2 (fun o H3 => o = none ∧ H3 = H2) I2 ⟨rfl, rfl⟩) fun vu s3 ⟨u, H3, I3, pu, eu, e3⟩ => ?_
  subst eu e3
  refine L2.thn (hst.run pins s3 σ H3 (fun o H4 => o = some (-1) ∧ H4 = H3) I3 ⟨1, rfl, -1, rfl, rfl, rfl⟩) fun vs s4 ⟨o, H4, I4, ps, eo, e4⟩ => ?_
  subst eo e4
  have I5 : L2.Inv X pins σ H4 { s4 with heap := s4.heap.push { cls := .type "slice", data := .fields #[vl, vu, vs] } } := I4.kept (t' := s4.toks) fun b ob q => Heap.get?_push_of_some _ q
  have cut : ∀ {a : Addr} {xs : List V}, L2.SqT X.K H4 a xs → NewT H4 xs.reverse Q →
      wpAny (model X.prog X.w) X.A (subscriptTail e (.Slice none none (some (.UnaryOp .USub (.Constant (.int 1) k p1) p2)) p3) (.ref a) (.ref s4.heap.objs.size)) (L2.EP X pins σ Q) X.xe { s4 with heap := s4.heap.push { cls := .type "slice", data := .fields #[vl, vu, vs] } } := fun {a xs} hx hq => by
    obtain ⟨its, r, ht, hz⟩ := I5.tuple hx
    have hlen := r.length
    refine tail_any (ops := [.ref a, .ref s4.heap.objs.size]) ht.typeIs (PyProof.Rows.slot_tuple_getitem.lookup) ?_ (by with_unfolding_all rfl)
    refine tuple_rev ht (Heap.IsSliceOf.new _ vl vu vs) pl pu ps ?_ (by rw [List.size_toArray]; omega)
    refine ⟨.ref _, _, I5.laid (t' := s4.toks) (o := .frz (tupO its.reverse) (.tup xs.reverse)) (fun b ob q => Heap.get?_push_of_some _ q) (Nat.le_refl _) ?_, rfl, hq _ _ (I5.hok.fresh (Nat.le_refl _)) rfl⟩
    exact ⟨Heap.get?_push_size _ rfl, by rw [List.length_reverse]; exact hz, _, r.reverse, IsTup.new _ _⟩
  cases w with
  | tup ws =>
    cases rx with
    | tup hx r =>
      cases r1
      exact cut hx.t fun p o hp ho => kk _ _ hw _ _ (.tup (SqP.new ho) (r.reverse.tk (Tk.new hp))) (g.newT hp) (Fr.newT hp)
  | ref a =>
    cases rx
    cases r1
    obtain ⟨ws, ha, hw⟩ := hw
    obtain ⟨xs, hH, r⟩ := g _ _ ha
    obtain ⟨its, rv, ht, hz⟩ := I5.list (L2.SqL.of hH)
    have hlen := rv.length
    refine tail_any (ops := [.ref a, .ref s4.heap.objs.size]) ht.isList.typeIs (PySem.slot_list_getitem.lookup) ?_ (by with_unfolding_all rfl)
    refine wpAny_getItem_list_slice ht.isList (Heap.IsSliceOf.new _ vl vu vs) pl pu ps (by decide) ?_ (by rw [List.size_toArray]; omega)
    rw [PySem.W.krv_pick]
    have np := I5.hok.fresh (Nat.le_refl _)
    refine ⟨.ref _, _, I5.laid (t' := s4.toks) (o := .lst xs.reverse) (fun b ob q => Heap.get?_push_of_some _ q) (Nat.le_refl _) ?_, rfl, kk _ _ (hw _ (g.free np)) _ _ (.ref _) (g.new np ⟨_, L2.upd_same, r.reverse.tk (Tk.new np)⟩) (Fr.new np)⟩
    exact ⟨by rw [List.length_reverse]; exact hz, _, 0, rv.reverse, Heap.get?_push_size _ rfl⟩
  | _ => exact hw.elim
/-! ### enumerate(v), v told by its iterator's first cell -/
set_option maxHeartbeats 1000000 in
theorem enum_new1 {v : Value} {o : Obj} {Hv : Heap → Prop} (B : Begins v o Hv) :
    Meets (Builtin.«enumerate.__new__» ⟨[.type "enumerate", v], []⟩) (fun _ R s => Hv s.heap ∧
      R (.ok (.ret (.ref (s.heap.push o).objs.size))) { s with heap := (s.heap.push o).push { cls := .type "enumerate", data := .fields #[.none, .bool false, .ref s.heap.objs.size, rawInt 0, .none, .none] } }) :=
  .of_wp fun prog w A R s h => by
    obtain ⟨hp, g, d, tk, os⟩ := s; obtain ⟨h1, h⟩ := h
    have hsub := sub_enumerate
    have it1 : ∀ {A' : Around} {E : Value → Shared → Prop} {Q : Value → Shared → Prop}, Q (.ref hp.objs.size) ⟨hp.push o, g, d, tk, os⟩ → wpAny (model prog w) A' (pyIter v) Q E ⟨hp, g, d, tk, os⟩ :=
      fun q => B.iter prog w _ _ ⟨hp, g, d, tk, os⟩ _ h1 q
    wp_walk using it1
    refine wpAny_stack_any fun st => wpAny_pure ?_
    split
    · rename_i c _ _ _ _ _
      cases (c == Value.type "enumerate")
      · wp_walk using it1
        exact ⟨_, rfl, h⟩
      · wp_walk using it1
        exact ⟨_, rfl, h⟩
    · wp_walk using it1
      exact ⟨_, rfl, h⟩
section
variable {prog : Program} {w : World} {A : Around} {E : Value → Shared → Prop} {s : Shared}
theorem enum_call1 {v : Value} {o : Obj} {Hv : Heap → Prop} {Q : Value → Shared → Prop} (B : Begins v o Hv) (h1 : Hv s.heap)
    (h : ∀ h', IsEnum h' (s.heap.objs.size + 1) s.heap.objs.size 0 .none → h'.get? s.heap.objs.size = some o → (∀ b o, s.heap.get? b = some o → h'.get? b = some o) → Q (.ref (s.heap.objs.size + 1)) { s with heap := h' }) :
    wpAny (model prog w) A (call (.type "enumerate") [v]) Q E s := by
  refine callType_new PySem.F.called_enumerate (by decide) (PySem.F.typeCall_enumerate_1 _) (PySem.F.newCall_enumerate_1 _) (fun obj => PySem.F.args_object_init_2 obj _) PySem.F.entry_enumerate_new (enum_new1 B) ⟨h1, ?_⟩
  have hz : (s.heap.push o).objs.size = s.heap.objs.size + 1 := Heap.size_push ..
  show _ ∧ _
  rw [hz]
  have he : IsEnum ((s.heap.push o).push { cls := .type "enumerate", data := .fields #[.none, .bool false, .ref s.heap.objs.size, rawInt 0, .none, .none] }) (s.heap.objs.size + 1) s.heap.objs.size 0 .none := by
    have q := Heap.get?_push_size (s.heap.push o) (o := { cls := .type "enumerate", data := .fields #[.none, .bool false, .ref s.heap.objs.size, rawInt 0, .none, .none] }) rfl
    rw [hz] at q; exact q
  exact ⟨⟨_, he, rfl⟩, h _ he (Heap.get?_push_of_some _ (Heap.get?_push_size _ B.free)) fun b o x => Heap.get?_push_of_some _ (Heap.get?_push_of_some _ x)⟩
end
/-- the tuple at a, each item in a new pair -/
def ItE (K : PySem.W.Frag) (a : Addr) : L2.It :=
  ⟨fun i H => ∃ (xs : List V) (x : V), L2.SqT K H a xs ∧ xs[i]? = some x, fun i H v H' => ∃ T x o, v = .ref T ∧ H T = none ∧ o.dict = none ∧ H' = L2.upd H T (.frz o (.tup [.int (i : Nat), x])) ∧ ∀ xs, L2.SqT K H a xs → xs[i]? = some x, fun i H => ∃ xs : List V, L2.SqT K H a xs ∧ xs.length ≤ i⟩
theorem turn_enumT {P : Program} {w : World} {K : PySem.W.Frag} {elts : List Expr} {kk : Nat} {tpos : Pos} (a e it : Addr) :
    L2.Turn P w K (.Tuple elts kk tpos) (ItE K a) [e, it] e (fun i h => (∃ old, IsEnum h e it ((i : Nat) : Int) old) ∧ h.IsTupleIter it a i ∧ e ≠ it) where
  mem := by simp
  obj := fun i h st b hb => by
    obtain ⟨⟨old, he⟩, ⟨o, ho, hc, hd⟩, _⟩ := st
    have e' : b = e ∨ b = it := by simpa using hb
    rcases e' with z | z
    · rw [z]; exact ⟨_, he, fun v q => nomatch q⟩
    · rw [z]; exact ⟨o, ho, fun v q => by rw [hd] at q; cases q⟩
  keep := fun i h h' st k => let ⟨⟨old, he⟩, hi, hne⟩ := st; ⟨⟨old, k e (by simp) _ he⟩, hi.at fun o q => k it (by simp) o q, hne⟩
  item := by
    intro X hP hw hK hc i pins s σ H E I hf st hg
    subst hP hw hK
    obtain ⟨⟨old, he⟩, hit, hne⟩ := st
    obtain ⟨xs, x, hq, hx⟩ := hg
    obtain ⟨its, rv, p, hz⟩ := I.tuple hq
    obtain ⟨u, hu, ru⟩ := rv.get hx
    have hel : e < s.heap.objs.size := Heap.lt_size he
    have hil : it < s.heap.objs.size := by obtain ⟨_, q, _⟩ := hit; exact Heap.lt_size q
    have n1 : a ≠ it := fun z => by
      obtain ⟨o1, q1, c1, _⟩ := id p
      obtain ⟨o2, q2, c2, _⟩ := id hit
      rw [z, q2] at q1; cases q1; rw [c2] at c1; injection c1 with c1; exact absurd c1 (by decide)
    have n2 : e ∉ [it, a] := fun z => by
      have z' : e = it ∨ e = a := by simpa using z
      rcases z' with z | z
      · exact hne z
      · obtain ⟨o1, q1, c1, _⟩ := id p
        rw [← z, show s.heap.get? e = _ from he] at q1; cases q1; injection c1 with c1; exact absurd c1 (by decide)
    have hli : i < its.toArray.size := by rw [List.size_toArray]; exact (List.getElem?_eq_some_iff.mp hu).1
    refine wpAny_pyNext_enum_itemD (Draws.tuple (A := X.A.in1) (by rw [← I.ok.hd hc]) it a n1 its.toArray) he ⟨hit, p⟩ hli hne n2 fun y h' tk hP ho hit' hT hsz hk => ?_
    have ey : y = u := by
      have q : its.toArray[i]? = some y := hP
      rw [List.getElem?_toArray, hu] at q
      exact (Option.some.inj q).symm
    subst ey
    refine ⟨_, rfl, wpAny_letOwnedTupleGo_enum (s := { s with heap := h', toks := tk + 1 }) ho fun h'' he' sb => ?_⟩
    have hT2 : h''.get? s.heap.objs.size = some { cls := .type "tuple", data := .seq #[.int i tk, y] } := (sb.2 _ (Nat.ne_of_gt hel)).trans hT
    have new : L2.ObjOk X.prog X.w (L2.upd H s.heap.objs.size (.frz (tupO [.int i tk, y]) (.tup [.int (i : Nat), x]))) h'' s.heap.objs.size (.frz (tupO [.int i tk, y]) (.tup [.int (i : Nat), x])) :=
      ⟨hT2, by show 2 ≤ sizeLine; decide, [.int i tk, y], .cons ⟨_, rfl⟩ (.cons ru .nil), ⟨_, hT2, rfl, _, rfl⟩⟩
    have I1 : L2.Inv X pins σ (L2.upd H s.heap.objs.size (.frz (tupO [.int i tk, y]) (.tup [.int (i : Nat), x]))) { s with heap := h'', toks := tk + 1 } :=
      I.turnedNew (ch := [e, it]) (fun b ob hb q => (sb.2 b (fun z => hb (by simp [z]))).trans (hk b ob (fun z => hb (by simp [z])) (fun z => hb (by simp [z])) q)) hf (Nat.le_refl _) new
    refine ⟨.ref s.heap.objs.size, _, I1, rfl, ⟨_, x, _, rfl, I.hok.fresh (Nat.le_refl _), rfl, rfl, fun ys hy => by rw [I.tuple_inj hy hq]; exact hx⟩, ⟨⟨y, ?_⟩, hit'.1.at fun o q => (sb.2 it (Ne.symm hne)).trans q, hne⟩, fun b hb => ?_⟩
    · have e1 : ((i + 1 : Nat) : Int) = (i : Int) + 1 := by omega
      rw [e1]; exact he'
    · have hb' : b < s.heap.objs.size := by
        have e' : b = e ∨ b = it := by simpa using hb
        rcases e' with z | z
        · rw [z]; exact hel
        · rw [z]; exact hil
      rw [L2.upd_ne (Nat.ne_of_lt hb')]
      exact (hf b hb).1
  done := by
    intro X hP hw hK hc i pins s σ H E I hf st hg
    subst hP hw hK
    obtain ⟨⟨old, he⟩, hit, hne⟩ := st
    obtain ⟨xs, hq, hx⟩ := hg
    obtain ⟨its, rv, p, hz⟩ := I.tuple hq
    obtain ⟨f0, f1, f2, f3, f4, f5⟩ := hf it (by simp)
    have hl := rv.length
    have hT : s.TypeIs (.ref e) "enumerate" := ⟨_, he, rfl⟩
    unfold pyNext
    refine wpAny_bind (wpAny_attempt (wpAny_callSpecial?_slot (name := Str.ofString "__next__") hT PySem.F.slot_enumerate_next
      (wpAny_call_entry PySem.F.slot_enumerate_next hT PySem.F.entry_enumerate_next ?_ (PySem.F.args_enumerate_next_1 _))))
    show wpAny _ _ (field (.ref e) 2 >>= _) _ _ _
    refine wpAny_bind (wpAny_field he rfl (x := .ref it) rfl ?_)
    refine wpAny_bind (wpAny_nextOf_tuple_end (A := X.A.in1) (by rw [← I.ok.hd hc]) hit p (by simp; omega) fun h' x he' hx' => ?_)
    obtain ⟨o, ho, hcx⟩ := hx'
    refine wpAny_bind (wpAny_isInstance (T := "StopIteration") (b := true) ⟨o, ho, hcx⟩ isSubtype_stop ?_)
    exact wpAny_pure ⟨rfl, I.turned (t' := s.toks) (fun b o hb q => he' b o hb q) f0 f1 f3 f4 f5⟩
  self := fun A i s Q E st h => let ⟨⟨_, he⟩, _⟩ := st; wpAny_pyIter_enum he h
/-- the list at a, each item in a new pair -/
def ItEL (K : PySem.W.Frag) (a : Addr) : L2.It :=
  ⟨fun i H => ∃ (xs : List V) (x : V), L2.SqL K H a xs ∧ xs[i]? = some x, fun i H v H' => ∃ T x o, v = .ref T ∧ H T = none ∧ o.dict = none ∧ H' = L2.upd H T (.frz o (.tup [.int (i : Nat), x])) ∧ ∀ xs, L2.SqL K H a xs → xs[i]? = some x, fun i H => ∃ xs : List V, L2.SqL K H a xs ∧ xs.length ≤ i⟩
theorem turn_enumL {P : Program} {w : World} {K : PySem.W.Frag} {elts : List Expr} {kk : Nat} {tpos : Pos} (a e it : Addr) :
    L2.Turn P w K (.Tuple elts kk tpos) (ItEL K a) [e, it] e (fun i h => (∃ old, IsEnum h e it ((i : Nat) : Int) old) ∧ h.IsListIter it a i ∧ e ≠ it) where
  mem := by simp
  obj := fun i h st b hb => by
    obtain ⟨⟨old, he⟩, ⟨o, ho, hc, hd⟩, _⟩ := st
    have e' : b = e ∨ b = it := by simpa using hb
    rcases e' with z | z
    · rw [z]; exact ⟨_, he, fun v q => nomatch q⟩
    · rw [z]; exact ⟨o, ho, fun v q => by rw [hd] at q; cases q⟩
  keep := fun i h h' st k => let ⟨⟨old, he⟩, hi, hne⟩ := st; ⟨⟨old, k e (by simp) _ he⟩, hi.at fun o q => k it (by simp) o q, hne⟩
  item := by
    intro X hP hw hK hc i pins s σ H E I hf st hg
    subst hP hw hK
    obtain ⟨⟨old, he⟩, hit, hne⟩ := st
    obtain ⟨xs, x, hq, hx⟩ := hg
    obtain ⟨its, rv, p, hz⟩ := I.list hq
    obtain ⟨u, hu, ru⟩ := rv.get hx
    have hel : e < s.heap.objs.size := Heap.lt_size he
    have hil : it < s.heap.objs.size := by obtain ⟨_, q, _⟩ := hit; exact Heap.lt_size q
    have n1 : a ≠ it := fun z => by
      obtain ⟨o1, q1, c1, _⟩ := id p.isList
      obtain ⟨o2, q2, c2, _⟩ := id hit
      rw [z, q2] at q1; cases q1; rw [c2] at c1; injection c1 with c1; exact absurd c1 (by decide)
    have n2 : e ∉ [it, a] := fun z => by
      have z' : e = it ∨ e = a := by simpa using z
      rcases z' with z | z
      · exact hne z
      · obtain ⟨o1, q1, c1, _⟩ := id p.isList
        rw [← z, show s.heap.get? e = _ from he] at q1; cases q1; injection c1 with c1; exact absurd c1 (by decide)
    have hli : i < its.toArray.size := by rw [List.size_toArray]; exact (List.getElem?_eq_some_iff.mp hu).1
    refine wpAny_pyNext_enum_itemD (Draws.list (A := X.A.in1) (by rw [← I.ok.hd hc]) it a n1 its.toArray) he ⟨hit, p.isList⟩ hli hne n2 fun y h' tk hP ho hit' hT hsz hk => ?_
    have ey : y = u := by
      have q : its.toArray[i]? = some y := hP
      rw [List.getElem?_toArray, hu] at q
      exact (Option.some.inj q).symm
    subst ey
    refine ⟨_, rfl, wpAny_letOwnedTupleGo_enum (s := { s with heap := h', toks := tk + 1 }) ho fun h'' he' sb => ?_⟩
    have hT2 : h''.get? s.heap.objs.size = some { cls := .type "tuple", data := .seq #[.int i tk, y] } := (sb.2 _ (Nat.ne_of_gt hel)).trans hT
    have new : L2.ObjOk X.prog X.w (L2.upd H s.heap.objs.size (.frz (tupO [.int i tk, y]) (.tup [.int (i : Nat), x]))) h'' s.heap.objs.size (.frz (tupO [.int i tk, y]) (.tup [.int (i : Nat), x])) :=
      ⟨hT2, by show 2 ≤ sizeLine; decide, [.int i tk, y], .cons ⟨_, rfl⟩ (.cons ru .nil), ⟨_, hT2, rfl, _, rfl⟩⟩
    have I1 : L2.Inv X pins σ (L2.upd H s.heap.objs.size (.frz (tupO [.int i tk, y]) (.tup [.int (i : Nat), x]))) { s with heap := h'', toks := tk + 1 } :=
      I.turnedNew (ch := [e, it]) (fun b ob hb q => (sb.2 b (fun z => hb (by simp [z]))).trans (hk b ob (fun z => hb (by simp [z])) (fun z => hb (by simp [z])) q)) hf (Nat.le_refl _) new
    refine ⟨.ref s.heap.objs.size, _, I1, rfl, ⟨_, x, _, rfl, I.hok.fresh (Nat.le_refl _), rfl, rfl, fun ys hy => by rw [I.list_inj hy hq]; exact hx⟩, ⟨⟨y, ?_⟩, hit'.1.at fun o q => (sb.2 it (Ne.symm hne)).trans q, hne⟩, fun b hb => ?_⟩
    · have e1 : ((i + 1 : Nat) : Int) = (i : Int) + 1 := by omega
      rw [e1]; exact he'
    · have hb' : b < s.heap.objs.size := by
        have e' : b = e ∨ b = it := by simpa using hb
        rcases e' with z | z
        · rw [z]; exact hel
        · rw [z]; exact hil
      rw [L2.upd_ne (Nat.ne_of_lt hb')]
      exact (hf b hb).1
  done := by
    intro X hP hw hK hc i pins s σ H E I hf st hg
    subst hP hw hK
    obtain ⟨⟨old, he⟩, hit, hne⟩ := st
    obtain ⟨xs, hq, hx⟩ := hg
    obtain ⟨its, rv, p, hz⟩ := I.list hq
    obtain ⟨f0, f1, f2, f3, f4, f5⟩ := hf it (by simp)
    have hl := rv.length
    have hT : s.TypeIs (.ref e) "enumerate" := ⟨_, he, rfl⟩
    unfold pyNext
    refine wpAny_bind (wpAny_attempt (wpAny_callSpecial?_slot (name := Str.ofString "__next__") hT PySem.F.slot_enumerate_next
      (wpAny_call_entry PySem.F.slot_enumerate_next hT PySem.F.entry_enumerate_next ?_ (PySem.F.args_enumerate_next_1 _))))
    show wpAny _ _ (field (.ref e) 2 >>= _) _ _ _
    refine wpAny_bind (wpAny_field he rfl (x := .ref it) rfl ?_)
    refine wpAny_bind (wpAny_nextOf_list_end (A := X.A.in1) (by rw [← I.ok.hd hc]) hit p.isList (by simp; omega) fun h' x he' hx' => ?_)
    obtain ⟨o, ho, hcx⟩ := hx'
    refine wpAny_bind (wpAny_isInstance (T := "StopIteration") (b := true) ⟨o, ho, hcx⟩ isSubtype_stop ?_)
    exact wpAny_pure ⟨rfl, I.turned (t' := s.toks) (fun b o hb q => he' b o hb q) f0 f1 f3 f4 f5⟩
  self := fun A i s Q E st h => let ⟨⟨_, he⟩, _⟩ := st; wpAny_pyIter_enum he h
/-- enumerate(x), walked: x a list, a locked list or a tuple -/
theorem pi_enumA {X : L2.Cx} {M : Names} {e : Expr} {ta : L2.TA} {p pos tpos : Pos} {elts : List Expr} {kk : Nat} (hg : L2.Gl X "enumerate") (hm : X.mg "enumerate" = none) (ha : L2.PA X [e] ta) (hs : starEach [e] X.env = [(false, eval e X.env)]) :
    L2.PI X (.Tuple elts kk tpos) (.Call (.Name "enumerate" p) [e] [] pos) (fun σ H R => ta σ H fun vs H1 => ∃ a, vs = [.ref a] ∧ ((∃ xs, L2.SqL X.K H1 a xs ∧ R (ItEL X.K a) H1) ∨ ∃ xs, L2.SqT X.K H1 a xs ∧ R (ItE X.K a) H1)) := by
  refine ⟨fun pins s σ H R I h => ?_⟩
  refine Call_ (L2.ld_blt I hg hm boot_enumerate (PyProof.Rows.callWith_type1 (L2.thn (ha.run pos pins s σ H _ I h) fun us s1 ⟨vs, H1, I1, r1, q1⟩ => ?_) hs rfl))
  obtain ⟨a, rfl, q1⟩ := q1
  obtain ⟨u, rfl, ru⟩ := L2.vals1 r1
  cases (show u = Value.ref a from ru)
  have fresh : ∀ b ∈ [s1.heap.objs.size + 1, s1.heap.objs.size], L2.FpOk X pins H1 b := fun b hb => by
    have e' : b = s1.heap.objs.size + 1 ∨ b = s1.heap.objs.size := by simpa using hb
    have hle : s1.heap.objs.size ≤ b := by omega
    exact I1.fpOk hle (I1.hok.fresh hle)
  rcases q1 with ⟨xs, hq, q⟩ | ⟨xs, hq, q⟩
  · obtain ⟨its, rv, p', hz⟩ := I1.list hq
    refine enum_call1 (begins_list a its.toArray) p'.isList fun h' he hit hk => wpAny_pyIter_enum he ?_
    have I2 : L2.Inv X pins σ H1 { s1 with heap := h' } := I1.kept (t' := s1.toks) hk
    exact ⟨s1.heap.objs.size + 1, [s1.heap.objs.size + 1, s1.heap.objs.size], _, _, H1, rfl, I2, turn_enumL a (s1.heap.objs.size + 1) s1.heap.objs.size, ⟨⟨.none, he⟩, ⟨_, hit, rfl, rfl⟩, Nat.succ_ne_self _⟩, fresh, q⟩
  · obtain ⟨its, rv, p', hz⟩ := I1.tuple hq
    refine enum_call1 (begins_tuple a its.toArray) p' fun h' he hit hk => wpAny_pyIter_enum he ?_
    have I2 : L2.Inv X pins σ H1 { s1 with heap := h' } := I1.kept (t' := s1.toks) hk
    exact ⟨s1.heap.objs.size + 1, [s1.heap.objs.size + 1, s1.heap.objs.size], _, _, H1, rfl, I2, turn_enumT a (s1.heap.objs.size + 1) s1.heap.objs.size, ⟨⟨.none, he⟩, ⟨_, hit, rfl, rfl⟩, Nat.succ_ne_self _⟩, fresh, q⟩
end N
end
section
set_option maxRecDepth 100000
set_option maxHeartbeats 4000000
/-! == and != of instances of an own class that has an == of its own and no != -/
namespace N
open PySem PySem.Spec PyProof.Rows PySem.W
section
variable {prog : Program} {w : World} {A : Around} {E : Value → Shared → Prop} {s : Shared} {K : Frag} {x y C f : Addr} {ox : Obj} {od : Option Obj} {tb : Value} {h₀ : Heap} {L : Addr} {m : Str → Option Value}
theorem entry_ne (hu : A.units < cLine) (X : K.In s.heap) (I : InstAt s.heap x ox C od) (hs : findIn K (.ref C) "__eq__" = some (some (.ref f))) (hf : isFn K (.ref f) = true) {Q : PySem.Fin → Shared → Prop}
    (hc : wpAny (model prog w) A (call (.ref f) [.ref x, .ref y]) (fun v s' => ∃ b, v = .bool b ∧ Q (.done (.ret (.bool (!b)))) s') E s) : wpAny (model prog w) A (Builtin.«object.__ne__» ⟨[.ref x, .ref y], []⟩) Q E s := by
  unfold Builtin.«object.__ne__»
  repeat (first
    | with_reducible refine wpAny_cRoomFor hu ?_
    | (refine wpAny_bind (m := callSpecialIfBound? (.ref x) (Str.ofString "__eq__") [.ref y])
        (ifBound_K X I hs hf (wpAny_mono hc (fun r s' hr => by
          obtain ⟨b, rfl, hq⟩ := hr
          repeat (first | exact hq | exact wpAny_pure hq | exact wpAny_truthy_bool hq | (refine wpAny_bind (m := truthy (.bool _)) (wpAny_truthy_bool ?_)) | wp_step)) fun _ _ e => e)))
    | wp_step)
theorem call_ne (hu : A.units + 1 < cLine) (X : K.In s.heap) (I : InstAt s.heap x ox C od) (hm : mroIn K C (.type "object") = some true) (hs : findIn K (.ref C) "__eq__" = some (some (.ref f))) (hf : isFn K (.ref f) = true) {Q : Value → Shared → Prop}
    (hc : wpAny (model prog w) A.in1 (call (.ref f) [.ref x, .ref y]) (fun v s' => ∃ b, v = .bool b ∧ Q (.bool (!b)) s') E s) : wpAny (model prog w) A (call (.builtin "object.__ne__") [.ref x, .ref y]) Q E s := by
  refine wpAny_call (codeAny_call_builtin F.cmp_object.ne.plain F.cmpEntry_ne (check_slot F.cmpKind_ne F.cmpSplit_ne (I.type.andThen (looks_mroIn X hm)) (F.cmpArgs_ne _ _) (entry_ne (A := A.in1) hu X I hs hf (wpAny_mono hc (fun v s' hv => ?_) fun _ _ e => e))))
  obtain ⟨b, rfl, hq⟩ := hv
  first | exact ⟨b, rfl, wpAny_pure hq⟩ | exact ⟨b, rfl, wpAny_pure (wpAny_pure hq)⟩ | exact ⟨b, rfl, hq⟩
theorem ifBound_ne {M : Model} {args : List Value} {Q : Option Value → Shared → Prop} (X : K.In s.heap) (I : InstAt s.heap x ox C od) (hn : findIn K (.ref C) "__ne__" = some (some (.builtin "object.__ne__")))
    (h : wpAny M A (call (.builtin "object.__ne__") (.ref x :: args)) (fun v => Q (some v)) E s) : wpAny M A (callSpecialIfBound? (.ref x) "__ne__" args) Q E s := by
  simp only [callSpecialIfBound?, bindSpecialIfBound?]
  refine wpAny_holding (wpAny_bind (wpAny_bind (wpAny_bind (I.type.here ((looks_findIn X hn).here ?_)))))
  refine wpAny_bind (wpAny_askSetting (wpAny_ite ?_))
  have fin : wpAny M A (call (.builtin "object.__ne__") ([.ref x] ++ args) >>= fun v => pure (some v)) Q E s := wpAny_bind (wpAny_mono h (fun v s' h' => wpAny_pure h') fun _ _ h' => h')
  split
  · exact wpAny_bind (wpAny_of_eq (F.cmp_object.ne.bind _) (wpAny_pure (by exact fin)))
  · exact wpAny_tryCatch (wpAny_bind (wpAny_of_eq (F.cmp_object.ne.bind _) (wpAny_pure (by exact fin))))
theorem rc_ne {Q : Value → Shared → Prop} (hu : A.units + 1 < cLine) (X : K.In s.heap) (I : InstAt s.heap x ox C od) (hb : Looks (model prog w) s.heap (typeOf (.ref y)) tb) (hnf : notFirst K C tb = true) (hm : mroIn K C (.type "object") = some true)
    (hn : findIn K (.ref C) "__ne__" = some (some (.builtin "object.__ne__"))) (hs : findIn K (.ref C) "__eq__" = some (some (.ref f))) (hf : isFn K (.ref f) = true)
    (h : wpAny (model prog w) A.in1 (call (.ref f) [.ref x, .ref y]) (fun v s' => ∃ b, v = .bool b ∧ Q (.bool (!b)) s') E s) : wpAny (model prog w) A (richCompare .NotEq (.ref x) (.ref y)) Q E s := by
  have one : wpAny (model prog w) A (tryCompare (.ref x) (cmpInfo .NotEq).2.1 (.ref y)) (fun r s' => ∃ v, r = some v ∧ Q v s') E s := by
    unfold tryCompare
    refine wpAny_bind (ifBound_ne X I hn (call_ne hu X I hm hs hf (wpAny_mono h (fun v s' hv => ?_) fun _ _ e => e)))
    obtain ⟨b, rfl, hq⟩ := hv
    exact ⟨b, rfl, wpAny_pure ⟨_, rfl, hq⟩⟩
  unfold richCompare
  simp only [oneThing_ref]
  refine wpAny_holding (wpAny_bind (wpAny_cRoomFor (Nat.lt_of_succ_lt hu) ?_))
  refine wpAny_bind (I.type.here (wpAny_bind (hb.here ?_)))
  split
  · rename_i q
    have e : subIn K tb (.ref C) = some false := by
      rcases Bool.or_eq_true_iff.mp hnf with e | e
      · rw [beq_iff_eq.mp e] at q; simp at q
      · exact beq_iff_eq.mp e
    refine wpAny_bind ((looks_subIn X e).here ?_)
    simp only [Bool.false_eq_true, if_false]
    refine wpAny_bind (wpAny_mono one (fun r s' z => ?_) fun _ _ e => e)
    obtain ⟨v, rfl, hq⟩ := z
    exact wpAny_pure hq
  · refine wpAny_bind (wpAny_pure ?_)
    simp only [Bool.false_eq_true, if_false]
    refine wpAny_bind (wpAny_mono one (fun r s' z => ?_) fun _ _ e => e)
    obtain ⟨v, rfl, hq⟩ := z
    exact wpAny_pure hq
end
/-! ### as an operator of the layer -/
abbrev in1 (X : L2.Cx) : L2.Cx := { X with A := X.A.in1 }
theorem inv_in1 {X : L2.Cx} {pins : List (Addr × Obj)} {σ : L2.St} {H : Hp} {s : Shared} (I : L2.Inv X pins σ H s) : L2.Inv (in1 X) pins σ H s :=
  ⟨⟨I.ok.mod, I.ok.kind, I.ok.glob, I.ok.blt, I.ok.above, I.ok.inj, I.ok.has, I.ok.cab, I.ok.hd, I.ok.frames, I.ok.stk, I.ok.exf, I.ok.bs, I.ok.bsz, I.ok.noex, I.ok.exfs, I.ok.funs, I.ok.frf⟩, I.os, I.bare, I.base, I.loc, I.cell, I.free, I.freeC, I.pin, I.hok, I.len⟩
theorem inv_un1 {X : L2.Cx} {pins : List (Addr × Obj)} {σ : L2.St} {H : Hp} {s : Shared} (ok : X.Ok) (I : L2.Inv (in1 X) pins σ H s) : L2.Inv X pins σ H s := ⟨ok, I.os, I.bare, I.base, I.loc, I.cell, I.free, I.freeC, I.pin, I.hok, I.len⟩
/-- what an own == needs of the text -/
structure OwnEq (X : L2.Cx) (c : Addr) (sp : L2.Sp) : Prop where
  ex : ∃ fa fd ps k, PySem.W.findIn X.K (.ref c) "__eq__" = some (some (.ref fa)) ∧ PySem.W.isFn X.K (.ref fa) = true ∧ L2.Binds X.K fd ps [] ∧ FnG X.prog X.w X.K X.mg X.base (L2.CX X.prog X.w) k fa fd ps sp ∧ L2.Room k X.A ∧ L2.Room k X.A.in1
  ne : PySem.W.findIn X.K (.ref c) "__ne__" = some (some (.builtin "object.__ne__"))
  mro : PySem.W.mroIn X.K c (.type "object") = some true
theorem op_own {X : L2.Cx} (ne : Bool) (hu : X.A.units + 1 < cLine) (gd : X.A.guards = some []) : L2.OpR X (compareOp (if ne = true then .NotEq else .Eq)) (fun x y H Q => ∃ a b c dx fs e dy gs sp, x = .ref a ∧ y = .ref b ∧ H a = some (.ins c dx fs) ∧ H b = some (.ins e dy gs) ∧ OwnEq X c sp ∧ PySem.W.notFirst X.K c (.ref e) = true ∧
    sp [.ref a, .ref b] H (fun v H' => ∃ k, v = .bl k ∧ Q (.bl (if ne = true then !k else k)) H') fun _ _ _ => False) := by
  intro pins s σ H x y v u Q I rx ry h
  obtain ⟨a, b, c, dx, fs, e, dy, gs, sp, rfl, rfl, ha, hb, O, hnf, hsp⟩ := h
  cases rx
  cases ry
  obtain ⟨mA, J, _⟩ := L2.ins_get I.hok ha
  obtain ⟨mB, J', _⟩ := L2.ins_get I.hok hb
  obtain ⟨od, J, _⟩ := J.look
  obtain ⟨od', J', _⟩ := J'.look
  obtain ⟨m, hF⟩ := I.fr
  obtain ⟨fa, fd, ps, k, hs, hf, hbd, FO, hr, hr1⟩ := O.ex
  have r2 : L2.Vals [L2.V.ref a, L2.V.ref b] [Value.ref a, Value.ref b] := .cons rfl (.cons rfl .nil)
  cases ne with
  | false =>
    show wpAny (model X.prog X.w) X.A (richCompare .Eq (.ref a) (.ref b)) (L2.EP X pins σ Q) X.xe s
    refine PySem.W.cmp_K (op := .Eq) (tb := .ref e) (by omega) hF I.ok.mod.kin J J'.type hnf hs hf (wpAny_mono (run_fnG (E := L2.WE fun _ _ _ _ => False) FO gd hr hbd (L2.passAt L2.takes0 σ) I r2 hsp) (fun v s' hv => ?_) fun _ _ z => z)
    obtain ⟨z, H', I', rz, kk, rfl, q⟩ := hv
    cases rz
    exact ⟨.bl kk, H', I', rfl, q⟩
  | true =>
    show wpAny (model X.prog X.w) X.A (richCompare .NotEq (.ref a) (.ref b)) (L2.EP X pins σ Q) X.xe s
    refine rc_ne (tb := .ref e) hu I.kIn J J'.type hnf O.mro O.ne hs hf (wpAny_mono (run_fnG (X := in1 X) (E := L2.WE fun _ _ _ _ => False) FO gd hr1 hbd (L2.passAt L2.takes0 σ) (inv_in1 I) r2 hsp) (fun v s' hv => ?_) fun _ _ z => z)
    obtain ⟨z, H', I', rz, kk, rfl, q⟩ := hv
    cases rz
    exact ⟨kk, rfl, .bl (!kk), H', inv_un1 I.ok I', rfl, q⟩
end N
end
section
set_option maxRecDepth 100000
set_option maxHeartbeats 4000000
/-! Which syntax a mini expression stands for; the facts of the text; the meaning of an expression is a reading of it. -/
namespace N
open PySem PySem.Spec PyProof.Rows
/-! ### plain syntactic facts -/
def noStar : Expr → Bool
  | .Starred _ _ => false
  | _ => true
theorem star_cons {e : Expr} {es : List Expr} {env : Env} (h : noStar e = true) : starEach (e :: es) env = (false, eval e env) :: starEach es env := by
  cases e <;> first | rfl | (exact nomatch h)
def noStars : List Expr → Bool
  | [] => true
  | e :: r => noStar e && noStars r
theorem star_plain {env : Env} (pos : Pos) : ∀ {es : List Expr}, noStars es = true → (backTo pos (starEach es env)).any (·.1) = false
  | [], _ => rfl
  | e :: r, h => by
    have h' := Bool.and_eq_true_iff.mp (show (noStar e && noStars r) = true from h)
    rw [star_cons h'.1]
    show (false || (backTo pos (starEach r env)).any (·.1)) = false
    rw [star_plain pos h'.2]; rfl
def noSlice : Expr → Bool
  | .Slice _ _ _ _ => false
  | _ => true
theorem plain_ix {e : Expr} (h : noSlice e = true) : L2.PlainIx e := fun o i => by
  cases e <;> first | rfl | (exact nomatch h)
/-- not what Python tests in parts -/
def plainT : Expr → Bool
  | .UnaryOp .Not _ _ => false
  | .BoolOp _ _ _ => false
  | .IfExp _ _ _ _ => false
  | .Compare _ _ _ _ => false
  | _ => true
theorem test_plain {e : Expr} {env : Env} (h : plainT e = true) (whole : Sem Value) : isTrue e env whole = (do let v ← whole; standAt e.pos; holding [v] (truthy v)) := by
  cases e with
  | UnaryOp op a pos => cases op <;> first | rfl | (exact nomatch h)
  | BoolOp _ _ _ => exact nomatch h
  | IfExp _ _ _ _ => exact nomatch h
  | Compare _ _ _ _ => exact nomatch h
  | _ => rfl
/-- no call without arguments: super() is one -/
def plainO : Expr → Bool
  | .Call (.Name _ _) [] [] _ => false
  | _ => true
theorem base_plain {o : Expr} {f : Str} {env : Env} (h : plainO o = true) : attributeBase o f env (eval o env) = eval o env := by
  unfold attributeBase
  split
  · exact nomatch h
  · rfl
def noSet : Expr → Bool
  | .Set _ _ _ => false
  | _ => true
theorem fold_plain {e : Expr} {env : Env} (h : noSet e = true) (x : Value) : foldedSetIterable e env x = pure x := by
  unfold foldedSetIterable
  split
  · exact nomatch h
  · rfl
def noComp : Expr → Bool
  | .ListComp _ _ _ _ => false
  | .SetComp _ _ _ _ => false
  | .DictComp _ _ _ _ _ => false
  | _ => true
theorem swap_none {e : Expr} {t : Option Expr} {n : Nat} {env : Env} (h : noComp e = true) : swapsWith e t n env = pure false := by
  unfold swapsWith
  cases e <;> first | rfl | (exact nomatch h)
/-! ### the checker -/
structure SE where
  fs : List Str
  cs : List Str
  ks : List Str
  fl : List Str
  ml : List Str
  xs : List Str
def kindB (sc : Scope) (x : Str) : NameKind → Bool := fun k => sc.names.lookup x = some k
def globB (sc : Scope) (x : Str) : Bool := kindB sc x .globalImplicit && !(x = "__debug__") && !(x = "__name__")
def visB (sc : Scope) (x : Str) : Bool := (kindB sc x .local || kindB sc x .cell || kindB sc x .free) && !(x = "__debug__") && !(x = "__classdict__")
theorem globB.gl {X : L2.Cx} {sc : Scope} {x : Str} (h : globB sc x = true) (hs : X.env.scope = sc) : L2.Gl X x ∧ (x == ("__debug__" : Str)) = false ∧ x ≠ "__name__" := by
  unfold globB kindB at h
  simp only [Bool.and_eq_true, Bool.not_eq_true', decide_eq_true_eq, decide_eq_false_iff_not] at h
  obtain ⟨⟨h1, h2⟩, h3⟩ := h
  refine ⟨?_, by simpa using h2, h3⟩
  show X.env.scope.names.lookup x = _
  rw [hs]; exact h1
theorem visB.vis {X : L2.Cx} {sc : Scope} {x : Str} (h : visB sc x = true) (hs : X.env.scope = sc) : L2.Vis X.env.scope x ∧ (x == ("__debug__" : Str)) = false ∧ (x == ("__classdict__" : Str)) = false := by
  unfold visB kindB at h
  simp only [Bool.and_eq_true, Bool.or_eq_true, Bool.not_eq_true', decide_eq_true_eq, decide_eq_false_iff_not] at h
  obtain ⟨⟨h1, h2⟩, h3⟩ := h
  refine ⟨?_, by simpa using h2, by simpa using h3⟩
  rw [hs]
  rcases h1 with (h | h) | h
  · exact .inl h
  · exact .inr (.inl h)
  · exact .inr (.inr h)
def gI : G → List Nat
  | .nm i => [i]
  | .tp is => is
/-- the class of isinstance's second argument -/
def tyN : Ty → Str
  | .int => "int" | .bool => "bool" | .str => "str" | .tuple => "tuple" | .list => "list" | .dict => "dict" | .own C => C | .non => ""
def tyB : Ty → Bool
  | .own _ => false
  | .non => false
  | _ => true
def mtN : Mt → Str
  | .append => "append" | .pop0 => "pop" | .popAt => "pop" | .extend => "extend" | .get1 => "get" | .get2 => "get" | .index => "index" | .join => "join" | .setdefault => "setdefault" | .count => "count"
section
variable (D : SE) (N : List Str)
def okIx (sc : Scope) (i : Nat) (x : Str) : Bool := decide (N[i]? = some x) && visB sc x
def locB (sc : Scope) (i : Nat) (x : Str) : Bool := decide (N[i]? = some x) && (kindB sc x .local || kindB sc x .cell)
def locS (sc : Scope) (i : Nat) (x : Str) : Bool := decide (N[i]? = some x) && kindB sc x .local
def okGs (sc : Scope) : List Nat → List Expr → Bool
  | [], [] => true
  | i :: is, .Name x _ :: es => locB N sc i x && okGs sc is es
  | _, _ => false
def okG (sc : Scope) : G → Expr → Bool
  | .nm i, .Name x _ => locB N sc i x
  | .tp is, .Tuple es _ _ => okGs N sc is es
  | _, _ => false
mutual
def okE (sc : Scope) : E → Expr → Bool
  | .v i, e => match e with
    | .Name x _ => okIx N sc i x
    | _ => false
  | .g x, e => match e with
    | .Name y _ => decide (x = y) && globB sc y && D.ks.contains x
    | _ => false
  | .int i, e => match e with
    | .Constant (.int j) _ _ => decide (i = j)
    | _ => false
  | .str s, e => match e with
    | .Constant (.str j) _ _ => decide (s = j)
    | _ => false
  | .bl b, e => match e with
    | .Constant (.bool j) _ _ => decide (b = j)
    | _ => false
  | .non, e => match e with
    | .Constant .none _ _ => true
    | _ => false
  | .bin op a b, e => match e with
    | .BinOp x o y _ => decide (bop op = o) && okE sc a x && okE sc b y
    | _ => false
  | .neg a, e => match e with
    | .UnaryOp .USub x _ => okE sc a x
    | _ => false
  | .cmp op a b, e => match e with
    | .Compare x [o] [y] _ => okE sc a x && (match op with
      | .isN => decide (o = .Is) && (match y, b with | .Constant .none _ _, .non => true | _, _ => false)
      | .isnN => decide (o = .IsNot) && (match y, b with | .Constant .none _ _, .non => true | _, _ => false)
      | _ => decide (cop op = some o) && !behindInMarks o y && okE sc b y)
    | _ => false
  | .cmp2 op op' a b c, e => match e with
    | .Compare x [o, o'] [y, z] _ => decide (cop op = some o) && decide (cop op' = some o') && !lastMarks [o, o'] [y, z] && okE sc a x && okE sc b y && okE sc c z
    | _ => false
  | .and a b, e => match e with
    | .BoolOp .And (x :: y :: r) p => okE sc a x && (match r with | [] => okE sc b y | _ => okE sc b (.BoolOp .And (y :: r) p))
    | _ => false
  | .or a b, e => match e with
    | .BoolOp .Or (x :: y :: r) p => okE sc a x && (match r with | [] => okE sc b y | _ => okE sc b (.BoolOp .Or (y :: r) p))
    | _ => false
  | .not a, e => match e with
    | .UnaryOp .Not x _ => okE sc a x
    | _ => false
  | .ite c a b, e => match e with
    | .IfExp t x y _ => okE sc c t && okE sc a x && okE sc b y
    | _ => false
  | .tup as, e => match e with
    | .Tuple es _ _ => okEs sc as es && decide (as.len < 1000)
    | _ => false
  | .lst as, e => match e with
    | .List es _ => okEs sc as es && decide (as.len < 1000)
    | _ => false
  | .dct0, e => match e with
    | .Dict [] [] _ => true
    | _ => false
  | .ix a i, e => match e with
    | .Subscript x y _ => noSlice y && okE sc a x && okE sc i y
    | _ => false
  | .sl a lo hi, e => match e with
    | .Subscript x (.Slice l h none _) _ => okE sc a x && okP sc lo l && okP sc hi h
    | _ => false
  | .rv a, e => match e with
    | .Subscript x (.Slice none none (some (.UnaryOp .USub (.Constant (.int j) _ _) _)) _) _ => decide (j = 1) && okE sc a x
    | _ => false
  | .fld a f, e => match e with
    | .Attribute x g _ => decide (f = g) && plainO x && okE sc a x && D.fl.contains f
    | _ => false
  | .call f as, e => match e with
    | .Call (.Name g _) es [] _ => decide (f = g) && globB sc g && D.fs.contains f && okEs sc as es && noStars es
    | _ => false
  | .make C as, e => match e with
    | .Call (.Name g _) es [] _ => decide (C = g) && globB sc g && D.cs.contains C && okEs sc as es && noStars es
    | _ => false
  | .mth a m as, e => match e with
    | .Call (.Attribute x g p) es [] q => decide (m = g) && plainO x && decide (p.endLine = q.line) && decide (es.length < 29) && okE sc a x && okEs sc as es && noStars es && D.ml.contains m
    | _ => false
  | .bi b as, e => match e with
    | .Call (.Name g _) es [] _ => (match biN b with | some (n, _) => decide (n = g) && globB sc g && decide (es ≠ []) && okEs sc as es && noStars es | none => false)
    | _ => false
  | .mt m a as, e => match e with
    | .Call (.Attribute x g p) es [] q => decide (mtN m = g) && plainO x && decide (p.endLine = q.line) && decide (es.length < 29) && okE sc a x && okEs sc as es && noStars es
    | _ => false
  | .isi a t, e => match e with
    | .Call (.Name g _) [x, .Name y _] [] _ => decide (g = "isinstance") && globB sc g && decide (tyN t = y) && globB sc y && noStar x && okE sc a x && (match t with | .own _ => D.cs.contains y | .non => false | _ => true)
    | _ => false
  | .oeq ne a b, e => match e with
    | .Compare x [o] [y] _ => decide (o = if ne = true then .NotEq else .Eq) && !behindInMarks o y && okE sc a x && okE sc b y
    | _ => false
  | .srt a f, e => match e with
    | .Call (.Name g _) [x] ks _ => decide (g = "sorted") && globB sc g && noStar x && okE sc a x && (match ks with
      | [] => decide (f = "")
      | [⟨some k, .Name h _, _⟩] => decide (k = "key") && decide (f = h) && decide (f ≠ "") && globB sc h && D.fs.contains h
      | _ => false)
    | _ => false
  | .xfld _ _, _ => false
  | .xisi _ _, _ => false
  | .lrg a, e => match e with
    | .Call (.Name g _) [.Call (.Name g2 _) [x] [] _] [] _ => decide (g = ("list" : Str)) && globB sc g && decide (g2 = ("range" : Str)) && globB sc g2 && noStar x && okE sc a x
    | _ => false
  | .lock i a, e => (match e with
    | .ListComp _ _ _ _ => true
    | _ => false) && okE sc a e
  | .lc el g it c own, e => match e with
    | .ListComp x [⟨tg, iter, ifs, 0⟩] bs _ => noSet iter && (gI g).all (fun i => own.contains i) && L2.blkC N sc bs (own.filterMap fun i => (N[i]?).map fun x => (x, i)) && decide ((own.filterMap fun i => (N[i]?).map fun x => (x, i)).map (·.2) = own)
        && okI sc it tg iter && okG N bs g tg && okE (L2.relS bs sc) el x && (match c, ifs with | .no, [] => true | .so c, [t] => okE (L2.relS bs sc) c t | _, _ => false)
    | _ => false
def okEs (sc : Scope) : Es → List Expr → Bool
  | .nil, es => match es with
    | [] => true
    | _ => false
  | .cons a r, es => match es with
    | x :: xs => noStar x && okE sc a x && okEs sc r xs
    | _ => false
def okP (sc : Scope) : P → Option Expr → Bool
  | .no, e => match e with
    | none => true
    | _ => false
  | .so a, e => match e with
    | some x => okE sc a x
    | _ => false
def okI (sc : Scope) : I → Expr → Expr → Bool
  | .val a, _, e => okE sc a e
  | .rng1 a, _, e => match e with
    | .Call (.Name g _) [x] [] _ => decide (g = "range") && globB sc g && noStar x && okE sc a x
    | _ => false
  | .rng2 a b, _, e => match e with
    | .Call (.Name g _) [x, y] [] _ => decide (g = "range") && globB sc g && noStar x && noStar y && okE sc a x && okE sc b y
    | _ => false
  | .rng3 a b c, _, e => match e with
    | .Call (.Name g _) [x, y, z] [] _ => decide (g = "range") && globB sc g && noStar x && noStar y && noStar z && okE sc a x && okE sc b y && okE sc c z
    | _ => false
  | .enum a, tg, e => match e, tg with
    | .Call (.Name g _) [x] [] _, .Tuple _ _ _ => decide (g = "enumerate") && globB sc g && noStar x && okE sc a x
    | _, _ => false
  | .zip _ _, _, _ => false
  | .rev _, _, _ => false
  | .items _, _, _ => false
end
end
end N
end
section
set_option maxRecDepth 100000
set_option maxHeartbeats 4000000
/-! Own errors whose __init__ says super().__init__(..): made. -/
namespace N
open PySem PySem.Spec PyProof.Rows
def supS (p0 p1 p2 p3 p4 : Pos) (as : List Expr) : Stmt := .Expr (.Call (.Attribute (.Call (.Name "super" p0) [] [] p1) "__init__" p2) as [] p3) p4
/-- the __init__ of an own error class: what the written part says -/
structure ErD (P : Program) (K : PySem.W.Frag) (C : Addr) (ps : List Str) (body : List Stmt) where
  fI : Addr
  cc : Addr
  cda : Addr
  nm : Str
  qual : Str
  params : Arguments
  scope : Scope
  kV : Value
  doc : Value
  pm : Value
  ct : Value
  an : Option Addr
  oc : Value
  od : Option Addr
  osl : Array (Option Value)
  hf : K.lookup fI = some ⟨oc, od, .func (PySem.W.ksFn nm qual params body scope .none kV doc pm an (.ref cda) ct cc), osl⟩
  iC : PySem.W.findIn K (.ref C) "__init__" = some (some (.ref fI))
  tI : PySem.W.typeIn K (.ref fI) = some (.type "function")
  cd : PySem.W.codeIn K (.ref cda) qual = true
  file : ∃ ccl cdd vs ccs fl tf, K.lookup cda = some ⟨ccl, cdd, .fields vs, ccs⟩ ∧ vs[2]? = some (.str fl tf) ∧ ((P.main.file : Str) == fl) = true
  cell : ∃ cl cld csl, K.lookup cc = some ⟨cl, cld, .cell (some (.ref C)), csl⟩
  sub : PySem.W.mroIn K C (.ref C) = some true
  sup : PySem.W.ks_superIn K C C "__init__" = some (some (.builtin "ValueError.__init__"))
  isV : PySem.W.subIn K (.ref C) (.type "ValueError") = some true
  any : PySem.W.nsIn K cStatics "thirdparty.any" = some none
  ini : PySem.W.excInitIn K C He.veBase "ValueError.__new__" = true
  kind : scope.kind = .function
  co : scope.isCoroutine = false
  gen : scope.isGenerator = false
  nc : ∀ x ∈ scope.names, x.2 ≠ .cell
  ks : scope.names.lookup ("super" : Str) = some .globalImplicit
  kc : scope.names.lookup ("__class__" : Str) = some .free
  loc : ∀ x ∈ ps, scope.names.lookup x = some .local
  hp : ∃ ar, (params.posonlyargs ++ params.args).head? = some ar ∧ ps.head? = some ar.arg
  bind : ∀ us : List Value, us.length = ps.length → bindArgs (PySem.W.ksFn nm qual params body scope .none kV doc pm an (.ref cda) ct cc) ⟨us, []⟩ = pure (ps.zip us)
  top : (P.main.scope.names.lookup ("super" : Str)).isSome = false
section
variable {P : Program} {w : World} {A : Around} {E : Value → Shared → Prop} {K : PySem.W.Frag} {C x t0 L : Addr} {ps : List Str} {body : List Stmt} {h : Heap} {g : Array GenState} {d : Drawn} {t : Nat} {os : OsState} {mg mb m : Str → Option Value}
/-- the bound ValueError.__init__ called -/
theorem mw_call {u : Addr} {us : List Value} {Q : Value → Shared → Prop} (X : K.In h) (q : PySem.W.excInitIn K C He.veBase "ValueError.__new__" = true) (hu : h.get? u = some (PySem.W.kxs_mw "ValueError.__init__" x)) (he : h.get? x = some (PySem.W.excObj C t0 none .none)) (hz : us.length ≤ sizeLine)
    (hq : ∀ h' t1, (∀ b o, b ≠ x → h.get? b = some o → h'.get? b = some o) → h'.get? x = some (PySem.W.excObj C t1 none .none) → Q .none ⟨h', g, d, t, os⟩) :
    wpAny (model P w) A (call (.ref u) us) Q E ⟨h, g, d, t, os⟩ := by
  obtain ⟨nm, N', qn, bs, bm, hdct, sn, sub, ab, col, dd, k0, k1, k2, k3, k5, hC, hT⟩ := PySem.W.excInit_of X q
  have FB := F.excBase_ValueError
  refine wpAny_call (codeAny_of_tree ?_)
  show wpAny _ A.in1 (callAny (.ref u) ⟨us, []⟩) _ _ _
  simp only [callAny]
  refine wpAny_bind (wpAny_load hu ?_)
  simp only [PySem.W.kxs_mw, show (Value.type "method-wrapper" == Value.type "method" || Value.type "method-wrapper" == Value.type "builtin_function_or_method" || Value.type "method-wrapper" == Value.type "method-wrapper") = true by decide, if_true]
  refine PySem.W.KFB.if_so (by decide) ?_
  refine wpAny_bind (PySem.W.check_bound_init FB.toExcCallFacts hC he rfl ?_)
  refine wpAny_bind (wpAny_pure (wpAny_pure ?_))
  refine ⟨plainId_quiet FB.init.plain _, codeAny_builtin FB.initEntry ?_⟩
  exact PySem.W.exc_init_tree (cls := .ref C) (t0 := t0) (dv := none) (c2 := .none) (c3 := .none) (b4 := .bool false) he hz fun h' k e' t' => hq h' _ k e'
/-- super().__init__(..), up to the call of what it is -/
theorem sup_core (D : ErD P K C ps body) {as : List Expr} {p0 p1 p2 p3 p4 : Pos} {fl : Flow → Shared → Prop} (hl : (p2.endLine == p3.line) = true) (hfew : methodCallForm (as.length + 0) (backTo p3 (starEach as (PySem.W.ksEnv D.qual D.scope L D.fI (.ref D.cda) D.cc))) [] = true) (X : K.In h) (G : h.Ns mainGlobals mg) (B : h.Ns builtinsNs mb) (g1 : mg "super" = none) (b1 : mb "super" = some (.type "super"))
    (hx : h.get? x = some (PySem.W.excObj C t0 none .none)) (hn : h.Ns L m) (hv : ∀ y, ps.head? = some y → m y = some (.ref x))
    (hq : ∀ h' t' u, (∀ b o, h.get? b = some o → h'.get? b = some o) → h'.get? u = some (PySem.W.kxs_mw "ValueError.__init__" x) → h.objs.size ≤ u →
      wpAny (model P w) A (callWith p3 (.ref u) [] (backTo p3 (starEach as (PySem.W.ksEnv D.qual D.scope L D.fI (.ref D.cda) D.cc))) []) (fun _ => fl .next) E ⟨h', g, d, t', os⟩) :
    _root_.PySem.wpAt (model P w) A (.func body (PySem.W.ksEnv D.qual D.scope L D.fI (.ref D.cda) D.cc)) (exec (supS p0 p1 p2 p3 p4 as) (PySem.W.ksEnv D.qual D.scope L D.fI (.ref D.cda) D.cc)) fl E ⟨h, g, d, t, os⟩ := by
  obtain ⟨ccl, cdd, vs, ccs, fname, tf, hcode, hvs, hfile⟩ := D.file
  obtain ⟨cl, cld, csl, hcell⟩ := D.cell
  obtain ⟨ar, har, hps⟩ := D.hp
  obtain ⟨nm, N', qn, bs, bm, hdct, sn, sub, ab, col, dd, k0, k1, k2, k3, k5, hC, hT⟩ := PySem.W.excInit_of X D.ini
  have I : PySem.W.InstAt h x (PySem.W.excObj C t0 none .none) C none := ⟨hx, rfl, rfl, trivial⟩
  have hva := hv _ hps
  have hla : D.scope.names.lookup ar.arg = some .local := D.loc _ (List.mem_of_mem_head? hps)
  refine ks_wpAt_Expr_any ?_ (by unfold interactive; rw [show (PySem.W.ksEnv D.qual D.scope L D.fI (.ref D.cda) D.cc).scope.kind = .function from D.kind]; rfl)
  rw [arm_eval_Call]
  refine _root_.PySem.wpAt_bind ?_
  refine ks_wpAt_super_base (env := PySem.W.ksEnv D.qual D.scope L D.fI (.ref D.cda) D.cc) D.ks D.kc (by decide) rfl (X _ _ D.hf) rfl har rfl (X _ _ hcode) rfl hvs hfile D.top ?_
  refine PySem.W.ks_loadName_global D.kind D.ks (Calls.loadGlobal_builtin (env := PySem.W.ksEnv D.qual D.scope L D.fI (.ref D.cda) D.cc) G g1 B b1 ⟨rfl, ?_⟩)
  refine wpAny_loadName_free D.kind D.kc rfl ⟨_, X _ _ hcell, rfl⟩ ?_
  refine wpAny_loadName_local D.kind hla hn hva ?_
  refine ks_wpAny_isType_cls hC rfl ⟨rfl, ?_⟩
  refine ks_wpAny_call_super hC rfl hx rfl (fun c e => by cases e) (PySem.W.looks_mroIn X D.sub) (fun h1 e1 k1' => ?_)
  have X1 : K.In h1 := X.keeps k1'
  have I1 : PySem.W.InstAt h1 x (PySem.W.excObj C t0 none .none) C none := ⟨k1' _ _ hx, rfl, rfl, trivial⟩
  have hs := D.sup
  cases hc : PySem.W.clsIn K C with
  | none => unfold PySem.W.ks_superIn at hs; rw [hc] at hs; cases hs
  | some cd =>
    unfold PySem.W.ks_superIn at hs
    rw [hc] at hs
    refine _root_.PySem.wpAt_of_wpAny (wpAny_bind (wpAny_standAt ?_))
    have hpos : methodCallPos true (.Call (.Name "super" p0) [] [] p1) (PySem.W.ksEnv D.qual D.scope L D.fI (.ref D.cda) D.cc) p2 p3 = pure p3 := by unfold methodCallPos; rw [hl]; rfl
    unfold methodCall
    have hf2 : methodCallForm (as.length + ([] : List Keyword).length) (backTo p3 (starEach as (PySem.W.ksEnv D.qual D.scope L D.fI (.ref D.cda) D.cc))) (backToKw p3 (keywordEach [] (PySem.W.ksEnv D.qual D.scope L D.fI (.ref D.cda) D.cc))) = true := hfew
    rw [hf2]
    refine wpAny_bind (wpAny_holding ?_)
    unfold calleeOf
    rw [if_pos rfl]
    refine PySem.W.kxs_getMethod PySem.W.kxs_ValueError e1 (PySem.W.looks_opaque X1 D.any) (l₀ := cd.mro) ?_ rfl X1 hs (I1.type.andThen (PySem.W.looks_subIn X1 D.isV)) (PySem.W.ks_ne X1 I1 hc) (by decide) ?_
    · exact fun A Q E s k q => wpAny_bind ((PySem.W.looks_clsIn X1 hc) A _ E s k (wpAny_pure q))
    · have lt := Heap.lt_size e1
      exact wpAny_bind (wpAny_of_eq hpos (hq _ _ _ (fun b o e => Heap.get?_push_of_some _ (k1' b o e)) (Heap.get?_push_at rfl rfl) (Nat.le_trans (Nat.le_of_lt (Nat.lt_of_le_of_lt (Nat.le_refl _) lt)) (Nat.le_refl _))))
theorem ini0 {s0 : Str} {p0 p1 p2 p3 p4 : Pos} {R : Result → Shared → Prop} (D : ErD P K C [s0] [supS p0 p1 p2 p3 p4 []]) (hl : (p2.endLine == p3.line) = true) (X : K.In h) (G : h.Ns mainGlobals mg) (B : h.Ns builtinsNs mb) (g1 : mg "super" = none) (b1 : mb "super" = some (.type "super")) (NL : h.NoLimit)
    (hx : h.get? x = some (PySem.W.excObj C t0 none .none)) (room : A.depth < recursionLimit)
    (hq : ∀ h' t' t1, (∀ b o, b ≠ x → h.get? b = some o → h'.get? b = some o) → h'.get? x = some (PySem.W.excObj C t1 none .none) → R (.ok (.ret .none)) ⟨h', g, d, t', os⟩) :
    codeAny (model P w) A (.call (.ref D.fI) ⟨[.ref x], []⟩) R ⟨h, g, d, t, os⟩ := by
  refine ks_codeAny_call_defAt (binds := [s0].zip [.ref x]) room (X _ _ D.hf) rfl NL (PySem.W.codeRec_of X D.cd) rfl (BindsTo.of_eq (D.bind [.ref x] rfl)) D.nc (fun y hy => ?_) (fun h₁ hns hk => ?_) D.co D.gen D.kind
  · cases hy with
    | head => exact D.loc _ (by simp)
    | tail _ z => cases z
  refine ks_wpAt_execs_cons (sup_core D hl rfl (X.keeps hk) (G.at fun b e => hk _ _ e) (B.at fun b e => hk _ _ e) g1 b1 (hk _ _ hx) hns (fun y e => by cases e; simp [List.lookup]) (fun h' t' u k hu l => ?_))
  refine PySem.W.kxs_callWith (i := "ValueError.__init__") (x := x) rfl (evalArgs_empty ⟨hu, ?_⟩)
  refine mw_call ((X.keeps hk).keeps k) D.ini hu (k _ _ (hk _ _ hx)) (by rw [sizeLine_eq]; decide) fun h'' t1 k2 hx2 => ?_
  refine _root_.PySem.wpAt_of_wpAny (wpAny_pure ?_)
  exact hq h'' _ t1 (fun b o n e => k2 b o n (k b o (hk b o e))) hx2
theorem ini1 {s0 f : Str} {v : Value} {p0 p1 p2 p3 p4 p5 p6 p7 p8 p9 : Pos} {R : Result → Shared → Prop} (D : ErD P K C [s0, f] [supS p0 p1 p2 p3 p4 [.Name f p5], .Assign [.Attribute (.Name s0 p6) f p7] (.Name f p8) p9]) (T : L2.OexC K C) (hno : PySem.W.findIn K (.ref C) f = some none)
    (hl : (p2.endLine == p3.line) = true) (hsf : s0 ≠ f) (d1 : (s0 == ("__debug__" : Str)) = false) (d2 : (f == ("__debug__" : Str)) = false) (X : K.In h) (G : h.Ns mainGlobals mg) (B : h.Ns builtinsNs mb) (g1 : mg "super" = none) (b1 : mb "super" = some (.type "super")) (NL : h.NoLimit)
    (hxK : K.lookup x = none) (hx : h.get? x = some (PySem.W.excObj C t0 none .none)) (room : A.depth < recursionLimit)
    (hq : ∀ h' t' t1 dx, (∀ b o, b ≠ x → h.get? b = some o → h'.get? b = some o) → h.objs.size ≤ dx → dx ≠ x → h'.get? x = some (PySem.W.excObj C t1 (some dx) .none) → h'.Ns1 dx (fun y => if y = f then some v else none) → R (.ok (.ret .none)) ⟨h', g, d, t', os⟩) :
    codeAny (model P w) A (.call (.ref D.fI) ⟨[.ref x, v], []⟩) R ⟨h, g, d, t, os⟩ := by
  have l0 : D.scope.names.lookup s0 = some .local := D.loc _ (by simp)
  have l1 : D.scope.names.lookup f = some .local := D.loc _ (by simp)
  refine ks_codeAny_call_defAt (binds := [s0, f].zip [.ref x, v]) room (X _ _ D.hf) rfl NL (PySem.W.codeRec_of X D.cd) rfl (BindsTo.of_eq (D.bind [.ref x, v] rfl)) D.nc (fun y hy => ?_) (fun h₁ hns hk => ?_) D.co D.gen D.kind
  · cases hy with
    | head => exact l0
    | tail _ z => cases z with
      | head => exact l1
      | tail _ z => cases z
  have m0 : ([s0, f].zip [Value.ref x, v]).reverse.lookup s0 = some (.ref x) := by
    show List.lookup s0 [(f, v), (s0, .ref x)] = _
    rw [List.lookup_cons, show (s0 == f) = false from by simp [hsf], List.lookup_cons, beq_self_eq_true]
  have m1 : ([s0, f].zip [Value.ref x, v]).reverse.lookup f = some v := by
    show List.lookup f [(f, v), (s0, .ref x)] = _
    rw [List.lookup_cons, beq_self_eq_true]
  refine ks_wpAt_execs_cons (sup_core D hl rfl (X.keeps hk) (G.at fun b e => hk _ _ e) (B.at fun b e => hk _ _ e) g1 b1 (hk _ _ hx) hns (fun y e => by cases e; exact m0) (fun h' t' u k hu l => ?_))
  have N1 := hns.at (h' := h') fun b e => k _ _ e
  refine PySem.W.kxs_callWith (i := "ValueError.__init__") (x := x) rfl (Calls.evalArgs_plain (Calls.spliced_cons (wpAny_Name (wpAny_loadName_local D.kind l1 N1 m1 (Calls.spliced_nil ⟨hu, ?_⟩)) d2)))
  refine mw_call ((X.keeps hk).keeps k) D.ini hu (k _ _ (hk _ _ hx)) (by rw [sizeLine_eq]; show 1 ≤ 16777216; omega) fun h'' t1 k2 hx2 => ?_
  have keep : ∀ b o, b ≠ x → h₁.get? b = some o → h''.get? b = some o := fun b o n e => k2 b o n (k b o e)
  have hxl : x ≠ h.objs.size := Nat.ne_of_lt (Heap.lt_size hx)
  have N2 := hns.at (h' := h'') fun b e => keep _ _ (Ne.symm hxl) e
  obtain ⟨nm, q, N, bs, bm, sn, sub, ab, col, dd, k0, k1, k2, k3, k5, hC, hbm⟩ := T.cls
  have hcl : PySem.W.clsIn K C = some { name := nm, bases := bs, mro := .ref C :: bm, ns := N, qualname := q, hasDict := true, slotNames := sn, subclasses := sub, abstract := ab, collection := col, hasDel := false } := by unfold PySem.W.clsIn; rw [hC] <;> rfl
  have X2 : K.In h'' := fun b o e => keep b o (fun z => by
    subst z
    rw [hxK] at e
    cases e) (hk _ _ (X _ _ e))
  have e0 : (PySem.W.ksEnv D.qual D.scope h.objs.size D.fI (.ref D.cda) D.cc).kindOf s0 = some .local := l0
  have e1 : (PySem.W.ksEnv D.qual D.scope h.objs.size D.fI (.ref D.cda) D.cc).kindOf f = some .local := l1
  refine ks_wpAt_execs_cons (ks_wpAt_Assign_Attr (_root_.PySem.wpAt_of_wpAny (wpAny_Name (wpAny_loadName_local D.kind e1 N2 m1 (wpAny_Name (wpAny_loadName_local D.kind e0 N2 m0 ?_) d1)) d2)) rfl)
  refine PySem.W.set_plain X2 (ox := PySem.W.excObj C t1 none .none) (od := none) ⟨hx2, rfl, rfl, trivial⟩ T.sa ?_
  refine PySem.HandSPX.exc_osa X2 hx2 hcl (show PySem.HandSPX.refsVE (.ref C :: bm) = true from hbm) rfl hno (fun h3 tk' dx k3 dn dne hx3 hn3 => ?_)
  refine _root_.PySem.wpAt_of_wpAny (wpAny_pure ?_)
  exact hq h3 _ t1 dx (fun b o n e => k3 b o n (keep b o n (hk b o e))) (Nat.le_trans (Nat.le_of_lt N2.lt) dn) dne hx3 hn3
end
section
variable {X : L2.Cx} {x s0 f : Str} {C : Addr} {e : Expr} {ta : L2.TA} {p pos p0 p1 p2 p3 p4 p5 p6 p7 p8 p9 : Pos} {k : Nat}
theorem pmk_err0 (T : L2.OexC X.K C) (D : ErD X.prog X.K C [s0] [supS p0 p1 p2 p3 p4 []]) (hl : (p2.endLine == p3.line) = true) (hr : L2.Room (k + 1) X.A) (hg : L2.Gl X x) (hm : X.mg x = some (.ref C)) (hs : X.mg "super" = none) (hdb : (x == ("__debug__" : Str)) = false) :
    L2.PMk X (.Call (.Name x p) [] [] pos) (fun _ H Q => Q (.ref C) none H) := by
  intro pins s σ H Q I h
  obtain ⟨nm, q, N, bs, bm, sn, sub, ab, col, dd, k0, k1, k2, k3, k5, hC, hbm⟩ := T.cls
  obtain ⟨mb, hmb, bb⟩ := I.mod.blt
  refine wpAny_Call_Name_kw (L2.ld_glob I hg hm ?_ hdb)
  refine PySem.W.callWith_K0 I.kIn T.kC ?_
  show wpAny _ _ (call (.ref C) []) _ _ _
  obtain ⟨hp, g, dr, tk, os⟩ := s
  have kk : ∀ b o, hp.get? b = some o → ((hp.push (PySem.W.kdv_tup [])).push (PySem.HandSPX.excO C hp.objs.size)).get? b = some o := fun b o e => Heap.get?_push_of_some _ (Heap.get?_push_of_some _ e)
  have hget : ((hp.push (PySem.W.kdv_tup [])).push (PySem.HandSPX.excO C hp.objs.size)).get? (hp.objs.size + 1) = some (PySem.HandSPX.excO C hp.objs.size) := by heap_get
  have nget : hp.get? (hp.objs.size + 1) = none := by
    cases z : hp.get? (hp.objs.size + 1) with
    | none => rfl
    | some o => exact absurd (Heap.lt_size z) (Nat.not_lt.mpr (Nat.le_succ _))
  refine wpAny_call (PySem.HandSPX.call_own F.excBase_ValueError (fun Y => PySem.HandSPX.refsVE_contains Y bm hbm) (I.kIn _ _ hC) (PySem.W.looks_findIn I.kIn D.iC) (fun self => PySem.W.bind_fn I.kIn self D.tI) (by rw [sizeLine_eq]; decide)
    (ini0 (t0 := hp.objs.size) D hl (I.kIn.keeps kk) (I.mod.glob.at fun o e => kk _ _ (I.bk _ _ e)) (hmb.at fun o e => kk _ _ (I.bk _ _ e)) hs ((bb "super" (by decide)).trans (by kernel_rfl)) (I.nolimit.keeps kk) hget (by have := (hr.make C [] []).dp; omega)
      fun h' t' t1 keep hx => ?_))
  refine ⟨rfl, ?_⟩
  exact ⟨_, _, _, ⟨hp, g, dr, tk, os⟩, H, .ref C, none, rfl, I, fun b o e => keep b o (fun z => by rw [z, nget] at e; cases e) (kk b o e), nget, hx, ⟨rfl, rfl⟩, rfl, rfl, I.hok.fresh (Nat.le_succ _), rfl, I.bare, L2.raises_own T.exC T.tyC, h⟩
/-- C(e), C with one field -/
def tErr1 (C : Addr) (f : Str) (ta : L2.TA) : L2.St → Hp → L2.XK → Prop := fun σ H Q => ta σ H fun vs H1 => ∃ y, vs = [y] ∧ ∀ dx, H1 dx = none → Q (.ref C) (some dx) (L2.upd H1 dx (.xd [(f, y)]))
theorem pmk_err1 (T : L2.OexC X.K C) (hno : PySem.W.findIn X.K (.ref C) f = some none) (D : ErD X.prog X.K C [s0, f] [supS p0 p1 p2 p3 p4 [.Name f p5], .Assign [.Attribute (.Name s0 p6) f p7] (.Name f p8) p9])
    (hl : (p2.endLine == p3.line) = true) (hsf : s0 ≠ f) (d1 : (s0 == ("__debug__" : Str)) = false) (d2 : (f == ("__debug__" : Str)) = false) (hr : L2.Room (k + 1) X.A) (hg : L2.Gl X x) (hm : X.mg x = some (.ref C)) (hs : X.mg "super" = none) (hdb : (x == ("__debug__" : Str)) = false) (ha : L2.PA X [e] ta) (hst : noStar e = true) :
    L2.PMk X (.Call (.Name x p) [e] [] pos) (tErr1 C f ta) := by
  intro pins s σ H Q I h
  obtain ⟨nm, q, N, bs, bm, sn, sub, ab, col, dd, k0, k1, k2, k3, k5, hC, hbm⟩ := T.cls
  obtain ⟨mb, hmb, bb⟩ := I.mod.blt
  refine wpAny_Call_Name_kw (L2.ld_glob I hg hm ?_ hdb)
  refine PySem.W.callWith_K (h₀ := X.base) I.ok.mod.kin T.kC (L2.thn (ha.run pos pins s σ H _ I h) fun us s1 ⟨vs, H1, I1, r1, y, ey, q1⟩ => ⟨I1.kIn, ?_⟩) (star_cons hst) rfl
  subst ey
  cases r1 with
  | @cons _ u _ ur ru rn =>
  cases rn
  show wpAny _ _ (call (.ref C) [u]) _ _ _
  obtain ⟨hp, g, dr, tk, os⟩ := s1
  have kk : ∀ b o, hp.get? b = some o → ((hp.push (PySem.W.kdv_tup [u])).push (PySem.HandSPX.excO C hp.objs.size)).get? b = some o := fun b o e => Heap.get?_push_of_some _ (Heap.get?_push_of_some _ e)
  have hget : ((hp.push (PySem.W.kdv_tup [u])).push (PySem.HandSPX.excO C hp.objs.size)).get? (hp.objs.size + 1) = some (PySem.HandSPX.excO C hp.objs.size) := by heap_get
  have nget : hp.get? (hp.objs.size + 1) = none := by
    cases z : hp.get? (hp.objs.size + 1) with
    | none => rfl
    | some o => exact absurd (Heap.lt_size z) (Nat.not_lt.mpr (Nat.le_succ _))
  have hK : X.K.lookup (hp.objs.size + 1) = none := by
    cases z : X.K.lookup (hp.objs.size + 1) with
    | none => rfl
    | some o =>
      have := I1.kIn _ _ z
      rw [nget] at this
      cases this
  refine wpAny_call (PySem.HandSPX.call_own F.excBase_ValueError (fun Y => PySem.HandSPX.refsVE_contains Y bm hbm) (I1.kIn _ _ hC) (PySem.W.looks_findIn I1.kIn D.iC) (fun self => PySem.W.bind_fn I1.kIn self D.tI) (by rw [sizeLine_eq]; show 1 ≤ 16777216; omega)
    (ini1 (t0 := hp.objs.size) D T hno hl hsf d1 d2 (I1.kIn.keeps kk) (I1.mod.glob.at fun o e => kk _ _ (I1.bk _ _ e)) (hmb.at fun o e => kk _ _ (I1.bk _ _ e)) hs ((bb "super" (by decide)).trans (by kernel_rfl)) (I1.nolimit.keeps kk) hK hget (by have := (hr.make C [u] []).dp; omega)
      fun h' t' t1 dx keep dn dne hx hns => ?_))
  refine ⟨rfl, ?_⟩
  have na : H1 (hp.objs.size + 1) = none := I1.hok.fresh (Nat.le_succ _)
  have dn' : hp.objs.size ≤ dx := by
    have e : ((hp.push (PySem.W.kdv_tup [u])).push (PySem.HandSPX.excO C hp.objs.size)).objs.size = hp.objs.size + 2 := by rw [Heap.size_push, Heap.size_push]
    rw [e] at dn
    omega
  obtain ⟨G, g1', g2'⟩ := L2.restrict h' fun b => decide (b ≠ hp.objs.size + 1)
  have gk : ∀ b, b ≠ hp.objs.size + 1 → G.get? b = h'.get? b := fun b hb => g1' b (decide_eq_true hb)
  have ge : G.get? (hp.objs.size + 1) = none := g2' _ (by simp)
  have J : L2.Inv X pins σ (L2.upd H1 dx (.xd [(f, y)])) ⟨G, g, dr, tk, os⟩ := I1.laid (t' := tk) (a := dx) (o := .xd [(f, y)]) (h' := G) (fun b o e => by
      have hb : b ≠ hp.objs.size + 1 := fun z => by rw [z, nget] at e; cases e
      rw [gk b hb]
      exact keep b o hb (kk b o e)) dn' ⟨_, hns.at fun o e => (gk dx dne).trans e, L2.relO_put (fs := []) ru fun g => True.intro⟩
  refine ⟨_, _, _, ⟨G, g, dr, tk, os⟩, _, .ref C, some dx, rfl, J, fun b o e => ?_, ge, hx, ⟨rfl, rfl⟩, rfl, rfl, ?_, rfl, I1.bare, L2.raises_own T.exC T.tyC, q1 dx (I1.hok.fresh dn')⟩
  · by_cases hb : b = hp.objs.size + 1
    · rw [hb, ge] at e; cases e
    · exact (gk b hb).symm.trans e
  · rw [L2.upd_ne (Ne.symm dne)]; exact na
end
/-! ### the facts of an error class, checked -/
theorem and_t {a b : Bool} (h : (a && b) = true) : a = true ∧ b = true := Bool.and_eq_true_iff.mp h
/-- plain parameters, no defaults -/
def argB (ps : List Str) : Arguments → Bool
  | ⟨[], as, none, [], [], none, []⟩ => decide (as.map (·.arg) = ps) && decide ps.Nodup
  | _ => false
theorem fm_congr {α β : Type} {f g : α → Option β} : ∀ {l : List α}, (∀ x ∈ l, f x = g x) → l.filterMap f = l.filterMap g
  | [], _ => rfl
  | x :: l, h => by rw [List.filterMap_cons, List.filterMap_cons, h x List.mem_cons_self, fm_congr fun y hy => h y (List.mem_cons_of_mem _ hy)]
theorem zip_lookup {α : Type} : ∀ {ps : List Str} {us : List α}, us.length = ps.length → ps.Nodup → (ps.filterMap fun n => ((ps.zip us).lookup n).map (n, ·)) = ps.zip us ∧ (ps.filter fun n => ((ps.zip us).lookup n).isNone) = []
  | [], [], _, _ => ⟨rfl, rfl⟩
  | p :: ps, u :: us, hl, hn => by
    obtain ⟨h1, h2⟩ := List.nodup_cons.mp hn
    obtain ⟨i1, i2⟩ := zip_lookup (ps := ps) (us := us) (by simpa using hl) h2
    have key : ∀ n ∈ ps, ((p, u) :: ps.zip us).lookup n = (ps.zip us).lookup n := fun n hn => by
      have : (n == p) = false := by
        cases e : n == p with
        | false => rfl
        | true => rw [beq_iff_eq.mp e] at hn; exact absurd hn h1
      rw [List.lookup_cons, this]
    refine ⟨?_, ?_⟩
    · show ((p :: ps).filterMap fun n => (((p, u) :: ps.zip us).lookup n).map (n, ·)) = _
      rw [List.filterMap_cons]
      have e : ((p, u) :: ps.zip us).lookup p = some u := by rw [List.lookup_cons, beq_self_eq_true]
      rw [e]
      show (p, u) :: _ = (p, u) :: ps.zip us
      congr 1
      refine Eq.trans (fm_congr fun n hn => ?_) i1
      rw [key n hn]
    · show ((p :: ps).filter fun n => (((p, u) :: ps.zip us).lookup n).isNone) = _
      rw [List.filter_cons]
      have e : ((p, u) :: ps.zip us).lookup p = some u := by rw [List.lookup_cons, beq_self_eq_true]
      rw [e]
      show (ps.filter fun n => (((p, u) :: ps.zip us).lookup n).isNone) = []
      rw [← i2]
      refine (List.filter_congr fun n hn => ?_)
      rw [key n hn]
  | [], _ :: _, h, _ => by cases h
  | _ :: _, [], h, _ => by cases h
theorem argB_ok {ps : List Str} {pr : Arguments} (h : argB ps pr = true) {x qual : Str} {body : List Stmt} {scope : Scope} (kV doc pm : Value) (an : Option Addr) (cdv ct : Value) (us : List Value) (hl : us.length = ps.length) :
    bindArgs (PySem.W.fnOf x qual pr body scope .none kV doc pm an cdv ct) ⟨us, []⟩ = pure (ps.zip us) := by
  unfold argB at h
  split at h
  · rename_i as
    obtain ⟨h1, h2⟩ := and_t h
    have e := of_decide_eq_true h1
    subst e
    obtain ⟨i1, i2⟩ := zip_lookup hl (of_decide_eq_true h2)
    have hl' : us.length = as.length := by rw [hl, List.length_map]
    unfold bindArgs
    have d : seqItems? Value.none = pure none := rfl
    have i3 : as.filterMap ((fun n => ((as.map (·.arg)).zip us).lookup n |>.map (n, ·)) ∘ fun x => x.arg) = (as.map (·.arg)).zip us := by rw [← List.filterMap_map]; exact i1
    have i4 : (as.map (·.arg)).take as.length = as.map (·.arg) := List.take_of_length_le (by simp)
    simp [PySem.W.fnOf, d, hl', i2, i4]
    simp [i3]
  · cases h
theorem argB_okX {ps : List Str} {pr : Arguments} (h : argB ps pr = true) {x qual : Str} {body : List Stmt} {scope : Scope} (kV doc pm : Value) (an : Option Addr) (cdv ct : Value) (cc : Addr) (us : List Value) (hl : us.length = ps.length) :
    bindArgs (PySem.W.ksFn x qual pr body scope .none kV doc pm an cdv ct cc) ⟨us, []⟩ = pure (ps.zip us) := by
  unfold argB at h
  split at h
  · rename_i as
    obtain ⟨h1, h2⟩ := and_t h
    have e := of_decide_eq_true h1
    subst e
    obtain ⟨i1, i2⟩ := zip_lookup hl (of_decide_eq_true h2)
    have hl' : us.length = as.length := by rw [hl, List.length_map]
    unfold bindArgs
    have d : seqItems? Value.none = pure none := rfl
    have i3 : as.filterMap ((fun n => ((as.map (·.arg)).zip us).lookup n |>.map (n, ·)) ∘ fun x => x.arg) = (as.map (·.arg)).zip us := by rw [← List.filterMap_map]; exact i1
    have i4 : (as.map (·.arg)).take as.length = as.map (·.arg) := List.take_of_length_le (by simp)
    simp [PySem.W.fnX, d, hl', i2, i4]
    simp [i3]
  · cases h
theorem argB_head {s0 : Str} {r : List Str} {pr : Arguments} (h : argB (s0 :: r) pr = true) : ∃ ar, (pr.posonlyargs ++ pr.args).head? = some ar ∧ (s0 :: r).head? = some ar.arg := by
  unfold argB at h
  split at h
  · rename_i as
    obtain ⟨h1, h2⟩ := and_t h
    have e := of_decide_eq_true h1
    cases as with
    | nil => cases e
    | cons a t =>
      rw [List.map_cons, List.cons.injEq] at e
      exact ⟨a, rfl, by rw [e.1]; rfl⟩
  · cases h
def shape0 : List Stmt → Bool
  | [.Expr (.Call (.Attribute (.Call (.Name s _) [] [] _) i p2) [] [] p3) _] => decide (s = "super") && (decide (i = "__init__") && (p2.endLine == p3.line))
  | _ => false
theorem shape0_ok {b : List Stmt} (h : shape0 b = true) : ∃ p0 p1 p2 p3 p4, b = [supS p0 p1 p2 p3 p4 []] ∧ (p2.endLine == p3.line) = true := by
  unfold shape0 at h
  split at h
  · obtain ⟨h1, h⟩ := and_t h
    obtain ⟨h2, h3⟩ := and_t h
    cases of_decide_eq_true h1
    cases of_decide_eq_true h2
    exact ⟨_, _, _, _, _, rfl, h3⟩
  · cases h
def shape1 (f : Str) : List Stmt → Bool
  | [.Expr (.Call (.Attribute (.Call (.Name s _) [] [] _) i p2) [.Name f1 _] [] p3) _, .Assign [.Attribute (.Name s1 _) f2 _] (.Name f3 _) _] =>
    decide (s = "super") && (decide (i = "__init__") && ((p2.endLine == p3.line) && (decide (f1 = f) && (decide (s1 = "self") && (decide (f2 = f) && decide (f3 = f))))))
  | _ => false
theorem shape1_ok {f : Str} {b : List Stmt} (h : shape1 f b = true) : ∃ p0 p1 p2 p3 p4 p5 p6 p7 p8 p9, b = [supS p0 p1 p2 p3 p4 [.Name f p5], .Assign [.Attribute (.Name "self" p6) f p7] (.Name f p8) p9] ∧ (p2.endLine == p3.line) = true := by
  unfold shape1 at h
  split at h
  · obtain ⟨h1, h⟩ := and_t h
    obtain ⟨h2, h⟩ := and_t h
    obtain ⟨h3, h⟩ := and_t h
    obtain ⟨h4, h⟩ := and_t h
    obtain ⟨h5, h⟩ := and_t h
    obtain ⟨h6, h7⟩ := and_t h
    cases of_decide_eq_true h1
    cases of_decide_eq_true h2
    cases of_decide_eq_true h4
    cases of_decide_eq_true h5
    cases of_decide_eq_true h6
    cases of_decide_eq_true h7
    exact ⟨_, _, _, _, _, _, _, _, _, _, rfl, h3⟩
  · cases h
def scE (ps : List Str) (sc : Scope) : Bool := (match sc.kind with | .function => true | _ => false) && (!sc.isCoroutine && (!sc.isGenerator && ((sc.names.all fun x => decide (x.2 ≠ .cell)) && (decide (sc.names.lookup ("super" : Str) = some .globalImplicit) && (decide (sc.names.lookup ("__class__" : Str) = some .free) && ps.all fun x => decide (sc.names.lookup x = some .local))))))
/-- the part that all error classes have -/
def fileB (P : Program) (K : PySem.W.Frag) (cda : Addr) : Bool := match K.lookup cda with
  | some ⟨_, _, .fields vs, _⟩ => (match (vs[2]? : Option Value) with | some (.str fl _) => ((P.main.file : Str) == fl) | _ => false)
  | _ => false
def cellB (K : PySem.W.Frag) (cc C : Addr) : Bool := match K.lookup cc with
  | some ⟨_, _, .cell (some (.ref D)), _⟩ => decide (D = C)
  | _ => false
def fdB (P : Program) (K : PySem.W.Frag) (C : Addr) (ps : List Str) (sh : List Stmt → Bool) : FuncData → Bool
  | ⟨_, q, pr, .stmts b, sc, g, [(k, cc)], .none, _, _, _, _, .ref cda, _, bi⟩ => decide (g = mainGlobals) && (decide (bi = builtinsNs) && (decide (k = "__class__") && (argB ps pr && (sh b && (scE ps sc && (PySem.W.codeIn K (.ref cda) q && (fileB P K cda && cellB K cc C)))))))
  | _ => false
def clsE (P : Program) (K : PySem.W.Frag) (C fI : Addr) : Bool :=
  decide (PySem.W.findIn K (.ref C) "__init__" = some (some (.ref fI))) && (decide (PySem.W.typeIn K (.ref fI) = some (.type "function")) && (decide (PySem.W.mroIn K C (.ref C) = some true) && (decide (PySem.W.ks_superIn K C C "__init__" = some (some (.builtin "ValueError.__init__"))) &&
    (decide (PySem.W.subIn K (.ref C) (.type "ValueError") = some true) && (decide (PySem.W.nsIn K cStatics "thirdparty.any" = some none) && (PySem.W.excInitIn K C He.veBase "ValueError.__new__" && !(P.main.scope.names.lookup ("super" : Str)).isSome))))))
theorem erd_of {P : Program} {K : PySem.W.Frag} {C fI : Addr} {s0 : Str} {r : List Str} {sh : List Stmt → Bool} {oc : Value} {od : Option Addr} {osl : Array (Option Value)} {fd : FuncData} (hf : K.lookup fI = some ⟨oc, od, .func fd, osl⟩) (h1 : fdB P K C (s0 :: r) sh fd = true) (h2 : clsE P K C fI = true) :
    ∃ b, sh b = true ∧ Nonempty (ErD P K C (s0 :: r) b) := by
  unfold fdB at h1
  split at h1
  · rename_i nm q pr b sc g k cc kV doc pm an cda ct bi
    obtain ⟨a1, h1⟩ := and_t h1
    obtain ⟨a2, h1⟩ := and_t h1
    obtain ⟨a3, h1⟩ := and_t h1
    obtain ⟨a4, h1⟩ := and_t h1
    obtain ⟨a5, h1⟩ := and_t h1
    obtain ⟨a6, h1⟩ := and_t h1
    obtain ⟨a7, h1⟩ := and_t h1
    obtain ⟨a8, a9⟩ := and_t h1
    cases of_decide_eq_true a1
    cases of_decide_eq_true a2
    cases of_decide_eq_true a3
    unfold clsE at h2
    obtain ⟨c1, h2⟩ := and_t h2
    obtain ⟨c2, h2⟩ := and_t h2
    obtain ⟨c3, h2⟩ := and_t h2
    obtain ⟨c4, h2⟩ := and_t h2
    obtain ⟨c5, h2⟩ := and_t h2
    obtain ⟨c6, h2⟩ := and_t h2
    obtain ⟨c7, c8⟩ := and_t h2
    unfold scE at a6
    obtain ⟨s1, a6⟩ := and_t a6
    obtain ⟨s2, a6⟩ := and_t a6
    obtain ⟨s3, a6⟩ := and_t a6
    obtain ⟨s4, a6⟩ := and_t a6
    obtain ⟨s5, a6⟩ := and_t a6
    obtain ⟨s6, s7⟩ := and_t a6
    refine ⟨b, a5, ⟨{ fI := fI, cc := cc, cda := cda, nm := nm, qual := q, params := pr, scope := sc, kV := kV, doc := doc, pm := pm, ct := ct, an := an, oc := oc, od := od, osl := osl, hf := hf, iC := of_decide_eq_true c1, tI := of_decide_eq_true c2, cd := a7, file := ?_, cell := ?_, sub := of_decide_eq_true c3, sup := of_decide_eq_true c4, isV := of_decide_eq_true c5, any := of_decide_eq_true c6, ini := c7, kind := ?_, co := (by simpa using s2), gen := (by simpa using s3), nc := fun x hx => of_decide_eq_true (List.all_eq_true.mp s4 x hx), ks := of_decide_eq_true s5, kc := of_decide_eq_true s6, loc := fun x hx => of_decide_eq_true (List.all_eq_true.mp s7 x hx), hp := argB_head a4, bind := fun us hl => argB_okX a4 _ _ _ _ _ _ _ us hl, top := (by simpa using c8) }⟩⟩
    · unfold fileB at a8
      split at a8
      · rename_i e
        split at a8
        · rename_i e2
          exact ⟨_, _, _, _, _, _, e, e2, a8⟩
        · cases a8
      · cases a8
    · unfold cellB at a9
      split at a9
      · rename_i e
        cases of_decide_eq_true a9
        exact ⟨_, _, _, e⟩
      · cases a9
    · split at s1
      · assumption
      · cases s1
  · cases h1
/-- what the text says of an error class C at c -/
structure ErrOk (P : Program) (K : PySem.W.Frag) (c : Addr) (C : Str) : Prop where
  T : L2.OexC K c
  sh : (excF C = [] ∧ ∃ p0 p1 p2 p3 p4, (p2.endLine == p3.line) = true ∧ Nonempty (ErD P K c ["self"] [supS p0 p1 p2 p3 p4 []])) ∨
    ∃ f, excF C = [f] ∧ f ≠ "self" ∧ (f == ("__debug__" : Str)) = false ∧ PySem.W.findIn K (.ref c) f = some none ∧ ∃ p0 p1 p2 p3 p4 p5 p6 p7 p8 p9, (p2.endLine == p3.line) = true ∧ Nonempty (ErD P K c ["self", f] [supS p0 p1 p2 p3 p4 [.Name f p5], .Assign [.Attribute (.Name "self" p6) f p7] (.Name f p8) p9])
def oexB (K : PySem.W.Frag) (c : Addr) : Bool := (match K.lookup c with
  | some ⟨.type "type", _, .cls cd, sl⟩ => (match cd.mro, sl.toList with
    | .ref C' :: bm, [_, _, _, _, some (.builtin n), _] => decide (C' = c) && (decide (n = "ValueError.__new__") && (cd.hasDict && (!cd.hasDel && PySem.HandSPX.refsVE bm)))
    | _, _ => false)
  | _ => false) && (decide (PySem.W.findIn K (.ref c) "__setattr__" = some (some (.builtin "object.__setattr__"))) && (decide (PySem.W.subIn K (.ref c) (.type "BaseException") = some true) && (decide (PySem.W.typeIn K (.ref c) = some (.type "type")) && PySem.W.keepIn K (.ref c))))
theorem oexB_ok {K : PySem.W.Frag} {c : Addr} (h : oexB K c = true) : L2.OexC K c := by
  obtain ⟨q, h⟩ := and_t h
  obtain ⟨h2, h⟩ := and_t h
  obtain ⟨h3, h⟩ := and_t h
  obtain ⟨h4, h5⟩ := and_t h
  refine ⟨?_, of_decide_eq_true h2, of_decide_eq_true h3, of_decide_eq_true h4, h5⟩
  split at q
  · rename_i dd cd sl ho
    split at q
    · rename_i C' bm k0 k1 k2 k3 n k5 hm hs
      obtain ⟨q1, q⟩ := and_t q
      obtain ⟨q2, q⟩ := and_t q
      obtain ⟨q3, q⟩ := and_t q
      obtain ⟨q4, q5⟩ := and_t q
      cases of_decide_eq_true q1
      cases of_decide_eq_true q2
      obtain ⟨nm, bs, mro, ns, qn, hd, sn, sb, ab, col, del⟩ := cd
      dsimp only at hm q3 q4
      subst hm
      obtain rfl : hd = true := q3
      obtain rfl : del = false := by simpa using q4
      obtain ⟨l⟩ := sl
      dsimp only at hs
      subst hs
      exact ⟨nm, qn, ns, bs, bm, sn, sb, ab, col, dd, k0, k1, k2, k3, k5, ho, q5⟩
    · cases q
  · cases q
def errB (P : Program) (K : PySem.W.Frag) (C : Str) : Bool := oexB K (He.ga K C) && (clsE P K (He.ga K C) (He.ma K (He.ga K C) "__init__") && (match K.lookup (He.ma K (He.ga K C) "__init__") with
  | some ⟨_, _, .func fd, _⟩ => (match excF C with
    | [] => fdB P K (He.ga K C) ["self"] shape0 fd
    | [f] => decide (f ≠ "self") && (!(f == ("__debug__" : Str)) && (decide (PySem.W.findIn K (.ref (He.ga K C)) f = some none) && fdB P K (He.ga K C) ["self", f] (shape1 f) fd))
    | _ => false)
  | _ => false))
theorem errB_ok {P : Program} {K : PySem.W.Frag} {C : Str} (h : errB P K C = true) : ErrOk P K (He.ga K C) C := by
  unfold errB at h
  obtain ⟨h1, h⟩ := and_t h
  obtain ⟨h2, h⟩ := and_t h
  refine ⟨oexB_ok h1, ?_⟩
  split at h
  · rename_i hf
    split at h
    · rename_i e
      obtain ⟨b, hb, ⟨D⟩⟩ := erd_of hf h h2
      obtain ⟨p0, p1, p2, p3, p4, rfl, hl⟩ := shape0_ok hb
      exact .inl ⟨e, p0, p1, p2, p3, p4, hl, ⟨D⟩⟩
    · rename_i f e
      obtain ⟨a1, h⟩ := and_t h
      obtain ⟨a2, h⟩ := and_t h
      obtain ⟨a3, h⟩ := and_t h
      obtain ⟨b, hb, ⟨D⟩⟩ := erd_of hf h h2
      obtain ⟨p0, p1, p2, p3, p4, p5, p6, p7, p8, p9, rfl, hl⟩ := shape1_ok hb
      exact .inr ⟨f, e, of_decide_eq_true a1, by simpa using a2, of_decide_eq_true a3, p0, p1, p2, p3, p4, p5, p6, p7, p8, p9, hl, ⟨D⟩⟩
    · cases h
  · cases h
end N
end
section
set_option maxRecDepth 100000
set_option maxHeartbeats 4000000
/-! The meaning of an expression is a reading of the text. -/
namespace N
open PySem PySem.Spec PyProof.Rows
/-! ### promises, lowered; the facts of the text -/
def lowSp (K : PySem.W.Frag) (M : Names) (sp : Sp) : L2.Sp := fun vs H Q E => ∃ ws A Qw Ew, Reps K H vs ws ∧ RH K M H A ∧ sp ws A Qw Ew ∧ (∀ w A', Qw w A' → Lk K M H A Q w A') ∧ ∀ C us A', Ew C us A' → LkX K M H A E C us A'
/-- a def at fa keeps a promise -/
structure FnF (X : L2.Cx) (M : Names) (fa : Addr) (sp : Sp) : Prop where
  ex : ∃ fd ps k, L2.Binds X.K fd ps [] ∧ FnG X.prog X.w X.K X.mg X.base (L2.CX X.prog X.w) k fa fd ps (lowSp X.K M sp) ∧ L2.Room k X.A
  kp : PySem.W.keepIn X.K (.ref fa) = true
  in2 : ∃ fd ps k, L2.Binds X.K fd ps [] ∧ FnG X.prog X.w X.K X.mg X.base (L2.CX X.prog X.w) k fa fd ps (lowSp X.K M sp) ∧ L2.Room k X.A.in1.in1
def biNames : List Str := ["len", "tuple", "list", "int", "all", "any", "sum", "abs", "max", "min", "isinstance", "range", "enumerate", "str", "bool", "dict", "sorted", "zip", "reversed", "repr", "set", "super"]
def kits : List String := ["int", "bool", "str", "tuple", "list", "dict"]
structure Fx (D : SE) (NN : List Str) (Γ : Gam) (M : Names) (X : L2.Cx) (sc : Scope) : Prop where
  hN : X.N = NN
  nd : NN.Nodup
  sc : X.env.scope = sc
  calm : X.calm = true
  un : X.A.units + 65 < cLine
  gd : X.A.guards = some []
  wd : M.w = X.w
  bi : ∀ n ∈ biNames, X.mg n = none
  con : ∀ x ∈ D.ks, ∃ u, X.mg x = some u ∧ ∀ w, con x = some w → (∃ i, L2.RelV (.int i) u ∧ w = .int i) ∨ ∃ s, L2.RelV (.str s) u ∧ w = .str s
  fn : ∀ f ∈ D.fs, ∃ fa, X.mg f = some (.ref fa) ∧ FnF X M fa (Γ.fn f)
  mks : ∀ C ∈ D.cs, ∃ c, M.cls C = some c ∧ X.mg C = some (.ref c)
  init : ∀ C c, M.cls C = some c → ∃ fa fd ps k, L2.Mk X.K c fa ∧ L2.Binds X.K fd ps [] ∧ FnG X.prog X.w X.K X.mg X.base (L2.CX X.prog X.w) k fa fd ps (lowSp X.K M (Γ.fn (meth C "__init__"))) ∧ L2.Room (k + 1) X.A
  mt : ∀ C c m, M.cls C = some c → m ∈ D.ml → Γ.has (meth C m) = true → ∃ fa, L2.Meth X.K c m fa ∧ FnF X M fa (Γ.fn (meth C m))
  cls : ∀ C c, M.cls C = some c → L2.Cls X.K c ∧ ∀ (H : Hp) (a dx : Addr) (fs : List (Str × V)), H a = some (.ins c dx fs) → L2.TyOf X.K H (.ref a) (.ref c)
  fld : ∀ C c f, M.cls C = some c → f ∈ D.fl → Γ.has (meth C f) = false → L2.NoAttr X.K c f
  isB : ∀ C c n, M.cls C = some c → n ∈ kits → PySem.W.kitOne X.K (.ref c) (.type n) = some false
  isO : ∀ C c n, M.cls C = some c → n ∈ "NoneType" :: kits → PySem.W.kitOne X.K (.type n) (.ref c) = some false
  eqm : ∀ C c, M.cls C = some c → Γ.has (meth C "__eq__") = true → OwnEq X c (lowSp X.K M (Γ.fn (meth C "__eq__")))
  nf : ∀ C c E e, M.cls C = some c → M.cls E = some e → (E = C ∨ subC E C = false) → PySem.W.notFirst X.K c (.ref e) = true
  isC : ∀ C c E e, M.cls C = some c → M.cls E = some e → PySem.W.kitOne X.K (.ref c) (.ref e) = some (subC C E)
  room : L2.Room 1 X.A
  exn : ∀ C ∈ D.xs, ∃ c, M.exc C = some c ∧ X.mg C = some (.ref c)
  err : ∀ C c, M.exc C = some c → C ≠ "LoreError" → ErrOk X.prog X.K c C
  exf : ∀ C c, M.exc C = some c → L2.XfC X.K c ∧ ∀ f ∈ excF C, PySem.W.findIn X.K (.ref c) f = some none
  exm : ∀ C c E e, M.exc C = some c → M.exc E = some e → PySem.W.exmOne X.K (.ref c) (.ref e) = some (subX C E)
theorem PE_imp {X : L2.Cx} {e : Expr} {t t' : L2.TE} (h : L2.PE X e t) (k : ∀ σ H Q, t' σ H Q → t σ H Q) : L2.PE X e t' := ⟨fun pins s σ H Q I q => h.run pins s σ H Q I (k σ H Q q)⟩
theorem pe_or {X : L2.Cx} {e : Expr} {t t' : L2.TE} (h : L2.PE X e t) (g : L2.PE X e t') : L2.PE X e (fun σ H Q => t σ H Q ∨ t' σ H Q) := ⟨fun pins s σ H Q I q => q.elim (h.run pins s σ H Q I) (g.run pins s σ H Q I)⟩
theorem PT_imp {X : L2.Cx} {e : Expr} {t t' : L2.TT} (h : L2.PT X e t) (k : ∀ σ H Q, t' σ H Q → t σ H Q) : L2.PT X e t' := ⟨fun pins s σ H Q I q => h.run pins s σ H Q I (k σ H Q q)⟩
theorem PA_imp {X : L2.Cx} {e : List Expr} {t t' : L2.TA} (h : L2.PA X e t) (k : ∀ σ H Q, t' σ H Q → t σ H Q) : L2.PA X e t' := ⟨fun pos pins s σ H Q I q => h.run pos pins s σ H Q I (k σ H Q q)⟩
theorem PO_imp {X : L2.Cx} {e : Option Expr} {t t' : L2.TO} (h : L2.PO X e t) (k : ∀ σ H Q, t' σ H Q → t σ H Q) : L2.PO X e t' := ⟨fun pins s σ H Q I q => h.run pins s σ H Q I (k σ H Q q)⟩
/-! ### calls at the slots as they stand -/
section
variable {X : L2.Cx} {CX : L2.CXT} {k : Nat} {f C : Addr} {fd : FuncData} {ps : List Str} {sp : L2.Sp} {E : L2.St → L2.XK} {x m : Str} {p pos apos : Pos} {es : List Expr} {t : L2.TA}
theorem pe_callA (F : FnG X.prog X.w X.K X.mg X.base CX k f fd ps sp) (gd : X.A.guards = some []) (hr : L2.Room k X.A) (hg : L2.Gl X x) (hm : X.mg x = some (.ref f)) (hk : PySem.W.keepIn X.K (.ref f) = true) (hb : L2.Binds X.K fd ps []) (hx : ∀ σ, L2.PassesAt CX X σ (E σ))
    (ha : L2.PA X es t) (hdb : (x == ("__debug__" : Str)) = false) (hs : noStars es = true) (h0 : es = [] → ∀ σ H Q, t σ H Q → Q [] H) : L2.PE X (.Call (.Name x p) es [] pos) (L2.tCallS sp E t) := by
  cases es with
  | cons e es =>
    obtain ⟨h1, h2⟩ := Bool.and_eq_true_iff.mp (show (noStar e && noStars es) = true from hs)
    refine ⟨fun pins s σ H Q I h => ?_⟩
    refine wpAny_Call_Name_kw (L2.ld_glob I hg hm ?_ hdb)
    exact PySem.W.callWith_K (h₀ := X.base) I.ok.mod.kin hk (L2.thn (ha.run pos pins s σ H _ I h) fun us s1 ⟨vs, H1, I1, r, q⟩ => ⟨I1.kIn, run_fnG F gd hr hb (hx σ) I1 r q⟩) (star_cons h1) (star_plain pos h2)
  | nil =>
    refine ⟨fun pins s σ H Q I h => ?_⟩
    refine wpAny_Call_Name_kw (L2.ld_glob I hg hm ?_ hdb)
    exact PySem.W.callWith_K0 I.kIn hk (run_fnG (us := []) F gd hr hb (hx σ) I .nil (h0 rfl σ H _ h))
theorem gd_make {A : Around} {args : Args} (g : A.guards = some []) : (A.under (.builtin "type.__call__" args)).guards = some [] := by
  have e : (Code.builtin "type.__call__" args).isGuard = false := by
    show guardIds.contains "type.__call__" = false
    decide +kernel
  simp [Around.under, Code.guards, e, pushGuards, g]
/-- C(..) at the slots as they stand -/
def tMakeS (C : Addr) (sp : L2.Sp) (E : L2.St → L2.XK) (t : L2.TA) : L2.TE := fun σ H Q => t σ H fun vs H1 => ∀ x dx, H1 x = none → H1 dx = none → dx ≠ x →
  sp (.ref x :: vs) (L2.upd (L2.upd H1 dx (.own x)) x (.ins C dx [])) (fun v H2 => v = .non ∧ Q (.ref x) H2) (E σ)
theorem run_makeS {pins : List (Addr × Obj)} {σ : L2.St} {H : Hp} {s : Shared} {Q : L2.VK} {us : List Value} {vs : List V} (M : L2.Mk X.K C f) (F : FnG X.prog X.w X.K X.mg X.base CX k f fd ps sp) (gd : X.A.guards = some []) (hr : L2.Room (k + 1) X.A) (hb : L2.Binds X.K fd ps [])
    (hx : L2.PassesAt CX X σ (E σ)) (I : L2.Inv X pins σ H s) (r : L2.Vals vs us)
    (h : ∀ x dx, H x = none → H dx = none → dx ≠ x → sp (.ref x :: vs) (L2.upd (L2.upd H dx (.own x)) x (.ins C dx [])) (fun v H2 => v = .non ∧ Q (.ref x) H2) (E σ)) :
    wpAny (model X.prog X.w) X.A (call (.ref C) us) (L2.EP X pins σ Q) X.xe s := by
  have hq := h (s.heap.objs.size + 1) s.heap.objs.size (I.hok.fresh (Nat.le_succ _)) (I.hok.fresh (Nat.le_refl _)) (Nat.ne_of_lt (Nat.lt_succ_self _))
  have I2 := L2.Inv.made (C := C) I
  have r2 : L2.Vals (L2.V.ref (s.heap.objs.size + 1) :: vs) (Value.ref (s.heap.objs.size + 1) :: us) := .cons rfl r
  have hl : (Value.ref (s.heap.objs.size + 1) :: us).length = ps.length := by
    have e := r2.length
    rw [F.len _ _ _ _ hq] at e
    exact e.symm
  have hbb := hb _ (Value.ref (s.heap.objs.size + 1) :: us) I2.kIn (by rw [List.append_nil]; exact hl)
  rw [List.append_nil] at hbb
  refine wpAny_call (L2.make_map (f := f) I.kIn M.makes M.init (beq_iff_eq.mp M.fn) (codeAny_mono (F.run _ X.stack _ _ ⟨Value.ref (s.heap.objs.size + 1) :: us, []⟩ (Value.ref (s.heap.objs.size + 1) :: us) _ _ (E σ) (gd_make gd) (hr.make C us [])
    (I2.env0.make C us []) hbb r2 hq) fun r s' hq' => ?_))
  cases r with
  | error e => exact hx pins _ _ e s' I2 hq'
  | ok fl =>
    cases fl with
    | ret u =>
      obtain ⟨v, H', I3, rv, ev, q3⟩ := I2.after hq'
      subst ev
      exact ⟨rv, ⟨L2.V.ref (s.heap.objs.size + 1), H', I3, rfl, q3⟩⟩
    | next => exact False.elim hq'
    | brk => exact False.elim hq'
    | cont => exact False.elim hq'
theorem pe_makeA (M : L2.Mk X.K C f) (F : FnG X.prog X.w X.K X.mg X.base CX k f fd ps sp) (gd : X.A.guards = some []) (hr : L2.Room (k + 1) X.A) (hg : L2.Gl X x) (hm : X.mg x = some (.ref C)) (hb : L2.Binds X.K fd ps []) (hx : ∀ σ, L2.PassesAt CX X σ (E σ))
    (ha : L2.PA X es t) (hdb : (x == ("__debug__" : Str)) = false) (hs : noStars es = true) (h0 : es = [] → ∀ σ H Q, t σ H Q → Q [] H) : L2.PE X (.Call (.Name x p) es [] pos) (tMakeS C sp E t) := by
  refine ⟨fun pins s σ H Q I h => ?_⟩
  refine wpAny_Call_Name_kw (L2.ld_glob I hg hm ?_ hdb)
  cases es with
  | cons e es =>
    obtain ⟨h1, h2⟩ := Bool.and_eq_true_iff.mp (show (noStar e && noStars es) = true from hs)
    refine PySem.W.callWith_K (h₀ := X.base) I.ok.mod.kin M.kp (L2.thn (ha.run pos pins s σ H _ I h) fun us s1 ⟨vs, H1, I1, r, q⟩ => ⟨I1.kIn, ?_⟩) (star_cons h1) (star_plain pos h2)
    exact run_makeS M F gd hr hb (hx σ) I1 r q
  | nil => exact PySem.W.callWith_K0 I.kIn M.kp (run_makeS (us := []) M F gd hr hb (hx σ) I .nil (h0 rfl σ H _ h))
theorem biN_mem {b : Bi} {n : Str} {v : Value} (h : biN b = some (n, v)) : n ∈ biNames := by
  cases b <;> simp only [biN, reduceCtorEq, Option.some.injEq, Prod.mk.injEq] at h <;> (obtain ⟨rfl, _⟩ := h; decide +kernel)
theorem pe_bi {M : Names} (hc : X.calm = true) (hu : X.A.units + 65 < cLine) (gd : X.A.guards = some []) {b : Bi} {n : Str} {v : Value} (hb : biN b = some (n, v)) (hg : L2.Gl X n) (hm : X.mg n = none) (ha : L2.PA X es t) (hn : n ≠ "__name__") (hdb : (n == ("__debug__" : Str)) = false) (hne : es ≠ []) (hs : noStars es = true) :
    L2.PE X (.Call (.Name n p) es [] pos) (L2.tCB (lowC X.K M (biW b)) t) := by
  cases es with
  | nil => exact absurd rfl hne
  | cons e es =>
    obtain ⟨h1, h2⟩ := Bool.and_eq_true_iff.mp (show (noStar e && noStars es) = true from hs)
    have C := call_bi (X := X) (M := M) hc hu gd b hb
    cases b <;> simp only [biN, reduceCtorEq, Option.some.injEq, Prod.mk.injEq] at hb
    all_goals obtain ⟨rfl, rfl⟩ := hb
    all_goals first
      | exact L2.pe_callB C hg hm (by decide +kernel) ha hn hdb (star_cons h1) (star_plain pos h2)
      | exact L2.pe_callTy C hg hm (by decide +kernel) ha hn hdb (star_cons h1) (star_plain pos h2)
/-- the type of what has a method: a dict with nested keys, too -/
def TyM (K : PySem.W.Frag) (T : String) (x : V) (H : Hp) : Prop := L2.tyV K T x H ∨ (T = "dict" ∧ ∃ (a : Addr) (o : Obj), x = .ref a ∧ H a = some (.ext fun h => h.get? a = some o) ∧ o.ExactDict)
theorem tyM_is {X : L2.Cx} {pins : List (Addr × Obj)} {σ : L2.St} {H : Hp} {s : Shared} {T : String} {x : V} {v : Value} (I : L2.Inv X pins σ H s) (r : L2.RelV x v) (ty : TyM X.K T x H) :
    s.TypeIs v T ∧ ∀ a, v = .ref a → ∃ ob, s.heap.get? a = some ob ∧ ob.dict = none := by
  rcases ty with ty | ⟨rfl, a, o, rfl, e, c⟩
  · exact L2.tyV_is I r ty
  · obtain ⟨ho, _⟩ := I.hok a _ e
    cases (show v = Value.ref a from r)
    refine ⟨⟨o, ho, c.1⟩, fun b hb => ?_⟩
    cases hb
    exact ⟨o, ho, c.2.1⟩
/-- o.m(..), m a built-in method: which one is known behind o -/
def tMtA (K : PySem.W.Frag) (X : L2.Cx) (name : Str) (to : L2.TE) (t : L2.TA) : L2.TE := fun σ H Q => to σ H fun x H1 => ∃ T id r, PlainAttrs T ∧ Slot T name id ∧ typeOf (.builtin id) = pure (.type "method_descriptor") ∧ L2.MtR X id r ∧ TyM K T x H1 ∧ t σ H1 fun xs H2 => r x xs H2 Q
theorem all_plain {env : Env} (pos : Pos) : ∀ {es : List Expr}, noStars es = true → (backTo pos (starEach es env)).all (fun x => !x.1) = true
  | [], _ => rfl
  | e :: r, h => by
    have h' := Bool.and_eq_true_iff.mp (show (noStar e && noStars r) = true from h)
    rw [star_cons h'.1]
    show (true && (backTo pos (starEach r env)).all (fun x => !x.1)) = true
    rw [all_plain pos h'.2]; rfl
theorem pe_mtA {o : Expr} {name : Str} {to : L2.TE} (ho : L2.PE X o to) (ha : L2.PA X es t) (hbase : plainO o = true) (hline : apos.endLine = pos.line) (hlen : es.length < 29) (hs : noStars es = true) (h0 : es = [] → ∀ σ H Q, t σ H Q → Q [] H) :
    L2.PE X (.Call (.Attribute o name apos) es [] pos) (tMtA X.K X name to t) := by
  refine ⟨fun pins s σ H Q I h => ?_⟩
  refine wpAny_Call_method_late (base_plain hbase) ?_ (by rw [hline]; exact beq_self_eq_true _) rfl (L2.thn (ho.run pins s σ H _ I h) fun v s1 ⟨x, H1, I1, r1, T, id, r, pa, slot, hty, hm, ty, q1⟩ => ?_)
  · rw [all_plain pos hs]
    show (true && true && decide (es.length + 0 + 0 < 30)) = true
    rw [decide_eq_true (by omega)]; rfl
  · obtain ⟨e1, e2⟩ := tyM_is I1 r1 ty
    refine ⟨T, id, pa, slot, hty, e1, e2, ?_⟩
    cases es with
    | cons e es =>
      obtain ⟨h1, h2⟩ := Bool.and_eq_true_iff.mp (show (noStar e && noStars es) = true from hs)
      have hA := ha.run pos pins s1 σ H1 _ I1 q1
      rw [star_cons h1] at hA ⊢
      refine Calls.callWith_builtin (by show (false || (backTo pos (starEach es X.env)).any (·.1)) = false; rw [star_plain pos h2] <;> rfl) (Calls.evalArgs_plain ?_)
      exact L2.thn hA fun us s2 ⟨vs, H2, I2, r2, q2⟩ => hm pins s2 σ H2 x vs v us Q I2 r1 r2 q2
    | nil => exact Calls.callWith_builtin rfl (PySem.evalArgs_none (hm pins s1 σ H1 x [] v [] Q I1 r1 .nil (h0 rfl σ H1 _ q1)))
/-- o.m(..), m a method of an own class -/
def tMethA (K : PySem.W.Frag) (X : L2.Cx) (CX : L2.CXT) (m : Str) (E : L2.St → L2.XK) (to : L2.TE) (t : L2.TA) : L2.TE := fun σ H Q => to σ H fun x H1 => ∃ a C dx fs f fd ps k sp, x = .ref a ∧ H1 a = some (.ins C dx fs) ∧ fs.lookup m = none ∧ L2.Cls K C ∧ L2.Meth K C m f ∧
  FnG X.prog X.w X.K X.mg X.base CX k f fd ps sp ∧ L2.Room k X.A ∧ L2.Binds X.K fd ps [] ∧ t σ H1 fun vs H2 => sp (x :: vs) H2 Q (E σ)
theorem pe_methA {o : Expr} {to : L2.TE} (ho : L2.PE X o to) (ha : L2.PA X es t) (hbase : plainO o = true) (gd : X.A.guards = some []) (hline : apos.endLine = pos.line) (hlen : es.length < 29) (hs : noStars es = true) (h0 : es = [] → ∀ σ H Q, t σ H Q → Q [] H) (hx : ∀ σ, L2.PassesAt CX X σ (E σ)) :
    L2.PE X (.Call (.Attribute o m apos) es [] pos) (tMethA X.K X CX m E to t) := by
  refine ⟨fun pins s σ H Q I h => ?_⟩
  have hform : methodCallForm (es.length + ([] : List Keyword).length) (backTo pos (starEach es X.env)) (backToKw pos (keywordEach [] X.env)) = true := by
    unfold methodCallForm
    rw [all_plain pos hs]
    show (true && true && decide (es.length + 0 + 0 < 30)) = true
    rw [decide_eq_true (by omega)]; rfl
  rw [arm_eval_Call, base_plain hbase]
  refine wpAny_bind (L2.thn (ho.run pins s σ H _ I h) fun u s1 hq => ?_)
  obtain ⟨x, H1, I1, rx, a, C, dx, fs, f, fd, ps, k, sp, ex, ea, l, hc, hm, F, hr, hb, q⟩ := hq
  subst ex
  obtain rfl : u = Value.ref a := rx
  refine wpAny_bind (wpAny_standAt ?_)
  have hpos : methodCallPos true o X.env apos pos = pure pos := by unfold methodCallPos; simp [hline]
  unfold methodCall
  rw [hform]
  refine wpAny_bind (wpAny_holding ?_)
  show wpAny _ _ (getMethod (.ref a) m _) _ _ _
  refine L2.getmeth_ok I1 ea hc hm l ?_
  refine wpAny_bind (wpAny_of_eq hpos ?_)
  cases es with
  | cons e es =>
    obtain ⟨h1, h2⟩ := Bool.and_eq_true_iff.mp (show (noStar e && noStars es) = true from hs)
    refine PySem.W.callWith_K (first := [.ref a]) (h₀ := X.base) I.ok.mod.kin hm.kp (L2.thn (ha.run pos pins s1 σ H1 _ I1 q) fun us s2 ⟨vs, H2, I2, r, q2⟩ => ⟨I2.kIn, ?_⟩) (star_cons h1) (star_plain pos h2)
    exact run_fnG (us := .ref a :: us) (vs := .ref a :: vs) F gd hr hb (hx σ) I2 (.cons rfl r) q2
  | nil => exact PySem.W.callWith_K0 (first := [.ref a]) I1.kIn hm.kp (run_fnG (us := [.ref a]) (vs := [.ref a]) F gd hr hb (hx σ) I1 (.cons rfl .nil) (h0 rfl σ H1 _ q))
theorem Fds.get {K : PySem.W.Frag} {H : Hp} {f : Str} {w : N.W} : ∀ {vs : List (Str × V)} {ws : List (Str × N.W)}, Fds K H vs ws → ws.lookup f = some w → ∃ v, vs.lookup f = some v ∧ Rep K H v w
  | _, _, .nil, e => by cases e
  | _, _, .cons (f := g) r t, e => by
    rw [List.lookup_cons] at e
    by_cases h : f == g
    · rw [h] at e; cases e
      exact ⟨_, by rw [List.lookup_cons, h], r⟩
    · rw [Bool.not_eq_true] at h
      rw [h] at e
      obtain ⟨v, h1, h2⟩ := Fds.get t e
      exact ⟨v, by rw [List.lookup_cons, h]; exact h1, h2⟩
theorem Fds.none {K : PySem.W.Frag} {H : Hp} {f : Str} : ∀ {vs : List (Str × V)} {ws : List (Str × N.W)}, Fds K H vs ws → ws.lookup f = .none → vs.lookup f = .none
  | _, _, .nil, e => rfl
  | _, _, .cons (f := g) r t, e => by
    rw [List.lookup_cons] at e ⊢
    by_cases h : f == g
    · rw [h] at e; cases e
    · rw [Bool.not_eq_true] at h
      rw [h] at e ⊢
      exact Fds.none t e
theorem int2_mono {f g : Int → Int → Prop} (h : ∀ i j, f i j → g i j) {x y : N.W} (q : int2 f x y) : int2 g x y := by
  cases x <;> cases y <;> first | exact False.elim q | exact h _ _ q
theorem inW_mono {x y : N.W} {A : AH} {P P' : Bool → Prop} (hp : ∀ b, P b → P' b) (h : inW x y A P) : inW x y A P' := by
  cases y <;> first | exact False.elim h | skip
  · obtain ⟨c, e, h⟩ := h; exact ⟨c, e, hp _ h⟩
  · obtain ⟨d, e, h1, h2, h3, h4, h⟩ := h; exact ⟨d, e, h1, h2, h3, h4, hp _ h⟩
  · rcases h with ⟨d, e, h1, h2, h3, h4, h⟩ | ⟨kv, h1, h2, h⟩ | ⟨kv, h1, h2, h⟩
    · exact .inl ⟨d, e, h1, h2, h3, h4, hp _ h⟩
    · exact .inr (.inl ⟨kv, h1, h2, hp _ h⟩)
    · exact .inr (.inr ⟨kv, h1, h2, hp _ h⟩)
theorem cmpW_mono {op : COp} {x y : N.W} {A : AH} {P P' : Bool → Prop} (hp : ∀ b, P b → P' b) (h : cmpW op x y A P) : cmpW op x y A P' := by
  cases op with
  | lt => cases x <;> cases y <;> first | exact False.elim h | exact hp _ h
  | le => exact int2_mono (fun _ _ q => hp _ q) h
  | gt => exact int2_mono (fun _ _ q => hp _ q) h
  | ge => exact int2_mono (fun _ _ q => hp _ q) h
  | eq => obtain ⟨d, e, h1, h2, h3, h4, h⟩ := h; exact ⟨d, e, h1, h2, h3, h4, hp _ h⟩
  | ne => obtain ⟨d, e, h1, h2, h3, h4, h⟩ := h; exact ⟨d, e, h1, h2, h3, h4, hp _ h⟩
  | isin => exact inW_mono hp h
  | notin => exact inW_mono (fun b q => hp _ q) h
  | isN => exact hp _ h
  | isnN => exact hp _ h
  | isT => exact False.elim h
  | isF => exact False.elim h
  | isnT => exact False.elim h
  | isnF => exact False.elim h
end
def mtNm : Mt → Str := mtN
theorem mt_at {X : L2.Cx} {M : Names} {m : Mt} {v : V} {w : N.W} {H : Hp} {A : AH} (hu0 : X.A.units + 65 < cLine) (hM : M.w = X.w) (hc : X.calm = true) (r : Rep X.K H v w) (g : RH X.K M H A) (h : mtOk m w A) :
    ∃ T id, PlainAttrs T ∧ Slot T (mtN m) id ∧ typeOf (.builtin id) = pure (.type "method_descriptor") ∧ L2.MtR X id (lowM X.K M m) ∧ TyM X.K T v H := by
  have hu : X.A.units + 1 < cLine := by omega
  have lst : ∀ {a xs}, w = .ref a → A a = some (.lst xs) → TyM X.K "list" v H := fun {a xs} e ha => by
    subst e
    cases r
    obtain ⟨vs, e, _⟩ := g _ _ ha
    exact .inl <| .inl ⟨rfl, _, L2.SqL.of e⟩
  have dct : ∀ {a xs}, w = .ref a → A a = some (.dct xs) → TyM X.K "dict" v H := fun {a xs} e ha => by
    subst e
    cases r
    obtain ⟨vs, e, _⟩ := g _ _ ha
    exact .inl <| .inr (.inr (.inl ⟨rfl, .inl ⟨_, e⟩⟩))
  have dnt : ∀ {a xs}, w = .ref a → A a = some (.dnt xs) → TyM X.K "dict" v H := fun {a xs} e ha => by
    subst e
    cases r
    obtain ⟨o, es, ep, xs, e, c, _⟩ := g _ _ ha
    exact .inr ⟨rfl, _, o, rfl, e, c⟩
  have dd : ∀ {a xs}, w = .ref a → (A a = some (.dct xs) ∨ A a = some (.dnt xs)) → TyM X.K "dict" v H := fun {a xs} e ha => ha.elim (dct e) (dnt e)
  cases m <;> first | exact False.elim h | skip
  · obtain ⟨a, xs, e, ha⟩ := h
    exact ⟨"list", "list.append", PySem.F.plainAttrs_list, PySem.F.slot_list_append, PySem.F.type_list_append, mt_append, lst e ha⟩
  · obtain ⟨a, xs, e, ha⟩ := h
    exact ⟨"list", "list.pop", PySem.F.plainAttrs_list, PySem.F.slot_list_pop, PySem.F.type_list_pop, mt_pop0, lst e ha⟩
  · obtain ⟨a, xs, e, ha⟩ := h
    exact ⟨"list", "list.pop", PySem.F.plainAttrs_list, PySem.F.slot_list_pop, PySem.F.type_list_pop, mt_popAt, lst e ha⟩
  · obtain ⟨a, xs, e, ha⟩ := h
    exact ⟨"list", "list.extend", PySem.F.plainAttrs_list, PySem.F.slot_list_extend, PySem.F.type_list_extend, mt_extend, lst e ha⟩
  · obtain ⟨a, xs, e, ha⟩ := h
    exact ⟨"dict", "dict.get", PySem.F.plainAttrs_dict, PySem.F.slot_dict_get, PySem.F.type_dict_get, mt_get1 hu, dct e ha⟩
  · obtain ⟨a, xs, e, ha⟩ := h
    exact ⟨"dict", "dict.get", PySem.F.plainAttrs_dict, PySem.F.slot_dict_get, PySem.F.type_dict_get, mt_get2 hu0 hM, dd e ha⟩
  · obtain ⟨a, xs, e, ha⟩ := h
    exact ⟨"list", "list.index", PySem.F.plainAttrs_list, PySem.F.slot_list_index, PySem.F.type_list_index, mt_indexW hu0, lst e ha⟩
  · obtain ⟨z, e⟩ := h
    subst e
    cases r
    exact ⟨"str", "str.join", PySem.F.plainAttrs_str, PySem.F.slot_str_join, PySem.F.type_str_join, mt_joinW, .inl rfl⟩
  · obtain ⟨a, xs, e, ha⟩ := h
    exact ⟨"dict", "dict.setdefault", PySem.F.plainAttrs_dict, PySem.F.slot_dict_setdefault, PySem.F.type_dict_setdefault, mt_dflt hu0 hM, dd e ha⟩
/-- both readings -/
structure Snd (X : L2.Cx) (M : Names) (W : L2.WX) (e : Expr) (t : XK → TE) : Prop where
  pe : L2.PE X e (low X.K M W t)
  pt : L2.PT X e (lowT X.K M W t)
theorem mkS {X : L2.Cx} {M : Names} {W : L2.WX} {e : Expr} {t : XK → TE} (h : L2.PE X e (low X.K M W t)) (p : plainT e = true) : Snd X M W e t := ⟨h, PT_imp (L2.pt_val h (test_plain p)) fun σ H Q => by
  rintro ⟨τ, A, xk, Qw, l, q, k⟩
  refine ⟨τ, A, xk, _, l, q, fun w A' h v H' r1 r2 f => ?_⟩
  cases w <;> first | exact False.elim h | skip
  cases r1
  exact ⟨_, rfl, k _ _ h H' r2 f⟩⟩
section
variable {D : SE} {NN : List Str} {Γ : Gam} {M : Names}
theorem and_true {a b : Bool} (h : (a && b) = true) : a = true ∧ b = true := Bool.and_eq_true_iff.mp h
theorem es_nil {K : PySem.W.Frag} {W : L2.WX} {sc : Scope} {as : Es} {es : List Expr} (h : okEs D NN sc as es = true) (e : es = []) (σ : L2.St) (H : Hp) (Q : List V → Hp → Prop) (q : lowA K M W as.len (fun xk => rdEs Γ xk as) σ H Q) : Q [] H := by
  subst e
  cases as with
  | nil =>
    obtain ⟨τ, A, xk, Qw, l, q, k⟩ := q
    unfold rdEs at q
    exact k _ _ q rfl _ _ .nil l.rh Fr.refl
  | cons a r => unfold okEs at h; cases h
theorem low_c {K : PySem.W.Frag} {W : L2.WX} {v : V} {w : N.W} (r : ∀ H, Rep K H v w) {t : XK → TE} (ht : ∀ xk τ A Q, t xk τ A Q → Q w A) {σ : L2.St} {H : Hp} {Q : L2.VK} (h : low K M W t σ H Q) : Q v H := by
  obtain ⟨τ, A, xk, Qw, l, q, k⟩ := h
  exact k _ _ (ht _ _ _ _ q) _ _ (r H) l.rh Fr.refl
end
end N
end
section
set_option maxRecDepth 100000
set_option maxHeartbeats 4000000
/-! Targets, iterators, the loop of a comprehension. -/
namespace N
open PySem PySem.Spec PyProof.Rows
theorem PG_imp {X : L2.Cx} {e : Expr} {t t' : L2.TG} (h : L2.PG X e t) (k : ∀ v σ H Q, t' v σ H Q → t v σ H Q) : L2.PG X e t' := ⟨fun pins s σ H v u Q I r q => h.run pins s σ H v u Q I r (k v σ H Q q)⟩
theorem PGs_imp {X : L2.Cx} {e : List Expr} {t t' : L2.TGs} (h : L2.PGs X e t) (k : ∀ v σ H Q, t' v σ H Q → t v σ H Q) : L2.PGs X e t' := ⟨fun pins s σ H v u Q I r q => h.run pins s σ H v u Q I r (k v σ H Q q)⟩
theorem wipe_set (σ : L2.St) (i : Nat) (x : Option V) : ∀ {vs : List Nat}, i ∈ vs → L2.wipe (σ.set i x) vs = L2.wipe σ vs
  | v :: vs, h => by
    show (L2.wipe (σ.set i x) vs).set v none = (L2.wipe σ vs).set v none
    by_cases hv : i ∈ vs
    · rw [wipe_set σ i x hv]
    · have e : i = v := by
        rcases List.mem_cons.mp h with h | h
        · exact h
        · exact absurd h hv
      subst e
      refine List.ext_getElem? fun j => ?_
      by_cases hj : i = j
      · subst hj
        by_cases hl : i < σ.length
        · rw [List.getElem?_set_self (by rw [L2.wipe_length, List.length_set]; exact hl), List.getElem?_set_self (by rw [L2.wipe_length]; exact hl)]
        · rw [List.getElem?_eq_none (by rw [List.length_set, L2.wipe_length, List.length_set]; omega), List.getElem?_eq_none (by rw [List.length_set, L2.wipe_length]; omega)]
      · rw [List.getElem?_set_ne hj, List.getElem?_set_ne hj]
        exact wipe_get hj vs
where
  wipe_get {σ : L2.St} {i j : Nat} {x : Option V} (hj : i ≠ j) : ∀ vs : List Nat, (L2.wipe (σ.set i x) vs)[j]? = (L2.wipe σ vs)[j]?
    | [] => by show (σ.set i x)[j]? = σ[j]?; rw [List.getElem?_set_ne hj]
    | v :: vs => by
      show ((L2.wipe (σ.set i x) vs).set v none)[j]? = ((L2.wipe σ vs).set v none)[j]?
      by_cases h : v = j
      · subst h
        rw [List.getElem?_set, List.getElem?_set]
        rw [L2.wipe_length, L2.wipe_length, List.length_set, if_pos rfl, if_pos rfl]
      · rw [List.getElem?_set_ne h, List.getElem?_set_ne h]
        exact wipe_get hj vs
theorem wipe_wipe (σ : L2.St) : ∀ vs : List Nat, L2.wipe (L2.wipe σ vs) vs = L2.wipe σ vs := fun vs => by
  have key : ∀ us : List Nat, (∀ u ∈ us, u ∈ vs) → L2.wipe (L2.wipe σ us) vs = L2.wipe σ vs := by
    intro us
    induction us with
    | nil => intro _; rfl
    | cons u us ih =>
      intro h
      show L2.wipe ((L2.wipe σ us).set u none) vs = _
      rw [wipe_set _ _ _ (h u List.mem_cons_self)]
      exact ih fun x hx => h x (List.mem_cons_of_mem _ hx)
  exact key vs fun _ h => h
section
variable {D : SE} {NN : List Str} {Γ : Gam} {M : Names} {X : L2.Cx} {sc : Scope}
/-- what a scope says of the names that may be stored -/
structure Sto (X : L2.Cx) (sc : Scope) : Prop where
  up : ∀ x k, sc.names.lookup x = some k → k ≠ .free → X.env.scope.names.lookup x = some k
  fn : ∀ x, sc.names.lookup x = some .cell → X.fn x = true
theorem locB.loc {i : Nat} {x : Str} (h : locB NN sc i x = true) (S : Sto X sc) : NN[i]? = some x ∧ L2.Loc X.env.scope x ∧ (X.fn x = true ∨ X.env.scope.names.lookup x = some .local) := by
  unfold locB kindB at h
  simp only [Bool.and_eq_true, Bool.or_eq_true, decide_eq_true_eq] at h
  obtain ⟨h1, h2 | h2⟩ := h
  · have q := S.up x _ h2 (by decide)
    exact ⟨h1, .inl q, .inr q⟩
  · exact ⟨h1, .inr (S.up x _ h2 (by decide)), .inl (S.fn x h2)⟩
theorem locS.loc {i : Nat} {x : Str} (h : locS NN sc i x = true) (S : Sto X sc) : NN[i]? = some x ∧ X.env.scope.names.lookup x = some .local := by
  unfold locS kindB at h
  simp only [Bool.and_eq_true, decide_eq_true_eq] at h
  exact ⟨h.1, S.up x _ h.2 (by decide)⟩
theorem Sto.blk {s : Shared} {H : Hp} {bs : Scope} {C : Addr} {cl : List (Str × Addr)} {fp : List Addr} : Sto (X.blk s H bs (compEnvC bs cl C X.env) fp) bs :=
  ⟨fun x k h hk => L2.lookup_relS_keep (sc := X.env.scope) hk h, fun x h => by show (bs.names.lookup x == some .cell) = true; rw [h]; rfl⟩
def tgs (K : PySem.W.Frag) (is : List Nat) : L2.TGs := fun vs σ H Q => ∃ ws τ τ', Reps K H vs ws ∧ RS K H σ τ ∧ gvs is ws τ = some τ' ∧ ∀ σ', RS K H σ' τ' → (∀ ls : List Nat, (∀ i ∈ is, i ∈ ls) → L2.wipe σ' ls = L2.wipe σ ls) → Q σ' H
theorem sndGs {sc0 : Scope} (F : Fx D NN Γ M X sc0) (S : Sto X sc) : ∀ (is : List Nat) (es : List Expr), okGs NN sc is es = true → L2.PGs X es (tgs X.K is) ∧ (∀ n, n = es.length → (assignEach es X.env).length = n) ∧ (assignEach es X.env).findIdx? (·.1) = none ∧ es.length = is.length
  | [], [], _ => by
    refine ⟨PGs_imp L2.pgs_nil fun vs σ H Q => ?_, fun n h => ?_, rfl, rfl⟩
    · rintro ⟨ws, τ, τ', r, rs, e, k⟩
      cases r with
      | nil => cases e; exact ⟨rfl, k _ rs fun _ _ => rfl⟩
      | cons _ _ => cases e
    · rw [h]; rfl
  | i :: is, .Name x p :: es, h => by
    unfold okGs at h
    obtain ⟨h1, h2⟩ := and_true h
    obtain ⟨ih, l1, l2, l3⟩ := sndGs F S is es h2
    obtain ⟨e1, e2, e3⟩ := locB.loc h1 S
    refine ⟨PGs_imp (L2.pgs_cons (L2.pg_name (by rw [F.hN]; exact F.nd) (by rw [F.hN]; exact e1) e2 e3) ih) fun vs σ H Q => ?_, fun n hn => ?_, ?_, by rw [List.length_cons, List.length_cons, l3]⟩
    · rintro ⟨ws, τ, τ', r, rs, e, k⟩
      cases r with
      | nil => cases e
      | cons q r =>
        refine ⟨_, _, rfl, _, _, τ', r, rs.setv q i, e, fun σ' r' hw => k σ' r' fun ls hl => ?_⟩
        rw [hw ls fun j hj => hl j (List.mem_cons_of_mem _ hj), wipe_set _ _ _ (hl i List.mem_cons_self)]
    · subst hn
      show (assignEach es X.env).length + 1 = es.length + 1
      rw [l1 _ rfl]
    · show ((false, assign (.Name x p) X.env) :: assignEach es X.env).findIdx? (·.1) = none
      rw [List.findIdx?_cons, l2]; rfl
  | [], _ :: _, h => by unfold okGs at h; cases h
  | _ :: _, [], h => by unfold okGs at h; cases h
def tg (K : PySem.W.Frag) (g : G) : L2.TG := fun v σ H Q => ∃ w τ, Rep K H v w ∧ RS K H σ τ ∧ gDo g w τ fun τ' => ∀ σ', RS K H σ' τ' → (∀ ls : List Nat, (∀ i ∈ gI g, i ∈ ls) → L2.wipe σ' ls = L2.wipe σ ls) → Q σ' H
theorem gvs_len : ∀ {is : List Nat} {ws : List N.W} {τ τ' : St}, gvs is ws τ = some τ' → ws.length = is.length
  | [], [], _, _, _ => rfl
  | _ :: is, _ :: ws, _, _, h => by rw [List.length_cons, List.length_cons, gvs_len (is := is) (ws := ws) h]
  | [], _ :: _, _, _, h => by cases h
  | _ :: _, [], _, _, h => by cases h
theorem sndG {sc0 : Scope} (F : Fx D NN Γ M X sc0) (S : Sto X sc) : ∀ (g : G) (e : Expr), okG NN sc g e = true → L2.PG X e (tg X.K g)
  | .nm i, e, h => by
    unfold okG at h
    split at h
    · rename_i h0; cases h0
      obtain ⟨e1, e2, e3⟩ := locB.loc h S
      refine PG_imp (L2.pg_name (i := i) (by rw [F.hN]; exact F.nd) (by rw [F.hN]; exact e1) e2 e3) fun v σ H Q => ?_
      rintro ⟨w, τ, r, rs, q⟩
      exact q _ (rs.setv r i) fun ls hl => wipe_set _ _ _ (hl i List.mem_cons_self)
    · rename_i h0; cases h0
    · cases h
  | .tp is, e, h => by
    unfold okG at h
    split at h
    · rename_i h0; cases h0
    · rename_i h0; cases h0
      obtain ⟨p, l1, l2, l3⟩ := sndGs F S _ _ h
      refine PG_imp (L2.pg_tup F.calm p (l1 _ rfl) l2) fun v σ H Q => ?_
      rintro ⟨w, τ, r, rs, q⟩
      unfold gDo at q
      cases w with
      | tup ws =>
        cases r with
        | tup hq r2 =>
          cases e : gvs is ws τ with
          | none => rw [show gW (.tp is) (.tup ws) τ = none from e] at q; exact q.elim
          | some τ' =>
            rw [show gW (.tp is) (.tup ws) τ = some τ' from e] at q
            exact ⟨_, _, rfl, hq.t, by rw [r2.length, gvs_len e, l3], ws, τ, τ', r2, rs, e, q⟩
      | _ => exact q.elim
    · cases h
/-! ### iterators -/
structure ItW (K : PySem.W.Frag) (M : Names) (J : L2.It) (H0 : Hp) (xs : List N.W) (ok : AH → Prop) : Prop where
  stop : ∀ i H A, RH K M H A → Tk H0 H → ok A → xs.length ≤ i → J.stop i H
  go : ∀ i H A w, RH K M H A → Tk H0 H → ok A → xs[i]? = some w → J.go i H
  yld : ∀ i H A w x H', RH K M H A → Tk H0 H → ok A → xs[i]? = some w → J.yld i H x H' → Rep K H' x w ∧ RH K M H' A ∧ Fr H A H' A
theorem ItW.list {K : PySem.W.Frag} {H0 : Hp} {a : Addr} {ws : List N.W} {ok : AH → Prop} (h : ∀ H A, RH K M H A → Tk H0 H → ok A → ∃ vs, L2.SqL K H a vs ∧ Reps K H vs ws) : ItW K M (L2.Itl K a) H0 ws ok where
  stop i H A r t o hl := by
    obtain ⟨vs, q, r2⟩ := h H A r t o
    exact ⟨vs, q, by rw [r2.length]; exact hl⟩
  go i H A w r t o hw := by
    obtain ⟨vs, q, r2⟩ := h H A r t o
    obtain ⟨v, hv, _⟩ := r2.get hw
    exact ⟨vs, v, q, hv⟩
  yld i H A w x H' r t o hw y := by
    obtain ⟨rfl, y⟩ := y
    obtain ⟨vs, q, r2⟩ := h H' A r t o
    obtain ⟨v, hv, rv⟩ := r2.get hw
    rw [y vs q] at hv
    cases hv
    exact ⟨rv, r, Fr.refl⟩
theorem ItW.tup {K : PySem.W.Frag} {H0 : Hp} {a : Addr} {ws : List N.W} {ok : AH → Prop} (h : ∀ H A, RH K M H A → Tk H0 H → ok A → ∃ vs, L2.SqT K H a vs ∧ Reps K H vs ws) : ItW K M (L2.Itt K a) H0 ws ok where
  stop i H A r t o hl := by
    obtain ⟨vs, q, r2⟩ := h H A r t o
    exact ⟨vs, q, by rw [r2.length]; exact hl⟩
  go i H A w r t o hw := by
    obtain ⟨vs, q, r2⟩ := h H A r t o
    obtain ⟨v, hv, _⟩ := r2.get hw
    exact ⟨vs, v, q, hv⟩
  yld i H A w x H' r t o hw y := by
    obtain ⟨rfl, y⟩ := y
    obtain ⟨vs, q, r2⟩ := h H' A r t o
    obtain ⟨v, hv, rv⟩ := r2.get hw
    rw [y vs q] at hv
    cases hv
    exact ⟨rv, r, Fr.refl⟩
theorem Kvs.nth {K : PySem.W.Frag} {H : Hp} : ∀ {kvs : List (L2.Key × V)} {kws : List (N.W × N.W)} {i : Nat} {k : L2.Key} {v : V} {x : N.W}, Kvs K H kvs kws → kvs[i]? = some (k, v) → (kws.map (·.1))[i]? = some x → Rep K H (L2.kV k) x
  | _, _, 0, _, _, _, .cons kr _ _, h, g => by
    cases h; cases g
    cases kr
    · exact .int _
    · exact .str _
  | _, _, i + 1, _, _, _, .cons _ _ t, h, g => Kvs.nth (i := i) t h g
theorem ItW.keys {K : PySem.W.Frag} {H0 : Hp} {a : Addr} {g : Gh} {kws : List (N.W × N.W)} : ItW K M (L2.Itk a g.1 g.2) H0 (kws.map (·.1)) fun A => A a = some (.dcl g kws) := by
  refine ⟨fun i H A r t o hl => ?_, fun i H A w r t o hw => ?_, fun i H A w x H' r t o hw y => ?_⟩
  · obtain ⟨e, q⟩ := r _ _ o
    rw [List.length_map] at hl
    exact ⟨e, by rw [q.length]; exact hl⟩
  · obtain ⟨e, q⟩ := r _ _ o
    obtain ⟨hi, _⟩ := List.getElem?_eq_some_iff.mp hw
    rw [List.length_map] at hi
    exact ⟨e, by rw [q.length]; exact hi⟩
  · obtain ⟨rfl, k, v, hk, rfl⟩ := y
    obtain ⟨e, q⟩ := r _ _ o
    exact ⟨q.nth hk hw, r, Fr.refl⟩
theorem ItW.enum {K : PySem.W.Frag} {H0 : Hp} {a : Addr} {ws : List N.W} {ok : AH → Prop} (h : ∀ H A, RH K M H A → Tk H0 H → ok A → ∃ vs, L2.SqL K H a vs ∧ Reps K H vs ws) : ItW K M (ItEL K a) H0 (pairs 0 ws) ok := by
  have hp : ∀ (ws : List N.W) (k i : Nat), (pairs k ws)[i]? = (ws[i]?).map fun w => .tup [.int ((k + i : Nat) : Int), w] := by
    intro ws
    induction ws with
    | nil => intro k i; rfl
    | cons w ws ih =>
      intro k i
      cases i with
      | zero => rfl
      | succ i =>
        show (pairs (k + 1) ws)[i]? = (ws[i]?).map _
        rw [ih, show k + 1 + i = k + (i + 1) from by omega]
  have hl : ∀ (ws : List N.W) (k : Nat), (pairs k ws).length = ws.length := by
    intro ws
    induction ws with
    | nil => intro k; rfl
    | cons w ws ih => intro k; show (pairs (k + 1) ws).length + 1 = ws.length + 1; rw [ih]
  refine ⟨fun i H A r t o q => ?_, fun i H A w r t o hw => ?_, fun i H A w x H' r t o hw y => ?_⟩
  · obtain ⟨vs, s, r2⟩ := h H A r t o
    exact ⟨vs, s, by rw [r2.length, ← hl ws 0]; exact q⟩
  · obtain ⟨vs, s, r2⟩ := h H A r t o
    rw [hp] at hw
    cases e : ws[i]? with
    | none => rw [e] at hw; cases hw
    | some u =>
      obtain ⟨v, hv, _⟩ := r2.get e
      exact ⟨vs, v, s, hv⟩
  · obtain ⟨vs, s, r2⟩ := h H A r t o
    rw [hp] at hw
    cases e : ws[i]? with
    | none => rw [e] at hw; cases hw
    | some u =>
      rw [e] at hw
      cases hw
      obtain ⟨v, hv, rv⟩ := r2.get e
      obtain ⟨T, x', o', rfl, hT, ho, rfl, y⟩ := y
      rw [y vs s] at hv
      cases hv
      refine ⟨.tup (SqP.new ho) (.cons ?_ (.cons (rv.tk (Tk.new hT)) .nil)), r.newT hT, Fr.newT hT⟩
      rw [Nat.zero_add]
      exact .int _
theorem ItW.enumT {K : PySem.W.Frag} {H0 : Hp} {a : Addr} {ws : List N.W} {ok : AH → Prop} (h : ∀ H A, RH K M H A → Tk H0 H → ok A → ∃ vs, L2.SqT K H a vs ∧ Reps K H vs ws) : ItW K M (ItE K a) H0 (pairs 0 ws) ok := by
  have hp : ∀ (ws : List N.W) (k i : Nat), (pairs k ws)[i]? = (ws[i]?).map fun w => .tup [.int ((k + i : Nat) : Int), w] := by
    intro ws
    induction ws with
    | nil => intro k i; rfl
    | cons w ws ih =>
      intro k i
      cases i with
      | zero => rfl
      | succ i =>
        show (pairs (k + 1) ws)[i]? = (ws[i]?).map _
        rw [ih, show k + 1 + i = k + (i + 1) from by omega]
  have hl : ∀ (ws : List N.W) (k : Nat), (pairs k ws).length = ws.length := by
    intro ws
    induction ws with
    | nil => intro k; rfl
    | cons w ws ih => intro k; show (pairs (k + 1) ws).length + 1 = ws.length + 1; rw [ih]
  refine ⟨fun i H A r t o q => ?_, fun i H A w r t o hw => ?_, fun i H A w x H' r t o hw y => ?_⟩
  · obtain ⟨vs, s, r2⟩ := h H A r t o
    exact ⟨vs, s, by rw [r2.length, ← hl ws 0]; exact q⟩
  · obtain ⟨vs, s, r2⟩ := h H A r t o
    rw [hp] at hw
    cases e : ws[i]? with
    | none => rw [e] at hw; cases hw
    | some u =>
      obtain ⟨v, hv, _⟩ := r2.get e
      exact ⟨vs, v, s, hv⟩
  · obtain ⟨vs, s, r2⟩ := h H A r t o
    rw [hp] at hw
    cases e : ws[i]? with
    | none => rw [e] at hw; cases hw
    | some u =>
      rw [e] at hw
      cases hw
      obtain ⟨v, hv, rv⟩ := r2.get e
      obtain ⟨T, x', o', rfl, hT, ho, rfl, y⟩ := y
      rw [y vs s] at hv
      cases hv
      refine ⟨.tup (SqP.new ho) (.cons ?_ (.cons (rv.tk (Tk.new hT)) .nil)), r.newT hT, Fr.newT hT⟩
      rw [Nat.zero_add]
      exact .int _
theorem ItW.str {K : PySem.W.Frag} {H0 : Hp} {s : Str} : ItW K M (L2.Its s) H0 (s.cps.toList.map fun c => .str ⟨#[c]⟩) fun _ => True := by
  refine ⟨fun i H A r t o q => ?_, fun i H A w r t o hw => ?_, fun i H A w x H' r t o hw y => ?_⟩
  · rw [List.length_map] at q
    exact q
  · rw [List.getElem?_map] at hw
    cases e : s.cps.toList[i]? with
    | none => rw [e] at hw; cases hw
    | some c =>
      obtain ⟨h, _⟩ := List.getElem?_eq_some_iff.mp e
      exact h
  · obtain ⟨rfl, c, hc, rfl⟩ := y
    rw [List.getElem?_map, Array.getElem?_toList, hc] at hw
    cases hw
    exact ⟨.str _, r, Fr.refl⟩
theorem rangeL_get : ∀ (n : Nat) (lo : Int) (i : Nat) (w : N.W), (rangeL lo n)[i]? = some w → i < n ∧ w = .int (lo + i)
  | 0, _, _, _, h => by cases h
  | n + 1, lo, 0, w, h => by cases h; exact ⟨Nat.succ_pos _, by rw [Int.natCast_zero, Int.add_zero]⟩
  | n + 1, lo, i + 1, w, h => by
    obtain ⟨h1, rfl⟩ := rangeL_get n (lo + 1) i w h
    refine ⟨Nat.succ_lt_succ h1, ?_⟩
    congr 1
    omega
theorem rangeL_len : ∀ (n : Nat) (lo : Int), (rangeL lo n).length = n
  | 0, _ => rfl
  | n + 1, lo => by show (rangeL (lo + 1) n).length + 1 = _; rw [rangeL_len]
theorem ItW.rng {K : PySem.W.Frag} {H0 : Hp} {lo : Int} {n : Nat} : ItW K M (L2.Itr lo n) H0 (rangeL lo n) fun _ => True := by
  refine ⟨fun i H A r t o q => ?_, fun i H A w r t o hw => (rangeL_get _ _ _ _ hw).1, fun i H A w x H' r t o hw y => ?_⟩
  · rw [rangeL_len] at q; exact q
  · obtain ⟨rfl, rfl⟩ := y
    obtain ⟨_, rfl⟩ := rangeL_get _ _ _ _ hw
    exact ⟨.int _, r, Fr.refl⟩
theorem rangeD_get : ∀ (n : Nat) (lo c : Int) (i : Nat) (w : N.W), (rangeD lo c n)[i]? = some w → i < n ∧ w = .int (lo + i * c)
  | 0, _, _, _, _, h => by cases h
  | n + 1, lo, c, 0, w, h => by cases h; exact ⟨Nat.succ_pos _, by rw [Int.natCast_zero, Int.zero_mul, Int.add_zero]⟩
  | n + 1, lo, c, i + 1, w, h => by
    obtain ⟨h1, rfl⟩ := rangeD_get n (lo + c) c i w h
    refine ⟨Nat.succ_lt_succ h1, ?_⟩
    congr 1
    rw [Int.natCast_add, Int.add_mul, Int.natCast_one, Int.one_mul]
    omega
theorem rangeD_len : ∀ (n : Nat) (lo c : Int), (rangeD lo c n).length = n
  | 0, _, _ => rfl
  | n + 1, lo, c => by show (rangeD (lo + c) c n).length + 1 = _; rw [rangeD_len]
theorem ItW.rngD {K : PySem.W.Frag} {H0 : Hp} {lo c : Int} {n : Nat} : ItW K M (L2.Itc lo c n) H0 (rangeD lo c n) fun _ => True := by
  refine ⟨fun i H A r t o q => ?_, fun i H A w r t o hw => (rangeD_get _ _ _ _ _ hw).1, fun i H A w x H' r t o hw y => ?_⟩
  · rw [rangeD_len] at q; exact q
  · obtain ⟨rfl, rfl⟩ := y
    obtain ⟨_, rfl⟩ := rangeD_get _ _ _ _ _ hw
    exact ⟨.int _, r, Fr.refl⟩
def lowI (K : PySem.W.Frag) (M : Names) (W : L2.WX) (t : XK → St → AH → (List N.W → (AH → Prop) → AH → Prop) → Prop) : L2.TI := fun σ H R => ∃ τ A xk Qw, LowX K M W xk σ H τ A ∧ t xk τ A Qw ∧
  ∀ xs ok A', Qw xs ok A' → ∀ J H', ItW K M J H' xs ok → RH K M H' A' → Fr H A H' A' → R J H'
theorem PI_imp {tg e : Expr} {t t' : L2.TI} (h : L2.PI X tg e t) (k : ∀ σ H Q, t' σ H Q → t σ H Q) : L2.PI X tg e t' := ⟨fun pins s σ H Q I q => h.run pins s σ H Q I (k σ H Q q)⟩
/-- a value walked -/
theorem iter_val {pins : List (Addr × Obj)} {σ : L2.St} {H : Hp} {s : Shared} {tg : Expr} {R : L2.It → Hp → Prop} {v : V} {u : Value} {w : N.W} {A : AH} {Q : List N.W → (AH → Prop) → AH → Prop} (I : L2.Inv X pins σ H s) (rv : L2.RelV v u) (r : Rep X.K H v w) (g : RH X.K M H A)
    (h : valIt w A fun xs ok => Q xs ok A) (k : ∀ xs ok, Q xs ok A → ∀ J, ItW X.K M J H xs ok → R J H) : wpAny (model X.prog X.w) X.A (pyIter u) (L2.PIE X pins σ tg R) X.xe s := by
  have lst : ∀ {a vs}, L2.SqL X.K H a vs → R (L2.Itl X.K a) H → wpAny (model X.prog X.w) X.A (pyIter (.ref a)) (L2.PIE X pins σ tg R) X.xe s := fun {a vs} hq q => by
    obtain ⟨its, rv, p, hz⟩ := I.list hq
    exact wpAny_pyIter_list p.isList (L2.pi_one (tk := s.toks) I _ (L2.turn_list a _) ⟨_, Heap.get?_push_size _ rfl, rfl, rfl⟩ q)
  have tup : ∀ {a vs}, L2.SqT X.K H a vs → R (L2.Itt X.K a) H → wpAny (model X.prog X.w) X.A (pyIter (.ref a)) (L2.PIE X pins σ tg R) X.xe s := fun {a vs} hq q => by
    obtain ⟨its, rv, p, hz⟩ := I.tuple hq
    exact wpAny_pyIter_tuple (show s.heap.IsTuple a its.toArray from p) (L2.pi_one (tk := s.toks) I _ (L2.turn_tuple a _) ⟨_, Heap.get?_push_size _ rfl, rfl, rfl⟩ q)
  cases w with
  | tup ws =>
    cases r with
    | tup hq r2 =>
      cases rv
      exact tup hq.t (k _ _ h _ (ItW.tup fun H' A' g' t _ => ⟨_, t.sqT hq.t, r2.tk t⟩))
  | fz ws =>
    cases r with
    | fz hq r2 =>
      cases rv
      exact lst (.inl (.inr ⟨_, hq⟩)) (k _ _ h _ (ItW.list fun H' A' g' t _ => ⟨_, .inl (.inr ⟨_, by rw [t.2 _ _ _ hq]; exact hq⟩), r2.tk t⟩))
    | fk hq r2 =>
      cases rv
      exact lst (sqL_none hq) (k _ _ h _ (ItW.list fun H' A' g' t _ => ⟨_, sqL_none hq, r2.tk t⟩))
  | ref a =>
    cases r
    cases rv
    rcases h with ⟨xs, ha, h⟩ | ⟨gh, kws, ha, h⟩
    · obtain ⟨vs, e, r2⟩ := g _ _ ha
      exact lst (L2.SqL.of e) (k _ _ h _ (ItW.list fun H' A' g' t o => by
        obtain ⟨vs', e', r'⟩ := g' _ _ o
        exact ⟨vs', L2.SqL.of e', r'⟩))
    · obtain ⟨e, q1⟩ := g _ _ ha
      obtain ⟨hs, hgd, hx, es, ep, vs, hdt, hsz, kv, hm⟩ := L2.Inv.frzK I e
      refine L2.iter_keys hs hgd hx hdt (L2.pi_one (tk := s.toks) I _ (L2.turn_keys _ hdt) ⟨_, Heap.get?_push_size _ rfl, rfl, ?_⟩ (k _ _ h _ ItW.keys))
      rw [hsz] <;> rfl
  | str x =>
    cases r
    obtain ⟨t, rfl⟩ := rv
    have q := k _ _ h _ ItW.str
    cases ha : x.cps.all (· < 128)
    · exact wpAny_pyIter_wide ha (L2.pi_one (tk := s.toks) I _ (L2.turn_str _ x t "str_iterator" (.inr rfl)) ⟨_, Heap.get?_push_size _ rfl, rfl, rfl⟩ q)
    · exact wpAny_pyIter_ascii ha (L2.pi_one (tk := s.toks) I _ (L2.turn_str _ x t "str_ascii_iterator" (.inl rfl)) ⟨_, Heap.get?_push_size _ rfl, rfl, rfl⟩ q)
  | _ => exact h.elim
/-! ### isinstance -/
def tyS : Ty → String
  | .int => "int" | .bool => "bool" | .str => "str" | .tuple => "tuple" | .list => "list" | .dict => "dict" | _ => ""
def tB (t : Ty) (n : String) (b : Bool) : Prop := match t with
  | .own _ => b = false
  | .non => True
  | t => L2.kitB n (tyS t) = some b
def tO (t : Ty) (C : Str) (b : Bool) : Prop := match t with
  | .own E => b = subC C E
  | .non => True
  | _ => b = false
def TyAns (M : Names) (t : Ty) (k : Bool → Prop) (T : Value) : Prop := (∃ n b, T = .type n ∧ n ∈ "NoneType" :: kits ∧ k b ∧ tB t n b) ∨ ∃ C c b, M.cls C = some c ∧ T = .ref c ∧ k b ∧ tO t C b
/-- the class of a value -/
theorem ty_of (F : Fx D NN Γ M X sc) {H : Hp} {A : AH} {v : V} {w : N.W} (r : Rep X.K H v w) (g : RH X.K M H A) {t : Ty} {k : Bool → Prop} (h : isiW w t A k) : ∃ T, L2.TyX X.K H v T ∧ TyAns M t k T := by
  have un : ∀ {n : String} {b : Bool}, k b → n ∈ "NoneType" :: kits → tB t n b → TyAns M t k (.type n) := fun {n b} hk hn hb => .inl ⟨n, b, rfl, hn, hk, hb⟩
  cases w with
  | non => cases r; exact ⟨_, .base .non, un (b := false) h (by decide) (by cases t <;> first | rfl | trivial | decide +kernel)⟩
  | bl x => cases r; exact ⟨_, .base (.bl x), un h (by decide) (by cases t <;> first | rfl | trivial | decide +kernel)⟩
  | int x => cases r; exact ⟨_, .base (.int x), un h (by decide) (by cases t <;> first | rfl | trivial | decide +kernel)⟩
  | str x => cases r; exact ⟨_, .base (.str x), un h (by decide) (by cases t <;> first | rfl | trivial | decide +kernel)⟩
  | tup xs =>
    have fin : TyAns M t k (.type "tuple") := un h (by decide) (by cases t <;> first | rfl | trivial | decide +kernel)
    cases r with
    | tup hq _ =>
      rcases hq with ⟨o, hq, _⟩ | ⟨o, its, n, e, c, _⟩
      · exact ⟨_, .fTuple hq, fin⟩
      · exact ⟨_, .kTuple e c, fin⟩
  | fz xs =>
    have fin : TyAns M t k (.type "list") := un h (by decide) (by cases t <;> first | rfl | trivial | decide +kernel)
    cases r with
    | fz hq _ => exact ⟨_, .base (.frz hq), fin⟩
    | fk hq _ =>
      rcases hq with (hq | ⟨o, hq⟩) | ⟨o, its, n, e, c, _⟩
      · cases hq
      · cases hq
      · exact ⟨_, .kList e c, fin⟩
  | ref a =>
    cases r
    simp only [isiW] at h
    cases e : A a with
    | none => rw [e] at h; exact h.elim
    | some o =>
      rw [e] at h
      cases o with
      | lst xs =>
        obtain ⟨vs, e2, _⟩ := g _ _ e
        exact ⟨_, .base (.lst e2), un h (by decide) (by cases t <;> first | rfl | trivial | decide +kernel)⟩
      | dct xs =>
        obtain ⟨vs, e2, _⟩ := g _ _ e
        exact ⟨_, .base (.dK e2), un h (by decide) (by cases t <;> first | rfl | trivial | decide +kernel)⟩
      | ins C fs =>
        obtain ⟨c, dx, gs, e2, m, _⟩ := g _ _ e
        exact ⟨_, .base ((F.cls C c m).2 _ _ _ _ e2), .inr ⟨C, c, _, m, rfl, h, by cases t <;> first | rfl | trivial⟩⟩
      | set _ => exact h.elim
      | dcl _ _ => exact h.elim
      | dnt _ => exact h.elim
  | exc C ws => cases r
/-! ### sorted -/
theorem each_rep {K : PySem.W.Frag} {H : Hp} : ∀ {vs : List V} {ws : List N.W} {ds : List PyData}, Reps K H vs ws → PySem.W.EachIs (fun (p : V × PyData) (q : N.W × PyData) => Rep K H p.1 q.1 ∧ p.2 = q.2) (vs.zip ds) (ws.zip ds)
  | _, _, [], .nil => .nil
  | _, _, _ :: _, .nil => .nil
  | _, _, [], .cons _ _ => .nil
  | _, _, d :: ds, .cons r t => .cons ⟨r, rfl⟩ (each_rep t)
theorem reps_each {K : PySem.W.Frag} {H : Hp} : ∀ {ps : List (V × PyData)} {qs : List (N.W × PyData)}, PySem.W.EachIs (fun (p : V × PyData) (q : N.W × PyData) => Rep K H p.1 q.1 ∧ p.2 = q.2) ps qs → Reps K H (ps.map (·.1)) (qs.map (·.1))
  | _, _, .nil => .nil
  | _, _, .cons r t => .cons r.1 (reps_each t)
theorem Reps.sorted {K : PySem.W.Frag} {H : Hp} {vs : List V} {ws : List N.W} {ds : List PyData} (r : Reps K H vs ws) : Reps K H (((vs.zip ds).mergeSort (PySem.W.dataLe false (·.2))).map (·.1)) (sortW ws ds) := by
  refine reps_each (PySem.W.sort_each (each_rep r) fun p hp q hq => ?_)
  have e1 := ((each_rep r).zip p hp).2
  have e2 := ((each_rep r).zip q hq).2
  show PySem.W.dataLe false (·.2) p.1 q.1 = PySem.W.dataLe false (·.2) p.2 q.2
  unfold PySem.W.dataLe
  show PySem.W.sortLe _ _ _ _ _ = PySem.W.sortLe _ _ _ _ _
  unfold PySem.W.sortLe
  simp only [e1, e2]
theorem each_dp {K : PySem.W.Frag} {H : Hp} {A : AH} (g : RH K M H A) : ∀ {ds : List PyData} {vs : List V} {ws : List N.W}, DWs A ws ds → Reps K H vs ws → PySem.W.EachIs (fun k d => L2.Dp K H k d) vs ds
  | _, _, _, .nil, .nil => .nil
  | _, _, _, .cons d ds, .cons r rs => .cons (dp_of g d r) (each_dp g ds rs)
/-- sorted(xs) -/
theorem cr_sort (hu : X.A.units + 65 < cLine) : L2.CallR X (.builtin "sorted") (lowC X.K M fun ws A Q => ∃ x, ws = [x] ∧ srtW Γ "" x A Q) := by
  intro pins s σ H vs us Q I r h
  obtain ⟨ws, A, Qw, rw', g, ⟨x, rfl, a, xs, ks, ds, rfl, ha, hl, hd, h1, h2, h3, h4, h⟩, k⟩ := h
  rw [if_pos rfl] at h4
  subst h4
  obtain ⟨v, rfl, rv⟩ := reps1 rw'
  cases rv
  obtain ⟨u, rfl, ru⟩ := L2.vals1 r
  cases (show u = Value.ref a from ru)
  obtain ⟨vs, e, r1⟩ := g _ _ ha
  obtain ⟨its, rv, p, hz⟩ := I.list (L2.SqL.of e)
  have hlen := rv.length
  have dl : ds.length = vs.length := by
    have q := (each_dp g hd r1).length
    exact q.symm
  have ez := each_zip rv dl
  have rd := reads_all I rv (each_dp g hd r1)
  have er : PySem.W.EachIs (fun (v : Value) (b : V × PyData) => ∃ as, Reads s.heap v b.2 as) its (vs.zip ds) := by
    have q := PySem.W.each_of_map (R := fun v d => ∃ as, Reads s.heap v d as) (fun b : V × PyData => b.2) (as := its) (bs := vs.zip ds) (by rw [map_snd dl]; exact rd)
    exact q
  refine PySem.W.sorted_data (enc := fun b : V × PyData => b.2) p.isList ez er (by rw [map_snd dl]; exact h1) (by rw [map_snd dl]; exact h2) ?_ (fun b hb => ?_) fun out ho eo => ?_
  · rw [List.length_zip, dl, Nat.min_self]; exact hz
  · have q := h3 b.2 (List.of_mem_zip (a := b.1) (b := b.2) hb).2
    omega
  · obtain ⟨ep, he⟩ := PyProof.Rows.sortedAll_at s.heap its (List.toArray out)
    have fr : s.heap.objs.size ≤ s.heap.objs.size + 1 := Nat.le_succ _
    have np : H (s.heap.objs.size + 1) = none := I.hok.fresh fr
    refine ⟨.ref _, _, I.laid (t' := s.toks) (o := .lst (((vs.zip ds).mergeSort (PySem.W.dataLe false (·.2))).map (·.1))) (fun _ _ => PyProof.Rows.sortedAll_old) fr ⟨?_, out, ep, vals_each eo, he⟩, rfl, ?_⟩
    · rw [List.length_map, List.length_mergeSort, List.length_zip, dl, Nat.min_self]; exact hz
    · exact k _ _ (h _ (g.free np)) _ _ (.ref _) (g.new np ⟨_, L2.upd_same, (Reps.sorted r1).tk (Tk.new np)⟩) (Fr.new np)
/-- sorted(xs, key = f) -/
theorem cr_sortK {fa : Addr} {f : Str} (hu : X.A.units + 65 < cLine) (gd : X.A.guards = some []) (hf : f ≠ "") (F : FnF X M fa (Γ.fn f)) : L2.CallRK X (.builtin "sorted") [Str.ofString "key"] (fun vs zs H Q => zs = [.ref fa] ∧ lowC X.K M (fun ws A Q => ∃ x, ws = [x] ∧ srtW Γ f x A Q) vs H Q) := by
  intro pins s σ H vs zs us vz Q I r rz h
  obtain ⟨rfl, ws, A, Qw, rw', g, ⟨x, rfl, a, xs, ks, ds, rfl, ha, hl, hd, h1, h2, h3, h4, h⟩, k⟩ := h
  rw [if_neg hf] at h4
  obtain ⟨v, rfl, rv⟩ := reps1 rw'
  cases rv
  obtain ⟨u, rfl, ru⟩ := L2.vals1 r
  cases (show u = Value.ref a from ru)
  obtain ⟨uz, rfl, rz1⟩ := L2.vals1 rz
  cases (show uz = Value.ref fa from rz1)
  obtain ⟨vs, e, r1⟩ := g _ _ ha
  obtain ⟨fd, ps, kk, hb, FO, hr⟩ := F.in2
  refine sort_key (fa := fa) I (L2.SqL.of e) (fun i kv H' => RH X.K M H' A ∧ Fr H A H' A ∧ Reps X.K H' kv (ks.take i)) ⟨g, Fr.refl, .nil⟩ (fun i kv H' pins' s' x u I' st hx rx => ?_) fun kv H' st => ?_
  · obtain ⟨g', f', rk⟩ := st
    have hi : i < xs.length := by rw [← r1.length]; exact (List.getElem?_eq_some_iff.mp hx).1
    have e1 : xs[i]? = some xs[i] := List.getElem?_eq_getElem hi
    have e2 : ks[i]? = some ks[i] := List.getElem?_eq_getElem (by omega)
    obtain ⟨x', hx', rx'⟩ := r1.get e1
    rw [hx] at hx'
    cases hx'
    refine run_fnG (X := in2 X) (E := L2.WE fun _ _ _ _ => False) FO gd hr hb (L2.passAt L2.takes0 σ) I' (.cons rx .nil) ?_
    refine ⟨[xs[i]], A, _, _, .cons (rx'.tk (g.tk f')) .nil, g', h4 i _ _ e1 e2, fun w A' hw v H'' rv g2 f2 => ?_, fun _ _ _ z => z.elim⟩
    obtain ⟨rfl, rfl⟩ := hw
    refine ⟨g2, f'.trans f2, ?_⟩
    rw [List.take_add_one, e2]
    exact (rk.tk (g'.tk f2)).append (.cons rv .nil)
  · obtain ⟨g', f', rk⟩ := st
    rw [r1.length, ← hl, List.take_length] at rk
    have dl : ds.length = vs.length := by
      have q := (each_dp g' hd rk).length
      rw [← q, rk.length, hl, r1.length]
    refine ⟨ds, each_dp g' hd rk, dl, h1, h2, fun d hd' => by have := h3 d hd'; omega, fun p hp => ?_⟩
    exact k _ _ (h p (g'.free hp)) _ _ (.ref p) (g'.new hp ⟨_, L2.upd_same, (Reps.sorted (r1.tk (g.tk f'))).tk (Tk.new hp)⟩) (f'.trans (Fr.new hp))
/-! ### contexts -/
theorem Fx.blk (F : Fx D NN Γ M X sc) {s : Shared} {H : Hp} {bs : Scope} {C : Addr} {cl : List (Str × Addr)} {fp : List Addr} : Fx D NN Γ M (X.blk s H bs (compEnvC bs cl C X.env) fp) (L2.relS bs sc) :=
  ⟨F.hN, F.nd, by rw [← F.sc]; rfl, F.calm, F.un, F.gd, F.wd, F.bi, F.con, fun f h => let ⟨fa, a, ⟨b, c, d⟩⟩ := F.fn f h; ⟨fa, a, ⟨b, c, d⟩⟩, F.mks, F.init, fun C c m h1 h0 h2 => let ⟨fa, a, ⟨b, c, d⟩⟩ := F.mt C c m h1 h0 h2; ⟨fa, a, ⟨b, c, d⟩⟩, F.cls, F.fld, F.isB, F.isO, fun C c h1 h2 => let ⟨a, b, d⟩ := F.eqm C c h1 h2; ⟨a, b, d⟩, F.nf, F.isC, F.room, F.exn, F.err, F.exf, F.exm⟩
theorem Fx.tr (F : Fx D NN Γ M X sc) {pn : List (Addr × Obj)} {xe : Value → Shared → Prop} : Fx D NN Γ M (X.tr pn xe) sc :=
  ⟨F.hN, F.nd, F.sc, F.calm, F.un, F.gd, F.wd, F.bi, F.con, fun f h => let ⟨fa, a, ⟨b, c, d⟩⟩ := F.fn f h; ⟨fa, a, ⟨b, c, d⟩⟩, F.mks, F.init, fun C c m h1 h0 h2 => let ⟨fa, a, ⟨b, c, d⟩⟩ := F.mt C c m h1 h0 h2; ⟨fa, a, ⟨b, c, d⟩⟩, F.cls, F.fld, F.isB, F.isO, fun C c h1 h2 => let ⟨a, b, d⟩ := F.eqm C c h1 h2; ⟨a, b, d⟩, F.nf, F.isC, F.room, F.exn, F.err, F.exf, F.exm⟩
theorem low0 {K : PySem.W.Frag} {σ : L2.St} {H : Hp} {τ : St} {A : AH} (rs : RS K H σ τ) (rh : RH K M H A) : LowX K M (fun _ _ _ _ => False) (fun _ _ _ => False) σ H τ A := ⟨rs, rh, fun _ _ _ h => h.elim⟩
theorem Fr.hid {H H' : Hp} {A A' : AH} {d : Addr} {o : L2.HO} (f : Fr H A H' A') (h1 : H d = some o) (h2 : A d = none) : H' d = some o ∧ A' d = none := f d o h1 h2
/-- a comprehension's loop -/
theorem lc_low {K : PySem.W.Frag} {J : L2.It} {g : G} {c : Option TE} {e : TE} {xs : List N.W} {ok : AH → Prop} {own : List Nat} {σ : L2.St} {τ : St} {H1 : Hp} {A1 : AH} {Qw : VK} {Q : L2.VK} {tt : L2.TT} {te : L2.TE} {p : Addr}
    (hI : ItW K M J H1 xs ok) (rs : RS K H1 σ τ) (rh : RH K M H1 A1) (hp : H1 p = none) (hlim : xs.length ≤ lim) (hown : ∀ i ∈ gI g, i ∈ own)
    (ht : match c with
      | none => tt = L2.tYes
      | some t => ∀ σ H Q, lowT K M (fun _ _ _ _ => False) (fun _ => t) σ H Q → tt σ H Q)
    (he : ∀ σ H Q, low K M (fun _ _ _ _ => False) (fun _ => e) σ H Q → te σ H Q)
    (h : lcGo ok g (wipe τ own) c e Qw xs [] A1) (k : ∀ w A', Qw w A' → Lk K M H1 A1 Q w A') :
    ∃ W : Nat → Nat → Hp → Prop, (∃ m, W 0 m (L2.upd H1 p (.lst []))) ∧ ∀ i m H, W i m H →
      (J.stop i H ∧ Q (.ref p) H) ∨ (J.go i H ∧ ∃ Nx : Hp → Prop, (∀ H', Nx H' → ∃ m', m' < m ∧ W (i + 1) m' H') ∧ ∀ x H', J.yld i H x H' → tg K g x (L2.wipe σ own) H' fun σ2 H2 => L2.wipe σ2 own = L2.wipe σ own ∧ tt σ2 H2 fun b H3 =>
        if b = true then te σ2 H3 fun y H4 => ∃ acc, H4 p = some (.lst acc) ∧ acc.length < sizeLine ∧ Nx (L2.upd H4 p (.lst (acc ++ [y]))) else Nx H3) := by
  refine ⟨fun i m H => m = xs.length - i ∧ i ≤ xs.length ∧ ∃ A acc vacc, RH K M H A ∧ Tk H1 H ∧ A p = none ∧ H p = some (.lst vacc) ∧ Reps K H vacc acc ∧ acc.length ≤ i ∧ (∀ b o, H1 b = some o → A1 b = none → H b = some o ∧ A b = none) ∧ lcGo ok g (wipe τ own) c e Qw (xs.drop i) acc A,
    ⟨xs.length, by simp, Nat.zero_le _, A1, [], [], rh.newT hp, Tk.new hp, rh.free hp, L2.upd_same, .nil, Nat.le_refl _, Fr.newT hp, h⟩, ?_⟩
  rintro i m H ⟨rfl, hi, A, acc, vacc, g1, t1, ap, hpp, ra, hal, fr, hg⟩
  have pne : ∀ {b o}, H1 b = some o → b ≠ p := fun {b o} hb e => by subst e; rw [hp] at hb; cases hb
  by_cases hlt : i < xs.length
  · rw [List.drop_eq_getElem_cons hlt] at hg
    unfold lcGo at hg
    obtain ⟨hok, hg⟩ := hg
    have hw : xs[i]? = some xs[i] := List.getElem?_eq_getElem hlt
    refine .inr ⟨hI.go i H A _ g1 t1 hok hw, fun H' => ∃ A acc vacc, RH K M H' A ∧ Tk H1 H' ∧ A p = none ∧ H' p = some (.lst vacc) ∧ Reps K H' vacc acc ∧ acc.length ≤ i + 1 ∧ (∀ b o, H1 b = some o → A1 b = none → H' b = some o ∧ A b = none) ∧ lcGo ok g (wipe τ own) c e Qw (xs.drop (i + 1)) acc A,
      fun H' hn => ⟨xs.length - (i + 1), by omega, rfl, hlt, hn⟩, fun x H' y => ?_⟩
    obtain ⟨rx, g2, f2⟩ := hI.yld i H A _ x H' g1 t1 hok hw y
    have t2 := g1.tk f2
    obtain ⟨hp2, _⟩ := f2.hid hpp ap
    refine ⟨_, _, rx, ((rs.tk t1).tk t2).wipe own, ?_⟩
    unfold gDo at hg ⊢
    cases eg : gW g xs[i] (wipe τ own) with
    | none => rw [eg] at hg; exact hg.elim
    | some τ2 =>
      rw [eg] at hg
      intro σ2 r2 hw2
      refine ⟨by rw [hw2 own hown, wipe_wipe], ?_⟩
      have bod : ∀ H3 A3, RH K M H3 A3 → Fr H A H3 A3 → RS K H3 σ2 τ2 → (e τ2 A3 fun y A2 => dn A2 fun A3 => lcGo ok g (wipe τ own) c e Qw (List.drop (i + 1) xs) (acc ++ [y]) A3) → te σ2 H3 fun y H4 => ∃ acc, H4 p = some (.lst acc) ∧ acc.length < sizeLine ∧
          ∃ A acc' vacc, RH K M (L2.upd H4 p (.lst (acc ++ [y]))) A ∧ Tk H1 (L2.upd H4 p (.lst (acc ++ [y]))) ∧ A p = none ∧ (L2.upd H4 p (.lst (acc ++ [y]))) p = some (.lst vacc) ∧ Reps K (L2.upd H4 p (.lst (acc ++ [y]))) vacc acc' ∧ acc'.length ≤ i + 1 ∧
            (∀ b o, H1 b = some o → A1 b = none → (L2.upd H4 p (.lst (acc ++ [y]))) b = some o ∧ A b = none) ∧ lcGo ok g (wipe τ own) c e Qw (xs.drop (i + 1)) acc' A := by
        intro H3 A3 g3 f3 r3 he3
        refine he σ2 H3 _ ⟨τ2, A3, _, _, low0 r3 g3, he3, fun w A4 hq v H4 rv g4 f4 => ?_⟩
        obtain ⟨B, sB, hB⟩ := hq
        have f5 := f3.trans f4
        obtain ⟨hp4, ap4⟩ := f5.hid hpp ap
        have t5 := (g1.tk f5)
        have tp : Tk H4 (L2.upd H4 p (.lst (vacc ++ [v]))) := by
          refine ⟨fun a vs h => L2.upd_ne fun e => ?_, fun a q vs h => L2.upd_ne fun e => ?_⟩
          · subst e
            rcases h with h | ⟨_, h⟩ <;> · rw [hp4] at h; cases h
          · subst e; rw [hp4] at h; cases h
        have bp : B p = none := by
          cases eb : B p with
          | none => rfl
          | some o => rw [sB p o eb] at ap4; cases ap4
        refine ⟨vacc, hp4, by rw [sizeLine_eq, ra.length]; unfold lim at hlim; omega, B, acc ++ [w], vacc ++ [v], ?_, (t1.trans t5).trans tp, bp, L2.upd_same, (((ra.tk t5).append (.cons rv .nil))).tk tp, by rw [List.length_append, List.length_singleton]; omega, fun b o hb hn => ?_, hB⟩
        · intro a o ho
          have ha : a ≠ p := fun e => by subst e; rw [bp] at ho; cases ho
          exact (g4 a o (sB a o ho)).at tp (L2.upd_ne ha)
        · obtain ⟨q1, q2⟩ := fr b o hb hn
          obtain ⟨q3, q4⟩ := f5 b o q1 q2
          refine ⟨by rw [L2.upd_ne (pne hb)]; exact q3, ?_⟩
          cases eb : B b with
          | none => rfl
          | some u => rw [sB b u eb] at q4; cases q4
      cases c with
      | none =>
        have htt : tt = L2.tYes := ht
        rw [htt]
        exact bod H' A g2 f2 r2 hg
      | some t =>
        refine ht σ2 H' _ ⟨τ2, A, fun _ _ _ => False, _, low0 r2 g2, hg, fun b A3 hb H3 g3 f3 => ?_⟩
        cases b with
        | true => exact bod H3 A3 g3 (f2.trans f3) (r2.tk (g2.tk f3)) hb
        | false =>
          obtain ⟨B, sB, hB⟩ := hb
          have f5 := f2.trans f3
          obtain ⟨hp4, ap4⟩ := f5.hid hpp ap
          have t5 := (g1.tk f5)
          refine ⟨B, acc, vacc, g3.dn sB, t1.trans t5, ?_, hp4, ra.tk t5, by omega, fun b o hb hn => ?_, hB⟩
          · exact ((f5.dn sB).hid hpp ap).2
          · obtain ⟨q1, q2⟩ := fr b o hb hn
            exact (f5.dn sB) b o q1 q2
  · have e : i = xs.length := by omega
    subst e
    rw [List.drop_length] at hg
    unfold lcGo at hg
    obtain ⟨hok, hg⟩ := hg
    refine .inl ⟨hI.stop _ H A g1 t1 hok (Nat.le_refl _), ?_⟩
    refine k _ _ (hg p ap) (.ref p) H (.ref p) (fun a o ho => ?_) fun b o hb hn => ?_
    · by_cases ha : a = p
      · subst ha; rw [up_same] at ho; cases ho; exact ⟨vacc, hpp, ra⟩
      · rw [up_ne ha] at ho; exact g1 a o ho
    · obtain ⟨q1, q2⟩ := fr b o hb hn
      exact ⟨q1, by rw [up_ne (pne hb)]; exact q2⟩
end
end N
end
section
set_option maxRecDepth 100000
set_option maxHeartbeats 4000000
/-! The meaning of an expression is a reading of the text. -/
namespace N
open PySem PySem.Spec PyProof.Rows
section
variable {D : SE} {NN : List Str} {Γ : Gam} {M : Names}
mutual
theorem sndE : ∀ (x : E) (e : Expr) (X : L2.Cx) (sc : Scope) (W : L2.WX), Fx D NN Γ M X sc → L2.Takes X W → okE D NN sc x e = true → Snd X M W e (fun xk => rdE Γ xk x)
  | .v i, e, X, sc, W, F, T, h => by
    unfold okE at h
    split at h
    · rename_i x pos
      obtain ⟨h1, h2⟩ := and_true h
      obtain ⟨hv, hd, hc⟩ := h2 |> fun z => visB.vis z F.sc
      refine mkS (PE_imp (L2.pe_var (i := i) (by rw [F.hN]; exact of_decide_eq_true h1) hv hd hc) fun σ H Q => ?_) rfl
      rintro ⟨τ, A, xk, Qw, l, q, k⟩
      unfold rdE at q
      cases e : getv τ i with
      | none => rw [e] at q; exact q.elim
      | some w =>
        rw [e] at q
        obtain ⟨v, hv, r⟩ := l.rs.get e
        exact ⟨v, hv, k _ _ q _ _ r l.rh Fr.refl⟩
    · cases h
  | .g x, e, X, sc, W, F, T, h => by
    unfold okE at h
    split at h
    · rename_i y pos
      obtain ⟨h12, h3⟩ := and_true h
      obtain ⟨h1, h2⟩ := and_true h12
      obtain rfl := of_decide_eq_true h1
      obtain ⟨hg, hd, _⟩ := h2 |> fun z => globB.gl z F.sc
      obtain ⟨u, hm, hw⟩ := F.con x (List.contains_iff_mem.mp h3)
      refine mkS ⟨fun pins s σ H Q I hl => ?_⟩ rfl
      obtain ⟨τ, A, xk, Qw, l, q, k⟩ := hl
      unfold rdE at q
      cases e : con x with
      | none => rw [e] at q; exact q.elim
      | some w =>
        rw [e] at q
        rcases hw w e with ⟨i, r, rfl⟩ | ⟨z, r, rfl⟩
        · exact L2.ld_glob I hg hm ⟨.int i, H, I, r, k _ _ q _ _ (.int i) l.rh Fr.refl⟩ hd
        · exact L2.ld_glob I hg hm ⟨.str z, H, I, r, k _ _ q _ _ (.str z) l.rh Fr.refl⟩ hd
    · cases h
  | .int i, e, X, sc, W, F, T, h => by
    unfold okE at h
    split at h
    · obtain rfl := of_decide_eq_true h
      exact mkS (PE_imp L2.pe_int fun σ H Q q => low_c (fun _ => .int i) (fun xk τ A Q z => by unfold rdE at z; exact z) q) rfl
    · cases h
  | .str z, e, X, sc, W, F, T, h => by
    unfold okE at h
    split at h
    · obtain rfl := of_decide_eq_true h
      exact mkS (PE_imp L2.pe_str fun σ H Q q => low_c (fun _ => .str z) (fun xk τ A Q z => by unfold rdE at z; exact z) q) rfl
    · cases h
  | .bl b, e, X, sc, W, F, T, h => by
    unfold okE at h
    split at h
    · obtain rfl := of_decide_eq_true h
      exact mkS (PE_imp L2.pe_bl fun σ H Q q => low_c (fun _ => .bl b) (fun xk τ A Q z => by unfold rdE at z; exact z) q) rfl
    · cases h
  | .non, e, X, sc, W, F, T, h => by
    unfold okE at h
    split at h
    · exact mkS (PE_imp L2.pe_non fun σ H Q q => low_c (fun _ => .non) (fun xk τ A Q z => by unfold rdE at z; exact z) q) rfl
    · cases h
  | .bin op a b, e, X, sc, W, F, T, h => by
    unfold okE at h
    split at h
    · rename_i x o y pos
      obtain ⟨h12, h3⟩ := and_true h
      obtain ⟨h1, h2⟩ := and_true h12
      obtain rfl := of_decide_eq_true h1
      refine mkS (PE_imp (L2.pe_op (op_bin (M := M) op) (sndE a x X sc W F T h2).pe (sndE b y X sc W F T h3).pe) fun σ H Q => ?_) rfl
      rintro ⟨τ, A, xk, Qw, l, q, k⟩
      unfold rdE at q
      refine ⟨τ, A, xk, _, l, q, fun w1 A1 h1 v1 H1 r1 g1 f1 => ?_⟩
      have l1 := l.step g1 f1
      refine ⟨τ, A1, xk, _, l1, h1, fun w2 A2 h2 v2 H2 r2 g2 f2 => ?_⟩
      exact ⟨w1, w2, A2, Qw, r1.tk (g1.tk f2), r2, g2, h2, fun w A' hq => ((k w A' hq).step f1).step f2⟩
    · cases h
  | .neg a, e, X, sc, W, F, T, h => by
    unfold okE at h
    split at h
    · rename_i x pos
      refine mkS (PE_imp (L2.pe_un (op_negW (M := M)) (sndE a x X sc W F T h).pe) fun σ H Q => ?_) rfl
      rintro ⟨τ, A, xk, Qw, l, q, k⟩
      unfold rdE at q
      refine ⟨τ, A, xk, _, l, q, fun w1 A1 h1 v1 H1 r1 g1 f1 => ?_⟩
      exact ⟨w1, A1, Qw, r1, g1, h1, fun w A' hq => (k w A' hq).step f1⟩
    · cases h
  | .not a, e, X, sc, W, F, T, h => by
    unfold okE at h
    split at h
    · rename_i x pos
      have S := sndE a x X sc W F T h
      refine ⟨PE_imp (L2.pe_not S.pe) fun σ H Q => ?_, PT_imp (L2.pt_not S.pt) fun σ H Q => ?_⟩
      · rintro ⟨τ, A, xk, Qw, l, q, k⟩
        unfold rdE at q
        refine ⟨τ, A, xk, _, l, q, fun w1 A1 h1 v1 H1 r1 g1 f1 => ?_⟩
        cases w1 <;> first | exact False.elim h1 | skip
        cases r1
        exact ⟨_, rfl, k _ _ h1 _ _ (.bl _) g1 f1⟩
      · rintro ⟨τ, A, xk, Qw, l, q, k⟩
        unfold rdE at q
        exact ⟨τ, A, xk, _, l, q, fun b A1 h1 H1 g1 f1 => k _ _ h1 H1 g1 f1⟩
    · cases h
  | .and a b, e, X, sc, W, F, T, h => by
    unfold okE at h
    split at h
    · rename_i x y r p
      obtain ⟨h1, h2⟩ := and_true h
      have Sa := sndE a x X sc W F T h1
      have Sb : L2.PE X (.BoolOp .And (y :: r) p) (low X.K M W fun xk => rdE Γ xk b) ∧ L2.PW X (.BoolOp .And (y :: r) p) (lowT X.K M W fun xk => rdE Γ xk b) := by
        cases r with
        | nil =>
          have S := sndE b y X sc W F T h2
          exact ⟨L2.pe_one S.pe, L2.pw_and1 S.pt⟩
        | cons z r =>
          have S := sndE b _ X sc W F T h2
          exact ⟨S.pe, ⟨fun wh pins s σ H Q I q => S.pt.run pins s σ H Q I q⟩⟩
      refine ⟨PE_imp (L2.pe_and Sa.pe Sb.1) fun σ H Q => ?_, PT_imp (L2.PW.pt (L2.pw_and Sa.pt Sb.2)) fun σ H Q => ?_⟩
      · rintro ⟨τ, A, xk, Qw, l, q, k⟩
        unfold rdE at q
        refine ⟨τ, A, xk, _, l, q, fun w1 A1 h1 v1 H1 r1 g1 f1 => ?_⟩
        cases w1 <;> first | exact False.elim h1 | skip
        rename_i c
        cases r1
        refine ⟨_, rfl, ?_⟩
        cases c with
        | true => exact ⟨τ, A1, xk, Qw, l.step g1 f1, h1, fun w A' hq => (k w A' hq).step f1⟩
        | false => exact k _ _ h1 _ _ (.bl _) g1 f1
      · rintro ⟨τ, A, xk, Qw, l, q, k⟩
        unfold rdE at q
        refine ⟨τ, A, xk, _, l, q, fun c A1 h1 H1 g1 f1 => ?_⟩
        cases c with
        | true => exact ⟨τ, A1, xk, Qw, l.step g1 f1, h1, fun w A' hq H' g f => k w A' hq H' g (f1.trans f)⟩
        | false => exact k _ _ h1 _ g1 f1
    · cases h
  | .or a b, e, X, sc, W, F, T, h => by
    unfold okE at h
    split at h
    · rename_i x y r p
      obtain ⟨h1, h2⟩ := and_true h
      have Sa := sndE a x X sc W F T h1
      have Sb : L2.PE X (.BoolOp .Or (y :: r) p) (low X.K M W fun xk => rdE Γ xk b) ∧ L2.PW X (.BoolOp .Or (y :: r) p) (lowT X.K M W fun xk => rdE Γ xk b) := by
        cases r with
        | nil =>
          have S := sndE b y X sc W F T h2
          exact ⟨L2.pe_one S.pe, L2.pw_or1 S.pt⟩
        | cons z r =>
          have S := sndE b _ X sc W F T h2
          exact ⟨S.pe, ⟨fun wh pins s σ H Q I q => S.pt.run pins s σ H Q I q⟩⟩
      refine ⟨PE_imp (L2.pe_or Sa.pe Sb.1) fun σ H Q => ?_, PT_imp (L2.PW.pt (L2.pw_or Sa.pt Sb.2)) fun σ H Q => ?_⟩
      · rintro ⟨τ, A, xk, Qw, l, q, k⟩
        unfold rdE at q
        refine ⟨τ, A, xk, _, l, q, fun w1 A1 h1 v1 H1 r1 g1 f1 => ?_⟩
        cases w1 <;> first | exact False.elim h1 | skip
        rename_i c
        cases r1
        refine ⟨_, rfl, ?_⟩
        cases c with
        | false => exact ⟨τ, A1, xk, Qw, l.step g1 f1, h1, fun w A' hq => (k w A' hq).step f1⟩
        | true => exact k _ _ h1 _ _ (.bl _) g1 f1
      · rintro ⟨τ, A, xk, Qw, l, q, k⟩
        unfold rdE at q
        refine ⟨τ, A, xk, _, l, q, fun c A1 h1 H1 g1 f1 => ?_⟩
        cases c with
        | false => exact ⟨τ, A1, xk, Qw, l.step g1 f1, h1, fun w A' hq H' g f => k w A' hq H' g (f1.trans f)⟩
        | true => exact k _ _ h1 _ g1 f1
    · cases h
  | .cmp op a b, e, X, sc, W, F, T, h => by
    unfold okE at h
    split at h
    · rename_i x o y pos
      obtain ⟨h1, h2⟩ := and_true h
      have Sa := (sndE a x X sc W F T h1).pe
      have gen : ∀ {cp : CmpOp}, cop op = some cp → behindInMarks cp y = false → okE D NN sc b y = true → Snd X M W (.Compare x [cp] [y] pos) fun xk => rdE Γ xk (.cmp op a b) := fun {cp} hc hm hb => by
        have Sb := (sndE b y X sc W F T hb).pe
        have key : ∀ σ H (Q : L2.VK), low X.K M W (fun xk => rdE Γ xk (.cmp op a b)) σ H Q → L2.tOp (lowR X.K M fun x y A Q => cmpW op x y A fun b => Q (.bl b) A) (low X.K M W fun xk => rdE Γ xk a) (low X.K M W fun xk => rdE Γ xk b) σ H Q := by
          rintro σ H Q ⟨τ, A, xk, Qw, l, q, k⟩
          unfold rdE at q
          refine ⟨τ, A, xk, _, l, q, fun w1 A1 h1 v1 H1 r1 g1 f1 => ?_⟩
          have l1 := l.step g1 f1
          refine ⟨τ, A1, xk, _, l1, h1, fun w2 A2 h2 v2 H2 r2 g2 f2 => ?_⟩
          exact ⟨w1, w2, A2, Qw, r1.tk (g1.tk f2), r2, g2, h2, fun w A' hq => ((k w A' hq).step f1).step f2⟩
        refine ⟨PE_imp (L2.pe_cmpR (op_cmp (M := M) F.un F.wd op cp hc) Sa Sb hm) key, PT_imp (L2.pt_cmpR (op_cmp (M := M) F.un F.wd op cp hc) Sa Sb hm) fun σ H Q => ?_⟩
        rintro ⟨τ, A, xk, Qw, l, q, k⟩
        refine key σ H _ ⟨τ, A, xk, _, l, q, fun w A' h v H' r g f => ?_⟩
        cases w <;> first | exact False.elim h | skip
        cases r
        exact ⟨_, rfl, k _ _ h H' g f⟩
      have isn : ∀ (b' : Bool), op = (if b' then .isnN else .isN) → o = (if b' then .IsNot else .Is) → (∃ j p, y = .Constant .none j p ∧ b = .non) → Snd X M W (.Compare x [o] [y] pos) fun xk => rdE Γ xk (.cmp op a b) := fun b' e1 e2 e3 => by
        obtain ⟨j, p, rfl, rfl⟩ := e3
        subst e1 e2
        have key : ∀ σ H (Q : L2.VK), low X.K M W (fun xk => rdE Γ xk (.cmp (if b' then .isnN else .isN) a .non)) σ H Q → L2.tOp (fun x y H Q => y = .non ∧ lowU X.K M (fun x A Q => cmpW (if b' then .isnN else .isN) x .non A fun k => Q (.bl k) A) x H Q) (low X.K M W fun xk => rdE Γ xk a) (L2.tC .non) σ H Q := by
          rintro σ H Q ⟨τ, A, xk, Qw, l, q, k⟩
          refine ⟨τ, A, xk, fun x A1 => cmpW (if b' then .isnN else .isN) x .non A1 fun k => Qw (.bl k) A1, l, ?_, fun w1 A1 h1 v1 H1 r1 g1 f1 => ?_⟩
          · cases b' <;> (unfold rdE at q; simp only [rdE] at q; exact q)
          · exact ⟨rfl, w1, A1, Qw, r1, g1, h1, fun w A' hq => (k w A' hq).step f1⟩
        have hm : behindInMarks (if b' then .IsNot else .Is) (.Constant .none j p) = false := by cases b' <;> rfl
        refine ⟨PE_imp (L2.pe_cmpR (op_isN (M := M) b') Sa L2.pe_non hm) key, PT_imp (L2.pt_cmpR (op_isN (M := M) b') Sa L2.pe_non hm) fun σ H Q => ?_⟩
        rintro ⟨τ, A, xk, Qw, l, q, k⟩
        refine key σ H _ ⟨τ, A, xk, _, l, q, fun w A' h v H' r g f => ?_⟩
        cases w <;> first | exact False.elim h | skip
        cases r
        exact ⟨_, rfl, k _ _ h H' g f⟩
      cases op <;> first
        | (obtain ⟨h3, h5⟩ := and_true h2
           obtain ⟨h3, h4⟩ := and_true h3
           exact gen (of_decide_eq_true h3) (by simpa using h4) h5)
        | skip
      · obtain ⟨h3, h4⟩ := and_true h2
        refine isn false rfl (of_decide_eq_true h3) ?_
        split at h4
        · exact ⟨_, _, rfl, rfl⟩
        · cases h4
      · obtain ⟨h3, h4⟩ := and_true h2
        refine isn true rfl (of_decide_eq_true h3) ?_
        split at h4
        · exact ⟨_, _, rfl, rfl⟩
        · cases h4
    · cases h
  | .cmp2 op op' a b c, e, X, sc, W, F, T, h => by
    unfold okE at h
    split at h
    · rename_i x o o' y z pos
      obtain ⟨h, hz⟩ := and_true h
      obtain ⟨h, hy⟩ := and_true h
      obtain ⟨h, hx⟩ := and_true h
      obtain ⟨h, hm⟩ := and_true h
      obtain ⟨ho, ho'⟩ := and_true h
      have Sa := (sndE a x X sc W F T hx).pe
      have Sb := (sndE b y X sc W F T hy).pe
      have Sc := (sndE c z X sc W F T hz).pe
      have hm' : lastMarks [o, o'] [y, z] = false := by simpa using hm
      have c1 := op_cmp (X := X) (M := M) F.un F.wd op o (of_decide_eq_true ho)
      have c2 := op_cmp (X := X) (M := M) F.un F.wd op' o' (of_decide_eq_true ho')
      have key : ∀ σ H (Q : L2.VK), low X.K M W (fun xk => rdE Γ xk (.cmp2 op op' a b c)) σ H Q → L2.tChain (lowR X.K M fun x y A Q => cmpW op x y A fun b => Q (.bl b) A) (lowR X.K M fun x y A Q => cmpW op' x y A fun b => Q (.bl b) A)
          (low X.K M W fun xk => rdE Γ xk a) (low X.K M W fun xk => rdE Γ xk b) (low X.K M W fun xk => rdE Γ xk c) σ H Q := by
        rintro σ H Q ⟨τ, A, xk, Qw, l, q, k⟩
        unfold rdE at q
        refine ⟨τ, A, xk, _, l, q, fun w1 A1 h1 v1 H1 r1 g1 f1 => ?_⟩
        have l1 := l.step g1 f1
        refine ⟨τ, A1, xk, _, l1, h1, fun w2 A2 h2 v2 H2 r2 g2 f2 => ?_⟩
        have l2 := l1.step g2 f2
        refine ⟨w1, w2, A2, fun u A3 => ∃ kk, u = .bl kk ∧ A3 = A2 ∧ if kk = true then rdE Γ xk c τ A2 (fun z A3 => cmpW op' w2 z A3 fun k' => Qw (.bl k') A3) else Qw (.bl false) A2, r1.tk (g1.tk f2), r2, g2, ?_, ?_⟩
        · exact cmpW_mono (fun b hb => ⟨b, rfl, rfl, hb⟩) h2
        · rintro u A3 ⟨kk, rfl, rfl, hk⟩ v3 H3 r3 g3 f3
          cases r3
          refine ⟨kk, rfl, ?_⟩
          cases kk with
          | false => exact k _ _ hk _ _ (.bl _) g3 ((f1.trans f2).trans f3)
          | true =>
            refine ⟨τ, A3, xk, _, l2.step g3 f3, hk, fun w4 A4 h4 v4 H4 r4 g4 f4 => ?_⟩
            exact ⟨w2, w4, A4, Qw, r2.tk ((g2.tk f3).trans (g3.tk f4)), r4, g4, h4, fun w A' hq => (k w A' hq).step (((f1.trans f2).trans f3).trans f4)⟩
      refine ⟨PE_imp (L2.pe_chain c1 c2 Sa Sb Sc hm') key, PT_imp (L2.pt_chain c1 c2 Sa Sb Sc hm') fun σ H Q => ?_⟩
      rintro ⟨τ, A, xk, Qw, l, q, k⟩
      refine key σ H _ ⟨τ, A, xk, _, l, q, fun w A' h v H' r g f => ?_⟩
      cases w <;> first | exact False.elim h | skip
      cases r
      exact ⟨_, rfl, k _ _ h H' g f⟩
    · cases h
  | .ite c a b, e, X, sc, W, F, T, h => by
    unfold okE at h
    split at h
    · rename_i t x y pos
      obtain ⟨h, hy⟩ := and_true h
      obtain ⟨ht, hx⟩ := and_true h
      have Sc := (sndE c t X sc W F T ht).pt
      have Sa := (sndE a x X sc W F T hx)
      have Sb := (sndE b y X sc W F T hy)
      refine ⟨PE_imp (L2.pe_ifExp Sc Sa.pe Sb.pe) fun σ H Q => ?_, ⟨fun pins s σ H Q I q => ?_⟩⟩
      · rintro ⟨τ, A, xk, Qw, l, q, k⟩
        unfold rdE at q
        refine ⟨τ, A, xk, _, l, q, fun d A1 h1 H1 g1 f1 => ?_⟩
        cases d with
        | true => exact ⟨τ, A1, xk, Qw, l.step g1 f1, h1, fun w A' hq => (k w A' hq).step f1⟩
        | false => exact ⟨τ, A1, xk, Qw, l.step g1 f1, h1, fun w A' hq => (k w A' hq).step f1⟩
      · obtain ⟨τ, A, xk, Qw, l, q, k⟩ := q
        unfold rdE at q
        refine isTrue_IfExp (L2.thn (Sc.run pins s σ H (fun d H1 => if d = true then lowT X.K M W (fun xk => rdE Γ xk a) σ H1 Q else lowT X.K M W (fun xk => rdE Γ xk b) σ H1 Q) I ⟨τ, A, xk, _, l, q, fun d A1 h1 H1 g1 f1 => ?_⟩) fun d s1 hd => ?_)
        · cases d with
          | true => exact ⟨τ, A1, xk, Qw, l.step g1 f1, h1, fun w A' hq H' g f => k w A' hq H' g (f1.trans f)⟩
          | false => exact ⟨τ, A1, xk, Qw, l.step g1 f1, h1, fun w A' hq H' g f => k w A' hq H' g (f1.trans f)⟩
        · obtain ⟨H1, I1, q1⟩ := hd
          cases d with
          | true => exact Sa.pt.run pins s1 σ H1 Q I1 q1
          | false => exact Sb.pt.run pins s1 σ H1 Q I1 q1
    · cases h
  | .tup as, e, X, sc, W, F, T, h => by
    unfold okE at h
    split at h
    · obtain ⟨h, hn⟩ := and_true h
      refine mkS (PE_imp (pe_tupP (sndEs as _ X sc W F T h)) fun σ H Q => ?_) rfl
      rintro ⟨τ, A, xk, Qw, l, q, k⟩
      unfold rdE at q
      refine ⟨τ, A, xk, _, l, q, fun ws A1 h1 hl vs H1 r1 g1 f1 => ?_⟩
      have hn' := of_decide_eq_true hn
      refine ⟨line_of (by rw [r1.length, hl]; unfold lim; omega), fun p o hp ho => ?_⟩
      exact (k _ _ h1).step f1 _ _ (.tup (SqP.new ho) (r1.tk (Tk.new hp))) (g1.newT hp) (Fr.newT hp)
    · cases h
  | .lst as, e, X, sc, W, F, T, h => by
    unfold okE at h
    split at h
    · obtain ⟨h, hn⟩ := and_true h
      refine mkS (PE_imp (L2.pe_lst (sndEs as _ X sc W F T h)) fun σ H Q => ?_) rfl
      rintro ⟨τ, A, xk, Qw, l, q, k⟩
      unfold rdE at q
      refine ⟨τ, A, xk, _, l, q, fun ws A1 h1 hl vs H1 r1 g1 f1 => ?_⟩
      have hn' := of_decide_eq_true hn
      refine ⟨line_of (by rw [r1.length, hl]; unfold lim; omega), fun p hp => ?_⟩
      exact (k _ _ (h1 p (g1.free hp))).step f1 _ _ (.ref p) (g1.new hp ⟨_, L2.upd_same, r1.tk (Tk.new hp)⟩) (Fr.new hp)
    · cases h
  | .dct0, e, X, sc, W, F, T, h => by
    unfold okE at h
    split at h
    · refine mkS (PE_imp (pe_or L2.pe_dnewK pe_dnewN) fun σ H Q => ?_) rfl
      rintro ⟨τ, A, xk, Qw, l, q, k⟩
      unfold rdE at q
      rcases q with q | q
      · exact .inl fun p hp => k _ _ (q p (l.rh.free hp)) _ _ (.ref p) (l.rh.new hp ⟨[], L2.upd_same, .nil⟩) (Fr.new hp)
      · exact .inr fun p o h1 h2 hp h3 => k _ _ (q p (l.rh.free hp)) _ _ (.ref p) (l.rh.new hp (new_ro h1 h2 h3)) (Fr.new hp)
    · cases h
  | .ix a i, e, X, sc, W, F, T, h => by
    unfold okE at h
    split at h
    · rename_i x y pos
      obtain ⟨h, hy⟩ := and_true h
      obtain ⟨hs, hx⟩ := and_true h
      refine mkS (PE_imp (L2.pe_ix (ix_any (M := M) F.un F.wd) (sndE a x X sc W F T hx).pe (sndE i y X sc W F T hy).pe (plain_ix hs)) fun σ H Q => ?_) rfl
      rintro ⟨τ, A, xk, Qw, l, q, k⟩
      unfold rdE at q
      refine ⟨τ, A, xk, _, l, q, fun w1 A1 h1 v1 H1 r1 g1 f1 => ?_⟩
      refine ⟨τ, A1, xk, _, l.step g1 f1, h1, fun w2 A2 h2 v2 H2 r2 g2 f2 => ?_⟩
      exact ⟨w1, w2, A2, Qw, r1.tk (g1.tk f2), r2, g2, h2, fun w A' hq => ((k w A' hq).step f1).step f2⟩
    · cases h
  | .sl a lo hi, e, X, sc, W, F, T, h => by
    unfold okE at h
    split at h
    · rename_i x lo' hi' p p'
      obtain ⟨h, hh⟩ := and_true h
      obtain ⟨hx, hl⟩ := and_true h
      refine mkS (PE_imp (L2.pe_slice (sl_any (M := M)) (sndE a x X sc W F T hx).pe (sndP lo _ X sc W F T hl) (sndP hi _ X sc W F T hh)) fun σ H Q => ?_) rfl
      rintro ⟨τ, A, xk, Qw, l, q, k⟩
      unfold rdE at q
      refine ⟨τ, A, xk, _, l, q, fun w1 A1 h1 v1 H1 r1 g1 f1 => ?_⟩
      have l1 := l.step g1 f1
      refine ⟨τ, A1, xk, _, l1, h1, fun o2 A2 h2 H2 g2 f2 => ?_⟩
      have l2 := l1.step g2 f2
      refine ⟨τ, A2, xk, _, l2, h2, fun o3 A3 h3 H3 g3 f3 => ?_⟩
      exact ⟨w1, A3, Qw, (r1.tk (g1.tk f2)).tk (g2.tk f3), g3, h3, fun w A' hq => ((k w A' hq).step f1).step (f2.trans f3)⟩
    · cases h
  | .rv a, e, X, sc, W, F, T, h => by
    unfold okE at h
    split at h
    · obtain ⟨h1, h2⟩ := and_true h
      obtain rfl := of_decide_eq_true h1
      refine mkS (PE_imp (pe_rev (M := M) (sndE a _ X sc W F T h2).pe) fun σ H Q => ?_) rfl
      rintro ⟨τ, A, xk, Qw, l, q, k⟩
      unfold rdE at q
      refine ⟨τ, A, xk, _, l, q, fun w1 A1 h1 v1 H1 r1 g1 f1 => ?_⟩
      exact ⟨w1, A1, Qw, r1, g1, h1, fun w A' hq => (k w A' hq).step f1⟩
    · cases h
  | .fld a f, e, X, sc, W, F, T, h => by
    unfold okE at h
    split at h
    · rename_i x g pos
      obtain ⟨h, hfl⟩ := and_true h
      obtain ⟨h12, h3⟩ := and_true h
      obtain ⟨h1, h2⟩ := and_true h12
      obtain rfl := of_decide_eq_true h1
      refine mkS (PE_imp (L2.pe_fld (f := f) (sndE a x X sc W F T h3).pe (base_plain h2)) fun σ H Q => ?_) rfl
      rintro ⟨τ, A, xk, Qw, l, q, k⟩
      unfold rdE at q
      refine ⟨τ, A, xk, _, l, q, fun w1 A1 h1 v1 H1 r1 g1 f1 => ?_⟩
      obtain ⟨p, C, fs, w, rfl, hp, hn, hf, hq⟩ := h1
      cases r1
      obtain ⟨c, dx, gs, e, m, fd⟩ := g1 _ _ hp
      obtain ⟨v, hv, rv⟩ := fd.get hf
      exact ⟨p, c, dx, gs, v, rfl, e, (F.cls C c m).1, F.fld C c f m (List.contains_iff_mem.mp hfl) hn, hv, (k _ _ hq).step f1 _ _ rv g1 Fr.refl⟩
    · cases h
  | .call f as, e, X, sc, W, F, T, h => by
    unfold okE at h
    split at h
    · rename_i g p es pos
      obtain ⟨h, h5⟩ := and_true h
      obtain ⟨h, h4⟩ := and_true h
      obtain ⟨h, h3⟩ := and_true h
      obtain ⟨h1, h2⟩ := and_true h
      obtain rfl := of_decide_eq_true h1
      obtain ⟨hg, hd, _⟩ := h2 |> fun z => globB.gl z F.sc
      obtain ⟨fa, hm, ⟨fd, ps, kk, hb, FO, hr⟩, hk⟩ := F.fn f (List.contains_iff_mem.mp h3)
      have ha := sndEs as es X sc W F T h4
      refine mkS (PE_imp (pe_callA FO F.gd hr hg hm hk hb (fun σ => L2.passAt T σ) ha hd h5 (es_nil h4)) fun σ H Q => ?_) rfl
      rintro ⟨τ, A, xk, Qw, l, q, k⟩
      unfold rdE at q
      refine ⟨τ, A, xk, _, l, q, fun ws A1 h1 hl vs H1 r1 g1 f1 => ?_⟩
      have l1 := l.step g1 f1
      exact ⟨ws, A1, Qw, xk, r1, g1, h1, fun w A' hq => (k w A' hq).step f1, l1.ex⟩
    · cases h
  | .make C as, e, X, sc, W, F, T, h => by
    unfold okE at h
    split at h
    · rename_i g p es pos
      obtain ⟨h, h5⟩ := and_true h
      obtain ⟨h, h4⟩ := and_true h
      obtain ⟨h, h3⟩ := and_true h
      obtain ⟨h1, h2⟩ := and_true h
      obtain rfl := of_decide_eq_true h1
      obtain ⟨hg, hd, _⟩ := h2 |> fun z => globB.gl z F.sc
      obtain ⟨c, hc, hm⟩ := F.mks C (List.contains_iff_mem.mp h3)
      obtain ⟨fa, fd, ps, kk, hM, hb, FO, hr⟩ := F.init C c hc
      have ha := sndEs as es X sc W F T h4
      refine mkS (PE_imp (pe_makeA hM FO F.gd hr hg hm hb (fun σ => L2.passAt T σ) ha hd h5 (es_nil h4)) fun σ H Q => ?_) rfl
      rintro ⟨τ, A, xk, Qw, l, q, k⟩
      unfold rdE at q
      refine ⟨τ, A, xk, _, l, q, fun ws A1 h1 hl vs H1 r1 g1 f1 => ?_⟩
      intro x dx nx ndx ne
      have l1 := l.step g1 f1
      have n1 : Fr H1 A1 (L2.upd H1 dx (.own x)) A1 := Fr.newT ndx
      have nx' : (L2.upd H1 dx (.own x)) x = none := by rw [L2.upd_ne (Ne.symm ne)]; exact nx
      have l2 := l1.step (g1.newT (o := .own x) ndx) n1
      have g2 : RH X.K M (L2.upd (L2.upd H1 dx (.own x)) x (.ins c dx [])) (up A1 x (.ins C [])) := l2.rh.new nx' ⟨c, dx, [], L2.upd_same, hc, .nil⟩
      have f2 : Fr (L2.upd H1 dx (.own x)) A1 (L2.upd (L2.upd H1 dx (.own x)) x (.ins c dx [])) (up A1 x (.ins C [])) := Fr.new nx'
      have l3 := l2.step g2 f2
      refine ⟨.ref x :: ws, _, _, xk, .cons (.ref x) ((r1.tk (g1.tk n1)).tk (l2.rh.tk f2)), g2, h1 x (g1.free nx), fun w A' hq v H' r g f => ?_, l3.ex⟩
      obtain ⟨rfl, hq⟩ := hq
      cases r
      exact ⟨rfl, (k _ _ hq) _ _ (.ref x) g (((f1.trans n1).trans f2).trans f)⟩
    · cases h
  | .mth a m as, e, X, sc, W, F, T, h => by
    unfold okE at h
    split at h
    · rename_i x g p es q
      obtain ⟨h, hml⟩ := and_true h
      obtain ⟨h, h7⟩ := and_true h
      obtain ⟨h, h6⟩ := and_true h
      obtain ⟨h, h5⟩ := and_true h
      obtain ⟨h, h4⟩ := and_true h
      obtain ⟨h, h3⟩ := and_true h
      obtain ⟨h1, h2⟩ := and_true h
      obtain rfl := of_decide_eq_true h1
      have ha := sndEs as es X sc W F T h6
      refine mkS (PE_imp (pe_methA (CX := L2.CX X.prog X.w) (sndE a x X sc W F T h5).pe ha h2 F.gd (of_decide_eq_true h3) (of_decide_eq_true h4) h7 (es_nil h6) (fun σ => L2.passAt T σ)) fun σ H Q => ?_) rfl
      rintro ⟨τ, A, xk, Qw, l, q, k⟩
      unfold rdE at q
      refine ⟨τ, A, xk, _, l, q, fun w1 A1 h1 v1 H1 r1 g1 f1 => ?_⟩
      obtain ⟨p, C, fs, rfl, hp, hl, hh, hq⟩ := h1
      cases r1
      obtain ⟨c, dx, gs, e, m', fd⟩ := g1 _ _ hp
      obtain ⟨fa, hm, ⟨fd', ps, kk, hb, FO, hr⟩, hk⟩ := F.mt C c m m' (List.contains_iff_mem.mp hml) hh
      refine ⟨p, c, dx, gs, fa, fd', ps, kk, _, rfl, e, fd.none hl, (F.cls C c m').1, hm, FO, hr, hb, τ, A1, xk, _, l.step g1 f1, hq, fun ws A2 h2 hl vs H2 r2 g2 f2 => ?_⟩
      have l2 := (l.step g1 f1).step g2 f2
      exact ⟨_ :: ws, A2, Qw, xk, .cons (.ref p) r2, g2, h2, fun w A' hq => (k w A' hq).step (f1.trans f2), l2.ex⟩
    · cases h
  | .bi b as, e, X, sc, W, F, T, h => by
    unfold okE at h
    split at h
    · rename_i g p es pos
      split at h
      · rename_i n f hb
        obtain ⟨h, h5⟩ := and_true h
        obtain ⟨h, h4⟩ := and_true h
        obtain ⟨h, h3⟩ := and_true h
        obtain ⟨h1, h2⟩ := and_true h
        obtain rfl := of_decide_eq_true h1
        obtain ⟨hg, hd, hn⟩ := h2 |> fun z => globB.gl z F.sc
        have ha := sndEs as es X sc W F T h4
        refine mkS (PE_imp (pe_bi (M := M) F.calm F.un F.gd hb hg (F.bi n (biN_mem hb)) ha hn hd (of_decide_eq_true h3) h5) fun σ H Q => ?_) rfl
        rintro ⟨τ, A, xk, Qw, l, q, k⟩
        unfold rdE at q
        refine ⟨τ, A, xk, _, l, q, fun ws A1 h1 hl vs H1 r1 g1 f1 => ?_⟩
        exact ⟨ws, A1, Qw, r1, g1, h1, fun w A' hq => (k w A' hq).step f1⟩
      · cases h
    · cases h
  | .mt m a as, e, X, sc, W, F, T, h => by
    unfold okE at h
    split at h
    · rename_i x g p es q
      obtain ⟨h, h7⟩ := and_true h
      obtain ⟨h, h6⟩ := and_true h
      obtain ⟨h, h5⟩ := and_true h
      obtain ⟨h, h4⟩ := and_true h
      obtain ⟨h, h3⟩ := and_true h
      obtain ⟨h1, h2⟩ := and_true h
      obtain rfl := of_decide_eq_true h1
      have ha := sndEs as es X sc W F T h6
      refine mkS (PE_imp (pe_mtA (sndE a x X sc W F T h5).pe ha h2 (of_decide_eq_true h3) (of_decide_eq_true h4) h7 (es_nil h6)) fun σ H Q => ?_) rfl
      rintro ⟨τ, A, xk, Qw, l, q, k⟩
      unfold rdE at q
      refine ⟨τ, A, xk, _, l, q, fun w1 A1 h1 v1 H1 r1 g1 f1 => ?_⟩
      obtain ⟨hok, h1⟩ := h1
      obtain ⟨T', id, e1, e2, e3, e4, e5⟩ := mt_at (M := M) F.un F.wd F.calm r1 g1 hok
      refine ⟨T', id, _, e1, e2, e3, e4, e5, τ, A1, xk, _, l.step g1 f1, h1, fun ws A2 h2 hl vs H2 r2 g2 f2 => ?_⟩
      exact ⟨w1, ws, A2, Qw, r1.tk (g1.tk f2), r2, g2, h2, fun w A' hq => (k w A' hq).step (f1.trans f2)⟩
    · cases h
  | .isi a t, e, X, sc, W, F, T, h => by
    unfold okE at h
    split at h
    · rename_i g p x y p2 pos
      obtain ⟨h, h7⟩ := and_true h
      obtain ⟨h, h6⟩ := and_true h
      obtain ⟨h, h5⟩ := and_true h
      obtain ⟨h, h4⟩ := and_true h
      obtain ⟨h, h3⟩ := and_true h
      obtain ⟨h1, h2⟩ := and_true h
      obtain rfl := of_decide_eq_true h1
      obtain rfl := of_decide_eq_true h3
      obtain ⟨hg, hd, hn⟩ := h2 |> fun z => globB.gl z F.sc
      obtain ⟨hg2, hd2, hn2⟩ := h4 |> fun z => globB.gl z F.sc
      have S := (sndE a x X sc W F T h6).pe
      have fin : ∀ (c : V) (u : Value), L2.ClsV c u → L2.PE X (.Name (tyN t) p2) (L2.tC c) → (∀ n b, n ∈ "NoneType" :: kits → tB t n b → PySem.W.kitOne X.K (.type n) u = some b) →
          (∀ C c b, M.cls C = some c → tO t C b → PySem.W.kitOne X.K (.ref c) u = some b) → L2.PE X (.Call (.Name "isinstance" p) [x, .Name (tyN t) p2] [] pos) (low X.K M W fun xk => rdE Γ xk (.isi a t)) := by
        intro c u hc he k1 k2
        refine PE_imp (L2.pe_callB L2.call_isi hg (F.bi _ (by decide +kernel)) (by decide +kernel) (L2.pa_cons S (L2.pa_cons he L2.pa_nil rfl) (star_cons h5)) hn hd (star_cons h5) rfl) fun σ H Q => ?_
        rintro ⟨τ, A, xk, Qw, l, q, k⟩
        unfold rdE at q
        refine ⟨τ, A, xk, _, l, q, fun w A1 h1 v H1 r1 g1 f1 => ?_⟩
        obtain ⟨T', ty, hh⟩ := ty_of F r1 g1 h1
        rcases hh with ⟨n, b, rfl, hm, hk, hb⟩ | ⟨C, c', b, hm, rfl, hk, hb⟩
        · exact ⟨v, c, _, u, b, rfl, hc, ty, k1 n b hm hb, (k _ _ hk).step f1 _ _ (.bl b) g1 Fr.refl⟩
        · exact ⟨v, c, _, u, b, rfl, hc, ty, k2 C c' b hm hb, (k _ _ hk).step f1 _ _ (.bl b) g1 Fr.refl⟩
      refine mkS ?_ rfl
      cases t with
      | own E =>
        obtain ⟨c, hc, hm⟩ := F.mks E (List.contains_iff_mem.mp h7)
        refine fin (.ref c) (.ref c) (.own c) (L2.pe_glob (v := .ref c) hg2 hm rfl hd2) (fun n b hn hb => by rw [show b = false from hb]; exact F.isO E c n hc hn) fun C c' b hC hb => by rw [show b = subC C E from hb]; exact F.isC C c' E c hC hc
      | non => exact nomatch h7
      | int => exact fin (.ty "int") (.type "int") (.ty _) (L2.pe_bltn (v := .ty "int") hg2 (F.bi _ (by decide +kernel)) (by decide +kernel) rfl hn2 hd2) (fun n b hn hb => L2.kit_ty hb) fun C c' b hC hb => by rw [show b = false from hb]; exact F.isB C c' _ hC (by decide)
      | bool => exact fin (.ty "bool") (.type "bool") (.ty _) (L2.pe_bltn (v := .ty "bool") hg2 (F.bi _ (by decide +kernel)) (by decide +kernel) rfl hn2 hd2) (fun n b hn hb => L2.kit_ty hb) fun C c' b hC hb => by rw [show b = false from hb]; exact F.isB C c' _ hC (by decide)
      | str => exact fin (.ty "str") (.type "str") (.ty _) (L2.pe_bltn (v := .ty "str") hg2 (F.bi _ (by decide +kernel)) (by decide +kernel) rfl hn2 hd2) (fun n b hn hb => L2.kit_ty hb) fun C c' b hC hb => by rw [show b = false from hb]; exact F.isB C c' _ hC (by decide)
      | tuple => exact fin (.ty "tuple") (.type "tuple") (.ty _) (L2.pe_bltn (v := .ty "tuple") hg2 (F.bi _ (by decide +kernel)) (by decide +kernel) rfl hn2 hd2) (fun n b hn hb => L2.kit_ty hb) fun C c' b hC hb => by rw [show b = false from hb]; exact F.isB C c' _ hC (by decide)
      | list => exact fin (.ty "list") (.type "list") (.ty _) (L2.pe_bltn (v := .ty "list") hg2 (F.bi _ (by decide +kernel)) (by decide +kernel) rfl hn2 hd2) (fun n b hn hb => L2.kit_ty hb) fun C c' b hC hb => by rw [show b = false from hb]; exact F.isB C c' _ hC (by decide)
      | dict => exact fin (.ty "dict") (.type "dict") (.ty _) (L2.pe_bltn (v := .ty "dict") hg2 (F.bi _ (by decide +kernel)) (by decide +kernel) rfl hn2 hd2) (fun n b hn hb => L2.kit_ty hb) fun C c' b hC hb => by rw [show b = false from hb]; exact F.isB C c' _ hC (by decide)
    · cases h
  | .oeq ne a b, e, X, sc, W, F, T, h => by
    unfold okE at h
    split at h
    · rename_i x o y pos
      obtain ⟨h, h4⟩ := and_true h
      obtain ⟨h, h3⟩ := and_true h
      obtain ⟨h1, h2⟩ := and_true h
      obtain rfl := of_decide_eq_true h1
      have Sa := (sndE a x X sc W F T h3).pe
      have Sb := (sndE b y X sc W F T h4).pe
      have hm : behindInMarks (if ne = true then .NotEq else .Eq) y = false := by simpa using h2
      have O := op_own (X := X) ne (by have := F.un; omega) F.gd
      have key : ∀ σ H (Q : L2.VK), low X.K M W (fun xk => rdE Γ xk (.oeq ne a b)) σ H Q → L2.tOp (fun x y H Q => ∃ a b c dx fs e dy gs sp, x = .ref a ∧ y = .ref b ∧ H a = some (.ins c dx fs) ∧ H b = some (.ins e dy gs) ∧ OwnEq X c sp ∧ PySem.W.notFirst X.K c (.ref e) = true ∧
          sp [.ref a, .ref b] H (fun v H' => ∃ k, v = .bl k ∧ Q (.bl (if ne = true then !k else k)) H') fun _ _ _ => False) (low X.K M W fun xk => rdE Γ xk a) (low X.K M W fun xk => rdE Γ xk b) σ H Q := by
        rintro σ H Q ⟨τ, A, xk, Qw, l, q, k⟩
        unfold rdE at q
        refine ⟨τ, A, xk, _, l, q, fun w1 A1 h1 v1 H1 r1 g1 f1 => ?_⟩
        have l1 := l.step g1 f1
        refine ⟨τ, A1, xk, _, l1, h1, fun w2 A2 h2 v2 H2 r2 g2 f2 => ?_⟩
        obtain ⟨p, q', C, E, fs, gs, rfl, rfl, hp, hq, hs, hh, hc⟩ := h2
        cases r1
        cases r2
        obtain ⟨c, dx, vs, e1, m1, _⟩ := g2 _ _ hp
        obtain ⟨e, dy, us, e2, m2, _⟩ := g2 _ _ hq
        refine ⟨p, q', c, dx, vs, e, dy, us, _, rfl, rfl, e1, e2, F.eqm C c m1 hh, F.nf C c E e m1 m2 hs, [.ref p, .ref q'], A2, _, _, .cons (.ref p) (.cons (.ref q') .nil), g2, hc, fun w A' hw v H' rv g' f' => ?_, fun _ _ _ z => z.elim⟩
        obtain ⟨kk, rfl, hk⟩ := hw
        cases rv
        exact ⟨kk, rfl, ((k _ _ hk).step f1).step f2 _ _ (.bl _) g' f'⟩
      refine ⟨PE_imp (L2.pe_cmpR O Sa Sb hm) key, PT_imp (L2.pt_cmpR O Sa Sb hm) fun σ H Q => ?_⟩
      rintro ⟨τ, A, xk, Qw, l, q, k⟩
      refine key σ H _ ⟨τ, A, xk, _, l, q, fun w A' h v H' r g f => ?_⟩
      cases w <;> first | exact False.elim h | skip
      cases r
      exact ⟨_, rfl, k _ _ h H' g f⟩
    · cases h
  | .srt a f, e, X, sc, W, F, T, h => by
    unfold okE at h
    split at h
    · rename_i g p x ks pos
      obtain ⟨h, h5⟩ := and_true h
      obtain ⟨h, h4⟩ := and_true h
      obtain ⟨h, h3⟩ := and_true h
      obtain ⟨h1, h2⟩ := and_true h
      obtain rfl := of_decide_eq_true h1
      obtain ⟨hg, hd, hn⟩ := h2 |> fun z => globB.gl z F.sc
      have S := (sndE a x X sc W F T h4).pe
      split at h5
      · obtain rfl := of_decide_eq_true h5
        refine mkS (PE_imp (L2.pe_callB (cr_sort (Γ := Γ) (M := M) F.un) hg (F.bi _ (by decide +kernel)) (by decide +kernel) (L2.pa_cons S L2.pa_nil (star_cons h3)) hn hd (star_cons h3) rfl) fun σ H Q => ?_) rfl
        rintro ⟨τ, A, xk, Qw, l, q, k⟩
        unfold rdE at q
        refine ⟨τ, A, xk, _, l, q, fun w A1 h1 v H1 r1 g1 f1 => ?_⟩
        exact ⟨[w], A1, Qw, .cons r1 .nil, g1, ⟨w, rfl, h1⟩, fun w' A' hq => (k w' A' hq).step f1⟩
      · rename_i kk hh pp pq _
        obtain ⟨h5, h10⟩ := and_true h5
        obtain ⟨h5, h9⟩ := and_true h5
        obtain ⟨h5, h8⟩ := and_true h5
        obtain ⟨h6, h7⟩ := and_true h5
        obtain rfl := of_decide_eq_true h6
        obtain rfl := of_decide_eq_true h7
        obtain ⟨hg2, hd2, hn2⟩ := h9 |> fun z => globB.gl z F.sc
        obtain ⟨fa, hm, FF⟩ := F.fn f (List.contains_iff_mem.mp h10)
        refine mkS (PE_imp (L2.pe_callBK (cr_sortK (Γ := Γ) (M := M) F.un F.gd (of_decide_eq_true h8) FF) hg (F.bi _ (by decide +kernel)) (by decide +kernel) (L2.pa_cons S L2.pa_nil (star_cons h3)) (L2.pk_cons (L2.pe_glob (v := .ref fa) hg2 hm rfl hd2) L2.pk_nil) hn hd (by rw [star_cons h3]; rfl) (by rw [star_cons h3]; rfl)) fun σ H Q => ?_) rfl
        rintro ⟨τ, A, xk, Qw, l, q, k⟩
        unfold rdE at q
        refine ⟨τ, A, xk, _, l, q, fun w A1 h1 v H1 r1 g1 f1 => ?_⟩
        exact ⟨rfl, [w], A1, Qw, .cons r1 .nil, g1, ⟨w, rfl, h1⟩, fun w' A' hq => (k w' A' hq).step f1⟩
      · cases h5
    · cases h
  | .xfld _ _, e, X, sc, W, F, T, h => by unfold okE at h; cases h
  | .xisi _ _, e, X, sc, W, F, T, h => by unfold okE at h; cases h
  | .lrg a, e, X, sc, W, F, T, h => by
    unfold okE at h
    split at h
    · rename_i g p g2 p2 x q2 q
      obtain ⟨h, h6⟩ := and_true h
      obtain ⟨h, h5⟩ := and_true h
      obtain ⟨h, h4⟩ := and_true h
      obtain ⟨h, h3⟩ := and_true h
      obtain ⟨h1, h2⟩ := and_true h
      obtain rfl := of_decide_eq_true h1
      obtain rfl := of_decide_eq_true h3
      obtain ⟨hg, _, _⟩ := globB.gl h2 F.sc
      obtain ⟨hg2, _, _⟩ := globB.gl h4 F.sc
      refine mkS (PE_imp (L2.pe_listRg F.calm hg (F.bi _ (by decide +kernel)) (L2.prg_1 hg2 (F.bi _ (by decide +kernel)) (sndE a x X sc W F T h6).pe (star_cons h5)) rfl) fun σ H Q => ?_) rfl
      rintro ⟨τ, A, xk, Qw, l, q, k⟩
      unfold rdE at q
      refine ⟨τ, A, xk, _, l, q, fun w A1 h1 v H1 r1 g1 f1 => ?_⟩
      cases w <;> first | exact False.elim h1 | skip
      rename_i j
      cases r1
      obtain ⟨ok, hj, h1⟩ := h1
      refine ⟨j, rfl, ⟨by omega, by omega, ok.1, ok.2, by omega⟩, fun p hp => ?_⟩
      have er : Reps X.K (L2.upd H1 p (.lst (L2.rgV 0 j))) (L2.rgV 0 j) (rangeL 0 j.toNat) := by
        have key : ∀ (n : Nat) (lo : Int), Reps X.K (L2.upd H1 p (.lst (L2.rgV 0 j))) ((List.range n).map fun i => L2.V.int (lo + (i : Nat))) (rangeL lo n) := by
          intro n
          induction n with
          | zero => intro lo; exact .nil
          | succ n ih =>
            intro lo
            have e : ((List.range (n + 1)).map fun i => L2.V.int (lo + (i : Nat))) = L2.V.int lo :: ((List.range n).map fun i => L2.V.int (lo + 1 + (i : Nat))) := by
              rw [List.range_succ_eq_map, List.map_cons, List.map_map]
              congr 1
              · simp
              · refine List.map_congr_left fun i _ => ?_
                show L2.V.int _ = L2.V.int _
                congr 1
                rw [Int.natCast_succ]; omega
            rw [e]
            exact .cons (.int lo) (ih (lo + 1))
        have e2 : L2.rgV 0 j = (List.range j.toNat).map fun i => L2.V.int (0 + (i : Nat)) := by unfold L2.rgV; rw [Int.sub_zero]
        have e3 := key j.toNat 0
        rw [← e2] at e3
        exact e3
      exact k _ _ (h1 p (g1.free hp)) _ _ (.ref p) (g1.new hp ⟨_, L2.upd_same, er⟩) (f1.trans (Fr.new hp))
    · cases h
  | .lock i a, e, X, sc, W, F, T, h => by
    unfold okE at h
    obtain ⟨h1, h2⟩ := and_true h
    have hp : plainT e = true := by
      split at h1
      · rfl
      · cases h1
    refine mkS (PE_imp (L2.pe_lock (sndE a e X sc (fun _ _ _ _ => False) F L2.takes0 h2).pe) fun σ H Q => ?_) hp
    rintro ⟨τ, A, xk, Qw, l, q, k⟩
    unfold rdE at q
    split at q
    · rename_i b hb
      obtain ⟨kws, ha, q⟩ := q
      obtain ⟨kvs, e1, q1⟩ := l.rh _ _ ha
      refine ⟨b, .dK kvs, e1, trivial, fun od => ?_⟩
      have hr : RO X.K M (L2.upd H b (.frz od (.dK kvs))) b (.dcl (od, kvs) kws) := ⟨L2.upd_same, q1.tk (Tk.mut l.rh ha)⟩
      have g1 := RH.mut l.rh ha hr
      have f1 : Fr H A (L2.upd H b (.frz od (.dK kvs))) (up A b (.dcl (od, kvs) kws)) := Fr.mut ha
      refine ⟨τ, up A b (.dcl (od, kvs) kws), fun _ _ _ => False, _, ⟨l.rs.tk (l.rh.tk f1), g1, fun _ _ _ h => h.elim⟩, q (od, kvs), fun w A' hw v H' r g f => ?_⟩
      obtain ⟨hl, hw⟩ := hw
      obtain ⟨e2, q2⟩ := g _ _ hl
      have hr2 : RO X.K M (L2.upd H' b (.dK kvs)) b (.dct kws) := ⟨kvs, L2.upd_same, q2.tk (Tk.mut g hl)⟩
      exact ⟨e2, k _ _ hw _ _ (r.tk (Tk.mut g hl)) (RH.mut g hl hr2) ((f1.trans f).trans (Fr.mut hl))⟩
    · exact q.elim
  | .lc el g it c own, e, X, sc, W, F, T, h => by
    unfold okE at h
    split at h
    · rename_i x tg iter ifs bs pos
      obtain ⟨h, h8⟩ := and_true h
      obtain ⟨h, h7⟩ := and_true h
      obtain ⟨h, h6⟩ := and_true h
      obtain ⟨h, h5⟩ := and_true h
      obtain ⟨h, h4⟩ := and_true h
      obtain ⟨h, h3⟩ := and_true h
      obtain ⟨h1, h2⟩ := and_true h
      have hw : (own.filterMap fun i => (NN[i]?).map fun x => (x, i)).map (·.2) = own := of_decide_eq_true h4
      have hok : L2.BlkOk X.N X.env.scope bs (own.filterMap fun i => (NN[i]?).map fun x => (x, i)) := by
        rw [F.hN, F.sc]
        exact L2.blkOk_by h3
      have hg : ∀ i ∈ gI g, i ∈ own := fun i hi => List.contains_iff_mem.mp (List.all_eq_true.mp h2 i hi)
      have hN : X.N.Nodup := by rw [F.hN]; exact F.nd
      have G : ∀ (s : Shared) (H : Hp) (C : Addr) (cl : List (Str × Addr)) (fp : List Addr), L2.PG (X.blk s H bs (compEnvC bs cl C X.env) fp) tg (N.tg X.K g) := fun s H C cl fp => sndG F.blk Sto.blk g tg h6
      have B : ∀ (s : Shared) (H : Hp) (C : Addr) (cl : List (Str × Addr)) (fp : List Addr), L2.PE (X.blk s H bs (compEnvC bs cl C X.env) fp) x (low X.K M (fun _ _ _ _ => False) (fun xk => rdE Γ xk el)) := fun s H C cl fp => (sndE el x _ _ (fun _ _ _ _ => False) F.blk L2.takes0 h7).pe
      have hI := sndI it tg iter X sc W F T h5
      have hE : ∀ σ H Q, low X.K M (fun _ _ _ _ => False) (fun _ => rdE Γ (fun _ _ _ => False) el) σ H Q → low X.K M (fun _ _ _ _ => False) (fun xk => rdE Γ xk el) σ H Q := fun σ H Q => by
        rintro ⟨τ, A, xk, Qw, l, q, k⟩
        exact ⟨τ, A, fun _ _ _ => False, Qw, ⟨l.rs, l.rh, fun _ _ _ h => h.elim⟩, q, k⟩
      split at h8
      · refine mkS (PE_imp (L2.pe_lc F.calm hN hI hok G (fun s H C cl fp => L2.pts_nil) B (fun x => fold_plain h1 x)) fun σ H Q => ?_) rfl
        rintro ⟨τ, A, xk, Qw, l, q, k⟩
        unfold rdE at q
        refine ⟨τ, A, xk, _, l, q, fun xs ok A1 hq J H1 hJ g1 f1 => ?_⟩
        intro p hp
        rw [hw]
        obtain ⟨hl, hq⟩ := hq
        have l1 := l.step g1 f1
        exact lc_low (c := none) hJ l1.rs g1 hp hl hg rfl hE hq fun w A' hw' => (k w A' hw').step f1
      · rename_i c' t
        have Tt : ∀ (s : Shared) (H : Hp) (C : Addr) (cl : List (Str × Addr)) (fp : List Addr), L2.PT (X.blk s H bs (compEnvC bs cl C X.env) fp) t (lowT X.K M (fun _ _ _ _ => False) (fun xk => rdE Γ xk c')) := fun s H C cl fp => (sndE c' t _ _ (fun _ _ _ _ => False) F.blk L2.takes0 h8).pt
        refine mkS (PE_imp (L2.pe_lc F.calm hN hI hok G (fun s H C cl fp => L2.pts_one (Tt s H C cl fp)) B (fun x => fold_plain h1 x)) fun σ H Q => ?_) rfl
        rintro ⟨τ, A, xk, Qw, l, q, k⟩
        unfold rdE at q
        refine ⟨τ, A, xk, _, l, q, fun xs ok A1 hq J H1 hJ g1 f1 => ?_⟩
        intro p hp
        rw [hw]
        obtain ⟨hl, hq⟩ := hq
        have l1 := l.step g1 f1
        refine lc_low (c := some (rdE Γ (fun _ _ _ => False) c')) hJ l1.rs g1 hp hl hg (fun σ H Q => ?_) hE hq fun w A' hw' => (k w A' hw').step f1
        rintro ⟨τ, A, xk, Qw, l, q, k⟩
        exact ⟨τ, A, fun _ _ _ => False, Qw, ⟨l.rs, l.rh, fun _ _ _ h => h.elim⟩, q, k⟩
      · cases h8
    · cases h
theorem sndEs : ∀ (x : Es) (es : List Expr) (X : L2.Cx) (sc : Scope) (W : L2.WX), Fx D NN Γ M X sc → L2.Takes X W → okEs D NN sc x es = true → L2.PA X es (lowA X.K M W x.len (fun xk => rdEs Γ xk x))
  | .nil, es, X, sc, W, F, T, h => by
    unfold okEs at h
    split at h
    · refine PA_imp L2.pa_nil fun σ H Q => ?_
      rintro ⟨τ, A, xk, Qw, l, q, k⟩
      unfold rdEs at q
      exact k _ _ q rfl _ _ .nil l.rh Fr.refl
    · cases h
  | .cons a r, es, X, sc, W, F, T, h => by
    unfold okEs at h
    split at h
    · rename_i x xs
      obtain ⟨h, h3⟩ := and_true h
      obtain ⟨h1, h2⟩ := and_true h
      refine PA_imp (L2.pa_cons (sndE a x X sc W F T h2).pe (sndEs r xs X sc W F T h3) (star_cons h1)) fun σ H Q => ?_
      rintro ⟨τ, A, xk, Qw, l, q, k⟩
      unfold rdEs at q
      refine ⟨τ, A, xk, _, l, q, fun w1 A1 h1 v1 H1 r1 g1 f1 => ?_⟩
      refine ⟨τ, A1, xk, _, l.step g1 f1, h1, fun ws A2 h2 hl vs H2 r2 g2 f2 => ?_⟩
      exact k _ _ h2 (by rw [List.length_cons, hl]; rfl) _ _ (.cons (r1.tk (g1.tk f2)) r2) g2 (f1.trans f2)
    · cases h
theorem sndP : ∀ (x : P) (e : Option Expr) (X : L2.Cx) (sc : Scope) (W : L2.WX), Fx D NN Γ M X sc → L2.Takes X W → okP D NN sc x e = true →
    L2.PO X e (fun σ H Q => ∃ τ A xk Qw, LowX X.K M W xk σ H τ A ∧ rdP Γ xk x τ A Qw ∧ ∀ o A', Qw o A' → ∀ H', RH X.K M H' A' → Fr H A H' A' → Q o H')
  | .no, e, X, sc, W, F, T, h => by
    unfold okP at h
    split at h
    · refine PO_imp L2.po_none fun σ H Q => ?_
      rintro ⟨τ, A, xk, Qw, l, q, k⟩
      unfold rdP at q
      exact k _ _ q _ l.rh Fr.refl
    · cases h
  | .so a, e, X, sc, W, F, T, h => by
    unfold okP at h
    split at h
    · rename_i x
      refine PO_imp (L2.po_some (sndE a x X sc W F T h).pe) fun σ H Q => ?_
      rintro ⟨τ, A, xk, Qw, l, q, k⟩
      unfold rdP at q
      refine ⟨τ, A, xk, _, l, q, fun w1 A1 h1 v1 H1 r1 g1 f1 => ?_⟩
      cases w1 <;> first | exact False.elim h1 | skip
      cases r1
      exact ⟨_, rfl, k _ _ h1 _ g1 f1⟩
    · cases h
theorem sndI : ∀ (x : I) (tg e : Expr) (X : L2.Cx) (sc : Scope) (W : L2.WX), Fx D NN Γ M X sc → L2.Takes X W → okI D NN sc x tg e = true → L2.PI X tg e (lowI X.K M W (fun xk => rdI Γ xk x))
  | .val a, tg, e, X, sc, W, F, T, h => by
    unfold okI at h
    refine ⟨fun pins s σ H R I hl => ?_⟩
    obtain ⟨τ, A, xk, Qw, l, q, k⟩ := hl
    unfold rdI at q
    refine L2.thn ((sndE a e X sc W F T h).pe.run pins s σ H (fun v H1 => ∃ w A1, Rep X.K H1 v w ∧ RH X.K M H1 A1 ∧ Fr H A H1 A1 ∧ valIt w A1 fun xs ok => Qw xs ok A1) I ⟨τ, A, xk, _, l, q, fun w A1 h1 v H1 r1 g1 f1 => ⟨w, A1, r1, g1, f1, h1⟩⟩) fun u s1 hq => ?_
    obtain ⟨v, H1, I1, rv, w, A1, r1, g1, f1, h1⟩ := hq
    exact iter_val I1 rv r1 g1 h1 fun xs ok hq J hJ => k xs ok A1 hq J H1 hJ g1 f1
  | .rng1 a, tg, e, X, sc, W, F, T, h => by
    unfold okI at h
    split at h
    · rename_i g p x pos
      obtain ⟨h, h4⟩ := and_true h
      obtain ⟨h, h3⟩ := and_true h
      obtain ⟨h1, h2⟩ := and_true h
      obtain rfl := of_decide_eq_true h1
      obtain ⟨hg, hd, hn⟩ := h2 |> fun z => globB.gl z F.sc
      refine PI_imp (L2.pi_range1 hg (F.bi _ (by decide +kernel)) (L2.pa_cons (sndE a x X sc W F T h4).pe L2.pa_nil (star_cons h3)) (star_cons h3)) fun σ H R => ?_
      rintro ⟨τ, A, xk, Qw, l, q, k⟩
      unfold rdI at q
      refine ⟨τ, A, xk, _, l, q, fun w A1 h1 v H1 r1 g1 f1 => ?_⟩
      cases w <;> first | exact False.elim h1 | skip
      cases r1
      obtain ⟨⟨h5, h6⟩, h7⟩ := h1
      exact ⟨_, rfl, h5, h6, k _ _ _ h7 _ _ ItW.rng g1 f1⟩
    · cases h
  | .rng2 a b, tg, e, X, sc, W, F, T, h => by
    unfold okI at h
    split at h
    · rename_i g p x y pos
      obtain ⟨h, h6⟩ := and_true h
      obtain ⟨h, h5⟩ := and_true h
      obtain ⟨h, h4⟩ := and_true h
      obtain ⟨h, h3⟩ := and_true h
      obtain ⟨h1, h2⟩ := and_true h
      obtain rfl := of_decide_eq_true h1
      obtain ⟨hg, hd, hn⟩ := h2 |> fun z => globB.gl z F.sc
      refine PI_imp (L2.pi_range2 hg (F.bi _ (by decide +kernel)) (L2.pa_cons (sndE a x X sc W F T h5).pe (L2.pa_cons (sndE b y X sc W F T h6).pe L2.pa_nil (star_cons h4)) (star_cons h3)) (by rw [star_cons h3, star_cons h4]; rfl) (star_cons h4)) fun σ H R => ?_
      rintro ⟨τ, A, xk, Qw, l, q, k⟩
      unfold rdI at q
      refine ⟨τ, A, xk, _, l, q, fun w A1 h1 v H1 r1 g1 f1 => ?_⟩
      refine ⟨τ, A1, xk, _, l.step g1 f1, h1, fun w2 A2 h2 v2 H2 r2 g2 f2 => ?_⟩
      cases w <;> cases w2 <;> first | exact False.elim h2 | skip
      cases r1
      cases r2
      obtain ⟨⟨h5, h6⟩, ⟨h7, h8⟩, h9⟩ := h2
      exact ⟨_, _, rfl, ⟨h5, h6, h7, h8⟩, k _ _ _ h9 _ _ ItW.rng g2 (f1.trans f2)⟩
    · cases h
  | .rng3 a b c, tg, e, X, sc, W, F, T, h => by
    unfold okI at h
    split at h
    · rename_i g p x y z pos
      obtain ⟨h, h8⟩ := and_true h
      obtain ⟨h, h7⟩ := and_true h
      obtain ⟨h, h6⟩ := and_true h
      obtain ⟨h, h5⟩ := and_true h
      obtain ⟨h, h4⟩ := and_true h
      obtain ⟨h, h3⟩ := and_true h
      obtain ⟨h1, h2⟩ := and_true h
      obtain rfl := of_decide_eq_true h1
      obtain ⟨hg, hd, hn⟩ := h2 |> fun z => globB.gl z F.sc
      refine PI_imp (L2.pi_range3 hg (F.bi _ (by decide +kernel)) (L2.pa_cons (sndE a x X sc W F T h6).pe (L2.pa_cons (sndE b y X sc W F T h7).pe (L2.pa_cons (sndE c z X sc W F T h8).pe L2.pa_nil (star_cons h5)) (star_cons h4)) (star_cons h3)) (star_cons h3) (by rw [star_cons h4, star_cons h5]; rfl)) fun σ H R => ?_
      rintro ⟨τ, A, xk, Qw, l, q, k⟩
      unfold rdI at q
      refine ⟨τ, A, xk, _, l, q, fun w A1 h1 v H1 r1 g1 f1 => ?_⟩
      refine ⟨τ, A1, xk, _, l.step g1 f1, h1, fun w2 A2 h2 v2 H2 r2 g2 f2 => ?_⟩
      refine ⟨τ, A2, xk, _, (l.step g1 f1).step g2 f2, h2, fun w3 A3 h3 v3 H3 r3 g3 f3 => ?_⟩
      cases w <;> cases w2 <;> first | exact False.elim h3 | skip
      cases r1
      cases r2
      obtain ⟨⟨h5, h6⟩, ⟨h7, h8⟩, rfl, h9⟩ := h3
      cases r3
      exact ⟨_, _, _, _, rfl, L2.RgC.neg h5 h6 h7 h8, k _ _ _ h9 _ _ ItW.rngD g3 ((f1.trans f2).trans f3)⟩
    · cases h
  | .enum a, tg, e, X, sc, W, F, T, h => by
    unfold okI at h
    split at h
    · rename_i g p x pos es k' tp
      obtain ⟨h, h4⟩ := and_true h
      obtain ⟨h, h3⟩ := and_true h
      obtain ⟨h1, h2⟩ := and_true h
      obtain rfl := of_decide_eq_true h1
      obtain ⟨hg, hd, hn⟩ := h2 |> fun z => globB.gl z F.sc
      refine PI_imp (pi_enumA (M := M) hg (F.bi _ (by decide +kernel)) (L2.pa_cons (sndE a x X sc W F T h4).pe L2.pa_nil (star_cons h3)) (star_cons h3)) fun σ H R => ?_
      rintro ⟨τ, A, xk, Qw, l, q, k⟩
      unfold rdI at q
      refine ⟨τ, A, xk, _, l, q, fun w A1 h1 v H1 r1 g1 f1 => ?_⟩
      cases w with
      | tup ws =>
        cases r1 with
        | tup hq r2 => exact ⟨_, rfl, .inr ⟨_, hq.t, k _ _ _ h1 _ _ (ItW.enumT fun H' A' g' t _ => ⟨_, t.sqT hq.t, r2.tk t⟩) g1 f1⟩⟩
      | fz ws =>
        cases r1 with
        | fz hq r2 => exact ⟨_, rfl, .inl ⟨_, .inl (.inr ⟨_, hq⟩), k _ _ _ h1 _ _ (ItW.enum fun H' A' g' t _ => ⟨_, .inl (.inr ⟨_, by rw [t.2 _ _ _ hq]; exact hq⟩), r2.tk t⟩) g1 f1⟩⟩
        | fk hq r2 => exact ⟨_, rfl, .inl ⟨_, sqL_none hq, k _ _ _ h1 _ _ (ItW.enum fun H' A' g' t _ => ⟨_, sqL_none hq, r2.tk t⟩) g1 f1⟩⟩
      | ref p =>
        obtain ⟨xs, ha, h1⟩ := h1
        cases r1
        obtain ⟨vs, e, r2⟩ := g1 _ _ ha
        exact ⟨_, rfl, .inl ⟨_, L2.SqL.of e, k _ _ _ h1 _ _ (ItW.enum fun H' A' g' t o => by
          obtain ⟨vs', e', r'⟩ := g' _ _ o
          exact ⟨vs', L2.SqL.of e', r'⟩) g1 f1⟩⟩
      | _ => exact False.elim h1
    · cases h
  | .zip _ _, tg, e, X, sc, W, F, T, h => by unfold okI at h; cases h
  | .rev _, tg, e, X, sc, W, F, T, h => by unfold okI at h; cases h
  | .items _, tg, e, X, sc, W, F, T, h => by unfold okI at h; cases h
end
end
end N
end
section
set_option maxRecDepth 100000
set_option maxHeartbeats 4000000
/-! try with several clauses, with names or without. -/
namespace N
open PySem PySem.Spec PyProof.Rows
/-- a clause: its class, the slot of its name, what its suite does -/
abbrev Cls3 := Value × Option Nat × (Addr → Value → Option Addr → L2.TS)
def endN (i : Nat) (D : L2.Ends) : L2.Ends := { nx := fun σ' H' => D.nx (σ'.set i none) H', rt := D.rt, bk := fun σ' H' => D.bk (σ'.set i none) H', ct := fun σ' H' => D.ct (σ'.set i none) H' }
def wN (K : PySem.W.Frag) (n : Nat) (Wo : L2.WX) (D : L2.Ends) : List Cls3 → L2.WX
  | [] => Wo
  | (c, i, ts) :: r => fun cls d σ H => ∃ b, PySem.W.exmOne K cls c = some b ∧
      (b = true → σ.length = n → ∀ a, H a = none → (match i with | none => ts a cls d D σ H | some j => ts a cls d (endN j D) (σ.set j (some (.ref a))) H)) ∧ (b = false → wN K n Wo D r cls d σ H)
inductive HdN (X : L2.Cx) : List ExceptHandler → List Cls3 → Prop
  | nil : HdN X [] []
  | one {x : Str} {c : Value} {ts : Addr → Value → Option Addr → L2.TS} {b₀ : Stmt} {suite : List Stmt} {np pos' : Pos} {hds : List ExceptHandler} {l : List Cls3} (hc : L2.Names X x c)
      (hsu : ∀ (a : Addr) (oe : Obj) (cls : Value) (d : Option Addr) (pn : List (Addr × Obj)), L2.Zc cls d oe → (∃ vs, oe.data = .fields vs) → L2.PSs (X.suite a ((a, oe) :: pn)) (b₀ :: suite) (ts a cls d)) (r : HdN X hds l) :
      HdN X (.ExceptHandler (some (.Name x np)) none (b₀ :: suite) pos' :: hds) ((c, none, ts) :: l)
  | as {x n : Str} {i : Nat} {c : Value} {ts : Addr → Value → Option Addr → L2.TS} {b₀ : Stmt} {suite : List Stmt} {np pos' : Pos} {hds : List ExceptHandler} {l : List Cls3} (hc : L2.Names X x c) (hi : X.N[i]? = some n) (hln : X.env.kindOf n = some .local)
      (hsu : ∀ (a : Addr) (oe : Obj) (cls : Value) (d : Option Addr) (pn : List (Addr × Obj)), L2.Zc cls d oe → (∃ vs, oe.data = .fields vs) → L2.PSs (X.suite a ((a, oe) :: pn)) (b₀ :: suite) (ts a cls d)) (r : HdN X hds l) :
      HdN X (.ExceptHandler (some (.Name x np)) (some n) (b₀ :: suite) pos' :: hds) ((c, some i, ts) :: l)
section
variable {X : L2.Cx} {body : List Stmt} {h₀ : ExceptHandler} {hds : List ExceptHandler} {l : List Cls3} {pos : Pos} {tb : L2.WX → L2.TS} {Wo : L2.WX}
theorem ps_tryN (hs : X.stack = X.env :: X.outer) (hf : X.env.frame = some X.env.locals) (hN : X.N.Nodup) (tk : L2.Takes X Wo)
    (hb : ∀ (W : L2.WX) (pn : List (Addr × Obj)) (xe : Value → Shared → Prop), L2.Takes (X.tr pn xe) W → PassesOwn (model X.prog X.w) X.A X.env xe → L2.PSs (X.tr pn xe) body (tb W))
    (hh : HdN X (h₀ :: hds) l) : L2.PS X (.Try body (h₀ :: hds) [] [] pos) (fun D σ H => tb (wN X.K X.N.length Wo D l) D σ H) := by
  refine ⟨fun pins s σ H D I h => ?_⟩
  have ok := I.ok
  have hfr : X.A.frames = some (X.env :: X.outer) := by rw [ok.frames, hs]
  refine wpAny_Try_except ?_
  refine wpAny_mono ((hb (wN X.K X.N.length Wo D l) (X.pn ++ pins) (fun e s₁ => wpAny (model X.prog X.w) X.A (noteFrame e X.env) (fun _ s₂ => wpAny (model X.prog X.w) X.A (setFlight e none) (fun _ s₃ =>
    wpAny (model X.prog X.w) X.A (handleBy e X.env (h₀ :: hds)) (L2.SP X pins D) X.xe s₃) X.xe s₂) X.xe s₁) (fun u s' xx => ?_) PassesOwn.looking).run [] s σ H D (I.toTry _) h) (fun f s1 hsp => ?_) (fun e s1 he => he)
  · obtain ⟨a, B, sI, pins', σ', H', cls, d, rfl, J', nb, up, sky, na, os, ag, w⟩ := xx
    have J : L2.Inv X pins σ' H' sI := J'.ofTry ok
    have sky' : L2.Sky B (X.env :: X.outer) a (L2.Zc cls d) X.env.locals s'.heap := by rw [← hs]; exact sky
    show wpAny (model X.prog X.w) X.A (noteFrame (.ref a) X.env) _ _ _
    refine L2.Sky.land L2.Zc.steady hfr hf sky' fun h3 fl3 up3 => ?_
    have J3 : L2.Inv X pins σ' H' { s' with heap := h3 } := J.landed nb fl3.1 (up.trans up3) os ag
    obtain ⟨oe3, vs3, he3, hz3, hd3⟩ := fl3.there
    have nfr : a ∉ L2.frs (X.env :: X.outer) := fun hm => by
      obtain ⟨_, o', e', hnf⟩ := fl3.2.2.1.mem hm
      rw [he3] at e'; cases e'
      exact hnf _ hd3
    have nL : a ≠ X.env.locals := fun z => nfr (List.mem_filterMap.mpr ⟨X.env, List.mem_cons_self, by rw [hf, z]⟩)
    have nF : a ∉ X.fs := fun hm => by
      obtain ⟨e, he, q⟩ := List.mem_filterMap.mp hm
      exact nfr (List.mem_filterMap.mpr ⟨e, List.mem_cons_of_mem _ he, q⟩)
    have S3 := J3.suite he3 hd3 na nL nF
    have LT : PySem.W.Looks (model X.prog X.w) h3 (typeOf (.ref a)) cls := fun A Q E s k q => wpAny_typeOf_ref (k _ _ he3) (by rw [hz3.1]; exact q)
    have go : ∀ {hds' : List ExceptHandler} {l' : List Cls3}, HdN X hds' l' → wN X.K X.N.length Wo D l' cls d σ' H' →
        wpAny (model X.prog X.w) X.A (handleBy (.ref a) X.env hds') (L2.SP X pins D) X.xe { s' with heap := h3 } := by
      intro hds' l' hk
      induction hk with
      | nil =>
        intro w
        refine wpAny_handleBy_nil ?_
        obtain ⟨k1, k2, k3, oe, vs, T, oT, ts', he, hz, hd, h1, hr⟩ := id fl3
        unfold PySem.passOn
        refine wpAny_bind (wpAny_field he hd h1 ?_)
        rw [if_neg (show ¬ ((Value.ref T == Value.none) = true) from by simp)]
        have fin : wpAny (model X.prog X.w) X.A (setFlight (.ref a) X.env.frame) (fun _ s4 => wpAny (model X.prog X.w) X.A (throw (.ref a) : Sem Flow) (L2.SP X pins D) X.xe s4) X.xe { s' with heap := h3 } := by
          rw [hf]
          refine HandSPX.setFlight_upZ fl3 fun h4 hh4 up4 => wpAny_throw (tk _ _ ?_)
          exact ⟨a, B, sI, pins, σ', H', cls, d, rfl, J, nb, (up.trans up3).trans up4, .inr (.inr (by rw [hs]; exact hh4)), na, os, ag, w⟩
        first
          | exact wpAny_bind (wpAny_pure (wpAny_bind fin))
          | exact wpAny_bind fin
      | @one x c ts b₀ suite np pos' hds2 l2 hc hsu r ih =>
        intro w
        obtain ⟨b, hb1, hyes, hno⟩ := w
        refine wpAny_handleBy_cons (codeAny_handlers_test ?_) (by intro q; cases q)
        have LM := PySem.W.exm_one (M := model X.prog X.w) (J3.kIn) LT hb1
        have test : ∀ {Q : Value → Shared → Prop} {E : Value → Shared → Prop}, Q c { s' with heap := h3 } → wpAny (model X.prog X.w) (X.A.mark (some (.ref a))) (eval (.Name x np) X.env) Q E { s' with heap := h3 } := fun {Q E} q => by
          obtain ⟨hg, hdbg, hm | ⟨hm, hv, hnn⟩⟩ := hc
          · exact L2.ld_glob (X := X.suite a ((a, oe3) :: (X.pn ++ pins))) S3 hg hm q hdbg
          · exact L2.ld_blt (X := X.suite a ((a, oe3) :: (X.pn ++ pins))) S3 hg hm hv q hnn hdbg
        refine test (LM.here ?_)
        cases b with
        | true =>
          refine codeAny_handlers_suite ?_
          refine HandSPX.lands_againZ fl3 fun h4 fl4 up4 => ?_
          have J4 : L2.Inv X pins σ' H' { s' with heap := h4 } := J.landed nb fl4.1 ((up.trans up3).trans up4) os ag
          obtain ⟨oe4, vs4, he4, hz4, hd4⟩ := fl4.there
          refine wpAny_mono ((hsu a oe4 cls d (X.pn ++ pins) hz4 ⟨_, hd4⟩).run [] _ _ H' _ (J4.suite he4 hd4 na nL nF) (hyes rfl J.len a na)) (fun f s6 hsp => ?_) (fun _ _ z => False.elim z)
          cases f with
          | next => obtain ⟨σ6, H6, S6, q6⟩ := hsp; exact ⟨_, _, S6.unsuite ok, q6⟩
          | brk => obtain ⟨σ6, H6, S6, q6⟩ := hsp; exact ⟨_, _, S6.unsuite ok, q6⟩
          | cont => obtain ⟨σ6, H6, S6, q6⟩ := hsp; exact ⟨_, _, S6.unsuite ok, q6⟩
          | ret u => obtain ⟨v6, σ6, H6, S6, r6, q6⟩ := hsp; exact ⟨_, _, _, S6.unsuite ok, r6, q6⟩
        | false => exact ih (hno rfl)
      | @as x n i c ts b₀ suite np pos' hds2 l2 hc hi hln hsu r ih =>
        intro w
        obtain ⟨b, hb1, hyes, hno⟩ := w
        refine wpAny_handleBy_cons (codeAny_handlers_test ?_) (by intro q; cases q)
        have LM := PySem.W.exm_one (M := model X.prog X.w) (J3.kIn) LT hb1
        have test : ∀ {Q : Value → Shared → Prop} {E : Value → Shared → Prop}, Q c { s' with heap := h3 } → wpAny (model X.prog X.w) (X.A.mark (some (.ref a))) (eval (.Name x np) X.env) Q E { s' with heap := h3 } := fun {Q E} q => by
          obtain ⟨hg, hdbg, hm | ⟨hm, hv, hnn⟩⟩ := hc
          · exact L2.ld_glob (X := X.suite a ((a, oe3) :: (X.pn ++ pins))) S3 hg hm q hdbg
          · exact L2.ld_blt (X := X.suite a ((a, oe3) :: (X.pn ++ pins))) S3 hg hm hv q hnn hdbg
        refine test (LM.here ?_)
        cases b with
        | true =>
          refine codeAny_handlers_suite_as ?_
          refine HandSPX.lands_againZ fl3 fun h4 fl4 up4 => ?_
          have J4 : L2.Inv X pins σ' H' { s' with heap := h4 } := J.landed nb fl4.1 ((up.trans up3).trans up4) os ag
          obtain ⟨oe4, vs4, he4, hz4, hd4⟩ := fl4.there
          refine L2.store_ok (X := X.suite a ((a, oe4) :: (X.pn ++ pins))) (v := .ref a) (J4.suite he4 hd4 na nL nF) hN hi (.inl hln) rfl (fun s5 S5 => ?_) (.inr hln)
          refine wpAny_mono ((hsu a oe4 cls d (X.pn ++ pins) hz4 ⟨_, hd4⟩).run [] s5 _ H' _ S5 (hyes rfl J.len a na)) (fun f s6 hsp => ?_) (fun _ _ z => False.elim z)
          have end_ : ∀ {σ6 : L2.St} {H6 : Hp} {Q : Shared → Prop}, L2.Inv (X.suite a ((a, oe4) :: (X.pn ++ pins))) [] σ6 H6 s6 → (∀ s7, L2.Inv X pins (σ6.set i none) H6 s7 → Q s7) →
              wpAny (model X.prog X.w) X.A (do bindName X.env n .none; unbindBehindTheSuite X.env n pos') (fun _ s7 => Q s7) X.xe s6 := fun {σ6 H6 Q} S6 hq => L2.gone_ok (S6.unsuite ok) hN hi hln hq
          cases f with
          | next => obtain ⟨σ6, H6, S6, q6⟩ := hsp; exact end_ S6 fun s7 J7 => ⟨_, _, J7, q6⟩
          | brk => obtain ⟨σ6, H6, S6, q6⟩ := hsp; exact end_ S6 fun s7 J7 => ⟨_, _, J7, q6⟩
          | cont => obtain ⟨σ6, H6, S6, q6⟩ := hsp; exact end_ S6 fun s7 J7 => ⟨_, _, J7, q6⟩
          | ret u => obtain ⟨v6, σ6, H6, S6, r6, q6⟩ := hsp; exact end_ S6 fun s7 J7 => ⟨_, _, _, J7, r6, q6⟩
        | false => exact ih (hno rfl)
    exact go hh w
  · cases f with
    | next => obtain ⟨σ', H', J', q⟩ := hsp; exact wpAny_execs_nil ⟨σ', H', J'.ofTry ok, q⟩
    | brk => obtain ⟨σ', H', J', q⟩ := hsp; exact ⟨σ', H', J'.ofTry ok, q⟩
    | cont => obtain ⟨σ', H', J', q⟩ := hsp; exact ⟨σ', H', J'.ofTry ok, q⟩
    | ret u => obtain ⟨v, σ', H', J', r, q⟩ := hsp; exact ⟨v, σ', H', J'.ofTry ok, r, q⟩
end
end N
end
section
set_option maxRecDepth 100000
set_option maxHeartbeats 4000000
/-! What may stand in an except suite: a name's value set, a return, of plain parts and the error's fields. -/
namespace N
open PySem PySem.Spec PyProof.Rows
def hid (j : Option Nat) (τ : St) : St := match j with
  | none => τ
  | some i => setv τ i none
theorem getv_setv_ne : ∀ {τ : St} {i j : Nat} {o : Option W}, i ≠ j → getv (setv τ i o) j = getv τ j
  | [], i, j, o, h => by cases i <;> rfl
  | x :: r, 0, 0, o, h => absurd rfl h
  | x :: r, 0, j + 1, o, h => rfl
  | x :: r, i + 1, 0, o, h => rfl
  | x :: r, i + 1, j + 1, o, h => getv_setv_ne (τ := r) (fun e => h (by rw [e]))
theorem setv_comm : ∀ {τ : St} {i j : Nat} {o p : Option W}, i ≠ j → setv (setv τ i o) j p = setv (setv τ j p) i o
  | [], i, j, o, p, h => by cases i <;> cases j <;> rfl
  | x :: r, 0, 0, o, p, h => absurd rfl h
  | x :: r, 0, j + 1, o, p, h => rfl
  | x :: r, i + 1, 0, o, p, h => rfl
  | x :: r, i + 1, j + 1, o, p, h => by
    show x :: _ = x :: _
    rw [setv_comm (τ := r) (fun e => h (by rw [e]))]
section
variable (D : SE) (NN : List Str)
mutual
def okC (sc : Scope) (j : Option Nat) : E → Expr → Bool
  | .v i, e => match e with
    | .Name x _ => okIx NN sc i x && decide (j ≠ some i)
    | _ => false
  | .int i, e => match e with
    | .Constant (.int j) _ _ => decide (i = j)
    | _ => false
  | .str s, e => match e with
    | .Constant (.str j) _ _ => decide (s = j)
    | _ => false
  | .bl b, e => match e with
    | .Constant (.bool j) _ _ => decide (b = j)
    | _ => false
  | .non, e => match e with
    | .Constant .none _ _ => true
    | _ => false
  | .tup as, e => match e with
    | .Tuple es _ _ => okCs sc j as es && decide (as.len < 1000)
    | _ => false
  | .xfld i f, e => match e with
    | .Attribute (.Name x _) g _ => okIx NN sc i x && decide (j = some i) && decide (f = g)
    | _ => false
  | _, _ => false
def okCs (sc : Scope) (j : Option Nat) : Es → List Expr → Bool
  | .nil, e => match e with
    | [] => true
    | _ => false
  | .cons a r, e => match e with
    | x :: xs => noStar x && okC sc j a x && okCs sc j r xs
    | _ => false
end
end
/-- a suite's readings, lowered -/
structure LowC (K : PySem.W.Frag) (M : Names) (j : Option Nat) (a : Addr) (C : Str) (ws : List W) (d : Option Addr) (σ : L2.St) (H : Hp) (τ : St) (A : AH) : Prop where
  rs : RS K H σ (hid j τ)
  rh : RH K M H A
  at_ : ∀ i, j = some i → getv τ i = some (.exc C ws) ∧ σ[i]? = some (some (.ref a))
  xr : excF C = [] ∨ ∃ dx fs vs, d = some dx ∧ H dx = some (.xd fs) ∧ Reps K H vs ws ∧ ∀ (i : Nat) (f : Str), (excF C)[i]? = some f → fs.lookup f = vs[i]?
theorem RH.xd {K : PySem.W.Frag} {M : Names} {H : Hp} {A : AH} {dx : Addr} {fs : List (Str × V)} (r : RH K M H A) (h : H dx = some (.xd fs)) : A dx = none := by
  cases e : A dx with
  | none => rfl
  | some o =>
    have z := r dx o e
    cases o with
    | lst ws => obtain ⟨vs, q, _⟩ := z; rw [h] at q; cases q
    | dct ws => obtain ⟨vs, q, _⟩ := z; rw [h] at q; cases q
    | ins C fs => obtain ⟨c, dx, gs, q, _⟩ := z; rw [h] at q; cases q
    | set _ => exact z.elim
    | dcl g ws => obtain ⟨q, _⟩ := z; rw [h] at q; cases q
    | dnt ws => obtain ⟨o, es, ep, xs, q, _⟩ := z; rw [h] at q; cases q
theorem LowC.step {K : PySem.W.Frag} {M : Names} {j : Option Nat} {a : Addr} {C : Str} {ws : List W} {d : Option Addr} {σ : L2.St} {H H1 : Hp} {τ : St} {A A1 : AH} (l : LowC K M j a C ws d σ H τ A) (rh : RH K M H1 A1) (f : Fr H A H1 A1) : LowC K M j a C ws d σ H1 τ A1 :=
  ⟨l.rs.tk (l.rh.tk f), rh, l.at_, l.xr.imp id fun ⟨dx, fs, vs, e, h, r, q⟩ => ⟨dx, fs, vs, e, (f _ _ h (l.rh.xd h)).1, r.tk (l.rh.tk f), q⟩⟩
def lowc (K : PySem.W.Frag) (M : Names) (j : Option Nat) (a : Addr) (C : Str) (d : Option Addr) (t : TE) : L2.TE := fun σ H Q => ∃ τ A Qw ws, LowC K M j a C ws d σ H τ A ∧ t τ A Qw ∧ ∀ w A', Qw w A' → Lk K M H A Q w A'
def lowcs (K : PySem.W.Frag) (M : Names) (j : Option Nat) (a : Addr) (C : Str) (d : Option Addr) (n : Nat) (t : St → AH → (List N.W → AH → Prop) → Prop) : L2.TA := fun σ H Q => ∃ τ A Qw ws, LowC K M j a C ws d σ H τ A ∧ t τ A Qw ∧ ∀ w A', Qw w A' → w.length = n → LkA K M H A Q w A'
theorem lowc_c {K : PySem.W.Frag} {M : Names} {j : Option Nat} {a : Addr} {C : Str} {d : Option Addr} {v : V} {w : N.W} (r : ∀ H, Rep K H v w) {t : TE} (ht : ∀ τ A Q, t τ A Q → Q w A) {σ : L2.St} {H : Hp} {Q : L2.VK} (h : lowc K M j a C d t σ H Q) : Q v H := by
  obtain ⟨τ, A, Qw, ws, l, q, k⟩ := h
  exact k _ _ (ht _ _ _ q) _ _ (r H) l.rh Fr.refl
section
variable {D : SE} {NN : List Str} {Γ : Gam} {M : Names} {X : L2.Cx} {sc : Scope} {j : Option Nat} {a c : Addr} {C : Str} {oe : Obj} {d : Option Addr} {pn : List (Addr × Obj)}
mutual
theorem sndC (F : Fx D NN Γ M X sc) (hC : M.exc C = some c) (hz : L2.Zc (.ref c) d oe) (hf : ∃ vs, oe.data = .fields vs) : ∀ (x : E) (e : Expr), okC NN sc j x e = true → L2.PE (X.suite a ((a, oe) :: pn)) e (lowc X.K M j a C d (rdE Γ (fun _ _ _ => False) x))
  | .v i, e, h => by
    unfold okC at h
    split at h
    · rename_i x pos
      obtain ⟨h, h3⟩ := and_true h
      obtain ⟨h1, h2⟩ := and_true h
      obtain ⟨hv, hd, hc⟩ := h2 |> fun z => visB.vis z F.sc
      refine PE_imp (L2.pe_var (X := X.suite a ((a, oe) :: pn)) (i := i) (by show X.N[i]? = _; rw [F.hN]; exact of_decide_eq_true h1) hv hd hc) fun σ H Q => ?_
      rintro ⟨τ, A, Qw, ws, l, q, k⟩
      unfold rdE at q
      cases e : getv τ i with
      | none => rw [e] at q; exact q.elim
      | some w =>
        rw [e] at q
        have e2 : getv (hid j τ) i = some w := by
          cases j with
          | none => exact e
          | some i2 =>
            have n := of_decide_eq_true h3
            show getv (setv τ i2 none) i = _
            rw [getv_setv_ne (fun z => n (by rw [z]))]
            exact e
        obtain ⟨v, hv, r⟩ := l.rs.get e2
        exact ⟨v, hv, k _ _ q _ _ r l.rh Fr.refl⟩
    · cases h
  | .int i, e, h => by
    unfold okC at h
    split at h
    · obtain rfl := of_decide_eq_true h
      exact PE_imp L2.pe_int fun σ H Q q => lowc_c (fun _ => .int i) (fun τ A Q z => by unfold rdE at z; exact z) q
    · cases h
  | .str z, e, h => by
    unfold okC at h
    split at h
    · obtain rfl := of_decide_eq_true h
      exact PE_imp L2.pe_str fun σ H Q q => lowc_c (fun _ => .str z) (fun τ A Q z => by unfold rdE at z; exact z) q
    · cases h
  | .bl b, e, h => by
    unfold okC at h
    split at h
    · obtain rfl := of_decide_eq_true h
      exact PE_imp L2.pe_bl fun σ H Q q => lowc_c (fun _ => .bl b) (fun τ A Q z => by unfold rdE at z; exact z) q
    · cases h
  | .non, e, h => by
    unfold okC at h
    split at h
    · exact PE_imp L2.pe_non fun σ H Q q => lowc_c (fun _ => .non) (fun τ A Q z => by unfold rdE at z; exact z) q
    · cases h
  | .tup as, e, h => by
    unfold okC at h
    split at h
    · obtain ⟨h, hn⟩ := and_true h
      refine PE_imp (pe_tupP (sndCs F hC hz hf as _ h)) fun σ H Q => ?_
      rintro ⟨τ, A, Qw, ws, l, q, k⟩
      unfold rdE at q
      refine ⟨τ, A, _, ws, l, q, fun ws A1 h1 hl vs H1 r1 g1 f1 => ?_⟩
      have hn' := of_decide_eq_true hn
      refine ⟨line_of (by rw [r1.length, hl]; unfold lim; omega), fun p o hp ho => ?_⟩
      exact (k _ _ h1).step f1 _ _ (.tup (SqP.new ho) (r1.tk (Tk.new hp))) (g1.newT hp) (Fr.newT hp)
    · cases h
  | .xfld i f, e, h => by
    unfold okC at h
    split at h
    · rename_i x px g pos
      obtain ⟨h, h4⟩ := and_true h
      obtain ⟨h, h3⟩ := and_true h
      obtain ⟨h1, h2⟩ := and_true h
      obtain ⟨hv, hd, hc⟩ := h2 |> fun z => visB.vis z F.sc
      have ej := of_decide_eq_true h3
      subst ej
      obtain rfl := of_decide_eq_true h4
      by_cases hin : f ∈ excF C
      · obtain ⟨T, hno⟩ := F.exf C c hC
        refine PE_imp (L2.pe_xf T (hno f hin) hz hf (L2.pe_var (X := X.suite a ((a, oe) :: pn)) (i := i) (by show X.N[i]? = _; rw [F.hN]; exact of_decide_eq_true h1) hv hd hc)) fun σ H Q => ?_
        rintro ⟨τ, A, Qw, ws, l, q, k⟩
        unfold rdE at q
        obtain ⟨e1, e2⟩ := l.at_ i rfl
        rw [e1] at q
        obtain ⟨n, v, q1, q2, q⟩ := q
        refine ⟨.ref a, e2, rfl, rfl, ?_⟩
        rcases l.xr with z | ⟨dx, fs, vs, ed, eh, r, z⟩
        · rw [z] at hin; cases hin
        · obtain ⟨u, hu, ru⟩ := r.get q2
          exact ⟨dx, fs, u, ed, eh, (z n f q1).trans hu, k _ _ q _ _ ru l.rh Fr.refl⟩
      · refine ⟨fun pins s σ H Q I hl => ?_⟩
        obtain ⟨τ, A, Qw, ws, l, q, k⟩ := hl
        unfold rdE at q
        obtain ⟨e1, e2⟩ := l.at_ i rfl
        rw [e1] at q
        obtain ⟨n, v, q1, q2, q⟩ := q
        exact absurd (List.mem_of_getElem? q1) hin
    · cases h
  | .g _, e, h | .bin _ _ _, e, h | .neg _, e, h | .cmp _ _ _, e, h | .cmp2 _ _ _ _ _, e, h | .and _ _, e, h | .or _ _, e, h | .not _, e, h | .ite _ _ _, e, h | .lst _, e, h | .dct0, e, h | .ix _ _, e, h | .sl _ _ _, e, h | .rv _, e, h | .fld _ _, e, h | .call _ _, e, h
  | .make _ _, e, h | .mth _ _ _, e, h | .bi _ _, e, h | .mt _ _ _, e, h | .isi _ _, e, h | .srt _ _, e, h | .oeq _ _ _, e, h | .lc _ _ _ _ _, e, h | .lock _ _, e, h | .lrg _, e, h | .xisi _ _, e, h => by unfold okC at h; cases h
theorem sndCs (F : Fx D NN Γ M X sc) (hC : M.exc C = some c) (hz : L2.Zc (.ref c) d oe) (hf : ∃ vs, oe.data = .fields vs) : ∀ (x : Es) (es : List Expr), okCs NN sc j x es = true → L2.PA (X.suite a ((a, oe) :: pn)) es (lowcs X.K M j a C d x.len (rdEs Γ (fun _ _ _ => False) x))
  | .nil, es, h => by
    unfold okCs at h
    split at h
    · refine PA_imp L2.pa_nil fun σ H Q => ?_
      rintro ⟨τ, A, Qw, ws, l, q, k⟩
      unfold rdEs at q
      exact k _ _ q rfl _ _ .nil l.rh Fr.refl
    · cases h
  | .cons x r, es, h => by
    unfold okCs at h
    split at h
    · rename_i y ys
      obtain ⟨h, h3⟩ := and_true h
      obtain ⟨h1, h2⟩ := and_true h
      refine PA_imp (L2.pa_cons (sndC F hC hz hf x y h2) (sndCs F hC hz hf r ys h3) (star_cons h1)) fun σ H Q => ?_
      rintro ⟨τ, A, Qw, ws, l, q, k⟩
      unfold rdEs at q
      refine ⟨τ, A, _, ws, l, q, fun w1 A1 h1 v1 H1 r1 g1 f1 => ?_⟩
      refine ⟨τ, A1, _, ws, l.step g1 f1, h1, fun ws A2 h2 hl vs H2 r2 g2 f2 => ?_⟩
      exact k _ _ h2 (by rw [List.length_cons, hl]; rfl) _ _ (.cons (r1.tk (g1.tk f2)) r2) g2 (f1.trans f2)
    · cases h
end
end
end N
end
section
set_option maxRecDepth 100000
set_option maxHeartbeats 4000000
/-! Statements: the meaning is a reading of the text. -/
namespace N
open PySem PySem.Spec PyProof.Rows
/-! ### the checker -/
def aop : BOp → Option Operator
  | .add => some .Add | .sub => some .Sub | _ => none
def noLock : E → Bool
  | .lock _ _ => false
  | _ => true
def noTup : Expr → Bool
  | .Tuple _ _ _ => false
  | _ => true
section
variable (D : SE) (NN : List Str)
def okCS (sc : Scope) (j : Option Nat) : Ss → List Stmt → Bool
  | .cons (.asg (.nm i) e) .nil, [.Assign [.Name x _] ex _] => locB NN sc i x && decide (j ≠ some i) && noComp ex && okC NN sc j e ex
  | .cons (.ret e) .nil, [.Return (some ex) _] => okC NN sc j e ex
  | _, _ => false
def okHs (sc : Scope) : Hs → List ExceptHandler → Bool
  | .nil, e => match e with
    | [] => true
    | _ => false
  | .cons C i b r, e => match e with
    | .ExceptHandler (some (.Name x _)) nm (b0 :: su) _ :: hds => decide (C = x) && globB sc x && D.xs.contains C && (match i, nm with
      | none, none => true
      | some j, some n => decide (NN[j]? = some n) && decide (sc.names.lookup n = some .local)
      | _, _ => false) && okCS NN sc i b (b0 :: su) && okHs sc r hds
    | _ => false
mutual
def okS (sc : Scope) : S → Stmt → Bool
  | .asg g e, st => match st with
    | .Assign [tg] ex _ => okE D NN sc e ex && okG NN sc g tg && (match tg with
      | .Name x px => noComp ex || decide (sc.names.lookup x = some .cell) || (match ex, g with
        | .ListComp _ _ bs p, .nm i => locS NN sc i x && decide (px.line = p.line) && !(bs.names.any fun (n, k) => n == x && (k == .local || k == .cell)) && noLock e
        | _, _ => false)
      | .Tuple _ _ _ => noComp ex && noTup ex
      | _ => false)
    | _ => false
  | .par i j a b, st => match st with
    | .Assign [.Tuple [.Name x px, .Name y py] _ _] (.Tuple [e, f] _ _) _ => locS NN sc i x && locS NN sc j y && decide (i ≠ j) && !(x == y) && decide (px.line = py.line) && noStar e && noStar f && !(foldedForSure 8 e && foldedForSure 8 f) && !(constantsAlone 8 e && constantsAlone 8 f) && okE D NN sc a e && okE D NN sc b f
    | _ => false
  | .aug i op e, st => match st with
    | .AugAssign (.Name x _) o ex _ => locB NN sc i x && decide (aop op = some o) && okE D NN sc e ex
    | _ => false
  | .setix a i e, st => match st with
    | .Assign [.Subscript x y _] ex _ => noSlice y && noComp ex && okE D NN sc e ex && okE D NN sc a x && okE D NN sc i y
    | _ => false
  | .setfld a f e, st => match st with
    | .Assign [.Attribute x g _] ex _ => decide (f = g) && noComp ex && okE D NN sc e ex && okE D NN sc a x && D.fl.contains f
    | _ => false
  | .ex e, st => match st with
    | .Expr ex _ => noComp ex && okE D NN sc e ex
    | _ => false
  | .ret e, st => match st with
    | .Return (some ex) _ => okE D NN sc e ex
    | .Return none _ => match e with
      | .non => true
      | _ => false
    | _ => false
  | .ife c t u, st => match st with
    | .If ex a b _ => okE D NN sc c ex && okSs sc t a && okSs sc u b
    | _ => false
  | .wh c b, st => match st with
    | .While ex a [] _ => okE D NN sc c ex && okSs sc b a
    | _ => false
  | .fr g it b, st => match st with
    | .For tg ex a [] _ => noSet ex && okG NN sc g tg && okI D NN sc it tg ex && okSs sc b a
    | _ => false
  | .brk, st => match st with
    | .Break _ => true
    | _ => false
  | .cont, st => match st with
    | .Continue _ => true
    | _ => false
  | .pass, st => match st with
    | .Pass _ => true
    | .Expr (.Constant (.str _) _ _) _ => true
    | _ => false
  | .nev, _ => true
  | .lock i a, st => okS sc a st
  | .rais C as, st => match st with
    | .Raise (some (.Call (.Name x _) es [] _)) none _ => decide (C = x) && globB sc x && D.xs.contains C && decide (C ≠ "LoreError") && okEs D NN sc as es && decide (as.len = (excF C).length) && noStars es
    | _ => false
  | .tri b hs, st => match st with
    | .Try bd (h0 :: hds) [] [] _ => okSs sc b bd && okHs D NN sc hs (h0 :: hds)
    | _ => false
def okSs (sc : Scope) : Ss → List Stmt → Bool
  | .nil, st => match st with
    | [] => true
    | _ => false
  | .cons a r, st => match st with
    | x :: xs => okS sc a x && okSs sc r xs
    | _ => false
end
end
/-! ### ends, lowered -/
structure LowS (K : PySem.W.Frag) (M : Names) (W : L2.WX) (D : L2.Ends) (D' : Ends) (σ : L2.St) (H : Hp) (τ : St) (A : AH) : Prop where
  rs : RS K H σ τ
  rh : RH K M H A
  nx : ∀ τ' A', D'.nx τ' A' → ∀ σ' H', RS K H' σ' τ' → RH K M H' A' → Fr H A H' A' → D.nx σ' H'
  rt : ∀ w A', D'.rt w A' → Lk K M H A D.rt w A'
  bk : ∀ τ' A', D'.bk τ' A' → ∀ σ' H', RS K H' σ' τ' → RH K M H' A' → Fr H A H' A' → D.bk σ' H'
  ct : ∀ τ' A', D'.ct τ' A' → ∀ σ' H', RS K H' σ' τ' → RH K M H' A' → Fr H A H' A' → D.ct σ' H'
  ex : ∀ C ws τ' A', D'.ex C ws τ' A' → ∀ cls d σ' H', XR K M H' cls d C ws → RS K H' σ' τ' → RH K M H' A' → Fr H A H' A' → W cls d σ' H'
def lowS (K : PySem.W.Frag) (M : Names) (W : L2.WX) (t : TS) : L2.TS := fun D σ H => ∃ τ A D', LowS K M W D D' σ H τ A ∧ t D' τ A
section
variable {K : PySem.W.Frag} {M : Names} {W : L2.WX} {D : L2.Ends} {D' : Ends} {σ σ1 : L2.St} {H H1 : Hp} {τ τ1 : St} {A A1 : AH}
theorem LowS.lx (l : LowS K M W D D' σ H τ A) : LowX K M W (xOf D' τ) σ H τ A := ⟨l.rs, l.rh, fun C ws A' h cls d H' x r f => l.ex C ws τ A' h cls d σ H' x (l.rs.tk (l.rh.tk f)) r f⟩
/-- further on: other slots, another heap -/
theorem LowS.go (l : LowS K M W D D' σ H τ A) (rs : RS K H1 σ1 τ1) (rh : RH K M H1 A1) (f : Fr H A H1 A1) : LowS K M W D D' σ1 H1 τ1 A1 :=
  ⟨rs, rh, fun τ' A' h σ' H' r1 r2 f2 => l.nx τ' A' h σ' H' r1 r2 (f.trans f2), fun w A' h => (l.rt w A' h).step f, fun τ' A' h σ' H' r1 r2 f2 => l.bk τ' A' h σ' H' r1 r2 (f.trans f2), fun τ' A' h σ' H' r1 r2 f2 => l.ct τ' A' h σ' H' r1 r2 (f.trans f2),
    fun C ws τ' A' h cls d σ' H' x r1 r2 f2 => l.ex C ws τ' A' h cls d σ' H' x r1 r2 (f.trans f2)⟩
/-- the same slots -/
theorem LowS.step (l : LowS K M W D D' σ H τ A) (rh : RH K M H1 A1) (f : Fr H A H1 A1) : LowS K M W D D' σ H1 τ A1 := l.go (l.rs.tk (l.rh.tk f)) rh f
end
theorem PS_imp {X : L2.Cx} {e : Stmt} {t t' : L2.TS} (h : L2.PS X e t) (k : ∀ D σ H, t' D σ H → t D σ H) : L2.PS X e t' := ⟨fun pins s σ H D I q => h.run pins s σ H D I (k D σ H q)⟩
theorem PSs_imp {X : L2.Cx} {e : List Stmt} {t t' : L2.TS} (h : L2.PSs X e t) (k : ∀ D σ H, t' D σ H → t D σ H) : L2.PSs X e t' := ⟨fun pins s σ H D I q => h.run pins s σ H D I (k D σ H q)⟩
/-! ### parts -/
theorem op_setix {X : L2.Cx} {M : Names} (hu0 : X.A.units + 65 < cLine) (hM : M.w = X.w) : L2.PSet X (fun o i v H Q => ∃ (x k w : N.W) (A : AH) (Qw : AH → Prop), Rep X.K H o x ∧ Rep X.K H i k ∧ Rep X.K H v w ∧ RH X.K M H A ∧
    (match x with
    | .ref p => (∃ xs n j, k = .int n ∧ A p = some (.lst xs) ∧ idx xs.length n = some j ∧ Qw (up A p (.lst (xs.set j w)))) ∨ (∃ kvs, A p = some (.dct kvs) ∧ isKey k = true ∧ kvs.length < lim ∧ Qw (up A p (.dct (putK kvs k w)))) ∨ ∃ kvs, A p = some (.dnt kvs) ∧ isNK k = true ∧ kvs.length < lim ∧ Qw (up A p (.dnt (putN kvs k w)))
    | _ => False) ∧ ∀ A', Qw A' → ∀ H', RH X.K M H' A' → Fr H A H' A' → Q H') := by
  intro pins s σ H o i v ov iv u Q I ro ri rv h
  obtain ⟨x, k, w, A, Qw, rx, rk, rw', g, h, kk⟩ := h
  cases x with
  | ref p =>
    cases rx
    have hu : X.A.units + 1 < cLine := by omega
    rcases h with ⟨xs, n, j, rfl, hp, hj, h⟩ | ⟨kvs, hp, hk, hl, h⟩ | ⟨kvs, hp, hk, hl, h⟩
    · cases rk
      obtain ⟨vs, e, r⟩ := g _ _ hp
      have t := Tk.mut (o := .lst (vs.set j v)) g hp
      exact L2.set_list pins s σ H _ _ v ov iv u Q I ro ri rv ⟨p, vs, n, j, rfl, rfl, e, by rw [r.length]; exact hj, kk _ h _ (g.mut hp ⟨_, L2.upd_same, (Reps.set rw' j r).tk t⟩) (Fr.mut hp)⟩
    · obtain ⟨kv, e, r⟩ := g _ _ hp
      obtain ⟨ky, rfl, kr⟩ := key_of hk rk
      have t := Tk.mut (o := .dK (L2.putK kv ky v)) g hp
      exact L2.set_dict hu pins s σ H _ _ v ov iv u Q I ro ri rv ⟨p, _, rfl, L2.DPut.k e (by rw [r.length]; exact line_lt hl), kk _ h _ (g.mut hp ⟨_, L2.upd_same, (r.put kr rw').tk t⟩) (Fr.mut hp)⟩
    · cases (show ov = Value.ref _ from ro)
      exact n_set I hM hu0 g hp hk rk ri rw' rv hl fun H' s' I' g' f' t' => ⟨H', I', kk _ h _ g' f'⟩
  | _ => exact h.elim
theorem Fds.put {K : PySem.W.Frag} {H : Hp} {f : Str} {v : V} {w : N.W} (r : Rep K H v w) : ∀ {vs : List (Str × V)} {ws : List (Str × N.W)}, Fds K H vs ws → Fds K H (L2.putF f v vs) (putFW f w ws)
  | _, _, .nil => .cons r .nil
  | _, _, .cons (f := g) q t => by
    unfold L2.putF putFW
    by_cases h : g = f
    · rw [if_pos h, if_pos h]; exact .cons r t
    · rw [if_neg h, if_neg h]; exact .cons q (Fds.put r t)
theorem Fds.length {K : PySem.W.Frag} {H : Hp} : ∀ {vs : List (Str × V)} {ws : List (Str × N.W)}, Fds K H vs ws → vs.length = ws.length
  | _, _, .nil => rfl
  | _, _, .cons _ t => by rw [List.length_cons, List.length_cons, t.length]
/-- a for loop -/
theorem fr_low {K : PySem.W.Frag} {M : Names} {W : L2.WX} {J : L2.It} {g : G} {b : TS} {tb : L2.TS} {D : L2.Ends} {D' : Ends} {xs : List N.W} {ok : AH → Prop} {σ : L2.St} {H : Hp} {τ : St} {A : AH}
    (hI : ItW K M J H xs ok) (l : LowS K M W D D' σ H τ A) (hb : ∀ D σ H, lowS K M W b D σ H → tb D σ H) (h : frGo ok g b D' xs τ A) :
    ∃ Wn : Nat → Nat → L2.St → Hp → Prop, (∃ m, Wn 0 m σ H) ∧ ∀ i m σ H, Wn i m σ H →
      (J.stop i H ∧ D.nx σ H) ∨ (J.go i H ∧ ∃ Nn : L2.St → Hp → Prop, (∀ σ' H', Nn σ' H' → ∃ m', m' < m ∧ Wn (i + 1) m' σ' H') ∧ ∀ x H', J.yld i H x H' → tg K g x σ H' fun σ2 H2 => tb { D with nx := Nn, ct := Nn, bk := D.nx } σ2 H2) := by
  have base : ∀ i m σ1 H1, (m = xs.length - i ∧ i ≤ xs.length ∧ ∃ τ1 A1, RS K H1 σ1 τ1 ∧ RH K M H1 A1 ∧ Fr H A H1 A1 ∧ frGo ok g b D' (xs.drop i) τ1 A1) →
      (J.stop i H1 ∧ D.nx σ1 H1) ∨ (J.go i H1 ∧ ∃ Nn : L2.St → Hp → Prop, (∀ σ' H', Nn σ' H' → ∃ m', m' < m ∧ (m' = xs.length - (i + 1) ∧ i + 1 ≤ xs.length ∧ ∃ τ1 A1, RS K H' σ' τ1 ∧ RH K M H' A1 ∧ Fr H A H' A1 ∧ frGo ok g b D' (xs.drop (i + 1)) τ1 A1)) ∧
        ∀ x H', J.yld i H1 x H' → tg K g x σ1 H' fun σ2 H2 => tb { D with nx := Nn, ct := Nn, bk := D.nx } σ2 H2) := by
    rintro i m σ1 H1 ⟨rfl, hi, τ1, A1, r1, g1, f1, hg⟩
    by_cases hlt : i < xs.length
    · rw [List.drop_eq_getElem_cons hlt] at hg
      unfold frGo at hg
      obtain ⟨hok, hg⟩ := hg
      have hw : xs[i]? = some xs[i] := List.getElem?_eq_getElem hlt
      have t1 := l.rh.tk f1
      refine .inr ⟨hI.go i H1 A1 _ g1 t1 hok hw, fun σ' H' => ∃ τ1 A1, RS K H' σ' τ1 ∧ RH K M H' A1 ∧ Fr H A H' A1 ∧ frGo ok g b D' (xs.drop (i + 1)) τ1 A1, fun σ' H' hn => ⟨xs.length - (i + 1), by omega, rfl, hlt, hn⟩, fun x H' y => ?_⟩
      obtain ⟨rx, g2, f2⟩ := hI.yld i H1 A1 _ x H' g1 t1 hok hw y
      refine ⟨_, _, rx, r1.tk (g1.tk f2), ?_⟩
      unfold gDo at hg ⊢
      cases eg : gW g xs[i] τ1 with
      | none => rw [eg] at hg; exact hg.elim
      | some τ2 =>
        rw [eg] at hg
        intro σ2 r2 _
        have l2 := l.go r2 g2 (f1.trans f2)
        have nxt : ∀ (τ' : St) (A' : AH), (dn A' fun B => frGo ok g b D' (xs.drop (i + 1)) τ' B) → ∀ σ' H'', RS K H'' σ' τ' → RH K M H'' A' → Fr H' A1 H'' A' → ∃ τ1 A1, RS K H'' σ' τ1 ∧ RH K M H'' A1 ∧ Fr H A H'' A1 ∧ frGo ok g b D' (xs.drop (i + 1)) τ1 A1 :=
          fun τ' A' ⟨B, sB, hB⟩ σ' H'' r g f => ⟨τ', B, r, g.dn sB, ((f1.trans f2).trans f).dn sB, hB⟩
        exact hb _ _ _ ⟨τ2, A1, { D' with nx := fun σ' A' => dn A' fun B => frGo ok g b D' (xs.drop (i + 1)) σ' B, ct := fun σ' A' => dn A' fun B => frGo ok g b D' (xs.drop (i + 1)) σ' B, bk := D'.nx }, ⟨r2, g2, nxt, l2.rt, l2.nx, nxt, l2.ex⟩, hg⟩
    · have e : i = xs.length := by omega
      subst e
      rw [List.drop_length] at hg
      unfold frGo at hg
      exact .inl ⟨hI.stop _ H1 A1 g1 (l.rh.tk f1) hg.1 (Nat.le_refl _), l.nx _ _ hg.2 _ _ r1 g1 f1⟩
  exact ⟨fun i m σ1 H1 => m = xs.length - i ∧ i ≤ xs.length ∧ ∃ τ1 A1, RS K H1 σ1 τ1 ∧ RH K M H1 A1 ∧ Fr H A H1 A1 ∧ frGo ok g b D' (xs.drop i) τ1 A1, ⟨xs.length, by simp, Nat.zero_le _, τ, A, l.rs, l.rh, Fr.refl, h⟩, base⟩
/-- a while loop -/
theorem wh_low {K : PySem.W.Frag} {M : Names} {W : L2.WX} {c : TE} {b : TS} {tc : L2.TT} {tb : L2.TS} {D : L2.Ends} {D' : Ends} {σ : L2.St} {H : Hp} {τ : St} {A : AH} {n : Nat}
    (l : LowS K M W D D' σ H τ A) (hc : ∀ σ H τ A Qw Q, LowS K M W D D' σ H τ A → c τ A (boolK Qw) → (∀ b A', Qw b A' → ∀ H', RH K M H' A' → Fr H A H' A' → Q b H') → tc σ H Q) (hb : ∀ D σ H, lowS K M W b D σ H → tb D σ H) (h : whGo c b D' n τ A) : L2.tWhile tc tb D σ H := by
  refine ⟨fun m σ1 H1 => ∃ τ1 A1, RS K H1 σ1 τ1 ∧ RH K M H1 A1 ∧ Fr H A H1 A1 ∧ whGo c b D' m τ1 A1, ⟨n, τ, A, l.rs, l.rh, Fr.refl, h⟩, ?_⟩
  rintro m σ1 H1 ⟨τ1, A1, r1, g1, f1, hg⟩
  cases m with
  | zero => exact hg.elim
  | succ m =>
    unfold whGo at hg
    have l1 := l.go r1 g1 f1
    refine hc σ1 H1 τ1 A1 _ _ l1 hg fun k A2 hk H2 g2 f2 => ?_
    cases k with
    | false => exact l1.nx _ _ hk _ _ (r1.tk (g1.tk f2)) g2 f2
    | true =>
      refine ⟨fun σ' H' => ∃ τ1 A1, RS K H' σ' τ1 ∧ RH K M H' A1 ∧ Fr H A H' A1 ∧ whGo c b D' m τ1 A1, fun σ' H' hn => ⟨m, Nat.lt_succ_self _, hn⟩, ?_⟩
      have l2 := l1.step g2 f2
      have nxt : ∀ (τ' : St) (A' : AH), (dn A' fun B => whGo c b D' m τ' B) → ∀ σ' H'', RS K H'' σ' τ' → RH K M H'' A' → Fr H2 A2 H'' A' → ∃ τ1 A1, RS K H'' σ' τ1 ∧ RH K M H'' A1 ∧ Fr H A H'' A1 ∧ whGo c b D' m τ1 A1 :=
        fun τ' A' ⟨B, sB, hB⟩ σ' H'' r g f => ⟨τ', B, r, g.dn sB, ((f1.trans f2).trans f).dn sB, hB⟩
      exact hb _ _ _ ⟨τ1, A2, { D' with nx := fun σ' A' => dn A' fun B => whGo c b D' m σ' B, ct := fun σ' A' => dn A' fun B => whGo c b D' m σ' B, bk := D'.nx }, ⟨l2.rs, g2, nxt, l2.rt, l2.nx, nxt, l2.ex⟩, hk⟩
/-! ### statements -/
section
variable {D : SE} {NN : List Str} {Γ : Gam} {M : Names}
theorem swapped_none {t e : Expr} {env : Env} (h : (match t with | .Tuple _ _ _ => noTup e | .List _ _ => false | _ => true) = true) : swappedStores [t] e env = pure none := by
  unfold swappedStores
  cases t with
  | Tuple _ _ _ => cases e <;> first | rfl | (exact absurd h (by decide)) | (simp [noTup] at h)
  | List _ _ => exact nomatch h
  | _ => rfl
theorem swapped_two {x y : Str} {px py pt pt2 : Pos} {kt k2 : Nat} {a b : Expr} {env : Env} (hk : env.scope.kind = .function) (hx : env.scope.names.lookup x = some .local) (hy : env.scope.names.lookup y = some .local) (hl : px.line = py.line) (hxy : (x == y) = false) (ha : noStar a = true) (hb : noStar b = true)
    (h1 : (foldedForSure 8 a && foldedForSure 8 b) = false) (h2 : (constantsAlone 8 a && constantsAlone 8 b) = false) : swappedStores [.Tuple [.Name x px, .Name y py] kt pt] (.Tuple [a, b] k2 pt2) env = pure (some [x, y]) := by
  have kx : env.kindOf x = some .local := hx
  have ky : env.kindOf y = some .local := hy
  have hb' : env.blockKind = .function := by unfold Env.blockKind; rw [hk]; rfl
  have sa : (match (generalizing := false) a with | .Starred value pos => true | x => false) = false := by cases a <;> first | rfl | exact nomatch ha
  have sb : (match (generalizing := false) b with | .Starred value pos => true | x => false) = false := by cases b <;> first | rfl | exact nomatch hb
  have hyx : (y == x) = false := by
    cases e : y == x with
    | false => rfl
    | true => rw [beq_iff_eq.mp e] at hxy; simp at hxy
  have h1' : ([a, b].all (foldedForSure 8)) = false := by simpa using h1
  have h2' : ([a, b].all (constantsAlone 8)) = false := by simpa using h2
  have hd : ([x, y] : List Str).eraseDups.length = 2 := by
    simp [List.eraseDups_cons, hyx]
  unfold swappedStores
  simp only [hb', kx, ky, h1', h2', hl, Expr.pos, List.length_cons, List.length_nil, List.head?_cons, Option.map_some, Option.getD_some, List.filterMap_cons, List.filterMap_nil]
  simp [hd]
  intro h0
  rcases h0 with h0 | h0
  · exact absurd (sa.symm.trans h0) (by decide)
  · exact absurd (sb.symm.trans h0) (by decide)
theorem sole {t e : Expr} {n : Nat} {env : Env} (h : noComp e = true) : swapsWithSole [t] e n env = pure false := swap_none h
/-- what a statement's context gives beyond Fx -/
structure StX (X : L2.Cx) : Prop where
  stk : X.stack = X.env :: X.outer
  frm : X.env.frame = some X.env.locals
  po : PassesOwn (model X.prog X.w) X.A X.env X.xe
  kind : X.env.scope.kind = .function
  fn : ∀ x, X.fn x = true
theorem StX.sto {X : L2.Cx} {sc : Scope} (S : StX X) (F : Fx D NN Γ M X sc) : Sto X sc := ⟨fun x k h _ => by rw [F.sc]; exact h, fun x _ => S.fn x⟩
theorem fun_kind {X : L2.Cx} {pins : List (Addr × Obj)} {σ : L2.St} {H : Hp} {s : Shared} (I : L2.Inv X pins σ H s) : X.env.scope.kind = .function := I.ok.kind
/-- name = a comprehension, on one line -/
theorem asg_lc {i : Nat} {el : E} {g : G} {it : I} {c : P} {own : List Nat} {x : Str} {px : Pos} {ex : Expr} {pos : Pos} {X : L2.Cx} {sc : Scope} {W : L2.WX} (F : Fx D NN Γ M X sc) (T : L2.Takes X W) (S : StX X)
    (h : okE D NN sc (.lc el g it c own) ex = true) (hi : locS NN sc i x = true)
    (hs : (match (generalizing := false) ex with | .ListComp _ _ bs p => decide (px.line = p.line) && !(bs.names.any fun (n, k) => n == x && (k == .local || k == .cell)) | _ => false) = true) :
    L2.PS X (.Assign [.Name x px] ex pos) (lowS X.K M W (rdS Γ (.asg (.nm i) (.lc el g it c own)))) := by
  unfold okE at h
  split at h
  · rename_i xx tg iter ifs bs pos'
    obtain ⟨h, h8⟩ := and_true h
    obtain ⟨h, h7⟩ := and_true h
    obtain ⟨h, h6⟩ := and_true h
    obtain ⟨h, h5⟩ := and_true h
    obtain ⟨h, h4⟩ := and_true h
    obtain ⟨h, h3⟩ := and_true h
    obtain ⟨h1, h2⟩ := and_true h
    obtain ⟨hs1, hs2⟩ := and_true hs
    obtain ⟨e1, e2⟩ := locS.loc hi (S.sto F)
    have hw : (own.filterMap fun i => (NN[i]?).map fun x => (x, i)).map (·.2) = own := of_decide_eq_true h4
    have hok : L2.BlkOk X.N X.env.scope bs (own.filterMap fun i => (NN[i]?).map fun x => (x, i)) := by
      rw [F.hN, F.sc]
      exact L2.blkOk_by h3
    have hg : ∀ i ∈ gI g, i ∈ own := fun i hi => List.contains_iff_mem.mp (List.all_eq_true.mp h2 i hi)
    have hN : X.N.Nodup := by rw [F.hN]; exact F.nd
    have Gt : ∀ (s : Shared) (H : Hp) (C : Addr) (cl : List (Str × Addr)) (fp : List Addr), L2.PG (X.blk s H bs (compEnvC bs cl C X.env) fp) tg (N.tg X.K g) := fun s H C cl fp => sndG F.blk Sto.blk g tg h6
    have B : ∀ (s : Shared) (H : Hp) (C : Addr) (cl : List (Str × Addr)) (fp : List Addr), L2.PE (X.blk s H bs (compEnvC bs cl C X.env) fp) xx (low X.K M (fun _ _ _ _ => False) (fun xk => rdE Γ xk el)) := fun s H C cl fp => (sndE el xx _ _ (fun _ _ _ _ => False) F.blk L2.takes0 h7).pe
    have hI := sndI it tg iter X sc W F T h5
    have hE : ∀ σ H Q, low X.K M (fun _ _ _ _ => False) (fun _ => rdE Γ (fun _ _ _ => False) el) σ H Q → low X.K M (fun _ _ _ _ => False) (fun xk => rdE Γ xk el) σ H Q := fun σ H Q => by
      rintro ⟨τ, A, xk, Qw, l, q, k⟩
      exact ⟨τ, A, fun _ _ _ => False, Qw, ⟨l.rs, l.rh, fun _ _ _ h => h.elim⟩, q, k⟩
    have sw : swapsWith (.ListComp xx [⟨tg, iter, ifs, 0⟩] bs pos') (some (.Name x px)) pos.line X.env = pure true := L2.sw_true S.kind e2 (beq_iff_eq.mpr (of_decide_eq_true hs1)) (by simpa using hs2)
    split at h8
    · refine PS_imp (L2.ps_setLc (i := i) F.calm hN (by rw [F.hN]; exact e1) e2 sw hI hok Gt (fun s H C cl fp => L2.pts_nil) B (fun x => fold_plain h1 x)) fun D σ H => ?_
      rintro ⟨τ, A, D', l, q⟩
      unfold rdS rdE at q
      refine ⟨τ, A, _, _, l.lx, q, fun xs ok A1 hq J H1 hJ g1 f1 => ?_⟩
      intro p hp
      rw [hw]
      obtain ⟨hl, hq⟩ := hq
      have l1 := l.step g1 f1
      exact lc_low (c := none) (Q := fun x H1 => L2.gName i x σ H1 D.nx) hJ l1.rs g1 hp hl hg rfl hE hq fun w A' hw' v H' rv g' f' => l1.nx _ _ hw' _ _ ((l1.rs.tk (g1.tk f')).setv rv i) g' f'
    · rename_i c' t
      have Tt : ∀ (s : Shared) (H : Hp) (C : Addr) (cl : List (Str × Addr)) (fp : List Addr), L2.PT (X.blk s H bs (compEnvC bs cl C X.env) fp) t (lowT X.K M (fun _ _ _ _ => False) (fun xk => rdE Γ xk c')) := fun s H C cl fp => (sndE c' t _ _ (fun _ _ _ _ => False) F.blk L2.takes0 h8).pt
      refine PS_imp (L2.ps_setLc (i := i) F.calm hN (by rw [F.hN]; exact e1) e2 sw hI hok Gt (fun s H C cl fp => L2.pts_one (Tt s H C cl fp)) B (fun x => fold_plain h1 x)) fun D σ H => ?_
      rintro ⟨τ, A, D', l, q⟩
      unfold rdS rdE at q
      refine ⟨τ, A, _, _, l.lx, q, fun xs ok A1 hq J H1 hJ g1 f1 => ?_⟩
      intro p hp
      rw [hw]
      obtain ⟨hl, hq⟩ := hq
      have l1 := l.step g1 f1
      refine lc_low (c := some (rdE Γ (fun _ _ _ => False) c')) (Q := fun x H1 => L2.gName i x σ H1 D.nx) hJ l1.rs g1 hp hl hg (fun σ H Q => ?_) hE hq fun w A' hw' v H' rv g' f' => l1.nx _ _ hw' _ _ ((l1.rs.tk (g1.tk f')).setv rv i) g' f'
      rintro ⟨τ, A, xk, Qw, l, q, k⟩
      exact ⟨τ, A, fun _ _ _ => False, Qw, ⟨l.rs, l.rh, fun _ _ _ h => h.elim⟩, q, k⟩
    · cases h8
  · cases h
theorem RS.setx {K : PySem.W.Frag} {H : Hp} {σ : L2.St} {τ : St} (r : RS K H σ τ) : ∀ (i : Nat) (x : Option V), RS K H (σ.set i x) (N.setv τ i .none) := by
  induction r with
  | nil => intro i x; exact .nil
  | none r ih =>
    intro i x
    cases i with
    | zero => exact .none r
    | succ i => exact .none (ih i x)
  | some p r ih =>
    intro i x
    cases i with
    | zero => exact .none r
    | succ i => exact .some p (ih i x)
theorem setv_same2 : ∀ (τ : St) (i : Nat) (o p : Option N.W), N.setv (N.setv τ i o) i p = N.setv τ i p
  | [], i, o, p => by cases i <;> rfl
  | x :: r, 0, o, p => rfl
  | x :: r, i + 1, o, p => by show x :: _ = x :: _; rw [setv_same2 r i o p]
theorem getv_setv_same : ∀ (τ : St) (i : Nat) (o : Option N.W), i < τ.length → getv (N.setv τ i o) i = o
  | [], i, o, h => by cases h
  | x :: r, 0, o, h => rfl
  | x :: r, i + 1, o, h => getv_setv_same r i o (by simpa using h)
theorem RS.length {K : PySem.W.Frag} {H : Hp} {σ : L2.St} {τ : St} (r : RS K H σ τ) : σ.length = τ.length := by
  induction r with
  | nil => rfl
  | none _ ih => rw [List.length_cons, List.length_cons, ih]
  | some _ _ ih => rw [List.length_cons, List.length_cons, ih]
/-- a suite's ends, lowered -/
structure LowH (K : PySem.W.Frag) (M : Names) (j : Option Nat) (a : Addr) (C : Str) (ws : List N.W) (d : Option Addr) (D : L2.Ends) (D' : Ends) (σ : L2.St) (H : Hp) (τ : St) (A : AH) : Prop where
  lc : LowC K M j a C ws d σ H τ A
  nx : ∀ τ' A', D'.nx τ' A' → ∀ σ' H', RS K H' σ' (hid j τ') → RH K M H' A' → Fr H A H' A' → D.nx σ' H'
  rt : ∀ w A', D'.rt w A' → Lk K M H A D.rt w A'
theorem xOf_no {D' : Ends} {τ : St} (h : D'.ex = fun _ _ _ _ => False) : xOf D' τ = fun _ _ _ => False := by unfold xOf; rw [h]
theorem sndCS {X : L2.Cx} {sc : Scope} {j : Option Nat} {a c : Addr} {C : Str} {oe : Obj} {d : Option Addr} {pn : List (Addr × Obj)} (F : Fx D NN Γ M X sc) (S : Sto X sc) (hC : M.exc C = some c) (hz : L2.Zc (.ref c) d oe) (hf : ∃ vs, oe.data = .fields vs) :
    ∀ (b : Ss) (st : List Stmt), okCS NN sc j b st = true → L2.PSs (X.suite a ((a, oe) :: pn)) st (fun D σ H => ∃ τ A D' ws, LowH X.K M j a C ws d D D' σ H τ A ∧ D'.ex = (fun _ _ _ _ => False) ∧ rdSs Γ b D' τ A) := by
  intro b st h
  unfold okCS at h
  split at h
  · rename_i i e x px ex pos
    obtain ⟨h, h4⟩ := and_true h
    obtain ⟨h, h3⟩ := and_true h
    obtain ⟨h1, h2⟩ := and_true h
    obtain ⟨e1, e2, e3⟩ := locB.loc h1 S
    refine PSs_imp (L2.pss_cons (L2.ps_set (X := X.suite a ((a, oe) :: pn)) (i := i) (by show X.N.Nodup; rw [F.hN]; exact F.nd) (by show X.N[i]? = _; rw [F.hN]; exact e1) e2 (sndC F hC hz hf e ex h4) (swap_none h3) e3) L2.pss_nil) fun D σ H => ?_
    rintro ⟨τ, A, ⟨nx', rt', bk', ct', ex'⟩, ws, l, hx, q⟩
    obtain rfl : ex' = fun _ _ _ _ => False := hx
    unfold rdSs rdS at q
    refine ⟨τ, A, _, ws, l.lc, q, fun w A1 h1 v H1 r1 g1 f1 => ?_⟩
    unfold rdSs at h1
    refine l.nx _ _ h1 _ _ ?_ g1 f1
    have r2 := (l.lc.rs.tk (l.lc.rh.tk f1)).setv r1 i
    have ne := of_decide_eq_true h2
    cases j with
    | none => exact r2
    | some j =>
      show RS _ _ _ (N.setv (N.setv τ i _) j none)
      rw [setv_comm (fun z => ne (by rw [z]))]
      exact r2
  · rename_i e ex pos
    refine PSs_imp (L2.pss_cons (L2.ps_ret (sndC F hC hz hf e ex h)) L2.pss_nil) fun D σ H => ?_
    rintro ⟨τ, A, ⟨nx', rt', bk', ct', ex'⟩, ws, l, hx, q⟩
    obtain rfl : ex' = fun _ _ _ _ => False := hx
    unfold rdSs rdS at q
    exact ⟨τ, A, _, ws, l.lc, q, fun w A1 h1 v H1 r1 g1 f1 => l.rt w A1 h1 v H1 r1 g1 f1⟩
  · cases h
theorem hs_ok {X : L2.Cx} {sc : Scope} (F : Fx D NN Γ M X sc) (S : Sto X sc) : ∀ (hs : Hs) (hds : List ExceptHandler), okHs D NN sc hs hds = true → ∃ l, HdN X hds l ∧ ∀ (W : L2.WX) (D : L2.Ends) (D' : Ends) (C : Str) (ws : List N.W) (cls : Value) (d : Option Addr) (σ : L2.St) (H : Hp) (τ : St) (A : AH),
    XR X.K M H cls d C ws → LowS X.K M W D D' σ H τ A → rdHs Γ hs D' C ws τ A → wN X.K X.N.length W D l cls d σ H
  | .nil, hds, h => by
    unfold okHs at h
    split at h
    · refine ⟨[], .nil, fun W D D' C ws cls d σ H τ A xr l q => ?_⟩
      unfold rdHs at q
      exact l.ex _ _ _ _ q _ _ _ _ xr l.rs l.rh Fr.refl
    · cases h
  | .cons C' i b r, hds, h => by
    unfold okHs at h
    split at h
    · rename_i x px nm b0 su ph hds2
      obtain ⟨h, h6⟩ := and_true h
      obtain ⟨h, h5⟩ := and_true h
      obtain ⟨h, h4⟩ := and_true h
      obtain ⟨h, h3⟩ := and_true h
      obtain ⟨h1, h2⟩ := and_true h
      obtain rfl := of_decide_eq_true h1
      obtain ⟨hg, hd, _⟩ := h2 |> fun z => globB.gl z F.sc
      obtain ⟨c', hc', hm⟩ := F.exn _ (List.contains_iff_mem.mp h3)
      obtain ⟨l, hl, kl⟩ := hs_ok F S _ _ h6
      have hn : L2.Names X C' (.ref c') := ⟨hg, hd, .inl hm⟩
      have hsu : ∀ (a : Addr) (oe : Obj) (cls : Value) (d : Option Addr) (pn : List (Addr × Obj)), L2.Zc cls d oe → (∃ vs, oe.data = .fields vs) → L2.PSs (X.suite a ((a, oe) :: pn)) (b0 :: su) (fun D σ H => ∃ C c, cls = .ref c ∧ M.exc C = some c ∧ ∃ τ A D' ws, LowH X.K M i a C ws d D D' σ H τ A ∧ D'.ex = (fun _ _ _ _ => False) ∧ rdSs Γ b D' τ A) := fun a oe cls d pn hz hf => by
        refine ⟨fun pins s σ H D I q => ?_⟩
        obtain ⟨C, c, rfl, hC, q⟩ := q
        exact (sndCS F S hC hz hf b (b0 :: su) h5).run pins s σ H D I q
      cases i with
      | none =>
        cases nm with
        | some _ => cases h4
        | none =>
          refine ⟨_, .one hn hsu hl, fun W D D' C ws cls d σ H τ A xr l q => ?_⟩
          obtain ⟨c, hC, rfl, xr'⟩ := id xr
          refine ⟨subX C C', F.exm C c C' c' hC hc', fun hb hlen a ha => ?_, fun hb => ?_⟩
          · unfold rdHs at q
            rw [if_pos hb] at q
            exact ⟨C, c, rfl, hC, τ, A, { nx := D'.nx, rt := D'.rt, bk := D'.bk, ct := D'.ct }, ws, ⟨⟨l.rs, l.rh, fun _ z => (nomatch z), xr'⟩, fun τ' A' h σ' H' rs rh f => l.nx τ' A' h σ' H' rs rh f, l.rt⟩, rfl, q⟩
          · unfold rdHs at q
            rw [if_neg (by rw [hb]; decide)] at q
            exact kl W D D' C ws _ d σ H τ A xr l q
      | some j =>
        cases nm with
        | none => cases h4
        | some n =>
          obtain ⟨h7, h8⟩ := and_true h4
          have e7 := of_decide_eq_true h7
          refine ⟨_, .as (i := j) hn (by rw [F.hN]; exact e7) (by show X.env.scope.names.lookup n = _; rw [F.sc]; exact of_decide_eq_true h8) hsu hl, fun W D D' C ws cls d σ H τ A xr l q => ?_⟩
          obtain ⟨c, hC, rfl, xr'⟩ := id xr
          refine ⟨subX C C', F.exm C c C' c' hC hc', fun hb hlen a ha => ?_, fun hb => ?_⟩
          · unfold rdHs at q
            rw [if_pos hb] at q
            have hj : j < σ.length := by
              rw [hlen, F.hN]
              exact (List.getElem?_eq_some_iff.mp e7).1
            refine ⟨C, c, rfl, hC, N.setv τ j (some (.exc C ws)), A, { nx := fun σ' A' => D'.nx (N.setv σ' j none) A', rt := D'.rt, bk := fun σ' A' => D'.bk (N.setv σ' j none) A', ct := fun σ' A' => D'.ct (N.setv σ' j none) A' }, ws, ⟨⟨?_, l.rh, fun i z => ?_, xr'⟩, fun τ' A' h σ' H' rs rh f => ?_, l.rt⟩, rfl, q⟩
            · show RS _ _ _ (N.setv (N.setv τ j _) j none)
              rw [setv_same2]
              exact l.rs.setx j _
            · cases z
              exact ⟨getv_setv_same τ j _ (by rw [← l.rs.length]; exact hj), by rw [List.getElem?_set_self hj]⟩
            · refine l.nx _ _ h _ _ ?_ rh f
              have q := rs.setn j
              show RS _ _ _ (N.setv τ' j none)
              have e : N.setv (hid (some j) τ') j none = N.setv τ' j none := setv_same2 τ' j none none
              rw [← e]
              exact q
          · unfold rdHs at q
            rw [if_neg (by rw [hb]; decide)] at q
            exact kl W D D' C ws _ d σ H τ A xr l q
    · cases h
theorem lc_only {e : E} {ex : Expr} {sc : Scope} (h : okE D NN sc e ex = true) (hc : noComp ex = false) (hl : noLock e = true) : ∃ el g it c own, e = .lc el g it c own := by
  cases ex with
  | ListComp _ _ _ _ => cases e <;> first | exact ⟨_, _, _, _, _, rfl⟩ | (cases hl; done) | (unfold okE at h; exact absurd h (by simp))
  | SetComp _ _ _ _ => cases e <;> first | exact ⟨_, _, _, _, _, rfl⟩ | (cases hl; done) | (unfold okE at h; exact absurd h (by simp))
  | DictComp _ _ _ _ _ => cases e <;> first | exact ⟨_, _, _, _, _, rfl⟩ | (cases hl; done) | (unfold okE at h; exact absurd h (by simp))
  | _ => cases hc
mutual
theorem sndS : ∀ (x : S) (st : Stmt) (X : L2.Cx) (sc : Scope) (W : L2.WX), Fx D NN Γ M X sc → L2.Takes X W → StX X → okS D NN sc x st = true → L2.PS X st (lowS X.K M W (rdS Γ x))
  | .asg g e, st, X, sc, W, F, T, S, h => by
    unfold okS at h
    split at h
    · rename_i tg ex pos
      obtain ⟨h, h3⟩ := and_true h
      obtain ⟨h1, h2⟩ := and_true h
      split at h3
      · rename_i x px _
        cases g with
        | tp is => unfold okG at h2; cases h2
        | nm i =>
          have hi : locB NN sc i x = true := by unfold okG at h2; exact h2
          obtain ⟨e1, e2, e3⟩ := locB.loc hi (S.sto F)
          have fin : swapsWith ex (some (.Name x px)) pos.line X.env = pure false → L2.PS X (.Assign [.Name x px] ex pos) (lowS X.K M W (rdS Γ (.asg (.nm i) e))) := fun hsw => by
            refine PS_imp (L2.ps_set (i := i) (by rw [F.hN]; exact F.nd) (by rw [F.hN]; exact e1) e2 (sndE e ex X sc W F T h1).pe hsw e3) fun D σ H => ?_
            rintro ⟨τ, A, D', l, q⟩
            unfold rdS at q
            refine ⟨τ, A, _, _, l.lx, q, fun w A1 h1 v H1 r1 g1 f1 => ?_⟩
            exact l.nx _ _ h1 _ _ ((l.rs.tk (l.rh.tk f1)).setv r1 i) g1 f1
          cases hc : noComp ex with
          | true => exact fin (swap_none hc)
          | false =>
            rw [hc, Bool.false_or] at h3
            by_cases hcl : sc.names.lookup x = some .cell
            · refine fin ?_
              have kx : X.env.kindOf x = some .cell := by show X.env.scope.names.lookup x = _; rw [F.sc]; exact hcl
              have kc : (X.env.kindOf x == some .local) = false := by rw [kx]; rfl
              cases ex <;> first | exact swap_none rfl | (unfold swapsWith; simp only [kc, Bool.and_false, Bool.false_and])
            · rw [decide_eq_false hcl, Bool.false_or] at h3
              cases ex with
              | ListComp a b bs p =>
                obtain ⟨g3, g6⟩ := and_true h3
                obtain ⟨g3, g5⟩ := and_true g3
                obtain ⟨g3, g4⟩ := and_true g3
                clear h3
                obtain ⟨el, g, it, c, own, rfl⟩ := lc_only h1 hc g6
                exact asg_lc F T S h1 g3 (by show (decide (px.line = p.line) && _) = true; rw [g4, g5]; rfl)
              | _ => exact nomatch h3
      · rename_i es k tp
        obtain ⟨h4, h5⟩ := and_true h3
        refine PS_imp (L2.ps_asg (sndE e ex X sc W F T h1).pe (sndG F (S.sto F) g _ h2) (sole h4) (swapped_none h5)) fun D σ H => ?_
        rintro ⟨τ, A, D', l, q⟩
        unfold rdS at q
        refine ⟨τ, A, _, _, l.lx, q, fun w A1 h1 v H1 r1 g1 f1 => ?_⟩
        have l1 := l.step g1 f1
        refine ⟨w, τ, r1, l1.rs, ?_⟩
        unfold gDo at h1 ⊢
        cases eg : gW g w τ with
        | none => rw [eg] at h1; exact h1.elim
        | some τ2 =>
          rw [eg] at h1
          exact fun σ' rs _ => l1.nx _ _ h1 _ _ rs g1 Fr.refl
      · cases h3
    · cases h
  | .par i j a b, st, X, sc, W, F, T, S, h => by
    unfold okS at h
    split at h
    · rename_i x px y py k p e f k2 p2 pos
      obtain ⟨h, h11⟩ := and_true h
      obtain ⟨h, h10⟩ := and_true h
      obtain ⟨h, h9⟩ := and_true h
      obtain ⟨h, h8⟩ := and_true h
      obtain ⟨h, h7⟩ := and_true h
      obtain ⟨h, h6⟩ := and_true h
      obtain ⟨h, h5⟩ := and_true h
      obtain ⟨h, h4⟩ := and_true h
      obtain ⟨h, h3⟩ := and_true h
      obtain ⟨h1, h2⟩ := and_true h
      obtain ⟨e1, e2⟩ := locS.loc h1 (S.sto F)
      obtain ⟨e3, e4⟩ := locS.loc h2 (S.sto F)
      rw [Bool.not_eq_true'] at h4 h8 h9
      refine PS_imp (L2.ps_par F.calm (by rw [F.hN]; exact F.nd) (by rw [F.hN]; exact e1) (by rw [F.hN]; exact e3) (of_decide_eq_true h3) e2 e4 (L2.pa_cons (sndE a e X sc W F T h10).pe (L2.pa_cons (sndE b f X sc W F T h11).pe L2.pa_nil (star_cons h7)) (star_cons h6))
        (swapped_two S.kind e2 e4 (of_decide_eq_true h5) h4 h6 h7 h8 h9)) fun D σ H => ?_
      rintro ⟨τ, A, D', l, q⟩
      unfold rdS at q
      refine ⟨τ, A, _, _, l.lx, q, fun w A1 h1 v H1 r1 g1 f1 => ?_⟩
      have l1 := l.step g1 f1
      refine ⟨τ, A1, _, _, l1.lx, h1, fun w2 A2 h2 v2 H2 r2 g2 f2 => ?_⟩
      exact ⟨v, v2, rfl, l1.nx _ _ h2 _ _ (((l1.rs.tk (g1.tk f2)).setv (r1.tk (g1.tk f2)) i).setv r2 j) g2 f2⟩
    · cases h
  | .aug i op e, st, X, sc, W, F, T, S, h => by
    unfold okS at h
    split at h
    · rename_i x px o ex pos
      obtain ⟨h, h3⟩ := and_true h
      obtain ⟨h1, h2⟩ := and_true h
      obtain ⟨e1, e2, e3⟩ := locB.loc h1 (S.sto F)
      have ha := of_decide_eq_true h2
      have fin : ∀ (f : Int → Int → Int), L2.PIp X o (L2.ipI f) → (∀ (x y : N.W) (A : AH) (Q : VK), ipW op x y A Q → ∃ i j, x = .int i ∧ y = .int j ∧ Q (.int (f i j)) A) → L2.PS X (.AugAssign (.Name x px) o ex pos) (lowS X.K M W (rdS Γ (.aug i op e))) := fun f hp hf => by
        refine PS_imp (L2.ps_aug (i := i) (by rw [F.hN]; exact F.nd) (by rw [F.hN]; exact e1) e2 (sndE e ex X sc W F T h3).pe hp e3) fun D σ H => ?_
        rintro ⟨τ, A, D', l, q⟩
        unfold rdS at q
        cases ev : getv τ i with
        | none => rw [ev] at q; exact q.elim
        | some u =>
          rw [ev] at q
          obtain ⟨v0, hv0, r0⟩ := l.rs.get ev
          refine ⟨v0, hv0, τ, A, _, _, l.lx, q, fun w A1 h1 v H1 r1 g1 f1 => ?_⟩
          obtain ⟨a, b, rfl, rfl, h5⟩ := hf _ _ _ _ h1
          cases r0
          cases r1
          exact ⟨_, _, rfl, rfl, l.nx _ _ h5 _ _ ((l.rs.tk (l.rh.tk f1)).setv (.int _) i) g1 f1⟩
      cases op with
      | add => cases ha; exact fin _ L2.ip_add fun x y A Q h => by cases x <;> cases y <;> first | exact False.elim h | exact ⟨_, _, rfl, rfl, h⟩
      | sub => cases ha; exact fin _ L2.ip_sub fun x y A Q h => by cases x <;> cases y <;> first | exact False.elim h | exact ⟨_, _, rfl, rfl, h⟩
      | _ => cases ha
    · cases h
  | .setix a i e, st, X, sc, W, F, T, S, h => by
    unfold okS at h
    split at h
    · rename_i x y p ex pos
      obtain ⟨h, h5⟩ := and_true h
      obtain ⟨h, h4⟩ := and_true h
      obtain ⟨h, h3⟩ := and_true h
      obtain ⟨h1, h2⟩ := and_true h
      refine PS_imp (L2.ps_asg (sndE e ex X sc W F T h3).pe (L2.pg_sub (sndE a x X sc W F T h4).pe (sndE i y X sc W F T h5).pe (op_setix (M := M) F.un F.wd) (fun v => by cases y <;> first | rfl | exact nomatch h1)) (sole h2) (swapped_none rfl)) fun D σ H => ?_
      rintro ⟨τ, A, D', l, q⟩
      unfold rdS at q
      refine ⟨τ, A, _, _, l.lx, q, fun w A1 h1 v H1 r1 g1 f1 => ?_⟩
      have l1 := l.step g1 f1
      refine ⟨τ, A1, _, _, l1.lx, h1, fun w2 A2 h2 v2 H2 r2 g2 f2 => ?_⟩
      have l2 := l1.step g2 f2
      refine ⟨τ, A2, _, _, l2.lx, h2, fun w3 A3 h3 v3 H3 r3 g3 f3 => ?_⟩
      have l3 := l2.step g3 f3
      exact ⟨w2, w3, w, A3, D'.nx τ, r2.tk (g2.tk f3), r3, (r1.tk (g1.tk f2)).tk (g2.tk f3), g3, h3, fun A' hq H' g' f' => l3.nx _ _ hq _ _ (l3.rs.tk (g3.tk f')) g' f'⟩
    · cases h
  | .setfld a f e, st, X, sc, W, F, T, S, h => by
    unfold okS at h
    split at h
    · rename_i x g p ex pos
      obtain ⟨h, hfl⟩ := and_true h
      obtain ⟨h, h4⟩ := and_true h
      obtain ⟨h, h3⟩ := and_true h
      obtain ⟨h1, h2⟩ := and_true h
      obtain rfl := of_decide_eq_true h1
      refine PS_imp (L2.ps_fld (sndE a x X sc W F T h4).pe (sndE e ex X sc W F T h3).pe (swap_none h2)) fun D σ H => ?_
      rintro ⟨τ, A, D', l, q⟩
      unfold rdS at q
      refine ⟨τ, A, _, _, l.lx, q, fun w A1 h1 v H1 r1 g1 f1 => ?_⟩
      have l1 := l.step g1 f1
      refine ⟨τ, A1, _, _, l1.lx, h1, fun w2 A2 h2 v2 H2 r2 g2 f2 => ?_⟩
      have l2 := l1.step g2 f2
      cases w2 with
      | ref p =>
        obtain ⟨C, fs, hp, hh, hl, hq⟩ := h2
        cases r2
        obtain ⟨c, dx, gs, e, m, fd⟩ := g2 _ _ hp
        have t := Tk.mut (o := .ins c dx (L2.putF f v gs)) g2 hp
        refine ⟨p, c, dx, gs, rfl, e, (F.cls C c m).1, F.fld C c f m (List.contains_iff_mem.mp hfl) hh, by rw [fd.length]; exact hl, ?_⟩
        exact l2.nx _ _ hq _ _ (l2.rs.tk t) (g2.mut hp ⟨c, dx, _, L2.upd_same, m, (Fds.put (r1.tk (g1.tk f2)) fd).tk t⟩) (Fr.mut hp)
      | _ => exact h2.elim
    · cases h
  | .ex e, st, X, sc, W, F, T, S, h => by
    unfold okS at h
    split at h
    · obtain ⟨h1, h2⟩ := and_true h
      refine PS_imp (L2.ps_expr (sndE e _ X sc W F T h2).pe (swap_none h1)) fun D σ H => ?_
      rintro ⟨τ, A, D', l, q⟩
      unfold rdS at q
      exact ⟨τ, A, _, _, l.lx, q, fun w A1 h1 v H1 r1 g1 f1 => l.nx _ _ h1 _ _ (l.rs.tk (l.rh.tk f1)) g1 f1⟩
    · cases h
  | .ret e, st, X, sc, W, F, T, S, h => by
    unfold okS at h
    split at h
    · refine PS_imp (L2.ps_ret (sndE e _ X sc W F T h).pe) fun D σ H => ?_
      rintro ⟨τ, A, D', l, q⟩
      unfold rdS at q
      exact ⟨τ, A, _, _, l.lx, q, fun w A1 h1 => l.rt w A1 h1⟩
    · split at h
      · refine PS_imp L2.ps_retN fun D σ H => ?_
        rintro ⟨τ, A, D', l, q⟩
        unfold rdS rdE at q
        exact l.rt _ _ q _ _ .non l.rh Fr.refl
      · cases h
    · cases h
  | .ife c t u, st, X, sc, W, F, T, S, h => by
    unfold okS at h
    split at h
    · obtain ⟨h, h3⟩ := and_true h
      obtain ⟨h1, h2⟩ := and_true h
      refine PS_imp (L2.ps_if (sndE c _ X sc W F T h1).pt (sndSs t _ X sc W F T S h2) (sndSs u _ X sc W F T S h3)) fun D σ H => ?_
      rintro ⟨τ, A, D', l, q⟩
      unfold rdS at q
      refine ⟨τ, A, _, _, l.lx, q, fun b A1 h1 H1 g1 f1 => ?_⟩
      have l1 := l.step g1 f1
      cases b with
      | true => exact ⟨τ, A1, D', l1, h1⟩
      | false => exact ⟨τ, A1, D', l1, h1⟩
    · cases h
  | .wh c b, st, X, sc, W, F, T, S, h => by
    unfold okS at h
    split at h
    · obtain ⟨h1, h2⟩ := and_true h
      refine PS_imp (L2.ps_while S.po (sndE c _ X sc W F T h1).pt (sndSs b _ X sc W F T S h2)) fun D σ H => ?_
      rintro ⟨τ, A, D', l, q⟩
      unfold rdS at q
      obtain ⟨n, q⟩ := q
      refine wh_low l (fun σ1 H1 τ1 A1 Qw Q l1 q1 k1 => ?_) (fun D σ H h => h) q
      exact ⟨τ1, A1, _, Qw, l1.lx, q1, k1⟩
    · cases h
  | .fr g it b, st, X, sc, W, F, T, S, h => by
    unfold okS at h
    split at h
    · obtain ⟨h, h4⟩ := and_true h
      obtain ⟨h, h3⟩ := and_true h
      obtain ⟨h1, h2⟩ := and_true h
      refine PS_imp (L2.ps_for S.po F.calm (sndI it _ _ X sc W F T h3) (sndG F (S.sto F) g _ h2) (sndSs b _ X sc W F T S h4) (fun x => fold_plain h1 x)) fun D σ H => ?_
      rintro ⟨τ, A, D', l, q⟩
      unfold rdS at q
      refine ⟨τ, A, _, _, l.lx, q, fun xs ok A1 hq J H1 hJ g1 f1 => ?_⟩
      exact fr_low hJ (l.step g1 f1) (fun D σ H h => h) hq
    · cases h
  | .brk, st, X, sc, W, F, T, S, h => by
    unfold okS at h
    split at h
    · refine PS_imp L2.ps_break fun D σ H => ?_
      rintro ⟨τ, A, D', l, q⟩
      unfold rdS at q
      exact l.bk _ _ q _ _ l.rs l.rh Fr.refl
    · cases h
  | .cont, st, X, sc, W, F, T, S, h => by
    unfold okS at h
    split at h
    · refine PS_imp L2.ps_continue fun D σ H => ?_
      rintro ⟨τ, A, D', l, q⟩
      unfold rdS at q
      exact l.ct _ _ q _ _ l.rs l.rh Fr.refl
    · cases h
  | .pass, st, X, sc, W, F, T, S, h => by
    have fin : ∀ D σ H, lowS X.K M W (rdS Γ .pass) D σ H → L2.tNext D σ H := fun D σ H => by
      rintro ⟨τ, A, D', l, q⟩
      unfold rdS at q
      exact l.nx _ _ q _ _ l.rs l.rh Fr.refl
    unfold okS at h
    split at h
    · exact PS_imp L2.ps_pass fin
    · exact PS_imp L2.ps_doc fin
    · cases h
  | .nev, st, X, sc, W, F, T, S, h => PS_imp L2.ps_never fun D σ H => by
    rintro ⟨τ, A, D', l, q⟩
    unfold rdS at q
    exact q.elim
  | .lock i a, st, X, sc, W, F, T, S, h => by
    unfold okS at h
    refine PS_imp (L2.ps_lock (sndS a st X sc (fun _ _ _ _ => False) F L2.takes0 S h)) fun D σ H => ?_
    rintro ⟨τ, A, D', l, q⟩
    unfold rdS at q
    split at q
    · rename_i b hb
      obtain ⟨kws, ha, q⟩ := q
      obtain ⟨kvs, e1, q1⟩ := l.rh _ _ ha
      refine ⟨b, .dK kvs, e1, trivial, fun od => ?_⟩
      have hr : RO X.K M (L2.upd H b (.frz od (.dK kvs))) b (.dcl (od, kvs) kws) := ⟨L2.upd_same, q1.tk (Tk.mut l.rh ha)⟩
      have g1 := RH.mut l.rh ha hr
      have f1 : Fr H A (L2.upd H b (.frz od (.dK kvs))) (up A b (.dcl (od, kvs) kws)) := Fr.mut ha
      have back : ∀ {H' : Hp} {A' : AH}, RH X.K M H' A' → Fr (L2.upd H b (.frz od (.dK kvs))) (up A b (.dcl (od, kvs) kws)) H' A' → A' b = some (.dcl (od, kvs) kws) →
          H' b = some (.frz od (.dK kvs)) ∧ RH X.K M (L2.upd H' b (.dK kvs)) (up A' b (.dct kws)) ∧ Tk H' (L2.upd H' b (.dK kvs)) ∧ Fr H A (L2.upd H' b (.dK kvs)) (up A' b (.dct kws)) := fun {H' A'} g f hl => by
        obtain ⟨e2, q2⟩ := g _ _ hl
        exact ⟨e2, RH.mut g hl ⟨kvs, L2.upd_same, q2.tk (Tk.mut g hl)⟩, Tk.mut g hl, (f1.trans f).trans (Fr.mut hl)⟩
      have q0 := q (od, kvs)
      refine ⟨τ, up A b (.dcl (od, kvs) kws), _, ?_, q0⟩
      refine ⟨l.rs.tk (l.rh.tk f1), g1, fun τ' A' h σ' H' r g f => ?_, fun w A' h v H' r g f => ?_, fun τ' A' h σ' H' r g f => ?_, fun τ' A' h σ' H' r g f => ?_, fun _ _ _ _ h => h.elim⟩
      · obtain ⟨b1, b2, b3, b4⟩ := back g f h.1
        exact ⟨b1, l.nx _ _ h.2 _ _ (r.tk b3) b2 b4⟩
      · obtain ⟨b1, b2, b3, b4⟩ := back g f h.1
        exact ⟨b1, l.rt _ _ h.2 _ _ (r.tk b3) b2 b4⟩
      · obtain ⟨b1, b2, b3, b4⟩ := back g f h.1
        exact ⟨b1, l.bk _ _ h.2 _ _ (r.tk b3) b2 b4⟩
      · obtain ⟨b1, b2, b3, b4⟩ := back g f h.1
        exact ⟨b1, l.ct _ _ h.2 _ _ (r.tk b3) b2 b4⟩
    · exact q.elim
  | .rais C as, st, X, sc, W, F, T, S, h => by
    unfold okS at h
    split at h
    · rename_i x px es pc pr
      obtain ⟨h, h7⟩ := and_true h
      obtain ⟨h, h6⟩ := and_true h
      obtain ⟨h, h5⟩ := and_true h
      obtain ⟨h, h4⟩ := and_true h
      obtain ⟨h, h3⟩ := and_true h
      obtain ⟨h1, h2⟩ := and_true h
      obtain rfl := of_decide_eq_true h1
      obtain ⟨hg, hd, _⟩ := h2 |> fun z => globB.gl z F.sc
      obtain ⟨c, hc, hm⟩ := F.exn C (List.contains_iff_mem.mp h3)
      have E := F.err C c hc (of_decide_eq_true h4)
      have hl6 := of_decide_eq_true h6
      rcases E.sh with ⟨e0, p0, p1, p2, p3, p4, hl, ⟨Dd⟩⟩ | ⟨f, e0, f1, f2, f3, p0, p1, p2, p3, p4, p5, p6, p7, p8, p9, hl, ⟨Dd⟩⟩
      · rw [e0] at hl6
        cases as with
        | cons a r => exact absurd hl6 (by show r.len + 1 ≠ 0; omega)
        | nil =>
          have he : es = [] := by
            unfold okEs at h5
            split at h5
            · rfl
            · cases h5
          subst he
          refine PS_imp (L2.ps_raise F.calm T (pmk_err0 (k := 0) E.T Dd hl F.room hg hm (F.bi _ (by decide +kernel)) hd)) fun D σ H => ?_
          rintro ⟨τ, A, D', l, q⟩
          unfold rdS rdEs at q
          exact l.ex _ _ _ _ q _ _ _ _ ⟨c, hc, rfl, .inl e0⟩ l.rs l.rh Fr.refl
      · rw [e0] at hl6
        cases as with
        | nil => cases hl6
        | cons a r =>
          have hr0 : r = .nil := by
            cases r with
            | nil => rfl
            | cons b r => exact absurd hl6 (by show r.len + 1 + 1 ≠ 1; omega)
          subst hr0
          have he : ∃ e, es = [e] ∧ noStar e = true := by
            unfold okEs at h5
            split at h5
            · obtain ⟨h5, h8⟩ := and_true h5
              unfold okEs at h8
              split at h8
              · exact ⟨_, rfl, (and_true (and_true h5).1).1⟩
              · cases h8
            · cases h5
          obtain ⟨e, rfl, hst⟩ := he
          refine PS_imp (L2.ps_raise F.calm T (pmk_err1 (k := 0) E.T f3 Dd hl (Ne.symm f1) (by decide) f2 F.room hg hm (F.bi _ (by decide +kernel)) hd (sndEs (.cons a .nil) [e] X sc W F T h5) hst)) fun D σ H => ?_
          rintro ⟨τ, A, D', l, q⟩
          unfold rdS at q
          refine ⟨τ, A, _, _, l.lx, q, fun ws A1 h1 hl1 vs H1 r1 g1 f1 => ?_⟩
          cases r1 with
          | nil => cases hl1
          | @cons v vs w ws rv rr =>
          cases rr with
          | cons _ _ => exact absurd hl1 (by show ¬ (_ = 1); simp)
          | nil =>
          refine ⟨v, rfl, fun dx hdx => ?_⟩
          have g2 : RH X.K M (L2.upd H1 dx (.xd [(f, v)])) A1 := g1.newT hdx
          refine l.ex _ _ _ _ h1 _ _ _ _ ⟨c, hc, rfl, .inr ⟨dx, [(f, v)], [v], rfl, L2.upd_same, .cons (rv.tk (Tk.new hdx)) .nil, fun i f' hf' => ?_⟩⟩ ((l.rs.tk (l.rh.tk f1)).tk (Tk.new hdx)) g2 (f1.trans (Fr.newT hdx))
          rw [e0] at hf'
          cases i with
          | zero => cases hf'; simp [List.lookup]
          | succ i => cases hf'
    · cases h
  | .tri b hs, st, X, sc, W, F, T, S, h => by
    unfold okS at h
    split at h
    · rename_i bd h0 hds pos
      obtain ⟨h1, h2⟩ := and_true h
      obtain ⟨l, hd, hl⟩ := hs_ok F (S.sto F) hs (h0 :: hds) h2
      refine PS_imp (ps_tryN (tb := fun W' => lowS X.K M W' (rdSs Γ b)) S.stk S.frm (by rw [F.hN]; exact F.nd) T (fun W' pn xe T' po => sndSs b bd (X.tr pn xe) sc W' F.tr T' ⟨S.stk, S.frm, po, S.kind, S.fn⟩ h1) hd) fun D σ H => ?_
      rintro ⟨τ, A, D', l, q⟩
      unfold rdS at q
      refine ⟨τ, A, { D' with ex := fun C ws σ' A' => rdHs Γ hs D' C ws σ' A' }, ⟨l.rs, l.rh, l.nx, l.rt, l.bk, l.ct, ?_⟩, q⟩
      exact fun C ws τ' A' h cls d σ' H' xr rs rh f => hl W D D' C ws cls d σ' H' τ' A' xr (l.go rs rh f) h
    · cases h
theorem sndSs : ∀ (x : Ss) (st : List Stmt) (X : L2.Cx) (sc : Scope) (W : L2.WX), Fx D NN Γ M X sc → L2.Takes X W → StX X → okSs D NN sc x st = true → L2.PSs X st (lowS X.K M W (rdSs Γ x))
  | .nil, st, X, sc, W, F, T, S, h => by
    unfold okSs at h
    split at h
    · refine PSs_imp L2.pss_nil fun D σ H => ?_
      rintro ⟨τ, A, D', l, q⟩
      unfold rdSs at q
      exact l.nx _ _ q _ _ l.rs l.rh Fr.refl
    · cases h
  | .cons a r, st, X, sc, W, F, T, S, h => by
    unfold okSs at h
    split at h
    · obtain ⟨h1, h2⟩ := and_true h
      refine PSs_imp (L2.pss_cons (sndS a _ X sc W F T S h1) (sndSs r _ X sc W F T S h2)) fun D σ H => ?_
      rintro ⟨τ, A, D', l, q⟩
      unfold rdSs at q
      exact ⟨τ, A, { D' with nx := fun σ' A' => rdSs Γ r D' σ' A' }, ⟨l.rs, l.rh, fun τ' A' h σ' H' rs rh f => ⟨τ', A', D', l.go rs rh f, h⟩, l.rt, l.bk, l.ct, l.ex⟩, q⟩
    · cases h
end
end
end N
end
section
set_option maxRecDepth 100000
set_option maxHeartbeats 4000000
/-! The defs of a text, their promises by levels; a law's end. -/
namespace N
open PySem PySem.Spec PyProof.Rows
structure PD where
  key : Str
  dd : He.DefD
  ps : List Str
  NN : List Str
  body : Ss
def PD.d (p : PD) : Def := ⟨p.ps.length, p.NN.length, p.body⟩
def look (ds : List PD) (f : Str) : Option PD := ds.find? fun d => d.key = f
def scB (NN ps : List Str) (sc : Scope) : Bool := (match sc.kind with | .function => true | _ => false) && !sc.isCoroutine && !sc.isGenerator && decide NN.Nodup && decide (NN.take ps.length = ps) &&
  ps.all (fun x => decide (sc.names.lookup x = some .local) || decide (sc.names.lookup x = some .cell)) && sc.names.all fun y => decide (y.2 ≠ .free)
theorem scB_ok {NN ps : List Str} {sc : Scope} (h : scB NN ps sc = true) : L2.FnScope NN ps sc := by
  unfold scB at h
  simp only [Bool.and_eq_true, List.all_eq_true, decide_eq_true_eq, Bool.not_eq_true', Bool.or_eq_true] at h
  obtain ⟨⟨⟨⟨⟨⟨h1, h2⟩, h3⟩, h4⟩, h5⟩, h6⟩, h7⟩ := h
  refine ⟨?_, h2, h3, h4, h5, h6, h7⟩
  split at h1
  · assumption
  · cases h1
section
variable {P : Program} {w : World} {K : PySem.W.Frag} {mg : Str → Option Value} {base : Heap} {M : Names} {ds : List PD} {D : SE}
abbrev FnD (K : PySem.W.Frag) (d : PD) (fd : FuncData) : Prop := L2.FunD K d.dd.name d.dd.qual d.dd.params d.dd.body d.dd.scope [] [] (He.fAd K d.dd.at_) fd
theorem FnD.uniq {d : PD} {a b : FuncData} (F : FnD K d a) (G : FnD K d b) : a = b := by
  obtain ⟨_, _, _, _, _, _, _, _, _, _, _, h1, _⟩ := F.ex
  obtain ⟨_, _, _, _, _, _, _, _, _, _, _, h2, _⟩ := G.ex
  have e := h1.symm.trans h2
  injection e with e
  injection e with _ _ e _
  injection e
def GG (P : Program) (w : World) (K : PySem.W.Frag) (mg : Str → Option Value) (base : Heap) (M : Names) (ds : List PD) (n : Nat) : Gam where
  fn f := fun ws A Q E => ∃ d fd sp, look ds f = some d ∧ FnD K d fd ∧ FnG P w K mg base (L2.CX P w) (2 * n) (He.fAd K d.dd.at_) fd d.ps (lowSp K M sp) ∧ sp ws A Q E
  has f := (look ds f).isSome
theorem GG_ok {n : Nat} {f : Str} {d : PD} {fd : FuncData} (hd : look ds f = some d) (F : FnD K d fd) : FnG P w K mg base (L2.CX P w) (2 * n) (He.fAd K d.dd.at_) fd d.ps (lowSp K M ((GG P w K mg base M ds n).fn f)) := by
  refine ⟨fun vs H Q E h => ?_, fun A outer s H args us vs Q E gd hr e0 hb r hsp => ?_⟩
  · obtain ⟨ws, A', Qw, Ew, r1, g, ⟨d', fd', sp, e1, F', FO, h⟩, k1, k2⟩ := h
    cases hd.symm.trans e1
    exact FO.len vs H Q E ⟨ws, A', Qw, Ew, r1, g, h, k1, k2⟩
  · obtain ⟨ws, A', Qw, Ew, r1, g, ⟨d', fd', sp, e1, F', FO, h⟩, k1, k2⟩ := hsp
    cases hd.symm.trans e1
    cases F.uniq F'
    exact FO.run A outer s H args us vs Q E gd hr e0 hb r ⟨ws, A', Qw, Ew, r1, g, h, k1, k2⟩
theorem GG_mono {n : Nat} {f : Str} {ws : List N.W} {A : AH} {Q : VK} {E : XK} (h : (GG P w K mg base M ds n).fn f ws A Q E) : (GG P w K mg base M ds (n + 1)).fn f ws A Q E := by
  obtain ⟨d, fd, sp, e1, F, FO, h⟩ := h
  exact ⟨d, fd, sp, e1, F, FO.mono (by omega), h⟩
/-- the checks of a def -/
def PD.okB (D : SE) (p : PD) : Bool := okSs D p.NN p.dd.scope p.body p.dd.body && scB p.NN p.ps p.dd.scope && argB p.ps p.dd.params && (match p.dd.dfl, p.dd.kwd with | [], [] => true | _, _ => false)
structure Facts (P : Program) (D : SE) (w : World) (K : PySem.W.Frag) (mg : Str → Option Value) (M : Names) (ds : List PD) : Prop where
  wd : M.w = w
  defs : ∀ f d, look ds f = some d → ∃ fd, FnD K d fd
  bi : ∀ n ∈ biNames, mg n = none
  con : ∀ x ∈ D.ks, ∃ u, mg x = some u ∧ ∀ w, con x = some w → (∃ i, L2.RelV (.int i) u ∧ w = .int i) ∨ ∃ s, L2.RelV (.str s) u ∧ w = .str s
  fn : ∀ f ∈ D.fs, ∃ d, look ds f = some d ∧ mg f = some (.ref (He.fAd K d.dd.at_))
  mks : ∀ C ∈ D.cs, ∃ c, M.cls C = some c ∧ mg C = some (.ref c)
  init : ∀ C c, M.cls C = some c → ∃ d, look ds (meth C "__init__") = some d ∧ L2.Mk K c (He.fAd K d.dd.at_)
  mt : ∀ C c m, M.cls C = some c → m ∈ D.ml → ∀ d, look ds (meth C m) = some d → L2.Meth K c m (He.fAd K d.dd.at_)
  cls : ∀ C c, M.cls C = some c → L2.Cls K c ∧ ∀ (H : Hp) (a dx : Addr) (fs : List (Str × V)), H a = some (.ins c dx fs) → L2.TyOf K H (.ref a) (.ref c)
  fld : ∀ C c f, M.cls C = some c → f ∈ D.fl → (look ds (meth C f)).isSome = false → L2.NoAttr K c f
  isB : ∀ C c n, M.cls C = some c → n ∈ kits → PySem.W.kitOne K (.ref c) (.type n) = some false
  isO : ∀ C c n, M.cls C = some c → n ∈ "NoneType" :: kits → PySem.W.kitOne K (.type n) (.ref c) = some false
  eqm : ∀ C c, M.cls C = some c → ∀ d, look ds (meth C "__eq__") = some d → PySem.W.findIn K (.ref c) "__eq__" = some (some (.ref (He.fAd K d.dd.at_))) ∧ PySem.W.isFn K (.ref (He.fAd K d.dd.at_)) = true ∧ PySem.W.findIn K (.ref c) "__ne__" = some (some (.builtin "object.__ne__")) ∧ PySem.W.mroIn K c (.type "object") = some true
  nf : ∀ C c E e, M.cls C = some c → M.cls E = some e → (E = C ∨ subC E C = false) → PySem.W.notFirst K c (.ref e) = true
  isC : ∀ C c E e, M.cls C = some c → M.cls E = some e → PySem.W.kitOne K (.ref c) (.ref e) = some (subC C E)
  exn : ∀ C ∈ D.xs, ∃ c, M.exc C = some c ∧ mg C = some (.ref c)
  err : ∀ C c, M.exc C = some c → C ≠ "LoreError" → ErrOk P K c C
  exf : ∀ C c, M.exc C = some c → L2.XfC K c ∧ ∀ f ∈ excF C, PySem.W.findIn K (.ref c) f = some none
  exm : ∀ C c E e, M.exc C = some c → M.exc E = some e → PySem.W.exmOne K (.ref c) (.ref e) = some (subX C E)
theorem look_mem {f : Str} {d : PD} (h : look ds f = some d) : d ∈ ds := List.mem_of_find?_eq_some h
theorem binds_of {d : PD} {fd : FuncData} (h : d.okB D = true) (F : FnD K d fd) : L2.Binds K fd d.ps [] := by
  obtain ⟨h, _⟩ := and_true h
  obtain ⟨_, h⟩ := and_true h
  exact L2.FunD.bindsN F fun kV doc pm an cdv ct us hl => argB_ok h kV doc pm an cdv ct us hl
theorem room_in2 {n : Nat} {A : Around} (r : L2.Room (2 * n + 1) A) : L2.Room (2 * n) A.in1.in1 :=
  ⟨r.hd, by have := r.dp; show A.depth + 3 * (2 * n) + 5 < _; omega, by have := r.un; show A.units + 1 + 1 + 16 * (2 * n) + 200 < _; omega⟩
theorem room_in1 {n : Nat} {A : Around} (r : L2.Room (2 * n + 1) A) : L2.Room (2 * n) A.in1 :=
  ⟨r.hd, by have := r.dp; show A.depth + 3 * (2 * n) + 5 < _; omega, by have := r.un; show A.units + 1 + 16 * (2 * n) + 200 < _; omega⟩
theorem fx_of (F : Facts P D w K mg M ds) (hall : ds.all (PD.okB D) = true) {n : Nat} {NN : List Str} {qual : Str} {scope : Scope} {f : Addr} {cd : Value} {A : Around} {outer : List Env} {s : Shared} {H : Hp} {E : L2.XK} (nd : NN.Nodup) (gd : A.guards = some [])
    (hr : L2.Room (2 * n + 1) (A.deeper (envOfC qual scope s.heap.objs.size f cd))) : Fx D NN (GG P w K mg base M ds n) M (L2.cxOf (L2.CX P w) P w K mg base NN qual scope f cd A outer s H E) scope where
  hN := rfl
  nd := nd
  sc := rfl
  calm := rfl
  un := by have := hr.un; show (A.deeper _).units + 65 < cLine; omega
  gd := gd
  wd := F.wd
  bi := F.bi
  con := F.con
  fn := fun x hx => by
    obtain ⟨d, hd, hm⟩ := F.fn x hx
    obtain ⟨fd, FD⟩ := F.defs x d hd
    exact ⟨_, hm, ⟨fd, d.ps, 2 * n, binds_of (List.all_eq_true.mp hall d (look_mem hd)) FD, GG_ok hd FD, hr.mono (by omega)⟩, FD.kp, ⟨fd, d.ps, 2 * n, binds_of (List.all_eq_true.mp hall d (look_mem hd)) FD, GG_ok hd FD, room_in2 hr⟩⟩
  mks := F.mks
  init := fun C c h => by
    obtain ⟨d, hd, hM⟩ := F.init C c h
    obtain ⟨fd, FD⟩ := F.defs _ d hd
    exact ⟨_, fd, d.ps, 2 * n, hM, binds_of (List.all_eq_true.mp hall d (look_mem hd)) FD, GG_ok hd FD, hr⟩
  mt := fun C c m h hm hh => by
    obtain ⟨d, hd⟩ := Option.isSome_iff_exists.mp (show (look ds (meth C m)).isSome = true from hh)
    obtain ⟨fd, FD⟩ := F.defs _ d hd
    exact ⟨_, F.mt C c m h hm d hd, ⟨fd, d.ps, 2 * n, binds_of (List.all_eq_true.mp hall d (look_mem hd)) FD, GG_ok hd FD, hr.mono (by omega)⟩, FD.kp, ⟨fd, d.ps, 2 * n, binds_of (List.all_eq_true.mp hall d (look_mem hd)) FD, GG_ok hd FD, room_in2 hr⟩⟩
  cls := F.cls
  fld := F.fld
  isB := F.isB
  isO := F.isO
  eqm := fun C c h hh => by
    obtain ⟨d, hd⟩ := Option.isSome_iff_exists.mp (show (look ds (meth C "__eq__")).isSome = true from hh)
    obtain ⟨fd, FD⟩ := F.defs _ d hd
    obtain ⟨e1, e2, e3, e4⟩ := F.eqm C c h d hd
    exact ⟨⟨_, fd, d.ps, 2 * n, e1, e2, binds_of (List.all_eq_true.mp hall d (look_mem hd)) FD, GG_ok hd FD, hr.mono (by omega), room_in1 hr⟩, e3, e4⟩
  nf := F.nf
  isC := F.isC
  room := hr.mono (by omega)
  exn := F.exn
  err := F.err
  exf := F.exf
  exm := F.exm
theorem rs_start {H : Hp} : ∀ {vs : List V} {ws : List N.W} (n : Nat), Reps K H vs ws → RS K H (vs.map some ++ List.replicate (n - vs.length) Option.none) (ws.map Option.some ++ List.replicate (n - ws.length) Option.none)
  | _, _, n, .nil => by
    show RS K H (List.replicate (n - 0) Option.none) (List.replicate (n - 0) Option.none)
    generalize n - 0 = m
    induction m with
    | zero => exact .nil
    | succ m ih => exact .none ih
  | _, _, 0, .cons (vs := vs) (ws := ws) r t => by
    have q := rs_start 0 t
    rw [Nat.zero_sub, Nat.zero_sub] at q
    rw [Nat.zero_sub, Nat.zero_sub]
    exact .some r q
  | _, _, n + 1, .cons (vs := vs) (ws := ws) r t => by
    rw [List.length_cons, List.length_cons, Nat.add_sub_add_right, Nat.add_sub_add_right]
    exact .some r (rs_start n t)
theorem GG_step (F : Facts P D w K mg M ds) (hall : ds.all (PD.okB D) = true) {n : Nat} {f : Str} {d : PD} {sp : Sp} (hd : look ds f = some d) (hk : Keeps (GG P w K mg base M ds n) d.d sp) {ws : List N.W} {A : AH} {Q : VK} {E : XK} (h : sp ws A Q E) :
    (GG P w K mg base M ds (n + 1)).fn f ws A Q E := by
  obtain ⟨fd, FD⟩ := F.defs f d hd
  have hok := List.all_eq_true.mp hall d (look_mem hd)
  obtain ⟨hok, _⟩ := and_true hok
  obtain ⟨hok, _⟩ := and_true hok
  obtain ⟨hb, hsc⟩ := and_true hok
  have S := scB_ok hsc
  refine ⟨d, fd, sp, hd, FD, ?_, h⟩
  refine fn_ofG (k := 2 * n + 1) FD S (fun vs H Q E q => ?_) fun cdv A outer s H vs Q E gd hr q => ?_
  · obtain ⟨ws, A', Qw, Ew, r, g, q, _⟩ := q
    rw [r.length]
    exact (hk ws A' Qw Ew q).1
  · obtain ⟨ws, A', Qw, Ew, r, g, q, k1, k2⟩ := q
    obtain ⟨hl, body⟩ := hk ws A' Qw Ew q
    refine ⟨lowS K M (fun cls d _ H => E cls d H) (rdSs (GG P w K mg base M ds n) d.body), sndSs d.body d.dd.body _ d.dd.scope _ (fx_of F hall S.nd gd hr) (L2.takes_of rfl rfl rfl rfl) ⟨rfl, rfl, L2.passes_of rfl, S.kind, fun _ => rfl⟩ hb, ?_⟩
    refine ⟨start d.NN.length ws, A', _, ⟨?_, g, ?_, ?_, ?_, ?_, ?_⟩, body⟩
    · exact rs_start _ r
    · exact fun τ' A'' ⟨B, sB, hB⟩ σ' H' rs rh f => k1 .non B hB .non H' .non (rh.dn sB) (f.dn sB)
    · exact fun w A'' ⟨B, sB, hB⟩ v H' r1 r2 f => k1 w B hB v H' r1 (r2.dn sB) (f.dn sB)
    · exact fun _ _ h => h.elim
    · exact fun _ _ h => h.elim
    · exact fun C us τ' A'' ⟨B, sB, hB⟩ cls dd σ' H' xr rs rh f => k2 C us B hB cls dd H' xr (rh.dn sB) (f.dn sB)
end
/-! ### what a plain proof sees -/
structure Sys (ds : List PD) (G : Nat → Gam) : Prop where
  has : ∀ n f, (G n).has f = (look ds f).isSome
  step : ∀ n f d sp, look ds f = some d → Keeps (G n) d.d sp → ∀ ws A Q E, sp ws A Q E → (G (n + 1)).fn f ws A Q E
  mono : ∀ n f ws A Q E, (G n).fn f ws A Q E → (G (n + 1)).fn f ws A Q E
theorem Sys.up {ds : List PD} {G : Nat → Gam} (S : Sys ds G) {n m : Nat} (h : n ≤ m) {f : Str} {ws : List N.W} {A : AH} {Q : VK} {E : XK} (q : (G n).fn f ws A Q E) : (G m).fn f ws A Q E := by
  induction h with
  | refl => exact q
  | step _ ih => exact S.mono _ _ _ _ _ _ ih
theorem GG_sys {P : Program} {w : World} {K : PySem.W.Frag} {mg : Str → Option Value} {base : Heap} {M : Names} {ds : List PD} {D : SE} (F : Facts P D w K mg M ds) (hall : ds.all (PD.okB D) = true) : Sys ds (GG P w K mg base M ds) :=
  ⟨fun _ _ => rfl, fun n f d sp hd hk ws A Q E h => GG_step F hall hd hk h, fun n f ws A Q E h => GG_mono h⟩
/-- what a law's plain proof gives -/
def Plain (ds : List PD) (lv n : Nat) : Prop := ∀ G, Sys ds G → ∀ ns : List Int, ns.length ≤ n → (G lv).fn "law" [.fz (ns.map .int)] (fun _ => none) (fun v _ => v = .bl true) fun _ _ _ => False
theorem Reps.ints {K : PySem.W.Frag} {H : Hp} : ∀ ns : List Int, Reps K H (ns.map L2.V.int) (ns.map N.W.int)
  | [] => .nil
  | i :: r => .cons (.int i) (Reps.ints r)
theorem law_end {P : Program} {w : World} {K : PySem.W.Frag} {mg : Str → Option Value} {M : Names} {ds : List PD} {D : SE} {d : PD} {x : Str} {lv n : Nat} (F : Facts P D w K mg M ds) (hall : ds.all (PD.okB D) = true) (hd : look ds "law" = some d) (hx : d.ps = [x]) (hp : Plain ds lv n) :
    ∃ (fd : FuncData) (sp : L2.Sp), (∀ (s : Shared) (u : Value), BindsTo s fd ⟨[u], []⟩ [(x, u)]) ∧
      (∀ (H : Hp) (a : Addr) (ns : List Int), ns.length ≤ n → L2.Only H → L2.SqL K H a (ns.map L2.V.int) → sp [.ref a] H (fun v _ => v = .bl true) fun _ _ _ => False) ∧
      ∀ base : Heap, K.In base → base.Ns mainGlobals mg → FnG P w K mg base (L2.CX P w) (2 * lv) (He.fAd K d.dd.at_) fd [x] sp := by
  obtain ⟨fd, FD⟩ := F.defs _ d hd
  have hok := List.all_eq_true.mp hall d (look_mem hd)
  obtain ⟨h, _⟩ := and_true hok
  obtain ⟨_, h⟩ := and_true h
  refine ⟨fd, fun vs H Q E => (∃ a ns, vs = [.ref a] ∧ ns.length ≤ n ∧ L2.Only H ∧ L2.SqL K H a (ns.map L2.V.int)) ∧ ∀ H', Q (.bl true) H', fun s u => ?_, fun H a ns hn hO hS => ⟨⟨a, ns, rfl, hn, hO, hS⟩, fun _ => rfl⟩, fun base hK hG => ?_⟩
  · have q := L2.FunD.bindsA (ps := d.ps) FD (fun kV doc pm an cdv ct us hl => argB_ok h kV doc pm an cdv ct us hl) s [u] (by rw [hx]; rfl)
    rw [hx] at q
    exact q
  · have q := GG_ok (P := P) (w := w) (mg := mg) (base := base) (M := M) (n := lv) hd FD
    rw [hx] at q
    refine q.imp fun vs H Q E => ?_
    rintro ⟨⟨a, ns, rfl, hn, hO, hS⟩, hQ⟩
    refine ⟨[.fz (ns.map .int)], fun _ => none, _, _, .cons ?_ .nil, (fun _ _ e => by cases e), hp _ (GG_sys F hall) ns hn, fun w A' hw v H' r _ _ => ?_, fun _ _ _ h => h.elim⟩
    · rcases hS with (hS | ⟨p, hS⟩) | hS
      · rcases hO a with z | ⟨o, ys, z⟩
        · rw [hS] at z; cases z
        · rw [hS] at z; cases z
      · exact .fz hS (Reps.ints ns)
      · exact .fk (.inr hS) (Reps.ints ns)
    · subst hw
      cases r
      exact hQ H'
/-- a law: F gives the written part, the function object, the promise over every base (as the layer's end, the exceptions by the world) -/
theorem walk_end {l : PySem.W.OpenLaw} {n k : Nat} {q : Program} {loose : List Str} {XP : (Str → Option Value) → Heap → Prop} {YP : World → Heap → Prop} {d : DefRec} {x : Str}
    (hn : l.most = some n) (hn2 : n ≤ sizeLine) (hdf : d.params.defaults = []) (hr : L2.Room k PySem.callerA)
    (F : ∀ (w : World) (mg : Str → Option Value) (fa : Addr) (h : Heap), YP w h → h.Ns mainGlobals mg → mg d.name = some (.ref fa) →
      ∃ (K : PySem.W.Frag) (fd : FuncData) (sp : L2.Sp), K.In h ∧ (∀ (s : Shared) (u : Value), BindsTo s fd ⟨[u], []⟩ [(x, u)]) ∧
        (∀ (H : Hp) (a : Addr) (ns : List Int), ns.length ≤ n → L2.Only H → L2.SqL K H a (ns.map L2.V.int) → sp [.ref a] H (fun v _ => v = .bl true) fun _ _ _ => False) ∧
        ∀ base : Heap, K.In base → base.Ns mainGlobals mg → FnG l.prog w K mg base (L2.CX l.prog w) k fa fd [x] sp) :
    PySem.W.WalkO q loose XP YP l.row.toRowW d [] (fun f vs => PySem.call f vs) := by
  refine Att.attach_call hn hdf fun w s₀ s₁ mg mb fa o pm cd doc a vs ns G Y ho hd hcd hmg hobj hints hlen hg => ?_
  obtain ⟨K, fd, sp, KX, hb, hsp, hF⟩ := F w mg fa _ Y G.T.g hmg
  refine law_callG (CX := L2.CX l.prog w) KX G.T.g G.T.b G.T.builtins G.T.nolimit hg hobj hints (Nat.le_trans hlen hn2) hr hF hb (fun H hO hS => hsp H a ns hlen hO hS) fun H e s' z => ?_
  obtain ⟨_, _, _, _, _, _, _, _, _, _, _, _, z⟩ := z
  exact z.elim
/-! ### the facts, checked -/
def names (D : SE) (K : PySem.W.Frag) (w : World) : Names := ⟨fun C => if D.cs.contains C then some (He.ga K C) else none, fun C => if D.xs.contains C then some (He.ga K C) else none, w⟩
def conB (K : PySem.W.Frag) (x : Str) : Bool := match con x with
  | some (.int i) => (He.Fa.int x i).ok K
  | some (.str s) => (He.Fa.str x s).ok K
  | _ => false
def eqB (D : SE) (ds : List PD) (K : PySem.W.Frag) (C : Str) : Bool := (match look ds (meth C "__eq__") with
    | some d => decide (PySem.W.findIn K (.ref (He.ga K C)) "__eq__" = some (some (.ref (He.fAd K d.dd.at_)))) && PySem.W.isFn K (.ref (He.fAd K d.dd.at_)) && decide (PySem.W.findIn K (.ref (He.ga K C)) "__ne__" = some (some (.builtin "object.__ne__"))) && decide (PySem.W.mroIn K (He.ga K C) (.type "object") = some true)
    | none => true) && D.cs.all fun E => !(decide (E = C) || !subC E C) || PySem.W.notFirst K (He.ga K C) (.ref (He.ga K E))
def clsB (D : SE) (ds : List PD) (K : PySem.W.Frag) (C : Str) : Bool :=
  (He.Fa.cls C).ok K && (He.Fa.glo C).ok K && (He.Fa.mkr C).ok K &&
  decide (PySem.W.findIn K (.ref (He.ga K C)) "__class__" = some (some (.builtin "object.__class__"))) && decide (PySem.W.specialIn K (.builtin "object.__class__") "__get__" = some (some (.builtin "getset_descriptor.__get__"))) &&
  decide (PySem.W.takesIn K (.builtin "object.__class__") = some true) && decide (PySem.W.mroIn K (He.ga K C) (.type "object") = some true) &&
  (kits.all fun n => decide (PySem.W.kitOne K (.ref (He.ga K C)) (.type n) = some false)) && (("NoneType" :: kits).all fun n => decide (PySem.W.kitOne K (.type n) (.ref (He.ga K C)) = some false)) &&
  (D.cs.all fun E => decide (PySem.W.kitOne K (.ref (He.ga K C)) (.ref (He.ga K E)) = some (subC C E))) &&
  (match look ds (meth C "__init__") with | some d => decide (He.fAd K d.dd.at_ = He.ma K (He.ga K C) "__init__") | none => false) &&
  (D.ml.all fun m => match look ds (meth C m) with | some d => decide (He.fAd K d.dd.at_ = He.ma K (He.ga K C) m) && (He.Fa.meth C m).ok K | none => true) &&
  (D.fl.all fun f => (look ds (meth C f)).isSome || (He.Fa.noat C f).ok K)
def excB (P : Program) (D : SE) (K : PySem.W.Frag) (C : Str) : Bool := (He.Fa.glo C).ok K && (decide (C = "LoreError") || errB P K C) && L2.xfB K (He.ga K C) && ((excF C).all fun f => decide (PySem.W.findIn K (.ref (He.ga K C)) f = some none)) && D.xs.all fun E => decide (PySem.W.exmOne K (.ref (He.ga K C)) (.ref (He.ga K E)) = some (subX C E))
def exB (P : Program) (D : SE) (ds : List PD) (K : PySem.W.Frag) : Bool :=
  D.xs.all (excB P D K) && (biNames.all fun n => (He.Fa.free n).ok K) && (D.ks.all (conB K)) && (D.fs.all fun f => (He.Fa.glo f).ok K && match look ds f with | some d => decide (d.dd.at_ = (f, none)) | none => false) && D.cs.all (eqB D ds K) && D.cs.all (clsB D ds K)
theorem names_cls {D : SE} {K : PySem.W.Frag} {w : World} {C : Str} {c : Addr} (h : (names D K w).cls C = some c) : C ∈ D.cs ∧ c = He.ga K C := by
  unfold names at h
  by_cases hc : D.cs.contains C = true
  · have h : (if D.cs.contains C = true then some (He.ga K C) else none) = some c := h
    rw [if_pos hc] at h
    cases h
    exact ⟨List.contains_iff_mem.mp hc, rfl⟩
  · have h : (if D.cs.contains C = true then some (He.ga K C) else none) = some c := h
    rw [if_neg hc] at h
    cases h
theorem facts_of {P : Program} {D : SE} {ds : List PD} {w : World} {h : Heap} {K : PySem.W.Frag} {mg : Str → Option Value} (hall : ds.all (PD.okB D) = true) (X : K.In h) (G : h.Ns mainGlobals mg) (c : He.SaysX [] (ds.map (·.dd)) [] [] (exB P D ds) w h K) : Facts P D w K mg (names D K w) ds := by
  have e := c.more
  unfold exB at e
  obtain ⟨e, e4⟩ := and_true e
  obtain ⟨e, e5⟩ := and_true e
  obtain ⟨e, e3⟩ := and_true e
  obtain ⟨e, e2⟩ := and_true e
  obtain ⟨e0, e1⟩ := and_true e
  have cl : ∀ {C a}, (names D K w).cls C = some a → a = He.ga K C ∧ clsB D ds K C = true := fun {C a} hC => by
    obtain ⟨h1, h2⟩ := names_cls hC
    exact ⟨h2, List.all_eq_true.mp e4 C h1⟩
  have parts : ∀ {C}, clsB D ds K C = true → _ := fun {C} h => by
    unfold clsB at h
    simp only [Bool.and_eq_true] at h
    exact h
  have xl : ∀ {C a}, (names D K w).exc C = some a → C ∈ D.xs ∧ a = He.ga K C := fun {C a} h => by
    by_cases hc : D.xs.contains C = true
    · have h : (if D.xs.contains C = true then some (He.ga K C) else none) = some a := h
      rw [if_pos hc] at h
      cases h
      exact ⟨List.contains_iff_mem.mp hc, rfl⟩
    · have h : (if D.xs.contains C = true then some (He.ga K C) else none) = some a := h
      rw [if_neg hc] at h
      cases h
  have xp : ∀ {C}, C ∈ D.xs → (((((He.Fa.glo C).ok K = true ∧ (decide (C = "LoreError") || errB P K C) = true) ∧ L2.xfB K (He.ga K C) = true) ∧ ((excF C).all fun f => decide (PySem.W.findIn K (.ref (He.ga K C)) f = some none)) = true) ∧ (D.xs.all fun E => decide (PySem.W.exmOne K (.ref (He.ga K C)) (.ref (He.ga K E)) = some (subX C E))) = true) := fun {C} h => by
    have q := List.all_eq_true.mp e0 C h
    unfold excB at q
    simpa only [Bool.and_eq_true] using q
  refine ⟨rfl, ?_, ?_, ?_, ?_, ?_, ?_, ?_, ?_, ?_, ?_, ?_, ?_, ?_, ?_, ?_, ?_, ?_, ?_⟩
  · intro f d hd
    obtain ⟨fd, FD⟩ := c.t.d.defs (d := d.dd) (List.mem_map_of_mem (look_mem hd))
    have hok := List.all_eq_true.mp hall d (look_mem hd)
    obtain ⟨_, hz⟩ := and_true hok
    split at hz
    · rename_i q1 q2
      have r1 : d.dd.dvs K = [] := by unfold He.DefD.dvs; rw [q1]; rfl
      have r2 : d.dd.kws K = [] := by unfold He.DefD.kws; rw [q2]; rfl
      rw [r1, r2] at FD
      exact ⟨fd, FD⟩
    · cases hz
  · exact fun n hn => He.free_ok X G (List.all_eq_true.mp e1 n hn)
  · intro x hx
    have q := List.all_eq_true.mp e2 x hx
    unfold conB at q
    split at q
    · rename_i i hi
      obtain ⟨t, ht⟩ := He.int_ok X G q
      refine ⟨_, ht, fun w hw => .inl ⟨i, ⟨t, rfl⟩, ?_⟩⟩
      rw [hi] at hw; cases hw; rfl
    · rename_i i hi
      obtain ⟨t, ht⟩ := He.str_ok X G q
      refine ⟨_, ht, fun w hw => .inr ⟨i, ⟨t, rfl⟩, ?_⟩⟩
      rw [hi] at hw; cases hw; rfl
    · cases q
  · intro f hf
    obtain ⟨q1, q2⟩ := and_true (List.all_eq_true.mp e3 f hf)
    cases hd : look ds f with
    | none => rw [hd] at q2; cases q2
    | some d =>
      rw [hd] at q2
      refine ⟨d, rfl, ?_⟩
      rw [of_decide_eq_true q2]
      exact He.glo_ok X G q1
  · intro C hC
    have q := List.all_eq_true.mp e4 C hC
    refine ⟨He.ga K C, ?_, He.glo_ok X G (parts q).1.1.1.1.1.1.1.1.1.1.1.2⟩
    show (if D.cs.contains C = true then some (He.ga K C) else none) = _
    rw [if_pos (List.contains_iff_mem.mpr hC)]
  · intro C a hC
    obtain ⟨rfl, q⟩ := cl hC
    have q3 := (parts q).1.1.2
    cases hd : look ds (meth C "__init__") with
    | none => rw [hd] at q3; cases q3
    | some d =>
      rw [hd] at q3
      refine ⟨d, rfl, ?_⟩
      rw [of_decide_eq_true q3]
      exact He.mkr_ok (parts q).1.1.1.1.1.1.1.1.1.1.2
  · intro C a m hC hm d hd
    obtain ⟨rfl, q⟩ := cl hC
    have q3 := List.all_eq_true.mp (parts q).1.2 m hm
    rw [hd] at q3
    obtain ⟨q4, q5⟩ := and_true q3
    rw [of_decide_eq_true q4]
    exact He.meth_ok q5
  · intro C a hC
    obtain ⟨rfl, q⟩ := cl hC
    have p := parts q
    have c1 := He.cls_ok p.1.1.1.1.1.1.1.1.1.1.1.1
    exact ⟨c1, fun H a dx fs e => .ins e c1 (of_decide_eq_true p.1.1.1.1.1.1.1.1.1.2) (of_decide_eq_true p.1.1.1.1.1.1.1.1.2) (of_decide_eq_true p.1.1.1.1.1.1.1.2) (of_decide_eq_true p.1.1.1.1.1.1.2)⟩
  · intro C a f hC hf hh
    obtain ⟨rfl, q⟩ := cl hC
    have q3 := List.all_eq_true.mp (parts q).2 f hf
    rw [hh, Bool.false_or] at q3
    exact He.noat_ok q3
  · intro C a n hC hn
    obtain ⟨rfl, q⟩ := cl hC
    exact of_decide_eq_true (List.all_eq_true.mp (parts q).1.1.1.1.1.2 n hn)
  · intro C a n hC hn
    obtain ⟨rfl, q⟩ := cl hC
    exact of_decide_eq_true (List.all_eq_true.mp (parts q).1.1.1.1.2 n hn)
  · intro C a hC d hd
    obtain ⟨h1, rfl⟩ := names_cls hC
    have q := (and_true (List.all_eq_true.mp e5 C h1)).1
    rw [hd] at q
    obtain ⟨q, q4⟩ := and_true q
    obtain ⟨q, q3⟩ := and_true q
    obtain ⟨q1, q2⟩ := and_true q
    exact ⟨of_decide_eq_true q1, q2, of_decide_eq_true q3, of_decide_eq_true q4⟩
  · intro C a E b hC hE hs
    obtain ⟨h1, rfl⟩ := names_cls hC
    obtain ⟨h2, rfl⟩ := names_cls hE
    have q := List.all_eq_true.mp (and_true (List.all_eq_true.mp e5 C h1)).2 E h2
    have z : (decide (E = C) || !subC E C) = true := by
      rcases hs with hs | hs
      · rw [hs]; simp
      · rw [hs]; simp
    rw [z] at q
    simpa using q
  · intro C a E b hC hE
    obtain ⟨rfl, q⟩ := cl hC
    obtain ⟨hE1, rfl⟩ := names_cls hE
    exact of_decide_eq_true (List.all_eq_true.mp (parts q).1.1.1.2 E hE1)
  · intro C hC
    refine ⟨He.ga K C, ?_, He.glo_ok X G (xp hC).1.1.1.1⟩
    show (if D.xs.contains C = true then some (He.ga K C) else none) = _
    rw [if_pos (List.contains_iff_mem.mpr hC)]
  · intro C a h hne
    obtain ⟨h1, rfl⟩ := xl h
    have q := (xp h1).1.1.1.2
    rw [decide_eq_false hne, Bool.false_or] at q
    exact errB_ok q
  · intro C a h
    obtain ⟨h1, rfl⟩ := xl h
    exact ⟨L2.xfB_ok (xp h1).1.1.2, fun f hf => of_decide_eq_true (List.all_eq_true.mp (xp h1).1.2 f hf)⟩
  · intro C a E b h hE
    obtain ⟨h1, rfl⟩ := xl h
    obtain ⟨h2, rfl⟩ := xl hE
    exact of_decide_eq_true (List.all_eq_true.mp (xp h1).2 E h2)
/-! ### what is looked at when the module has run: the statics, too -/
def asN (g : Addr → Option Obj) (n : Nat) : List Addr := cStatics :: He.asD g n
def obsN (n : Nat) (fn : List He.DefD) (ex : PySem.W.Frag → Bool) (g : Addr → Option Obj) : He.AlX := (He.obsT [] fn [] (He.frT g (asN g n)), ex (He.frT g (asN g n)))
def hookN (n : Nat) (fn : List He.DefD) (ex : PySem.W.Frag → Bool) : PySem.W.Hook where
  α := He.AlX
  obs := fun s => obsN n fn ex s.heap.get?
  val := fun w => He.valX fn [] w
  says := fun w h => ∃ K : PySem.W.Frag, K.In h ∧ He.SaysX [] fn [] [] ex w h K
  of := fun w _ e => ⟨_, He.frT_in, ⟨congrArg (fun z : He.AlX => z.1) e, congrArg (fun z : He.AlX => z.2) e, fun p hp => (nomatch hp), fun p hp => (nomatch hp), fun p hp => (nomatch hp)⟩⟩
  keeps := fun _ _ _ ⟨K, hK, c⟩ k => ⟨K, PySem.W.Frag.In.keeps hK k, ⟨c.t, c.more, c.hd, c.out, fun p hp => k _ _ (c.empty p hp)⟩⟩
theorem obsN_eq {n : Nat} {fn : List He.DefD} {ex : PySem.W.Frag → Bool} {g : Addr → Option Obj} {s : Shared} (h : ∀ a, g a = s.heap.get? a) : obsN n fn ex g = (hookN n fn ex).obs s := by
  have e : g = s.heap.get? := funext h
  rw [e] <;> rfl
end N
end
section
set_option maxRecDepth 100000
/-! Plain proofs: what they lean on; the promises of defs that many laws share. -/
namespace N
open PySem
theorem dn_of {A : AH} {P : AH → Prop} (h : P A) : dn A P := ⟨A, fun _ _ h => h, h⟩
def Tells (Γ : Gam) (f : Str) (sp : Sp) : Prop := ∀ ws A Q E, sp ws A Q E → Γ.fn f ws A Q E
theorem Sys.tell {ds : List PD} {G : Nat → Gam} (S : Sys ds G) {n : Nat} {f : Str} {d : PD} {sp : Sp} (hd : look ds f = some d) (hk : Keeps (G n) d.d sp) : Tells (G (n + 1)) f sp := fun ws A Q E h => S.step n f d sp hd hk ws A Q E h
theorem Tells.up {ds : List PD} {G : Nat → Gam} (S : Sys ds G) {n m : Nat} {f : Str} {sp : Sp} (h : n ≤ m) (t : Tells (G n) f sp) : Tells (G m) f sp := fun ws A Q E q => S.up h (t ws A Q E q)
@[simp] theorem ty1 : (Ty.bool == Ty.int) = false := rfl
@[simp] theorem ty2 : (Ty.int == Ty.bool) = false := rfl
@[simp] theorem ty3 : (Ty.tuple == Ty.int) = false := rfl
@[simp] theorem ty4 : (Ty.tuple == Ty.bool) = false := rfl
@[simp] theorem ty5 : (Ty.tuple == Ty.str) = false := rfl
@[simp] theorem ty6 : (Ty.tuple == Ty.tuple) = true := rfl
@[simp] theorem ty7 : (Ty.str == Ty.str) = true := rfl
@[simp] theorem ty8 : (Ty.int == Ty.int) = true := rfl
@[simp] theorem ty9 : (Ty.str == Ty.tuple) = false := rfl
@[simp] theorem ty10 : (Ty.int == Ty.tuple) = false := rfl
@[simp] theorem ty11 : (Ty.int == Ty.str) = false := rfl
@[simp] theorem ty12 : (Ty.str == Ty.int) = false := rfl
@[simp] theorem ty13 : (Ty.bool == Ty.bool) = true := rfl
/-! ### is_integer, is_within, is_pair -/
def b_is_integer : Ss := (.cons (.ret (.and (.isi (.v 0) .int) (.not (.isi (.v 0) .bool)))) .nil)
def spIntegerI : Sp := fun ws A Q _ => ∃ i : Int, ws = [.int i] ∧ Q (.bl true) A
theorem k_is_integer (Γ : Gam) : Keeps Γ ⟨1, 1, b_is_integer⟩ spIntegerI := by
  rintro ws A Q E ⟨i, rfl, h⟩
  refine ⟨rfl, ?_⟩
  simp [gvs, gW, gDo, getv, setv, start, boolK, b_is_integer, rdSs, rdS, rdE, isiW]
  exact dn_of h
def b_is_within : Ss := (.cons (.ret (.and (.call "is_integer" (.cons (.v 0) .nil)) (.cmp2 .le .le (.v 1) (.v 0) (.v 2)))) .nil)
def spWithinI : Sp := fun ws A Q _ => ∃ i a b : Int, ws = [.int i, .int a, .int b] ∧ Q (.bl (decide (a ≤ i ∧ i ≤ b))) A
theorem k_is_within (Γ : Gam) (h1 : Tells Γ "is_integer" spIntegerI) : Keeps Γ ⟨3, 3, b_is_within⟩ spWithinI := by
  rintro ws A Q E ⟨i, a, b, rfl, h⟩
  refine ⟨rfl, ?_⟩
  simp [gvs, gW, gDo, getv, setv, start, boolK, b_is_within, rdSs, rdS, rdE, rdEs]
  refine h1 _ _ _ _ ⟨i, rfl, ?_⟩
  simp [cmpW, int2]
  by_cases h1 : a ≤ i
  · simp [h1] at h ⊢
    exact dn_of h
  · simp [h1] at h ⊢
    exact dn_of h
def b_is_pair : Ss := (.cons (.ret (.and (.isi (.v 0) .tuple) (.cmp .eq (.bi .len (.cons (.v 0) .nil)) (.int 2)))) .nil)
theorem eq_int {i j : Int} {A : AH} {k : Bool → Prop} (h : k (decide (i = j))) : eqW (.int i) (.int j) A k := by
  refine ⟨_, _, .int i, .int j, ⟨by simp [PyData.canLay0], by simp [PyData.depth]⟩, ⟨by simp [PyData.canLay0], by simp [PyData.depth]⟩, ?_⟩
  have e : PyData.eqv (.int i) (.int j) = decide (i = j) := by simp [PyData.eqv]; exact Bool.beq_eq_decide_eq i j
  rw [e]; exact h
def spPairT : Sp := fun ws A Q _ => ∃ xs, ws = [.tup xs] ∧ Q (.bl (decide (xs.length = 2))) A
theorem k_is_pair (Γ : Gam) : Keeps Γ ⟨1, 1, b_is_pair⟩ spPairT := by
  rintro ws A Q E ⟨xs, rfl, h⟩
  refine ⟨rfl, ?_⟩
  simp [gvs, gW, gDo, getv, setv, start, boolK, b_is_pair, rdSs, rdS, rdE, rdEs, isiW, biW, cmpW]
  refine eq_int (dn_of ?_)
  have e : decide ((xs.length : Int) = 2) = decide (xs.length = 2) := by
    by_cases q : xs.length = 2
    · simp [q]
    · rw [decide_eq_false q, decide_eq_false (by omega)]
  rw [e]; exact h
end N
end
section
set_option maxRecDepth 100000
set_option maxHeartbeats 1000000
/-! The laws' pool of numbers. -/
namespace N
open PySem
def Pool (p c : Addr) (m : Nat) (A : AH) : Prop := p ≠ c ∧ ∃ (seed k : Int) (cs : List Int), A p = some (.lst [.int seed, .int k, .ref c]) ∧ A c = some (.lst (cs.map .int)) ∧ 0 ≤ seed ∧ seed < 2 ^ 40 ∧ 0 ≤ k ∧ k + m ≤ 2 ^ 1000
def PFr (p c : Addr) (A A' : AH) : Prop := ∀ q, q ≠ p → q ≠ c → A' q = A q
theorem log_small {i : Int} {n : Nat} (h : i.natAbs < 2 ^ n) : i.natAbs.log2 < n ∨ i.natAbs = 0 := by
  by_cases e : i.natAbs = 0
  · exact .inr e
  · exact .inl ((Nat.log2_lt e).mpr h)
theorem okMul_of {i j : Int} (a b : Nat) (h1 : i.natAbs < 2 ^ a) (h2 : j.natAbs < 2 ^ b) (h : a + b < 1000000) : okMul i j := by
  have l1 : i.natAbs.log2 ≤ a := by
    rcases log_small h1 with q | q
    · omega
    · rw [q]; simp
  have l2 : j.natAbs.log2 ≤ b := by
    rcases log_small h2 with q | q
    · omega
    · rw [q]; simp
  unfold okMul; omega
theorem okDiv_of {j : Int} (a : Nat) (h0 : 0 < j) (h : j.natAbs < 2 ^ a) (ha : a < 9000) : okDiv j := by
  refine ⟨h0, ?_⟩
  rcases log_small h with q | q
  · omega
  · omega
end N
end
section
set_option maxRecDepth 100000
/-! Plain data: ints, texts, tuples of such. -/
namespace N
open PySem
mutual
def datW : W → PyData
  | .int i => .int i
  | .str s => .str s
  | .tup xs => .tuple (datL xs)
  | .bl b => .bool b
  | _ => .none
def datL : List W → List PyData
  | [] => []
  | x :: r => datW x :: datL r
end
mutual
def pw : W → Bool
  | .int _ => true
  | .str s => PyData.strOk s
  | .tup xs => pwL xs
  | _ => false
def pwL : List W → Bool
  | [] => true
  | x :: r => pw x && pwL r
end
theorem pwL_iff : ∀ {xs : List W}, pwL xs = true ↔ ∀ x ∈ xs, pw x = true
  | [] => by simp [pwL]
  | x :: r => by simp [pwL, pwL_iff (xs := r)]
mutual
theorem dw_of {A : AH} : ∀ {x : W}, pw x = true → DW A x (datW x)
  | .int i, _ => by unfold datW; exact .int i
  | .str s, _ => by unfold datW; exact .str s
  | .tup xs, h => by unfold datW; unfold pw at h; exact .tup (dws_of h)
  | .non, h => by unfold pw at h; cases h
  | .bl _, h => by unfold pw at h; cases h
  | .fz _, h => by unfold pw at h; cases h
  | .ref _, h => by unfold pw at h; cases h
  | .exc _ _, h => by unfold pw at h; cases h
theorem dws_of {A : AH} : ∀ {xs : List W}, pwL xs = true → DWs A xs (datL xs)
  | [], _ => by unfold datL; exact .nil
  | x :: r, h => by
    unfold pwL at h; unfold datL
    rw [Bool.and_eq_true] at h
    exact .cons (dw_of h.1) (dws_of h.2)
end
mutual
theorem lay_of : ∀ {x : W}, pw x = true → (datW x).canLay0 = true
  | .int i, _ => by unfold datW PyData.canLay0; rfl
  | .str s, h => by unfold datW PyData.canLay0; unfold pw at h; exact h
  | .tup xs, h => by unfold datW PyData.canLay0; unfold pw at h; exact lays_of h
  | .non, h => by unfold pw at h; cases h
  | .bl _, h => by unfold pw at h; cases h
  | .fz _, h => by unfold pw at h; cases h
  | .ref _, h => by unfold pw at h; cases h
  | .exc _ _, h => by unfold pw at h; cases h
theorem lays_of : ∀ {xs : List W}, pwL xs = true → PyData.canLayAll0 (datL xs) = true
  | [], _ => by unfold datL PyData.canLayAll0; rfl
  | x :: r, h => by
    unfold pwL at h; unfold datL PyData.canLayAll0
    rw [Bool.and_eq_true] at h ⊢
    exact ⟨lay_of h.1, lays_of h.2⟩
end
mutual
theorem eqv_iff : ∀ {x y : W}, pw x = true → pw y = true → (PyData.eqv (datW x) (datW y) = true ↔ x = y)
  | .int i, .int j, _, _ => by simp [datW, PyData.eqv]
  | .int i, .str j, _, _ => by simp [datW, PyData.eqv]
  | .int i, .tup j, _, _ => by simp [datW, PyData.eqv]
  | .str i, .int j, _, _ => by simp [datW, PyData.eqv]
  | .str i, .str j, _, _ => by simp [datW, PyData.eqv]
  | .str i, .tup j, _, _ => by simp [datW, PyData.eqv]
  | .tup i, .int j, _, _ => by simp [datW, PyData.eqv]
  | .tup i, .str j, _, _ => by simp [datW, PyData.eqv]
  | .tup xs, .tup ys, h, g => by
    unfold pw at h g
    simp only [datW, PyData.eqv, W.tup.injEq]
    exact eqvs_iff h g
  | .non, _, h, _ => by unfold pw at h; cases h
  | .bl _, _, h, _ => by unfold pw at h; cases h
  | .fz _, _, h, _ => by unfold pw at h; cases h
  | .ref _, _, h, _ => by unfold pw at h; cases h
  | .exc _ _, _, h, _ => by unfold pw at h; cases h
  | _, .non, _, h => by unfold pw at h; cases h
  | _, .bl _, _, h => by unfold pw at h; cases h
  | _, .fz _, _, h => by unfold pw at h; cases h
  | _, .ref _, _, h => by unfold pw at h; cases h
  | _, .exc _ _, _, h => by unfold pw at h; cases h
theorem eqvs_iff : ∀ {xs ys : List W}, pwL xs = true → pwL ys = true → (PyData.eqvAll (datL xs) (datL ys) = true ↔ xs = ys)
  | [], [], _, _ => by simp [datL, PyData.eqvAll]
  | [], _ :: _, _, _ => by simp [datL, PyData.eqvAll]
  | _ :: _, [], _, _ => by simp [datL, PyData.eqvAll]
  | x :: xs, y :: ys, h, g => by
    unfold pwL at h g
    rw [Bool.and_eq_true] at h g
    simp only [datL, PyData.eqvAll, Bool.and_eq_true, List.cons.injEq]
    rw [eqv_iff h.1 g.1, eqvs_iff h.2 g.2]
end
/-- data of that depth at most -/
def okW (n : Nat) (x : W) : Prop := pw x = true ∧ (datW x).depth ≤ n
theorem okW.int (n : Nat) (i : Int) : okW n (.int i) := ⟨by unfold pw; rfl, by unfold datW PyData.depth; exact Nat.zero_le _⟩
theorem okW.str (n : Nat) {s : Str} (h : PyData.strOk s = true) : okW n (.str s) := ⟨by unfold pw; exact h, by unfold datW PyData.depth; exact Nat.zero_le _⟩
theorem okW.up {n m : Nat} {x : W} (h : okW n x) (l : n ≤ m) : okW m x := ⟨h.1, Nat.le_trans h.2 l⟩
theorem depthL_le {n : Nat} : ∀ {xs : List W}, (∀ x ∈ xs, okW n x) → PyData.depthAll (datL xs) ≤ n
  | [], _ => by unfold datL PyData.depthAll; exact Nat.zero_le _
  | x :: r, h => by
    unfold datL PyData.depthAll
    exact Nat.max_le.mpr ⟨(h x List.mem_cons_self).2, depthL_le fun y hy => h y (List.mem_cons_of_mem _ hy)⟩
theorem okW.tup {n : Nat} {xs : List W} (h : ∀ x ∈ xs, okW n x) : okW (n + 1) (.tup xs) := by
  refine ⟨by unfold pw; exact pwL_iff.mpr fun x hx => (h x hx).1, ?_⟩
  unfold datW PyData.depth
  exact Nat.succ_le_succ (depthL_le h)
theorem okW.d {n : Nat} {x : W} (h : okW n x) (l : n ≤ 64) : okD (datW x) := ⟨lay_of h.1, Nat.le_trans h.2 l⟩
theorem v_eqD {A : AH} {n m : Nat} {x y : W} {k : Bool → Prop} (hx : okW n x) (hy : okW m y) (h1 : n ≤ 64) (h2 : m ≤ 64) (ht : x = y → k true) (hf : x ≠ y → k false) : eqW x y A k := by
  refine ⟨_, _, dw_of hx.1, dw_of hy.1, hx.d h1, hy.d h2, ?_⟩
  by_cases e : x = y
  · rw [(eqv_iff hx.1 hy.1).mpr e]; exact ht e
  · have q : PyData.eqv (datW x) (datW y) = false := by
      cases z : PyData.eqv (datW x) (datW y) with
      | false => rfl
      | true => exact absurd ((eqv_iff hx.1 hy.1).mp z) e
    rw [q]; exact hf e
theorem any_eqv {x : W} (hx : pw x = true) : ∀ {ys : List W}, pwL ys = true → ((datL ys).any (fun z => PyData.eqv z (datW x)) = true ↔ x ∈ ys)
  | [], _ => by simp [datL]
  | y :: ys, h => by
    unfold pwL at h
    rw [Bool.and_eq_true] at h
    simp only [datL, List.any_cons, Bool.or_eq_true, List.mem_cons]
    rw [any_eqv hx h.2, eqv_iff h.1 hx]
    constructor
    · rintro (h | h)
      · exact .inl h.symm
      · exact .inr h
    · rintro (h | h)
      · exact .inl h.symm
      · exact .inr h
theorem v_inL {A : AH} {n : Nat} {x : W} {a : Addr} {ys : List W} {k : Bool → Prop} (ha : A a = some (.lst ys)) (hx : okW n x) (hy : ∀ y ∈ ys, okW n y) (h1 : n < 64) (ht : x ∈ ys → k true) (hf : x ∉ ys → k false) : inW x (.ref a) A k := by
  have py : pwL ys = true := pwL_iff.mpr fun y h => (hy y h).1
  refine .inl ⟨_, _, dw_of hx.1, .lst ha (dws_of py), hx.d (by omega), ⟨?_, ?_⟩, ?_⟩
  · unfold PyData.canLay0; exact lays_of py
  · unfold PyData.depth; have := depthL_le hy; omega
  · by_cases e : x ∈ ys
    · rw [(any_eqv hx.1 py).mpr e]; exact ht e
    · have q : (datL ys).any (fun z => PyData.eqv z (datW x)) = false := by
        cases z : (datL ys).any (fun z => PyData.eqv z (datW x)) with
        | false => rfl
        | true => exact absurd ((any_eqv hx.1 py).mp z) e
      rw [q]; exact hf e
theorem v_inT {A : AH} {n : Nat} {x : W} {ys : List W} {k : Bool → Prop} (hx : okW n x) (hy : ∀ y ∈ ys, okW n y) (h1 : n < 64) (ht : x ∈ ys → k true) (hf : x ∉ ys → k false) : inW x (.tup ys) A k := by
  have py : pwL ys = true := pwL_iff.mpr fun y h => (hy y h).1
  refine ⟨_, _, dw_of hx.1, .tup (dws_of py), hx.d (by omega), ⟨?_, ?_⟩, ?_⟩
  · unfold PyData.canLay0; exact lays_of py
  · unfold PyData.depth; have := depthL_le hy; omega
  · by_cases e : x ∈ ys
    · rw [(any_eqv hx.1 py).mpr e]; exact ht e
    · have q : (datL ys).any (fun z => PyData.eqv z (datW x)) = false := by
        cases z : (datL ys).any (fun z => PyData.eqv z (datW x)) with
        | false => rfl
        | true => exact absurd ((any_eqv hx.1 py).mp z) e
      rw [q]; exact hf e
end N
end
section
set_option maxRecDepth 100000
/-! Terms, plainly: sizes, texts, what is within. -/
namespace N
open PySem
abbrev Sg := List (Str × Nat)
def Tm (sg : Sg) : Nat → W → Prop
  | 0, _ => False
  | d + 1, w => ∃ s ps, w = .tup (.str s :: ps) ∧ (s, ps.length) ∈ sg ∧ ∀ p ∈ ps, Tm sg d p
theorem Tm.up {sg : Sg} : ∀ {d e : Nat} {w : W}, Tm sg d w → d ≤ e → Tm sg e w
  | 0, _, _, h, _ => h.elim
  | d + 1, 0, _, _, h => by omega
  | d + 1, e + 1, w, h, l => by
    obtain ⟨s, ps, rfl, h1, h2⟩ := h
    exact ⟨s, ps, rfl, h1, fun p hp => (h2 p hp).up (by omega)⟩
/-- the signs' texts are right, two places at most -/
def SgOk (sg : Sg) : Prop := ∀ p ∈ sg, PyData.strOk p.1 = true ∧ p.2 ≤ 2 ∧ p.1.length ≤ 100
theorem Tm.ok {sg : Sg} (hs : SgOk sg) : ∀ {d : Nat} {w : W}, Tm sg d w → okW d w
  | 0, _, h => h.elim
  | d + 1, w, h => by
    obtain ⟨s, ps, rfl, h1, h2⟩ := h
    refine okW.tup fun x hx => ?_
    rcases List.mem_cons.mp hx with rfl | hx
    · exact .str _ (hs _ h1).1
    · exact (h2 x hx).ok hs
-- how many texts stand in it
mutual
def szW : W → Nat
  | .str _ => 1
  | .tup xs => szL xs
  | _ => 0
def szL : List W → Nat
  | [] => 0
  | x :: r => szW x + szL r
end
theorem szL_app : ∀ xs ys : List W, szL (xs ++ ys) = szL xs + szL ys
  | [], ys => by simp [szL]
  | x :: xs, ys => by simp only [List.cons_append, szL]; rw [szL_app xs ys]; omega
theorem szL_rev : ∀ xs : List W, szL xs.reverse = szL xs
  | [] => rfl
  | x :: xs => by rw [List.reverse_cons, szL_app, szL_rev xs]; simp only [szL]; omega
theorem Tm.pos {sg : Sg} {d : Nat} {w : W} (h : Tm sg d w) : 1 ≤ szW w := by
  cases d with
  | zero => exact h.elim
  | succ d =>
    obtain ⟨s, ps, rfl, _⟩ := h
    simp only [szW, szL]; omega
theorem szL_len {sg : Sg} {d : Nat} : ∀ {ts : List W}, (∀ t ∈ ts, Tm sg d t) → ts.length ≤ szL ts
  | [], _ => Nat.zero_le _
  | t :: ts, h => by
    have h1 := (h t List.mem_cons_self).pos
    have h2 := szL_len fun x hx => h x (List.mem_cons_of_mem _ hx)
    simp only [szL, List.length_cons]; omega
theorem szL_le {n : Nat} : ∀ {ts : List W}, (∀ t ∈ ts, szW t ≤ n) → szL ts ≤ ts.length * n
  | [], _ => Nat.zero_le _
  | t :: ts, h => by
    have h1 := h t List.mem_cons_self
    have h2 := szL_le fun x hx => h x (List.mem_cons_of_mem _ hx)
    simp only [szL, List.length_cons]
    rw [Nat.succ_mul]; omega
theorem Tm.sz {sg : Sg} (hs : SgOk sg) : ∀ {d : Nat} {w : W}, Tm sg d w → szW w + 1 ≤ 2 ^ d
  | 0, _, h => h.elim
  | d + 1, w, h => by
    obtain ⟨s, ps, rfl, h1, h2⟩ := h
    have l : ps.length ≤ 2 := (hs _ h1).2.1
    have e : ∀ p ∈ ps, szW p ≤ 2 ^ d - 1 := fun p hp => by have := (h2 p hp).sz hs; omega
    have g := szL_le e
    have g2 : ps.length * (2 ^ d - 1) ≤ 2 * (2 ^ d - 1) := Nat.mul_le_mul_right _ l
    have z : 0 < 2 ^ d := Nat.pow_pos (by decide)
    simp only [szW, szL]
    rw [Nat.pow_succ]; omega
/-- the parts -/
def parts : W → List W
  | .tup (_ :: ps) => ps
  | _ => []
theorem Tm.parts {sg : Sg} {d : Nat} {w : W} (h : Tm sg d w) : ∀ p ∈ N.parts w, Tm sg d p := by
  cases d with
  | zero => exact h.elim
  | succ d =>
    obtain ⟨s, ps, rfl, _, h2⟩ := h
    exact fun p hp => (h2 p hp).up (by omega)
theorem Tm.szp {sg : Sg} {d : Nat} {w : W} (h : Tm sg d w) : szW w = 1 + szL (N.parts w) := by
  cases d with
  | zero => exact h.elim
  | succ d =>
    obtain ⟨s, ps, rfl, _, h2⟩ := h
    simp only [szW, szL, N.parts]
def hdS : W → Str
  | .str s => s
  | _ => ""
-- the text, piece by piece
mutual
def txP : W → List Str
  | .str s => [s]
  | .tup (x :: ps) => match ps with
    | [] => [hdS x]
    | p :: r => (hdS x ++ ("(" : Str)) :: (txP p ++ txPL r)
  | _ => []
def txPL : List W → List Str
  | [] => [")"]
  | p :: r => ("," : Str) :: (txP p ++ txPL r)
end
def tx (t : W) : Str := Txt.join "" (txP t)
/-- as the program orders terms -/
def keyT (t : W) : PyData := .tuple [.int (szW t), datW t]
def asc (ts : List W) : List W := sortW ts (ts.map keyT)
theorem sortW_mem {xs : List W} {ds : List PyData} (h : ds.length = xs.length) {x : W} : x ∈ sortW xs ds ↔ x ∈ xs := by
  unfold sortW
  have e : ((xs.zip ds).map (·.1)) = xs := by rw [List.map_fst_zip (by omega)]
  rw [List.mem_map]
  constructor
  · rintro ⟨q, hq, rfl⟩
    have hq := List.mem_mergeSort.mp hq
    rw [← e]; exact List.mem_map_of_mem hq
  · intro hx
    rw [← e] at hx
    obtain ⟨q, hq, rfl⟩ := List.mem_map.mp hx
    exact ⟨q, List.mem_mergeSort.mpr hq, rfl⟩
theorem sortW_len {xs : List W} {ds : List PyData} (h : ds.length = xs.length) : (sortW xs ds).length = xs.length := by
  unfold sortW
  rw [List.length_map, List.length_mergeSort, List.length_zip]; omega
theorem asc_len (ts : List W) : (asc ts).length = ts.length := sortW_len (by rw [List.length_map])
theorem asc_mem {ts : List W} {x : W} : x ∈ asc ts ↔ x ∈ ts := sortW_mem (by rw [List.length_map])
mutual
theorem alike_tm {sg : Sg} : ∀ {d e : Nat} {x y : W}, Tm sg d x → Tm sg e y → PySem.W.alike (datW x) (datW y) = true
  | 0, _, _, _, h, _ => h.elim
  | _ + 1, 0, _, _, _, h => h.elim
  | d + 1, e + 1, x, y, h, g => by
    obtain ⟨s, ps, rfl, _, h⟩ := h
    obtain ⟨t, qs, rfl, _, g⟩ := g
    simp only [datW, datL, PySem.W.alike, PySem.W.alikeAll, Bool.true_and]
    exact alikes_tm h g
theorem alikes_tm {sg : Sg} : ∀ {d e : Nat} {xs ys : List W}, (∀ x ∈ xs, Tm sg d x) → (∀ y ∈ ys, Tm sg e y) → PySem.W.alikeAll (datL xs) (datL ys) = true
  | _, _, [], _, _, _ => by simp only [datL, PySem.W.alikeAll]
  | _, _, _ :: _, [], _, _ => by simp only [datL, PySem.W.alikeAll]
  | _, _, x :: xs, y :: ys, h, g => by
    simp only [datL, PySem.W.alikeAll]
    rw [alike_tm (h x List.mem_cons_self) (g y List.mem_cons_self), alikes_tm (fun z hz => h z (List.mem_cons_of_mem _ hz)) fun z hz => g z (List.mem_cons_of_mem _ hz)]
    rfl
end
theorem keys_ok {sg : Sg} (hs : SgOk sg) {d : Nat} (hd : d ≤ 50) {ts : List W} (h : ∀ t ∈ ts, Tm sg d t) : PySem.W.AllAlike (ts.map keyT) ∧ PySem.W.Sortable (ts.map keyT) ∧ ∀ k ∈ ts.map keyT, k.depth ≤ 60 := by
  refine ⟨?_, .inl ?_, ?_⟩
  · intro k hk l hl
    obtain ⟨x, hx, rfl⟩ := List.mem_map.mp hk
    obtain ⟨y, hy, rfl⟩ := List.mem_map.mp hl
    simp only [keyT, PySem.W.alike, PySem.W.alikeAll, Bool.true_and, Bool.and_true]
    exact alike_tm (h x hx) (h y hy)
  · intro k hk
    obtain ⟨x, hx, rfl⟩ := List.mem_map.mp hk
    exact ⟨_, _, rfl⟩
  · intro k hk
    obtain ⟨x, hx, rfl⟩ := List.mem_map.mp hk
    have := ((h x hx).ok hs).2
    simp only [keyT, PyData.depth, PyData.depthAll]
    omega
/-- what is within some terms, by texts: the last one first -/
def wiGo : Nat → List (W × W) → List W → List (W × W)
  | 0, f, _ => f
  | _ + 1, f, [] => f
  | n + 1, f, t :: st => if (getK f (.str (tx t))).isSome = true then wiGo n f st else wiGo n (putK f (.str (tx t)) t) ((parts t).reverse ++ st)
def wi (ts : List W) : List (W × W) := wiGo (szL ts + 1) [] ts.reverse
-- .. by the things themselves
open Classical in
noncomputable def laGo : Nat → List W → List W → List W
  | 0, f, _ => f
  | _ + 1, f, [] => f
  | n + 1, f, t :: st => if t ∈ f then laGo n f st else laGo n (f ++ [t]) ((parts t).reverse ++ st)
noncomputable def la (ts : List W) : List W := laGo (szL ts + 1) [] ts.reverse
def Closed (R : List W) : Prop := ∀ t ∈ R, ∀ p ∈ parts t, p ∈ R
theorem laGo_ok {sg : Sg} {d : Nat} : ∀ (n : Nat) (f st : List W), (∀ t ∈ st, Tm sg d t) → szL st < n → (∀ t ∈ f, ∀ p ∈ parts t, p ∈ f ∨ p ∈ st) →
    Closed (laGo n f st) ∧ (∀ t ∈ f, t ∈ laGo n f st) ∧ ∀ t ∈ st, t ∈ laGo n f st
  | 0, _, _, _, h, _ => by omega
  | n + 1, f, [], _, _, hc => by
    unfold laGo
    refine ⟨fun t ht p hp => ?_, fun _ h => h, fun _ h => by cases h⟩
    rcases hc t ht p hp with h | h
    · exact h
    · cases h
  | n + 1, f, t :: st, ht, hn, hc => by
    have t0 := ht t List.mem_cons_self
    have hz := t0.szp
    simp only [szL] at hn
    unfold laGo
    split
    · rename_i hf
      obtain ⟨h1, h2, h3⟩ := laGo_ok n f st (fun x hx => ht x (List.mem_cons_of_mem _ hx)) (by omega) fun x hx p hp => by
        rcases hc x hx p hp with h | h
        · exact .inl h
        · rcases List.mem_cons.mp h with rfl | h
          · exact .inl hf
          · exact .inr h
      refine ⟨h1, h2, fun x hx => ?_⟩
      rcases List.mem_cons.mp hx with rfl | hx
      · exact h2 _ hf
      · exact h3 x hx
    · obtain ⟨h1, h2, h3⟩ := laGo_ok n (f ++ [t]) ((parts t).reverse ++ st) (fun x hx => by
          rcases List.mem_append.mp hx with h | h
          · exact t0.parts x (List.mem_reverse.mp h)
          · exact ht x (List.mem_cons_of_mem _ h)) (by rw [szL_app, szL_rev]; omega) fun x hx p hp => by
        rcases List.mem_append.mp hx with h | h
        · rcases hc x h p hp with h | h
          · exact .inl (List.mem_append_left _ h)
          · rcases List.mem_cons.mp h with rfl | h
            · exact .inl (List.mem_append_right _ (List.mem_singleton.mpr rfl))
            · exact .inr (List.mem_append_right _ h)
        · obtain rfl := List.mem_singleton.mp h
          exact .inr (List.mem_append_left _ (List.mem_reverse.mpr hp))
      refine ⟨h1, fun x hx => h2 x (List.mem_append_left _ hx), fun x hx => ?_⟩
      rcases List.mem_cons.mp hx with rfl | hx
      · exact h2 _ (List.mem_append_right _ (List.mem_singleton.mpr rfl))
      · exact h3 x (List.mem_append_right _ hx)
theorem keyB_str {s t : Str} : keyB (.str s) (.str t) = true ↔ s = t := by unfold keyB; exact beq_iff_eq
theorem getK_none {f : List (W × W)} {s : Str} (h : ¬ (getK f (.str s)).isSome = true) : ∀ q ∈ f, keyB q.1 (.str s) = false := by
  intro q hq
  cases e : keyB q.1 (.str s) with
  | false => rfl
  | true =>
    refine absurd ?_ h
    unfold getK
    rw [Option.isSome_map, List.find?_isSome]
    exact ⟨q, hq, e⟩
theorem putK_new {f : List (W × W)} {s : Str} {v : W} (h : ¬ (getK f (.str s)).isSome = true) : putK f (.str s) v = f ++ [(.str s, v)] := by
  unfold putK
  rw [if_neg]
  intro z
  obtain ⟨q, hq, e⟩ := List.any_eq_true.mp z
  rw [getK_none h q hq] at e; cases e
/-- the keys: each once, texts of what is in a closed list -/
structure WiOk (R : List W) (f : List (W × W)) : Prop where
  nd : (f.map (·.1)).Nodup
  ks : ∀ q ∈ f, ∃ t ∈ R, q = (.str (tx t), t)
theorem wiGo_ok {R : List W} (hR : Closed R) : ∀ (n : Nat) (f : List (W × W)) (st : List W), WiOk R f → (∀ t ∈ st, t ∈ R) → WiOk R (wiGo n f st)
  | 0, _, _, h, _ => by unfold wiGo; exact h
  | n + 1, _, [], h, _ => by unfold wiGo; exact h
  | n + 1, f, t :: st, h, hs => by
    unfold wiGo
    have ht := hs t List.mem_cons_self
    split
    · exact wiGo_ok hR n f st h fun x hx => hs x (List.mem_cons_of_mem _ hx)
    · rename_i hn
      rw [putK_new hn]
      refine wiGo_ok hR n _ _ ⟨?_, ?_⟩ fun x hx => ?_
      · rw [List.map_append, List.nodup_append]
        refine ⟨h.nd, by simp, fun a ha b hb => ?_⟩
        obtain ⟨q, hq, rfl⟩ := List.mem_map.mp ha
        have e := getK_none hn q hq
        simp only [List.map_cons, List.map_nil, List.mem_singleton] at hb
        subst hb
        intro z
        rw [z] at e
        rw [keyB_str.mpr rfl] at e; cases e
      · intro q hq
        rcases List.mem_append.mp hq with hq | hq
        · exact h.ks q hq
        · obtain rfl := List.mem_singleton.mp hq
          exact ⟨t, ht, rfl⟩
      · rcases List.mem_append.mp hx with hx | hx
        · exact hR t ht x (List.mem_reverse.mp hx)
        · exact hs x (List.mem_cons_of_mem _ hx)
theorem nodup_sub {α : Type} : ∀ {xs ys : List α}, xs.Nodup → (∀ x ∈ xs, x ∈ ys) → xs.length ≤ ys.length
  | [], _, _, _ => Nat.zero_le _
  | x :: xs, ys, h, hs => by
    obtain ⟨a, b, rfl⟩ := List.append_of_mem (hs x List.mem_cons_self)
    obtain ⟨h1, h2⟩ := List.nodup_cons.mp h
    have g := nodup_sub (ys := a ++ b) h2 fun y hy => by
      have q := hs y (List.mem_cons_of_mem _ hy)
      rcases List.mem_append.mp q with q | q
      · exact List.mem_append_left _ q
      · rcases List.mem_cons.mp q with rfl | q
        · exact absurd hy h1
        · exact List.mem_append_right _ q
    rw [List.length_append] at g
    rw [List.length_append, List.length_cons, List.length_cons]; omega
theorem wi_ok {R : List W} (hR : Closed R) {ts : List W} (h : ∀ t ∈ ts, t ∈ R) : WiOk R (wi ts) := wiGo_ok hR _ _ _ ⟨List.nodup_nil, fun _ h => by cases h⟩ fun t ht => h t (List.mem_reverse.mp ht)
theorem wi_len {R : List W} (hR : Closed R) {ts : List W} (h : ∀ t ∈ ts, t ∈ R) : (wi ts).length ≤ R.length := by
  have w := wi_ok hR h
  have g := nodup_sub (ys := R.map fun t => W.str (tx t)) w.nd fun k hk => by
    obtain ⟨q, hq, rfl⟩ := List.mem_map.mp hk
    obtain ⟨t, ht, rfl⟩ := w.ks q hq
    exact List.mem_map.mpr ⟨t, ht, rfl⟩
  rw [List.length_map, List.length_map] at g
  exact g
theorem la_ok {sg : Sg} {d : Nat} {ts : List W} (h : ∀ t ∈ ts, Tm sg d t) : Closed (la ts) ∧ ∀ t ∈ ts, t ∈ la ts := by
  obtain ⟨h1, _, h3⟩ := laGo_ok (szL ts + 1) [] ts.reverse (fun t ht => h t (List.mem_reverse.mp ht)) (by rw [szL_rev]; omega) fun t ht => by cases ht
  exact ⟨h1, fun t ht => h3 t (List.mem_reverse.mpr ht)⟩
-- a closed list around a term
mutual
def subs : W → List W
  | .tup (x :: ps) => .tup (x :: ps) :: subL ps
  | w => [w]
def subL : List W → List W
  | [] => []
  | p :: r => subs p ++ subL r
end
theorem subL_mem {p x : W} : ∀ {ps : List W}, p ∈ ps → x ∈ subs p → x ∈ subL ps
  | q :: r, h, hx => by
    simp only [subL]
    rcases List.mem_cons.mp h with rfl | h
    · exact List.mem_append_left _ hx
    · exact List.mem_append_right _ (subL_mem h hx)
theorem mem_subL {x : W} : ∀ {ps : List W}, x ∈ subL ps → ∃ p ∈ ps, x ∈ subs p
  | [], h => by simp [subL] at h
  | q :: r, h => by
    simp only [subL] at h
    rcases List.mem_append.mp h with h | h
    · exact ⟨q, List.mem_cons_self, h⟩
    · obtain ⟨p, hp, g⟩ := mem_subL h
      exact ⟨p, List.mem_cons_of_mem _ hp, g⟩
theorem subs_self {sg : Sg} {d : Nat} {t : W} (h : Tm sg d t) : t ∈ subs t := by
  cases d with
  | zero => exact h.elim
  | succ d => obtain ⟨s, ps, rfl, _⟩ := h; simp only [subs]; exact List.mem_cons_self
theorem subs_closed {sg : Sg} : ∀ {d : Nat} {t : W}, Tm sg d t → Closed (subs t)
  | 0, _, h => h.elim
  | d + 1, t, h => by
    obtain ⟨s, ps, rfl, _, h⟩ := h
    intro x hx p hp
    simp only [subs] at hx ⊢
    rcases List.mem_cons.mp hx with rfl | hx
    · simp only [parts] at hp
      exact List.mem_cons_of_mem _ (subL_mem hp (subs_self (h p hp)))
    · obtain ⟨q, hq, g⟩ := mem_subL hx
      exact List.mem_cons_of_mem _ (subL_mem hq (subs_closed (h q hq) x g p hp))
theorem subL_len {sg : Sg} {d : Nat} (ih : ∀ {t : W}, Tm sg d t → (subs t).length ≤ szW t) : ∀ {ps : List W}, (∀ p ∈ ps, Tm sg d p) → (subL ps).length ≤ szL ps
  | [], _ => Nat.zero_le _
  | p :: r, h => by
    simp only [subL, szL, List.length_append]
    have h1 := ih (h p List.mem_cons_self)
    have h2 := subL_len ih fun x hx => h x (List.mem_cons_of_mem _ hx)
    omega
theorem subs_len {sg : Sg} : ∀ {d : Nat} {t : W}, Tm sg d t → (subs t).length ≤ szW t
  | 0, _, h => h.elim
  | d + 1, t, h => by
    obtain ⟨s, ps, rfl, _, h⟩ := h
    have := subL_len (fun {t} ht => subs_len ht) h
    simp only [subs, szW, szL, List.length_cons]; omega
theorem Closed.app {R S : List W} (a : Closed R) (b : Closed S) : Closed (R ++ S) := fun t ht p hp => by
  rcases List.mem_append.mp ht with h | h
  · exact List.mem_append_left _ (a t h p hp)
  · exact List.mem_append_right _ (b t h p hp)
end N
end
section
set_option maxRecDepth 100000
/-! Texts tell terms apart; what is within some terms, in one order: as the program has it and as the laws have it. -/
namespace N
open PySem
/-! ### texts -/
theorem cps_app (a b : Str) : (a ++ b).cps.toList = a.cps.toList ++ b.cps.toList := by
  show (a.cps ++ b.cps).toList = _
  rw [Array.toList_append]
theorem fold_cps : ∀ (r : List Str) (acc : Array Nat), (r.foldl (fun acc p => acc ++ (Str.mk #[]).cps ++ p.cps) acc).toList = acc.toList ++ r.flatMap fun p => p.cps.toList
  | [], acc => by simp
  | p :: r, acc => by
    rw [List.foldl_cons, fold_cps r, List.flatMap_cons]
    simp
theorem emp_eq : (Str.ofString "") = Str.mk #[] := by rfl
theorem join_cps (xs : List Str) : (Txt.join (Str.ofString "") xs).cps.toList = xs.flatMap fun p => p.cps.toList := by
  rw [emp_eq]
  show ((xs.drop 1).foldl (fun acc p => acc ++ (Str.mk #[]).cps ++ p.cps) (xs.headD Str.empty).cps).toList = _
  rw [fold_cps]
  cases xs with
  | nil => rfl
  | cons x r => rw [List.flatMap_cons]; rfl
def cpL (xs : List Str) : List Nat := xs.flatMap fun p => p.cps.toList
theorem cpL_app (a b : List Str) : cpL (a ++ b) = cpL a ++ cpL b := List.flatMap_append
theorem cpL_cons (a : Str) (b : List Str) : cpL (a :: b) = a.cps.toList ++ cpL b := List.flatMap_cons
/-- no letter of a sign: what ends a sign -/
def lt1 (c : Nat) : Bool := decide (97 ≤ c ∧ c ≤ 122)
def NL (l : List Nat) : Prop := ∀ c r, l = c :: r → lt1 c = false
/-- the signs' names: of letters, unlike -/
structure SgL (sg : Sg) : Prop where
  let_ : ∀ p ∈ sg, ∀ c ∈ p.1.cps.toList, lt1 c = true
  one : ∀ s k j, (s, k) ∈ sg → (s, j) ∈ sg → k = j
theorem span_one : ∀ {a b l m : List Nat}, (∀ c ∈ a, lt1 c = true) → (∀ c ∈ b, lt1 c = true) → NL l → NL m → a ++ l = b ++ m → a = b ∧ l = m
  | [], [], _, _, _, _, _, _, h => ⟨rfl, h⟩
  | [], c :: b, l, m, _, hb, hl, _, h => by
    have := hl c (b ++ m) h
    rw [hb c List.mem_cons_self] at this; cases this
  | c :: a, [], l, m, ha, _, _, hm, h => by
    have := hm c (a ++ l) h.symm
    rw [ha c List.mem_cons_self] at this; cases this
  | c :: a, e :: b, l, m, ha, hb, hl, hm, h => by
    rw [List.cons_append, List.cons_append, List.cons.injEq] at h
    obtain ⟨h1, h2⟩ := span_one (fun x hx => ha x (List.mem_cons_of_mem _ hx)) (fun x hx => hb x (List.mem_cons_of_mem _ hx)) hl hm h.2
    exact ⟨by rw [h.1, h1], h2⟩
theorem nl_cons {c : Nat} {l : List Nat} (h : lt1 c = false) : NL (c :: l) := fun d r e => by cases e; exact h
theorem str_ext {s t : Str} (h : s.cps.toList = t.cps.toList) : s = t := by
  obtain ⟨⟨a⟩⟩ := s
  obtain ⟨⟨b⟩⟩ := t
  dsimp only at h
  rw [h]
theorem c_par : (Str.ofString "(").cps.toList = [40] := by decide +kernel
theorem c_end : (Str.ofString ")").cps.toList = [41] := by decide +kernel
theorem c_com : (Str.ofString ",").cps.toList = [44] := by decide +kernel
theorem txPL_nl (r : List W) (l : List Nat) : NL (cpL (txPL r) ++ l) := by
  cases r with
  | nil =>
    unfold txPL
    rw [cpL_cons, c_end]
    exact nl_cons (by decide)
  | cons p r =>
    unfold txPL
    rw [cpL_cons, c_com]
    exact nl_cons (by decide)
mutual
theorem tx_one {sg : Sg} (hs : SgL sg) : ∀ {d e : Nat} {x y : W} {l m : List Nat}, Tm sg d x → Tm sg e y → NL l → NL m → cpL (txP x) ++ l = cpL (txP y) ++ m → (∀ r, l = 40 :: r → False) → (∀ r, m = 40 :: r → False) → x = y ∧ l = m
  | 0, _, _, _, _, _, h, _, _, _, _, _, _ => h.elim
  | _ + 1, 0, _, _, _, _, _, h, _, _, _, _, _ => h.elim
  | d + 1, e + 1, x, y, l, m, hx, hy, hl, hm, h, nl, nm => by
    obtain ⟨s, ps, rfl, m1, h1⟩ := hx
    obtain ⟨t, qs, rfl, m2, h2⟩ := hy
    have ls : ∀ c ∈ s.cps.toList, lt1 c = true := hs.let_ _ m1
    have lt : ∀ c ∈ t.cps.toList, lt1 c = true := hs.let_ _ m2
    cases ps with
    | nil =>
      cases qs with
      | nil =>
        simp only [txP, cpL_cons, hdS] at h
        rw [show cpL [] = [] from rfl, List.append_nil, List.append_nil] at h
        obtain ⟨e1, e2⟩ := span_one ls lt hl hm h
        rw [str_ext e1]
        exact ⟨rfl, e2⟩
      | cons q qs =>
        simp only [txP, cpL_cons, hdS, cps_app] at h
        simp only [show cpL [] = [] from rfl, List.append_nil, List.append_assoc] at h
        obtain ⟨e1, e2⟩ := span_one ls lt hl (by rw [c_par]; exact nl_cons (by decide)) h
        rw [c_par] at e2
        exact (nl _ e2).elim
    | cons p ps =>
      cases qs with
      | nil =>
        simp only [txP, cpL_cons, hdS, cps_app] at h
        simp only [show cpL [] = [] from rfl, List.append_nil, List.append_assoc] at h
        obtain ⟨e1, e2⟩ := span_one ls lt (by rw [c_par]; exact nl_cons (by decide)) hm h
        rw [c_par] at e2
        exact (nm _ e2.symm).elim
      | cons q qs =>
        simp only [txP, cpL_cons, hdS, cps_app, cpL_app] at h
        simp only [List.append_assoc] at h
        obtain ⟨e1, e2⟩ := span_one ls lt (by rw [c_par]; exact nl_cons (by decide)) (by rw [c_par]; exact nl_cons (by decide)) h
        have es := str_ext e1
        subst es
        have el := hs.one _ _ _ m1 m2
        rw [c_par, List.cons_append, List.cons_append, List.cons.injEq, List.nil_append, List.nil_append] at e2
        have no : ∀ (r : List W) (l : List Nat) (z : List Nat), cpL (txPL r) ++ l = 40 :: z → False := fun r l z hz => by
          cases r with
          | nil => unfold txPL at hz; rw [cpL_cons, c_end] at hz; cases hz
          | cons p r => unfold txPL at hz; rw [cpL_cons, c_com] at hz; cases hz
        obtain ⟨f1, f2⟩ := tx_one hs (h1 p List.mem_cons_self) (h2 q List.mem_cons_self) (txPL_nl _ _) (txPL_nl _ _) e2.2 (no _ _) (no _ _)
        obtain ⟨g1, g2⟩ := txs_one hs (fun z hz => h1 z (List.mem_cons_of_mem _ hz)) (fun z hz => h2 z (List.mem_cons_of_mem _ hz)) f2
        rw [f1, g1]
        exact ⟨rfl, g2⟩
theorem txs_one {sg : Sg} (hs : SgL sg) : ∀ {d e : Nat} {xs ys : List W} {l m : List Nat}, (∀ x ∈ xs, Tm sg d x) → (∀ y ∈ ys, Tm sg e y) → cpL (txPL xs) ++ l = cpL (txPL ys) ++ m → xs = ys ∧ l = m
  | _, _, [], [], l, m, _, _, h => by
    simp only [txPL, cpL_cons] at h
    rw [c_end] at h
    simp only [show cpL [] = [] from rfl, List.append_nil, List.cons_append, List.nil_append, List.cons.injEq, true_and] at h
    exact ⟨rfl, h⟩
  | _, _, [], q :: qs, l, m, _, _, h => by
    simp only [txPL, cpL_cons] at h
    rw [c_end, c_com] at h
    simp at h
  | _, _, p :: ps, [], l, m, _, _, h => by
    simp only [txPL, cpL_cons] at h
    rw [c_end, c_com] at h
    simp at h
  | d, e, p :: ps, q :: qs, l, m, hx, hy, h => by
    simp only [txPL, cpL_cons, cpL_app] at h
    simp only [c_com, List.cons_append, List.cons.injEq, List.nil_append, List.append_assoc] at h
    have no : ∀ (r : List W) (l : List Nat) (z : List Nat), cpL (txPL r) ++ l = 40 :: z → False := fun r l z hz => by
      cases r with
      | nil => unfold txPL at hz; rw [cpL_cons, c_end] at hz; cases hz
      | cons p r => unfold txPL at hz; rw [cpL_cons, c_com] at hz; cases hz
    obtain ⟨f1, f2⟩ := tx_one hs (hx p List.mem_cons_self) (hy q List.mem_cons_self) (txPL_nl _ _) (txPL_nl _ _) h.2 (no _ _) (no _ _)
    obtain ⟨g1, g2⟩ := txs_one hs (fun z hz => hx z (List.mem_cons_of_mem _ hz)) (fun z hz => hy z (List.mem_cons_of_mem _ hz)) f2
    rw [f1, g1]
    exact ⟨rfl, g2⟩
end
theorem tx_inj {sg : Sg} (hs : SgL sg) {d e : Nat} {x y : W} (hx : Tm sg d x) (hy : Tm sg e y) (h : tx x = tx y) : x = y := by
  have e : cpL (txP x) ++ [] = cpL (txP y) ++ [] := by
    rw [List.append_nil, List.append_nil]
    have := congrArg (fun s : Str => s.cps.toList) h
    unfold tx at this
    rw [join_cps, join_cps] at this
    exact this
  exact (tx_one hs hx hy (fun c r z => by cases z) (fun c r z => by cases z) e (fun r z => by cases z) (fun r z => by cases z)).1
/-! ### what is within, by texts and by things -/
theorem isSome_getK {f : List (W × W)} {s : Str} : (getK f (.str s)).isSome = true ↔ ∃ q ∈ f, keyB q.1 (.str s) = true := by
  unfold getK
  rw [Option.isSome_map, List.find?_isSome]
theorem wiGo_la {sg : Sg} (hs : SgL sg) {d : Nat} : ∀ (n : Nat) (f : List (W × W)) (st : List W), (∀ q ∈ f, Tm sg d q.2 ∧ q.1 = .str (tx q.2)) → (∀ t ∈ st, Tm sg d t) → (wiGo n f st).map (·.2) = laGo n (f.map (·.2)) st
  | 0, f, st, _, _ => by unfold wiGo laGo; rfl
  | n + 1, f, [], _, _ => by unfold wiGo laGo; rfl
  | n + 1, f, t :: st, hf, ht => by
    have t0 := ht t List.mem_cons_self
    have key : (getK f (.str (tx t))).isSome = true ↔ t ∈ f.map (·.2) := by
      rw [isSome_getK]
      constructor
      · rintro ⟨q, hq, e⟩
        obtain ⟨h1, h2⟩ := hf q hq
        rw [h2] at e
        rw [← tx_inj hs h1 t0 (keyB_str.mp e)]
        exact List.mem_map_of_mem hq
      · intro hm
        obtain ⟨q, hq, rfl⟩ := List.mem_map.mp hm
        exact ⟨q, hq, by rw [(hf q hq).2]; exact keyB_str.mpr rfl⟩
    unfold wiGo laGo
    by_cases hc : (getK f (.str (tx t))).isSome = true
    · rw [if_pos hc, if_pos (key.mp hc)]
      exact wiGo_la hs n f st hf fun x hx => ht x (List.mem_cons_of_mem _ hx)
    · rw [if_neg hc, if_neg fun z => hc (key.mpr z), putK_new hc]
      have e := wiGo_la hs (d := d) n (f ++ [(.str (tx t), t)]) ((parts t).reverse ++ st) (fun q hq => by
        rcases List.mem_append.mp hq with hq | hq
        · exact hf q hq
        · obtain rfl := List.mem_singleton.mp hq
          exact ⟨t0, rfl⟩) fun x hx => by
        rcases List.mem_append.mp hx with hx | hx
        · exact t0.parts x (List.mem_reverse.mp hx)
        · exact ht x (List.mem_cons_of_mem _ hx)
      rw [e, List.map_append]
      rfl
theorem wi_la {sg : Sg} (hs : SgL sg) {d : Nat} {ts : List W} (h : ∀ t ∈ ts, Tm sg d t) : (wi ts).map (·.2) = la ts := wiGo_la hs _ _ _ (fun q hq => by cases hq) fun t ht => h t (List.mem_reverse.mp ht)
theorem laGo_nd : ∀ (n : Nat) (f st : List W), f.Nodup → (laGo n f st).Nodup
  | 0, f, _, h => by unfold laGo; exact h
  | n + 1, f, [], h => by unfold laGo; exact h
  | n + 1, f, t :: st, h => by
    unfold laGo
    split
    · exact laGo_nd n f st h
    · rename_i hn
      refine laGo_nd n _ _ ?_
      rw [List.nodup_append]
      refine ⟨h, by simp, fun a ha b hb => ?_⟩
      obtain rfl := List.mem_singleton.mp hb
      exact fun z => hn (z ▸ ha)
theorem la_nd (ts : List W) : (la ts).Nodup := laGo_nd _ _ _ List.nodup_nil
theorem laGo_in {R : List W} (hR : Closed R) : ∀ (n : Nat) (f st : List W), (∀ t ∈ f, t ∈ R) → (∀ t ∈ st, t ∈ R) → ∀ t ∈ laGo n f st, t ∈ R
  | 0, f, _, h, _ => by unfold laGo; exact h
  | n + 1, f, [], h, _ => by unfold laGo; exact h
  | n + 1, f, t :: st, h, hs => by
    have ht := hs t List.mem_cons_self
    unfold laGo
    split
    · exact laGo_in hR n f st h fun x hx => hs x (List.mem_cons_of_mem _ hx)
    · refine laGo_in hR n _ _ (fun x hx => ?_) fun x hx => ?_
      · rcases List.mem_append.mp hx with hx | hx
        · exact h x hx
        · obtain rfl := List.mem_singleton.mp hx
          exact ht
      · rcases List.mem_append.mp hx with hx | hx
        · exact hR t ht x (List.mem_reverse.mp hx)
        · exact hs x (List.mem_cons_of_mem _ hx)
theorem la_in {R : List W} (hR : Closed R) {ts : List W} (h : ∀ t ∈ ts, t ∈ R) : ∀ t ∈ la ts, t ∈ R := laGo_in hR _ _ _ (fun t ht => by cases ht) fun t ht => h t (List.mem_reverse.mp ht)
theorem la_tm {sg : Sg} {d : Nat} {ts : List W} (h : ∀ t ∈ ts, Tm sg d t) : ∀ t ∈ la ts, Tm sg d t := by
  have key : ∀ (n : Nat) (f st : List W), (∀ t ∈ f, Tm sg d t) → (∀ t ∈ st, Tm sg d t) → ∀ t ∈ laGo n f st, Tm sg d t := by
    intro n
    induction n with
    | zero => intro f st hf _; unfold laGo; exact hf
    | succ n ih =>
      intro f st hf hs
      cases st with
      | nil => unfold laGo; exact hf
      | cons t st =>
        have ht := hs t List.mem_cons_self
        unfold laGo
        split
        · exact ih f st hf fun x hx => hs x (List.mem_cons_of_mem _ hx)
        · refine ih _ _ (fun x hx => ?_) fun x hx => ?_
          · rcases List.mem_append.mp hx with hx | hx
            · exact hf x hx
            · obtain rfl := List.mem_singleton.mp hx
              exact ht
          · rcases List.mem_append.mp hx with hx | hx
            · exact ht.parts x (List.mem_reverse.mp hx)
            · exact hs x (List.mem_cons_of_mem _ hx)
  exact key _ _ _ (fun t ht => by cases ht) fun t ht => h t (List.mem_reverse.mp ht)
theorem la_perm {sg : Sg} {d : Nat} {xs ys : List W} (hx : ∀ t ∈ xs, Tm sg d t) (h : ∀ t, t ∈ xs ↔ t ∈ ys) : (la xs).Perm (la ys) := by
  have hy : ∀ t ∈ ys, Tm sg d t := fun t ht => hx t ((h t).mpr ht)
  obtain ⟨a1, a2⟩ := la_ok hx
  obtain ⟨b1, b2⟩ := la_ok hy
  exact (List.perm_ext_iff_of_nodup (la_nd xs) (la_nd ys)).mpr fun t => ⟨la_in b1 (fun z hz => b2 z ((h z).mp hz)) t, la_in a1 (fun z hz => a2 z ((h z).mpr hz)) t⟩
/-! ### one order -/
theorem pw_perm {α : Type} {R : α → α → Prop} : ∀ {l m : List α}, l.Perm m → l.Pairwise R → m.Pairwise R → (∀ a ∈ l, ∀ b ∈ l, R a b → R b a → a = b) → l = m
  | [], m, p, _, _, _ => (List.nil_perm.mp p).symm
  | a :: l, [], p, _, _, _ => absurd p.length_eq (by simp)
  | a :: l, b :: m, p, hl, hm, anti => by
    obtain ⟨l1, l2⟩ := List.pairwise_cons.mp hl
    obtain ⟨m1, m2⟩ := List.pairwise_cons.mp hm
    have e : a = b := by
      have ha : a ∈ b :: m := p.mem_iff.mp List.mem_cons_self
      have hb : b ∈ a :: l := p.mem_iff.mpr List.mem_cons_self
      rcases List.mem_cons.mp ha with e | ha
      · exact e
      rcases List.mem_cons.mp hb with e | hb'
      · exact e.symm
      exact anti a List.mem_cons_self b hb (l1 b hb') (m1 a ha)
    subst e
    rw [pw_perm (List.Perm.cons_inv p) l2 m2 fun x hx y hy => anti x (List.mem_cons_of_mem _ hx) y (List.mem_cons_of_mem _ hy)]
theorem eqv_of_toks {x y : PyData} (h : PySem.W.alike x y = true) (e : PySem.W.keyToks x = PySem.W.keyToks y) : PyData.eqv x y = true := by
  cases z : PyData.eqv x y with
  | true => rfl
  | false =>
    have q := (PySem.W.toks_eqv x y h).2 z
    have q1 := q [] [.inl 0]
    have q2 := q [.inl 0] []
    rw [e, List.append_nil] at q1 q2
    have irr : PyProof.Rows.lexLt PyProof.Rows.itemOrd (PySem.W.keyToks y) (PySem.W.keyToks y) = false := PyProof.Rows.lex_irrefl _
    rw [irr] at q1
    have key : ∀ l : List (Int ⊕ List Nat), PyProof.Rows.lexLt PyProof.Rows.itemOrd l (l ++ [.inl 0]) = true := by
      intro l
      induction l with
      | nil => rfl
      | cons a l ih =>
        rw [List.cons_append, PyProof.Rows.lex_self]
        exact ih
    rw [key] at q1
    cases q1
theorem zip_map_r (xs : List W) (f : W → PyData) : xs.zip (xs.map f) = xs.map fun x => (x, f x) := by
  induction xs with
  | nil => rfl
  | cons x xs ih => rw [List.map_cons, List.zip_cons_cons, ih, List.map_cons]
/-- sorted by data that tell them apart: one list for all orders -/
theorem sortW_perm {f : W → PyData} {xs ys : List W} (p : xs.Perm ys) (al : ∀ x ∈ xs, ∀ y ∈ xs, PySem.W.alike (f x) (f y) = true) (inj : ∀ x ∈ xs, ∀ y ∈ xs, PyData.eqv (f x) (f y) = true → x = y) : sortW xs (xs.map f) = sortW ys (ys.map f) := by
  unfold sortW
  rw [zip_map_r, zip_map_r]
  congr 1
  have T : PySem.W.TotalLe (PySem.W.dataLe (β := W × PyData) false (·.2)) := PySem.W.sortLe_total _ _ _
  refine pw_perm (R := fun a b => PySem.W.dataLe (β := W × PyData) false (·.2) a b = true) ?_ (PySem.W.sort_pairwise T _) (PySem.W.sort_pairwise T _) fun a ha b hb h1 h2 => ?_
  · exact ((List.mergeSort_perm _ _).trans (p.map _)).trans (List.mergeSort_perm _ _).symm
  · have ha' := (List.mergeSort_perm _ _).mem_iff.mp ha
    have hb' := (List.mergeSort_perm _ _).mem_iff.mp hb
    obtain ⟨x, hx, rfl⟩ := List.mem_map.mp ha'
    obtain ⟨y, hy, rfl⟩ := List.mem_map.mp hb'
    have q1 : PyProof.Rows.lexLt PyProof.Rows.itemOrd (PySem.W.keyToks (f y)) (PySem.W.keyToks (f x)) = false := by
      have : (!PyProof.Rows.lexLt PyProof.Rows.itemOrd (PySem.W.keyToks (f y)) (PySem.W.keyToks (f x))) = true := h1
      simpa using this
    have q2 : PyProof.Rows.lexLt PyProof.Rows.itemOrd (PySem.W.keyToks (f x)) (PySem.W.keyToks (f y)) = false := by
      have : (!PyProof.Rows.lexLt PyProof.Rows.itemOrd (PySem.W.keyToks (f x)) (PySem.W.keyToks (f y))) = true := h2
      simpa using this
    have e := (PyProof.Rows.listOrd PyProof.Rows.itemOrd).total _ _ q2 q1
    have := inj x hx y hy (eqv_of_toks (al x hx y hy) e)
    rw [this]
theorem asc_perm {sg : Sg} (hs : SgOk sg) {d : Nat} {xs ys : List W} (h : ∀ t ∈ xs, Tm sg d t) (p : xs.Perm ys) : asc xs = asc ys := by
  refine sortW_perm p (fun x hx y hy => ?_) fun x hx y hy e => ?_
  · simp only [keyT, PySem.W.alike, PySem.W.alikeAll, Bool.true_and, Bool.and_true]
    exact alike_tm (h x hx) (h y hy)
  · simp only [keyT, PyData.eqv, PyData.eqvAll, Bool.and_true, Bool.and_eq_true] at e
    exact (eqv_iff ((h x hx).ok hs).1 ((h y hy).ok hs).1).mp e.2
theorem asc_wi {sg : Sg} (hs : SgOk sg) (hl : SgL sg) {d : Nat} {xs ys : List W} (hx : ∀ t ∈ xs, Tm sg d t) (h : ∀ t, t ∈ xs ↔ t ∈ ys) : asc ((wi xs).map (·.2)) = asc (la ys) := by
  rw [wi_la hl hx]
  exact asc_perm hs (la_tm hx) (la_perm hx h)
end N
end
section
namespace N.R
open PySem N
def b_is_lot : Ss := (.cons (.ife (.or (.not (.isi (.v 0) .tuple)) (.not (.bi .all (.cons (.lc (.call "is_within" (.cons (.v 3) (.cons (.int 0) (.cons (.bin .sub (.v 1) (.int 1)) .nil)))) (.nm 3) (.val (.v 0)) .no [3]) .nil)))) (.cons (.ret (.bl false)) .nil) .nil) (.cons (.ret (.bi .all (.cons (.lc (.cmp .lt (.ix (.v 0) (.bin .sub (.v 2) (.int 1))) (.ix (.v 0) (.v 2))) (.nm 2) (.rng2 (.int 1) (.bi .len (.cons (.v 0) .nil))) .no [2]) .nil))) .nil))
def b_is_sign : Ss := (.cons (.ife (.or (.not (.isi (.v 0) .str)) (.not (.cmp2 .le .le (.int 1) (.bi .len (.cons (.v 0) .nil)) (.g "MOST_LETTERS")))) (.cons (.ret (.bl false)) .nil) .nil) (.cons (.ret (.bi .all (.cons (.lc (.cmp .isin (.v 1) (.g "LETTERS")) (.nm 1) (.val (.v 0)) .no [1]) .nil))) .nil))
def b_are_signs : Ss := (.cons (.ife (.or (.not (.isi (.v 0) .tuple)) (.not (.cmp2 .le .le (.int 1) (.bi .len (.cons (.v 0) .nil)) (.g "MOST_SIGNS")))) (.cons (.ret (.bl false)) .nil) .nil) (.cons (.fr (.nm 1) (.val (.v 0)) (.cons (.ife (.or (.not (.call "is_pair" (.cons (.v 1) .nil))) (.or (.not (.call "is_sign" (.cons (.ix (.v 1) (.int 0)) .nil))) (.not (.call "is_within" (.cons (.ix (.v 1) (.int 1)) (.cons (.int 0) (.cons (.g "MOST_PLACES") .nil))))))) (.cons (.ret (.bl false)) .nil) .nil) .nil)) (.cons (.asg (.nm 2) (.bi .all (.cons (.lc (.cmp .lt (.ix (.ix (.v 0) (.bin .sub (.v 3) (.int 1))) (.int 0)) (.ix (.ix (.v 0) (.v 3)) (.int 0))) (.nm 3) (.rng2 (.int 1) (.bi .len (.cons (.v 0) .nil))) .no [3]) .nil))) (.cons (.ret (.and (.v 2) (.bi .any (.cons (.lc (.cmp .eq (.v 5) (.int 0)) (.tp [4, 5]) (.val (.v 0)) .no [4, 5]) .nil)))) .nil))))
def b_is_term_of : Ss := (.cons (.asg (.nm 2) (.lst (.cons (.v 1) .nil))) (.cons (.wh (.cmp .gt (.bi .len (.cons (.v 2) .nil)) (.int 0)) (.cons (.asg (.nm 3) (.mt .pop0 (.v 2) .nil)) (.cons (.ife (.or (.not (.isi (.v 3) .tuple)) (.or (.cmp .eq (.bi .len (.cons (.v 3) .nil)) (.int 0)) (.not (.isi (.ix (.v 3) (.int 0)) .str)))) (.cons (.ret (.bl false)) .nil) .nil) (.cons (.ife (.or (.cmp .notin (.ix (.v 3) (.int 0)) (.v 0)) (.cmp .ne (.bi .len (.cons (.v 3) .nil)) (.bin .add (.ix (.v 0) (.ix (.v 3) (.int 0))) (.int 1)))) (.cons (.ret (.bl false)) .nil) .nil) (.cons (.ex (.mt .extend (.v 2) (.cons (.sl (.v 3) (.so (.int 1)) .no) .nil))) .nil))))) (.cons (.ret (.bl true)) .nil)))
def b_is_line_of : Ss := (.cons (.ret (.and (.call "is_pair" (.cons (.v 1) .nil)) (.and (.call "is_term_of" (.cons (.v 0) (.cons (.ix (.v 1) (.int 0)) .nil))) (.call "is_term_of" (.cons (.v 0) (.cons (.ix (.v 1) (.int 1)) .nil)))))) .nil)
def b_size_of : Ss := (.cons (.asg (.nm 1) (.int 0)) (.cons (.asg (.nm 2) (.lst (.cons (.v 0) .nil))) (.cons (.wh (.cmp .gt (.bi .len (.cons (.v 2) .nil)) (.int 0)) (.cons (.aug 1 .add (.int 1)) (.cons (.ex (.mt .extend (.v 2) (.cons (.sl (.mt .pop0 (.v 2) .nil) (.so (.int 1)) .no) .nil))) .nil))) (.cons (.ret (.v 1)) .nil))))
def b_order_of : Ss := (.cons (.ret (.tup (.cons (.call "size_of" (.cons (.v 0) .nil)) (.cons (.v 0) .nil)))) .nil)
def b_ascending : Ss := (.cons (.ret (.srt (.v 0) "order_of")) .nil)
def b_text_of : Ss := (.cons (.asg (.nm 1) (.lst .nil)) (.cons (.asg (.nm 2) (.lst (.cons (.v 0) .nil))) (.cons (.wh (.cmp .gt (.bi .len (.cons (.v 2) .nil)) (.int 0)) (.cons (.asg (.nm 3) (.mt .pop0 (.v 2) .nil)) (.cons (.ife (.isi (.v 3) .str) (.cons (.ex (.mt .append (.v 1) (.cons (.v 3) .nil))) .nil) (.cons (.ife (.cmp .eq (.bi .len (.cons (.v 3) .nil)) (.int 1)) (.cons (.ex (.mt .append (.v 1) (.cons (.ix (.v 3) (.int 0)) .nil))) .nil) (.cons (.ex (.mt .append (.v 1) (.cons (.bin .add (.ix (.v 3) (.int 0)) (.str "(")) .nil))) (.cons (.ex (.mt .append (.v 2) (.cons (.str ")") .nil))) (.cons (.fr (.nm 4) (.rng3 (.bin .sub (.bi .len (.cons (.v 3) .nil)) (.int 1)) (.int 0) (.neg (.int 1))) (.cons (.ex (.mt .append (.v 2) (.cons (.ix (.v 3) (.v 4)) .nil))) (.cons (.ife (.cmp .gt (.v 4) (.int 1)) (.cons (.ex (.mt .append (.v 2) (.cons (.str ",") .nil))) .nil) .nil) .nil))) .nil)))) .nil)) .nil))) (.cons (.ret (.mt .join (.str "") (.cons (.v 1) .nil))) .nil))))
def b_within_of : Ss := (.cons (.asg (.nm 1) .dct0) (.cons (.asg (.nm 2) (.bi .list (.cons (.v 0) .nil))) (.cons (.wh (.cmp .gt (.bi .len (.cons (.v 2) .nil)) (.int 0)) (.cons (.asg (.nm 3) (.mt .pop0 (.v 2) .nil)) (.cons (.asg (.nm 4) (.call "text_of" (.cons (.v 3) .nil))) (.cons (.ife (.cmp .notin (.v 4) (.v 1)) (.cons (.setix (.v 1) (.v 4) (.v 3)) (.cons (.ex (.mt .extend (.v 2) (.cons (.sl (.v 3) (.so (.int 1)) .no) .nil))) .nil)) .nil) .nil)))) (.cons (.ret (.call "ascending" (.cons (.lock 1 (.lc (.ix (.v 1) (.v 4)) (.nm 4) (.val (.v 1)) .no [4])) .nil))) .nil))))
def b_sides_of : Ss := (.cons (.asg (.nm 1) (.lst .nil)) (.cons (.fr (.tp [2, 3]) (.val (.v 0)) (.cons (.ex (.mt .extend (.v 1) (.cons (.lst (.cons (.v 2) (.cons (.v 3) .nil))) .nil))) .nil)) (.cons (.ret (.v 1)) .nil)))
def b_Lore___init__ : Ss := (.cons (.ife (.not (.call "are_signs" (.cons (.v 1) .nil))) (.cons (.rais "BadLore" (.cons (.str "signs") .nil)) .nil) .nil) (.cons (.ife (.or (.not (.isi (.v 2) .tuple)) (.cmp .gt (.bi .len (.cons (.v 2) .nil)) (.g "MOST_LINES"))) (.cons (.rais "BadLore" (.cons (.str "lines") .nil)) .nil) .nil) (.cons (.asg (.nm 3) (.bi .dict (.cons (.v 1) .nil))) (.cons (.fr (.tp [4, 5]) (.enum (.v 2)) (.cons (.ife (.not (.call "is_line_of" (.cons (.v 3) (.cons (.v 5) .nil)))) (.cons (.rais "BadLore" (.cons (.v 4) .nil)) .nil) .nil) .nil)) (.cons (.ife (.cmp .gt (.bi .len (.cons (.call "within_of" (.cons (.call "sides_of" (.cons (.v 2) .nil)) .nil)) .nil)) (.g "MOST_TERMS")) (.cons (.rais "BadLore" (.cons (.str "terms") .nil)) .nil) .nil) (.cons (.ex (.mth (.v 0) "keep" (.cons (.v 1) (.cons (.v 2) .nil)))) .nil))))))
def b_Lore_keep : Ss := (.cons (.setfld (.v 0) "signs" (.v 1)) (.cons (.setfld (.v 0) "lines" (.v 2)) (.cons (.setfld (.v 0) "kept_places" (.bi .dict (.cons (.v 1) .nil))) (.cons (.setfld (.v 0) "kept_hall" (.lst .nil)) .nil))))
def b_Lore___eq__ : Ss := (.cons (.ret (.and (.isi (.v 1) (.own "Lore")) (.and (.cmp .eq (.fld (.v 0) "signs") (.fld (.v 1) "signs")) (.cmp .eq (.fld (.v 0) "lines") (.fld (.v 1) "lines"))))) .nil)
def b_RawLore___init__ : Ss := (.cons (.ex (.mth (.v 0) "keep" (.cons (.v 1) (.cons (.v 2) .nil)))) .nil)
def b_raw_lore : Ss := (.cons (.ret (.make "RawLore" (.cons (.bi .tuple (.cons (.v 0) .nil)) (.cons (.bi .tuple (.cons (.v 1) .nil)) .nil)))) .nil)
def b_check_line : Ss := (.cons (.ife (.not (.call "is_line_of" (.cons (.fld (.v 0) "kept_places") (.cons (.v 1) .nil)))) (.cons (.rais "NoLine" .nil) .nil) .nil) .nil)
def b_told_of : Ss := (.cons (.ret (.call "within_of" (.cons (.call "sides_of" (.cons (.fld (.v 0) "lines") .nil)) .nil))) .nil)
def b_told_terms : Ss := (.cons (.ret (.bi .tuple (.cons (.call "told_of" (.cons (.v 0) .nil)) .nil))) .nil)
def b_with_lines : Ss := (.cons (.ret (.call "raw_lore" (.cons (.fld (.v 0) "signs") (.cons (.bin .add (.fld (.v 0) "lines") (.bi .tuple (.cons (.v 1) .nil))) .nil)))) .nil)
def b_with_line : Ss := (.cons (.ex (.call "check_line" (.cons (.v 0) (.cons (.v 1) .nil)))) (.cons (.ret (.call "with_lines" (.cons (.v 0) (.cons (.lst (.cons (.v 1) .nil)) .nil)))) .nil))
def b_less_lines : Ss := (.cons (.ret (.call "raw_lore" (.cons (.fld (.v 0) "signs") (.cons (.lc (.v 3) (.tp [2, 3]) (.enum (.fld (.v 0) "lines")) (.so (.cmp .notin (.v 2) (.v 1))) [2, 3]) .nil)))) .nil)
def b_without : Ss := (.cons (.ife (.not (.call "is_lot" (.cons (.v 1) (.cons (.bi .len (.cons (.fld (.v 0) "lines") .nil)) .nil)))) (.cons (.rais "NoLot" .nil) .nil) .nil) (.cons (.ret (.call "less_lines" (.cons (.v 0) (.cons (.v 1) .nil)))) .nil))
def b__law_signs : Ss := (.cons (.asg (.nm 1) (.sl (.lst (.cons (.tup (.cons (.str "a") (.cons (.int 0) .nil))) (.cons (.tup (.cons (.str "b") (.cons (.int 0) .nil))) (.cons (.tup (.cons (.str "c") (.cons (.int 0) .nil))) .nil)))) .no (.so (.bin .add (.int 1) (.call "_law_draw" (.cons (.v 0) (.cons (.int 3) .nil))))))) (.cons (.asg (.nm 1) (.bin .add (.v 1) (.sl (.lst (.cons (.tup (.cons (.str "f") (.cons (.int 1) .nil))) (.cons (.tup (.cons (.str "g") (.cons (.int 1) .nil))) (.cons (.tup (.cons (.str "h") (.cons (.int 1) .nil))) .nil)))) .no (.so (.call "_law_draw" (.cons (.v 0) (.cons (.int 4) .nil))))))) (.cons (.asg (.nm 1) (.bin .add (.v 1) (.sl (.lst (.cons (.tup (.cons (.str "p") (.cons (.int 2) .nil))) (.cons (.tup (.cons (.str "q") (.cons (.int 2) .nil))) .nil))) .no (.so (.bi .max2 (.cons (.int 0) (.cons (.bin .sub (.call "_law_draw" (.cons (.v 0) (.cons (.int 4) .nil))) (.int 1)) .nil))))))) (.cons (.ret (.bi .tuple (.cons (.srt (.v 1) "") .nil))) .nil))))
def b__law_term : Ss := (.cons (.asg (.nm 3) (.lc (.v 6) (.nm 6) (.val (.v 1)) (.so (.or (.cmp .eq (.ix (.v 6) (.int 1)) (.int 0)) (.cmp .gt (.v 2) (.int 0)))) [6])) (.cons (.ife (.and (.cmp .gt (.v 2) (.int 0)) (.cmp .gt (.call "_law_draw" (.cons (.v 0) (.cons (.int 3) .nil))) (.int 0))) (.cons (.asg (.nm 3) (.bin .add (.lc (.v 6) (.nm 6) (.val (.v 1)) (.so (.cmp .gt (.ix (.v 6) (.int 1)) (.int 0))) [6]) (.sl (.v 3) .no (.so (.int 1))))) .nil) .nil) (.cons (.asg (.tp [4, 5]) (.ix (.v 3) (.call "_law_draw" (.cons (.v 0) (.cons (.bi .len (.cons (.v 3) .nil)) .nil))))) (.cons (.ret (.bin .add (.tup (.cons (.v 4) .nil)) (.bi .tuple (.cons (.lc (.call "_law_term" (.cons (.v 0) (.cons (.v 1) (.cons (.bin .sub (.v 2) (.int 1)) .nil)))) (.nm 7) (.rng1 (.v 5)) .no [7]) .nil)))) .nil))))
def b__law_lines : Ss := (.cons (.asg (.nm 4) (.lst .nil)) (.cons (.fr (.nm 5) (.rng1 (.call "_law_draw" (.cons (.v 0) (.cons (.bin .add (.v 2) (.int 1)) .nil)))) (.cons (.asg (.nm 6) (.tup (.cons (.call "_law_term" (.cons (.v 0) (.cons (.v 1) (.cons (.call "_law_draw" (.cons (.v 0) (.cons (.bin .add (.v 3) (.int 1)) .nil))) .nil)))) (.cons (.call "_law_term" (.cons (.v 0) (.cons (.v 1) (.cons (.call "_law_draw" (.cons (.v 0) (.cons (.bin .add (.v 3) (.int 1)) .nil))) .nil)))) .nil)))) (.cons (.ife (.and (.cmp .gt (.bi .len (.cons (.v 4) .nil)) (.int 0)) (.cmp .eq (.call "_law_draw" (.cons (.v 0) (.cons (.int 8) .nil))) (.int 0))) (.cons (.asg (.nm 6) (.rv (.ix (.v 4) (.call "_law_draw" (.cons (.v 0) (.cons (.bi .len (.cons (.v 4) .nil)) .nil)))))) .nil) .nil) (.cons (.ex (.mt .append (.v 4) (.cons (.v 6) .nil))) .nil)))) (.cons (.ret (.bi .tuple (.cons (.v 4) .nil))) .nil)))
def b__law_lore : Ss := (.cons (.asg (.nm 3) (.call "_law_signs" (.cons (.v 0) .nil))) (.cons (.asg (.nm 4) (.call "_law_lines" (.cons (.v 0) (.cons (.v 3) (.cons (.v 1) (.cons (.v 2) .nil)))))) (.cons (.wh (.cmp .gt (.bi .len (.cons (.call "_law_told" (.cons (.v 4) .nil)) .nil)) (.int 40)) (.cons (.asg (.nm 4) (.sl (.v 4) .no (.so (.neg (.int 1))))) .nil)) (.cons (.ret (.tup (.cons (.v 3) (.cons (.v 4) .nil)))) .nil))))
def b__law_made : Ss := (.cons (.ret (.make "Lore" (.cons (.ix (.v 0) (.int 0)) (.cons (.ix (.v 0) (.int 1)) .nil)))) .nil)
def b__law_size : Ss := (.cons (.ret (.bin .add (.int 1) (.bi .sum (.cons (.lc (.call "_law_size" (.cons (.v 1) .nil)) (.nm 1) (.val (.sl (.v 0) (.so (.int 1)) .no)) .no [1]) .nil)))) .nil)
def b__law_key : Ss := (.cons (.ret (.tup (.cons (.call "_law_size" (.cons (.v 0) .nil)) (.cons (.v 0) .nil)))) .nil)
def b__law_within : Ss := (.cons (.asg (.nm 1) (.lst .nil)) (.cons (.asg (.nm 2) (.bi .list (.cons (.v 0) .nil))) (.cons (.wh (.cmp .gt (.bi .len (.cons (.v 2) .nil)) (.int 0)) (.cons (.asg (.nm 3) (.mt .pop0 (.v 2) .nil)) (.cons (.ife (.cmp .notin (.v 3) (.v 1)) (.cons (.ex (.mt .append (.v 1) (.cons (.v 3) .nil))) (.cons (.asg (.nm 2) (.bin .add (.v 2) (.bi .list (.cons (.sl (.v 3) (.so (.int 1)) .no) .nil)))) .nil)) .nil) .nil))) (.cons (.ret (.srt (.v 1) "_law_key")) .nil))))
def b__law_told : Ss := (.cons (.ret (.call "_law_within" (.cons (.bin .add (.lc (.ix (.v 1) (.int 0)) (.nm 1) (.val (.v 0)) .no [1]) (.lc (.ix (.v 1) (.int 1)) (.nm 1) (.val (.v 0)) .no [1])) .nil))) .nil)
def b_check_term : Ss := (.cons (.ife (.not (.call "is_term_there" (.cons (.v 0) (.cons (.v 1) .nil)))) (.cons (.rais "NoTerm" .nil) .nil) .nil) .nil)
def b_is_term : Ss := (.cons (.ret (.call "is_term_there" (.cons (.v 0) (.cons (.v 1) .nil)))) .nil)
def b_is_term_there : Ss := (.cons (.ret (.call "is_term_of" (.cons (.fld (.v 0) "kept_places") (.cons (.v 1) .nil)))) .nil)
def b_size : Ss := (.cons (.ex (.call "check_term" (.cons (.v 0) (.cons (.v 1) .nil)))) (.cons (.ret (.call "size_of" (.cons (.v 1) .nil))) .nil))
def b__law_deep : Ss := (.cons (.asg (.nm 0) (.lst (.cons .non .nil))) (.cons (.fr (.nm 1) (.rng1 (.int 35)) (.cons (.asg (.nm 0) (.lst (.cons (.v 0) .nil))) .nil)) (.cons (.ret (.v 0)) .nil)))
def b__law_flag : Ss := (.cons (.ret (.and (.isi (.v 0) .bool) (.cmp .eq (.v 0) (.v 1)))) .nil)
def b__law_is : Ss := (.cons (.ret (.cmp .eq (.bi .repr (.cons (.v 0) .nil)) (.bi .repr (.cons (.v 1) .nil)))) .nil)
end N.R
end
section
namespace K03
open PySem N
def b__law_bent : Ss := (.cons (.ife (.and (.cmp .gt (.bi .len (.cons (.v 1) .nil)) (.int 1)) (.cmp .gt (.call "_law_draw" (.cons (.v 0) (.cons (.int 3) .nil))) (.int 0))) (.cons (.asg (.nm 3) (.bin .add (.int 1) (.call "_law_draw" (.cons (.v 0) (.cons (.bin .sub (.bi .len (.cons (.v 1) .nil)) (.int 1)) .nil))))) (.cons (.ret (.bin .add (.bin .add (.sl (.v 1) .no (.so (.v 3))) (.tup (.cons (.call "_law_bent" (.cons (.v 0) (.cons (.ix (.v 1) (.v 3)) .nil))) .nil))) (.sl (.v 1) (.so (.bin .add (.v 3) (.int 1))) .no))) .nil)) .nil) (.cons (.asg (.nm 2) (.lst (.cons .non (.cons (.str "a") (.cons (.int 0) (.cons (.bl true) (.cons (.tup .nil) (.cons (.lst (.cons (.str "a") .nil)) (.cons (.tup (.cons (.str "zz") .nil)) (.cons (.tup (.cons (.int 1) .nil)) (.cons .dct0 (.cons (.tup (.cons (.tup (.cons (.str "a") .nil)) .nil)) (.cons (.bin .add (.v 1) (.tup (.cons (.tup (.cons (.str "a") .nil)) .nil))) (.cons (.sl (.v 1) .no (.so (.neg (.int 1)))) (.cons (.bi .list (.cons (.v 1) .nil)) (.cons (.call "_law_deep" .nil) .nil)))))))))))))))) (.cons (.asg (.nm 2) (.bin .add (.v 2) (.lst (.cons (.tup (.cons (.str "a") .nil)) (.cons (.tup (.cons (.str "b") .nil)) (.cons (.tup (.cons (.ix (.v 1) (.int 0)) (.cons (.tup (.cons (.str "a") .nil)) .nil))) (.cons (.tup (.cons (.ix (.v 1) (.int 0)) (.cons (.tup (.cons (.str "a") .nil)) (.cons (.tup (.cons (.str "a") .nil)) .nil)))) (.cons (.bin .add (.tup (.cons .non .nil)) (.sl (.v 1) (.so (.int 1)) .no)) .nil)))))))) (.cons (.ret (.ix (.v 2) (.call "_law_draw" (.cons (.v 0) (.cons (.int 19) .nil))))) .nil))))
def b__law_is_right : Ss := (.cons (.ife (.or (.not (.isi (.v 1) .tuple)) (.or (.cmp .eq (.bi .len (.cons (.v 1) .nil)) (.int 0)) (.not (.isi (.ix (.v 1) (.int 0)) .str)))) (.cons (.ret (.bl false)) .nil) .nil) (.cons (.ret (.and (.cmp .isin (.tup (.cons (.ix (.v 1) (.int 0)) (.cons (.bin .sub (.bi .len (.cons (.v 1) .nil)) (.int 1)) .nil))) (.v 0)) (.bi .all (.cons (.lc (.call "_law_is_right" (.cons (.v 0) (.cons (.v 2) .nil))) (.nm 2) (.val (.sl (.v 1) (.so (.int 1)) .no)) .no [2]) .nil)))) .nil))
def b__law_size_told : Ss := (.cons (.asg (.nm 2) .non) (.cons (.tri (.cons (.asg (.nm 2) (.call "size" (.cons (.v 0) (.cons (.v 1) .nil)))) .nil) (.cons "NoTerm" none (.cons (.asg (.nm 2) (.str "none")) .nil) .nil)) (.cons (.ret (.v 2)) .nil)))
def b_law : Ss := (.cons (.asg (.nm 1) (.call "_law_pool" (.cons (.v 0) .nil))) (.cons (.fr (.nm 2) (.rng1 (.int 3)) (.cons (.asg (.nm 3) (.call "_law_lore" (.cons (.v 1) (.cons (.int 5) (.cons (.int 2) .nil))))) (.cons (.asg (.nm 4) (.call "_law_made" (.cons (.v 3) .nil))) (.cons (.fr (.nm 5) (.rng1 (.int 5)) (.cons (.asg (.nm 6) (.call "_law_term" (.cons (.v 1) (.cons (.ix (.v 3) (.int 0)) (.cons (.call "_law_draw" (.cons (.v 1) (.cons (.int 5) .nil))) .nil))))) (.cons (.ife (.cmp .gt (.call "_law_draw" (.cons (.v 1) (.cons (.int 3) .nil))) (.int 0)) (.cons (.asg (.nm 6) (.call "_law_bent" (.cons (.v 1) (.cons (.v 6) .nil)))) .nil) .nil) (.cons (.asg (.nm 7) (.call "_law_is_right" (.cons (.ix (.v 3) (.int 0)) (.cons (.v 6) .nil)))) (.cons (.asg (.nm 8) (.ite (.v 7) (.call "_law_size" (.cons (.v 6) .nil)) (.str "none"))) (.cons (.ife (.or (.not (.call "_law_flag" (.cons (.call "is_term" (.cons (.v 4) (.cons (.v 6) .nil))) (.cons (.v 7) .nil)))) (.not (.call "_law_is" (.cons (.call "_law_size_told" (.cons (.v 4) (.cons (.v 6) .nil))) (.cons (.v 8) .nil))))) (.cons (.ret (.bl false)) .nil) .nil) .nil)))))) (.cons (.ife (.or (.cmp .ne (.call "told_terms" (.cons (.v 4) .nil)) (.bi .tuple (.cons (.call "_law_told" (.cons (.ix (.v 3) (.int 1)) .nil)) .nil))) (.not (.isi (.call "told_terms" (.cons (.v 4) .nil)) .tuple))) (.cons (.ret (.bl false)) .nil) .nil) .nil))))) (.cons (.ret (.bl true)) .nil)))
end K03
end
namespace N.R
open PySem N
set_option autoImplicit true
set_option maxRecDepth 100000
set_option maxHeartbeats 4000000
/-! One rule a construct: for the head of the goal. Printed by rules.py. -/
theorem e_v {Γ : Gam} {xk : XK} {σ : St} {A : AH} {Q : VK} {i} (h : match getv σ i with
    | some w => Q w A
    | none => False) : rdE Γ xk (.v i) σ A Q := by
  unfold rdE; exact h
theorem e_g {Γ : Gam} {xk : XK} {σ : St} {A : AH} {Q : VK} {x} (h : match con x with
    | some w => Q w A
    | none => False) : rdE Γ xk (.g x) σ A Q := by
  unfold rdE; exact h
theorem e_int {Γ : Gam} {xk : XK} {σ : St} {A : AH} {Q : VK} {i} (h : Q (.int i) A) : rdE Γ xk (.int i) σ A Q := by
  unfold rdE; exact h
theorem e_str {Γ : Gam} {xk : XK} {σ : St} {A : AH} {Q : VK} {s} (h : Q (.str s) A) : rdE Γ xk (.str s) σ A Q := by
  unfold rdE; exact h
theorem e_bl {Γ : Gam} {xk : XK} {σ : St} {A : AH} {Q : VK} {b} (h : Q (.bl b) A) : rdE Γ xk (.bl b) σ A Q := by
  unfold rdE; exact h
theorem e_non {Γ : Gam} {xk : XK} {σ : St} {A : AH} {Q : VK} (h : Q .non A) : rdE Γ xk (.non) σ A Q := by
  unfold rdE; exact h
theorem e_bin {Γ : Gam} {xk : XK} {σ : St} {A : AH} {Q : VK} {op a b} (h : rdE Γ xk a σ A fun x A1 => rdE Γ xk b σ A1 fun y A2 => binW op x y A2 Q) : rdE Γ xk (.bin op a b) σ A Q := by
  unfold rdE; exact h
theorem e_neg {Γ : Gam} {xk : XK} {σ : St} {A : AH} {Q : VK} {a} (h : rdE Γ xk a σ A fun x A1 => match x with
    | .int i => Q (.int (-i)) A1
    | _ => False) : rdE Γ xk (.neg a) σ A Q := by
  unfold rdE; exact h
theorem e_cmp {Γ : Gam} {xk : XK} {σ : St} {A : AH} {Q : VK} {op a b} (h : rdE Γ xk a σ A fun x A1 => rdE Γ xk b σ A1 fun y A2 => cmpW op x y A2 fun k => Q (.bl k) A2) : rdE Γ xk (.cmp op a b) σ A Q := by
  unfold rdE; exact h
theorem e_cmp2 {Γ : Gam} {xk : XK} {σ : St} {A : AH} {Q : VK} {op op' a b c} (h : rdE Γ xk a σ A fun x A1 => rdE Γ xk b σ A1 fun y A2 => cmpW op x y A2 fun k =>
      if k = true then rdE Γ xk c σ A2 fun z A3 => cmpW op' y z A3 fun k' => Q (.bl k') A3 else Q (.bl false) A2) : rdE Γ xk (.cmp2 op op' a b c) σ A Q := by
  unfold rdE; exact h
theorem e_and {Γ : Gam} {xk : XK} {σ : St} {A : AH} {Q : VK} {a b} (h : rdE Γ xk a σ A (boolK fun k A1 => if k = true then rdE Γ xk b σ A1 Q else Q (.bl false) A1)) : rdE Γ xk (.and a b) σ A Q := by
  unfold rdE; exact h
theorem e_or {Γ : Gam} {xk : XK} {σ : St} {A : AH} {Q : VK} {a b} (h : rdE Γ xk a σ A (boolK fun k A1 => if k = true then Q (.bl true) A1 else rdE Γ xk b σ A1 Q)) : rdE Γ xk (.or a b) σ A Q := by
  unfold rdE; exact h
theorem e_not {Γ : Gam} {xk : XK} {σ : St} {A : AH} {Q : VK} {a} (h : rdE Γ xk a σ A (boolK fun k A1 => Q (.bl (!k)) A1)) : rdE Γ xk (.not a) σ A Q := by
  unfold rdE; exact h
theorem e_ite {Γ : Gam} {xk : XK} {σ : St} {A : AH} {Q : VK} {c a b} (h : rdE Γ xk c σ A (boolK fun k A1 => if k = true then rdE Γ xk a σ A1 Q else rdE Γ xk b σ A1 Q)) : rdE Γ xk (.ite c a b) σ A Q := by
  unfold rdE; exact h
theorem e_tup {Γ : Gam} {xk : XK} {σ : St} {A : AH} {Q : VK} {as} (h : rdEs Γ xk as σ A fun xs A1 => Q (.tup xs) A1) : rdE Γ xk (.tup as) σ A Q := by
  unfold rdE; exact h
theorem e_lst {Γ : Gam} {xk : XK} {σ : St} {A : AH} {Q : VK} {as} (h : rdEs Γ xk as σ A fun xs A1 => ∀ p, A1 p = none → Q (.ref p) (up A1 p (.lst xs))) : rdE Γ xk (.lst as) σ A Q := by
  unfold rdE; exact h
theorem e_dct0 {Γ : Gam} {xk : XK} {σ : St} {A : AH} {Q : VK} (h : (∀ p, A p = none → Q (.ref p) (up A p (.dct []))) ∨ ∀ p, A p = none → Q (.ref p) (up A p (.dnt []))) : rdE Γ xk (.dct0) σ A Q := by
  unfold rdE; exact h
theorem e_ix {Γ : Gam} {xk : XK} {σ : St} {A : AH} {Q : VK} {a i} (h : rdE Γ xk a σ A fun x A1 => rdE Γ xk i σ A1 fun y A2 => ixW x y A2 Q) : rdE Γ xk (.ix a i) σ A Q := by
  unfold rdE; exact h
theorem e_sl {Γ : Gam} {xk : XK} {σ : St} {A : AH} {Q : VK} {a lo hi} (h : rdE Γ xk a σ A fun x A1 => rdP Γ xk lo σ A1 fun l A2 => rdP Γ xk hi σ A2 fun h A3 => slW x l h A3 Q) : rdE Γ xk (.sl a lo hi) σ A Q := by
  unfold rdE; exact h
theorem e_rv {Γ : Gam} {xk : XK} {σ : St} {A : AH} {Q : VK} {a} (h : rdE Γ xk a σ A fun x A1 => rvW x A1 Q) : rdE Γ xk (.rv a) σ A Q := by
  unfold rdE; exact h
theorem e_fld {Γ : Gam} {xk : XK} {σ : St} {A : AH} {Q : VK} {a f} (h : rdE Γ xk a σ A fun x A1 => ∃ p C fs v, x = .ref p ∧ A1 p = some (.ins C fs) ∧ Γ.has (meth C f) = false ∧ fs.lookup f = some v ∧ Q v A1) : rdE Γ xk (.fld a f) σ A Q := by
  unfold rdE; exact h
theorem e_call {Γ : Gam} {xk : XK} {σ : St} {A : AH} {Q : VK} {f as} (h : rdEs Γ xk as σ A fun xs A1 => Γ.fn f xs A1 Q xk) : rdE Γ xk (.call f as) σ A Q := by
  unfold rdE; exact h
theorem e_make {Γ : Gam} {xk : XK} {σ : St} {A : AH} {Q : VK} {C as} (h : rdEs Γ xk as σ A fun xs A1 => ∀ p, A1 p = none → Γ.fn (meth C "__init__") (.ref p :: xs) (up A1 p (.ins C [])) (fun v A2 => v = .non ∧ Q (.ref p) A2) xk) : rdE Γ xk (.make C as) σ A Q := by
  unfold rdE; exact h
theorem e_mth {Γ : Gam} {xk : XK} {σ : St} {A : AH} {Q : VK} {a m as} (h : rdE Γ xk a σ A fun x A1 => ∃ p C fs, x = .ref p ∧ A1 p = some (.ins C fs) ∧ fs.lookup m = none ∧ Γ.has (meth C m) = true ∧ rdEs Γ xk as σ A1 fun xs A2 => Γ.fn (meth C m) (x :: xs) A2 Q xk) : rdE Γ xk (.mth a m as) σ A Q := by
  unfold rdE; exact h
theorem e_bi {Γ : Gam} {xk : XK} {σ : St} {A : AH} {Q : VK} {b as} (h : rdEs Γ xk as σ A fun xs A1 => biW b xs A1 Q) : rdE Γ xk (.bi b as) σ A Q := by
  unfold rdE; exact h
theorem e_mt {Γ : Gam} {xk : XK} {σ : St} {A : AH} {Q : VK} {m a as} (h : rdE Γ xk a σ A fun x A1 => mtOk m x A1 ∧ rdEs Γ xk as σ A1 fun xs A2 => mtW m x xs A2 Q) : rdE Γ xk (.mt m a as) σ A Q := by
  unfold rdE; exact h
theorem e_isi {Γ : Gam} {xk : XK} {σ : St} {A : AH} {Q : VK} {a t} (h : rdE Γ xk a σ A fun x A1 => isiW x t A1 fun k => Q (.bl k) A1) : rdE Γ xk (.isi a t) σ A Q := by
  unfold rdE; exact h
theorem e_srt {Γ : Gam} {xk : XK} {σ : St} {A : AH} {Q : VK} {a f} (h : rdE Γ xk a σ A fun x A1 => srtW Γ f x A1 Q) : rdE Γ xk (.srt a f) σ A Q := by
  unfold rdE; exact h
theorem e_oeq {Γ : Gam} {xk : XK} {σ : St} {A : AH} {Q : VK} {ne a b} (h : rdE Γ xk a σ A fun x A1 => rdE Γ xk b σ A1 fun y A2 => ownW Γ ne x y A2 Q) : rdE Γ xk (.oeq ne a b) σ A Q := by
  unfold rdE; exact h
theorem e_lc {Γ : Gam} {xk : XK} {σ : St} {A : AH} {Q : VK} {e g it c own} (h : rdI Γ xk it σ A fun xs ok A1 => xs.length ≤ lim ∧
      lcGo ok g (wipe σ own) (rdC Γ c) (rdE Γ (fun _ _ _ => False) e) Q xs [] A1) : rdE Γ xk (.lc e g it c own) σ A Q := by
  unfold rdE; exact h
theorem e_xfld {Γ : Gam} {xk : XK} {σ : St} {A : AH} {Q : VK} {i f} (h : (match getv σ i with | some (.exc C ws) => ∃ (k : Nat) (v : W), (excF C)[k]? = some f ∧ ws[k]? = some v ∧ Q v A | _ => False)) : rdE Γ xk (.xfld i f) σ A Q := by
  unfold rdE; exact h
theorem e_xisi {Γ : Gam} {xk : XK} {σ : St} {A : AH} {Q : VK} {i D} (h : (match getv σ i with | some (.exc C _) => Q (.bl (subX C D)) A | _ => False)) : rdE Γ xk (.xisi i D) σ A Q := by
  unfold rdE; exact h
theorem e_lrg {Γ : Gam} {xk : XK} {σ : St} {A : AH} {Q : VK} {a} (h : rdE Γ xk a σ A fun x A1 => match x with
    | .int j => okR j ∧ j ≤ 16000000 ∧ ∀ p, A1 p = none → Q (.ref p) (up A1 p (.lst (rangeL 0 j.toNat)))
    | _ => False) : rdE Γ xk (.lrg a) σ A Q := by
  unfold rdE; exact h
theorem e_lock {Γ : Gam} {xk : XK} {σ : St} {A : AH} {Q : VK} {i e} (h : match getv σ i with
    | some (.ref a) => ∃ kvs, A a = some (.dct kvs) ∧ ∀ g : Gh, rdE Γ (fun _ _ _ => False) e σ (up A a (.dcl g kvs)) fun w A1 => A1 a = some (.dcl g kvs) ∧ Q w (up A1 a (.dct kvs))
    | _ => False) : rdE Γ xk (.lock i e) σ A Q := by
  unfold rdE; exact h
theorem a_nil {Γ : Gam} {xk : XK} {σ : St} {A : AH} {Q : List W → AH → Prop} (h : Q [] A) : rdEs Γ xk (.nil) σ A Q := by
  unfold rdEs; exact h
theorem a_cons {Γ : Gam} {xk : XK} {σ : St} {A : AH} {Q : List W → AH → Prop} {a r} (h : rdE Γ xk a σ A fun x A1 => rdEs Γ xk r σ A1 fun xs A2 => Q (x :: xs) A2) : rdEs Γ xk (.cons a r) σ A Q := by
  unfold rdEs; exact h
theorem p_no {Γ : Gam} {xk : XK} {σ : St} {A : AH} {Q : Option Int → AH → Prop} (h : Q none A) : rdP Γ xk (.no) σ A Q := by
  unfold rdP; exact h
theorem p_so {Γ : Gam} {xk : XK} {σ : St} {A : AH} {Q : Option Int → AH → Prop} {e} (h : rdE Γ xk e σ A fun x A1 => match x with
    | .int i => Q (some i) A1
    | _ => False) : rdP Γ xk (.so e) σ A Q := by
  unfold rdP; exact h
theorem i_val {Γ : Gam} {xk : XK} {σ : St} {A : AH} {Q : List W → (AH → Prop) → AH → Prop} {e} (h : rdE Γ xk e σ A fun x A1 => valIt x A1 fun xs ok => Q xs ok A1) : rdI Γ xk (.val e) σ A Q := by
  unfold rdI; exact h
theorem i_rng1 {Γ : Gam} {xk : XK} {σ : St} {A : AH} {Q : List W → (AH → Prop) → AH → Prop} {a} (h : rdE Γ xk a σ A fun x A1 => match x with
    | .int j => okR j ∧ Q (rangeL 0 j.toNat) (fun _ => True) A1
    | _ => False) : rdI Γ xk (.rng1 a) σ A Q := by
  unfold rdI; exact h
theorem i_rng2 {Γ : Gam} {xk : XK} {σ : St} {A : AH} {Q : List W → (AH → Prop) → AH → Prop} {a b} (h : rdE Γ xk a σ A fun x A1 => rdE Γ xk b σ A1 fun y A2 => int2 (fun i j => okR i ∧ okR j ∧ Q (rangeL i (j - i).toNat) (fun _ => True) A2) x y) : rdI Γ xk (.rng2 a b) σ A Q := by
  unfold rdI; exact h
theorem i_rng3 {Γ : Gam} {xk : XK} {σ : St} {A : AH} {Q : List W → (AH → Prop) → AH → Prop} {a b c} (h : rdE Γ xk a σ A fun x A1 => rdE Γ xk b σ A1 fun y A2 => rdE Γ xk c σ A2 fun z A3 => int2 (fun i j => okR i ∧ okR j ∧ z = .int (-1) ∧ Q (rangeD i (-1) (i - j).toNat) (fun _ => True) A3) x y) : rdI Γ xk (.rng3 a b c) σ A Q := by
  unfold rdI; exact h
theorem i_enum {Γ : Gam} {xk : XK} {σ : St} {A : AH} {Q : List W → (AH → Prop) → AH → Prop} {e} (h : rdE Γ xk e σ A fun x A1 => lstIt x A1 fun xs ok => Q (pairs 0 xs) ok A1) : rdI Γ xk (.enum e) σ A Q := by
  unfold rdI; exact h
theorem i_zip {Γ : Gam} {xk : XK} {σ : St} {A : AH} {Q : List W → (AH → Prop) → AH → Prop} {a b} (h : rdE Γ xk a σ A fun x A1 => rdE Γ xk b σ A1 fun y A2 => valIt x A2 fun xs ok => valIt y A2 fun ys ok' => Q (zipL xs ys) (fun A' => ok A' ∧ ok' A') A2) : rdI Γ xk (.zip a b) σ A Q := by
  unfold rdI; exact h
theorem i_rev {Γ : Gam} {xk : XK} {σ : St} {A : AH} {Q : List W → (AH → Prop) → AH → Prop} {e} (h : rdE Γ xk e σ A fun x A1 => valIt x A1 fun xs ok => Q xs.reverse ok A1) : rdI Γ xk (.rev e) σ A Q := by
  unfold rdI; exact h
theorem s_asg {Γ : Gam} {D : Ends} {σ : St} {A : AH} {g e} (h : rdE Γ (xOf D σ) e σ A fun w A1 => gDo g w σ fun σ1 => D.nx σ1 A1) : rdS Γ (.asg g e) D σ A := by
  unfold rdS; exact h
theorem s_aug {Γ : Gam} {D : Ends} {σ : St} {A : AH} {i op e} (h : match getv σ i with
    | some x => rdE Γ (xOf D σ) e σ A fun y A1 => ipW op x y A1 fun z A2 => D.nx (setv σ i (some z)) A2
    | none => False) : rdS Γ (.aug i op e) D σ A := by
  unfold rdS; exact h
theorem s_setix {Γ : Gam} {D : Ends} {σ : St} {A : AH} {a i e} (h : rdE Γ (xOf D σ) e σ A fun v A1 => rdE Γ (xOf D σ) a σ A1 fun x A2 => rdE Γ (xOf D σ) i σ A2 fun k A3 => match x with
    | .ref p => (∃ xs n j, k = .int n ∧ A3 p = some (.lst xs) ∧ idx xs.length n = some j ∧ D.nx σ (up A3 p (.lst (xs.set j v)))) ∨ (∃ kvs, A3 p = some (.dct kvs) ∧ isKey k = true ∧ kvs.length < lim ∧ D.nx σ (up A3 p (.dct (putK kvs k v)))) ∨ ∃ kvs, A3 p = some (.dnt kvs) ∧ isNK k = true ∧ kvs.length < lim ∧ D.nx σ (up A3 p (.dnt (putN kvs k v)))
    | _ => False) : rdS Γ (.setix a i e) D σ A := by
  unfold rdS; exact h
theorem s_setfld {Γ : Gam} {D : Ends} {σ : St} {A : AH} {a f e} (h : rdE Γ (xOf D σ) e σ A fun v A1 => rdE Γ (xOf D σ) a σ A1 fun x A2 => match x with
    | .ref p => ∃ C fs, A2 p = some (.ins C fs) ∧ Γ.has (meth C f) = false ∧ fs.length < 1000 ∧ D.nx σ (up A2 p (.ins C (putFW f v fs)))
    | _ => False) : rdS Γ (.setfld a f e) D σ A := by
  unfold rdS; exact h
theorem s_ex {Γ : Gam} {D : Ends} {σ : St} {A : AH} {e} (h : rdE Γ (xOf D σ) e σ A fun _ A1 => D.nx σ A1) : rdS Γ (.ex e) D σ A := by
  unfold rdS; exact h
theorem s_ret {Γ : Gam} {D : Ends} {σ : St} {A : AH} {e} (h : rdE Γ (xOf D σ) e σ A fun w A1 => D.rt w A1) : rdS Γ (.ret e) D σ A := by
  unfold rdS; exact h
theorem s_ife {Γ : Gam} {D : Ends} {σ : St} {A : AH} {c t u} (h : rdE Γ (xOf D σ) c σ A (boolK fun k A1 => if k = true then rdSs Γ t D σ A1 else rdSs Γ u D σ A1)) : rdS Γ (.ife c t u) D σ A := by
  unfold rdS; exact h
theorem s_wh {Γ : Gam} {D : Ends} {σ : St} {A : AH} {c b} (h : ∃ n, whGo (fun σ A Q => rdE Γ (xOf D σ) c σ A Q) (rdSs Γ b) D n σ A) : rdS Γ (.wh c b) D σ A := by
  unfold rdS; exact h
theorem s_fr {Γ : Gam} {D : Ends} {σ : St} {A : AH} {g it b} (h : rdI Γ (xOf D σ) it σ A fun xs ok A1 => frGo ok g (rdSs Γ b) D xs σ A1) : rdS Γ (.fr g it b) D σ A := by
  unfold rdS; exact h
theorem s_brk {Γ : Gam} {D : Ends} {σ : St} {A : AH} (h : D.bk σ A) : rdS Γ (.brk) D σ A := by
  unfold rdS; exact h
theorem s_cont {Γ : Gam} {D : Ends} {σ : St} {A : AH} (h : D.ct σ A) : rdS Γ (.cont) D σ A := by
  unfold rdS; exact h
theorem s_pass {Γ : Gam} {D : Ends} {σ : St} {A : AH} (h : D.nx σ A) : rdS Γ (.pass) D σ A := by
  unfold rdS; exact h
theorem s_par {Γ : Gam} {D : Ends} {σ : St} {A : AH} {i j a b} (h : rdE Γ (xOf D σ) a σ A fun x A1 => rdE Γ (xOf D σ) b σ A1 fun y A2 => D.nx (setv (setv σ i (some x)) j (some y)) A2) : rdS Γ (.par i j a b) D σ A := by
  unfold rdS; exact h
theorem s_rais {Γ : Gam} {D : Ends} {σ : St} {A : AH} {C as} (h : rdEs Γ (xOf D σ) as σ A fun ws A1 => D.ex C ws σ A1) : rdS Γ (.rais C as) D σ A := by
  unfold rdS; exact h
theorem s_lock {Γ : Gam} {D : Ends} {σ : St} {A : AH} {i s} (h : match getv σ i with
    | some (.ref a) => ∃ kvs, A a = some (.dct kvs) ∧ ∀ g : Gh, rdS Γ s { nx := fun σ' A' => A' a = some (.dcl g kvs) ∧ D.nx σ' (up A' a (.dct kvs)), rt := fun w A' => A' a = some (.dcl g kvs) ∧ D.rt w (up A' a (.dct kvs)), bk := fun σ' A' => A' a = some (.dcl g kvs) ∧ D.bk σ' (up A' a (.dct kvs)), ct := fun σ' A' => A' a = some (.dcl g kvs) ∧ D.ct σ' (up A' a (.dct kvs)) } σ (up A a (.dcl g kvs))
    | _ => False) : rdS Γ (.lock i s) D σ A := by
  unfold rdS; exact h
theorem s_tri {Γ : Gam} {D : Ends} {σ : St} {A : AH} {b hs} (h : rdSs Γ b { D with ex := fun C ws σ' A' => rdHs Γ hs D C ws σ' A' } σ A) : rdS Γ (.tri b hs) D σ A := by
  unfold rdS; exact h
theorem b_nil {Γ : Gam} {D : Ends} {σ : St} {A : AH} (h : D.nx σ A) : rdSs Γ (.nil) D σ A := by
  unfold rdSs; exact h
theorem b_cons {Γ : Gam} {D : Ends} {σ : St} {A : AH} {a r} (h : rdS Γ a { D with nx := fun σ' A' => rdSs Γ r D σ' A' } σ A) : rdSs Γ (.cons a r) D σ A := by
  unfold rdSs; exact h
theorem e_v' {Γ : Gam} {xk : XK} {σ : St} {A : AH} {Q : VK} {i : Nat} {w : W} (hv : getv σ i = some w) (h : Q w A) : rdE Γ xk (.v i) σ A Q := by
  unfold rdE; rw [hv]; exact h
theorem s_aug' {Γ : Gam} {D : Ends} {σ : St} {A : AH} {i : Nat} {op : BOp} {e : E} {x : W} (hv : getv σ i = some x) (h : rdE Γ (xOf D σ) e σ A fun y A1 => ipW op x y A1 fun z A2 => D.nx (setv σ i (some z)) A2) : rdS Γ (.aug i op e) D σ A := by
  unfold rdS; rw [hv]; exact h
local macro_rules | `(tactic| walk_at "stp") => `(tactic| ((try dsimp only); first | with_reducible refine e_v' (by with_unfolding_all exact rfl) ?_ | with_reducible refine s_aug' (by with_unfolding_all exact rfl) ?_ | with_reducible refine e_int ?_ | with_reducible refine e_str ?_ | with_reducible refine e_bl ?_ | with_reducible refine e_non ?_ | with_reducible refine e_bin ?_ | with_reducible refine e_neg ?_ | with_reducible refine e_cmp ?_ | with_reducible refine e_cmp2 ?_ | with_reducible refine e_and ?_ | with_reducible refine e_or ?_ | with_reducible refine e_not ?_ | with_reducible refine e_ite ?_ | with_reducible refine e_tup ?_ | with_reducible refine e_lst ?_ | with_reducible refine e_ix ?_ | with_reducible refine e_sl ?_ | with_reducible refine e_rv ?_ | with_reducible refine e_call ?_ | with_reducible refine e_make ?_ | with_reducible refine e_mth ?_ | with_reducible refine e_bi ?_ | with_reducible refine e_mt ?_ | with_reducible refine e_isi ?_ | with_reducible refine e_srt ?_ | with_reducible refine e_oeq ?_ | with_reducible refine e_xfld ?_ | with_reducible refine e_xisi ?_ | with_reducible refine e_lrg ?_ | with_reducible refine a_nil ?_ | with_reducible refine a_cons ?_ | with_reducible refine p_no ?_ | with_reducible refine p_so ?_ | with_reducible refine i_val ?_ | with_reducible refine i_rng1 ?_ | with_reducible refine i_rng2 ?_ | with_reducible refine i_rng3 ?_ | with_reducible refine i_enum ?_ | with_reducible refine i_zip ?_ | with_reducible refine i_rev ?_ | with_reducible refine s_asg ?_ | with_reducible refine s_setix ?_ | with_reducible refine s_setfld ?_ | with_reducible refine s_ex ?_ | with_reducible refine s_ret ?_ | with_reducible refine s_ife ?_ | with_reducible refine s_brk ?_ | with_reducible refine s_cont ?_ | with_reducible refine s_pass ?_ | with_reducible refine s_par ?_ | with_reducible refine s_rais ?_ | with_reducible refine b_nil ?_ | with_reducible refine b_cons ?_ | fail "no rule")) 
/-! Rules by values, for the head of the goal. -/
theorem v_add {A : AH} {Q : VK} {i j : Int} (h : Q (.int (i + j)) A) : binW .add (.int i) (.int j) A Q := h
theorem v_sub {A : AH} {Q : VK} {i j : Int} (h : Q (.int (i - j)) A) : binW .sub (.int i) (.int j) A Q := h
theorem v_addT {A : AH} {Q : VK} {xs ys : List W} (h0 : xs.length + ys.length ≤ lim) (h : Q (.tup (xs ++ ys)) A) : binW .add (.tup xs) (.tup ys) A Q := ⟨h0, h⟩
theorem v_addL {A : AH} {Q : VK} {a b : Addr} {xs ys : List W} (ha : A a = some (.lst xs)) (hb : A b = some (.lst ys)) (h0 : xs.length + ys.length ≤ lim) (h : ∀ p, A p = none → Q (.ref p) (up A p (.lst (xs ++ ys)))) : binW .add (.ref a) (.ref b) A Q := ⟨_, _, ha, hb, h0, h⟩
theorem v_mul {A : AH} {Q : VK} {i j : Int} (h0 : okMul i j) (h : Q (.int (i * j)) A) : binW .mul (.int i) (.int j) A Q := ⟨h0, h⟩
theorem v_div {A : AH} {Q : VK} {i j : Int} (h0 : okDiv j) (h : Q (.int (i / j)) A) : binW .fdiv (.int i) (.int j) A Q := ⟨h0, h⟩
theorem v_mod {A : AH} {Q : VK} {i j : Int} (h0 : 0 < j) (h : Q (.int (i % j)) A) : binW .mod (.int i) (.int j) A Q := ⟨h0, h⟩
theorem v_gt {A : AH} {k : Bool → Prop} {i j : Int} (h : k (decide (j < i))) : cmpW .gt (.int i) (.int j) A k := h
theorem v_ge {A : AH} {k : Bool → Prop} {i j : Int} (h : k (decide (j ≤ i))) : cmpW .ge (.int i) (.int j) A k := h
theorem v_lt {A : AH} {k : Bool → Prop} {i j : Int} (h : k (decide (i < j))) : cmpW .lt (.int i) (.int j) A k := h
theorem v_le {A : AH} {k : Bool → Prop} {i j : Int} (h : k (decide (i ≤ j))) : cmpW .le (.int i) (.int j) A k := h
theorem v_eqI {A : AH} {k : Bool → Prop} {i j : Int} (h : k (decide (i = j))) : cmpW .eq (.int i) (.int j) A k := eq_int h
theorem v_ixL {A : AH} {Q : VK} {a : Addr} {xs : List W} {j : Int} {v : W} (ha : A a = some (.lst xs)) (hv : at? xs j = some v) (h : Q v A) : ixW (.ref a) (.int j) A Q := .inl ⟨_, _, _, rfl, ha, hv, h⟩
theorem v_ixT {A : AH} {Q : VK} {xs : List W} {j : Int} {v : W} (hv : at? xs j = some v) (h : Q v A) : ixW (.tup xs) (.int j) A Q := ⟨_, hv, h⟩
theorem v_ixF {A : AH} {Q : VK} {xs : List W} {j : Int} {v : W} (hv : at? xs j = some v) (h : Q v A) : ixW (.fz xs) (.int j) A Q := ⟨_, hv, h⟩
theorem v_lenL {A : AH} {Q : VK} {a : Addr} {xs : List W} (ha : A a = some (.lst xs)) (h : Q (.int xs.length) A) : biW .len [.ref a] A Q := .inl ⟨_, ha, h⟩
theorem v_lenT {A : AH} {Q : VK} {xs : List W} (h : Q (.int xs.length) A) : biW .len [.tup xs] A Q := h
theorem v_lenF {A : AH} {Q : VK} {xs : List W} (h : Q (.int xs.length) A) : biW .len [.fz xs] A Q := h
theorem v_int {A : AH} {Q : VK} {i : Int} (h : Q (.int i) A) : biW .int [.int i] A Q := h
theorem v_if {P : Prop} [Decidable P] {K : Bool → AH → Prop} {A : AH} (h1 : P → K true A) (h2 : ¬ P → K false A) : boolK K (.bl (decide P)) A := by
  by_cases h : P
  · rw [decide_eq_true h]; exact h1 h
  · rw [decide_eq_false h]; exact h2 h
theorem at0 {α : Type} {x : α} {xs : List α} : at? (x :: xs) 0 = some x := by simp [at?, idx]
theorem g_nm {i : Nat} {x : W} {σ : St} {k : St → Prop} (h : k (setv σ i (some x))) : gDo (.nm i) x σ k := h
theorem u_same {A : AH} {a : Addr} {o : O} : up A a o a = some o := if_pos rfl
theorem u_ne {A : AH} {a b : Addr} {o : O} (h : b ≠ a) {r : Option O} (q : A b = r) : up A a o b = r := (if_neg h).trans q
def spDraw : Sp := fun ws A Q _ => ∃ (p c : Addr) (many : Int) (m : Nat), ws = [.ref p, .int many] ∧ 0 < many ∧ many < 2 ^ 60 ∧ Pool p c (m + 1) A ∧ ∀ (r : Int) A', 0 ≤ r → r < many → PFr p c A A' → Pool p c m A' → Q (.int r) A'
def b_law_draw : Ss := (.cons (.setix (.v 0) (.int 1) (.bin .add (.ix (.v 0) (.int 1)) (.int 1))) (.cons (.asg (.nm 2) (.ix (.v 0) (.int 2))) (.cons (.ife (.cmp .gt (.bi .len (.cons (.v 2) .nil)) (.int 0)) (.cons (.asg (.nm 4) (.bin .mod (.bi .int (.cons (.ix (.v 2) (.int 0)) .nil)) (.v 1))) (.cons (.setix (.v 2) (.int 0) (.bin .fdiv (.bi .int (.cons (.ix (.v 2) (.int 0)) .nil)) (.v 1))) (.cons (.ife (.cmp .eq (.ix (.v 2) (.int 0)) (.int 0)) (.cons (.ex (.mt .popAt (.v 2) (.cons (.int 0) .nil))) .nil) .nil) (.cons (.ret (.v 4)) .nil)))) .nil) (.cons (.asg (.nm 3) (.bin .mod (.bi .int (.cons (.bin .mul (.bin .add (.ix (.v 0) (.int 0)) (.bin .mul (.int 7919) (.ix (.v 0) (.int 1)))) (.int 48271)) .nil)) (.int 2147483647))) (.cons (.asg (.nm 3) (.bin .mod (.bi .int (.cons (.bin .mul (.v 3) (.bin .add (.bin .fdiv (.v 3) (.int 1009)) (.int 69621))) .nil)) (.int 2147483647))) (.cons (.asg (.nm 3) (.bin .mod (.bi .int (.cons (.bin .mul (.v 3) (.bin .add (.bin .fdiv (.v 3) (.int 2003)) (.int 40692))) .nil)) (.int 2147483399))) (.cons (.ret (.bin .mod (.bi .int (.cons (.bin .fdiv (.v 3) (.int 16)) .nil)) (.v 1))) .nil)))))))
theorem k_draw (Γ : Gam) : Keeps Γ ⟨2, 5, b_law_draw⟩ spDraw := by
  rintro ws A Q E ⟨p, c, many, m, rfl, h0, h1, ⟨hpc, seed, k, cs, hp, hc, s0, s1, k0, k1⟩, h⟩
  refine ⟨rfl, ?_⟩
  have hcp : c ≠ p := Ne.symm hpc
  unfold b_law_draw
  repeat walk_at "stp"
  refine v_ixL hp (by exact rfl) ?_
  repeat walk_at "stp"
  refine v_add ?_
  repeat walk_at "stp"
  refine .inl ⟨_, _, 1, rfl, hp, rfl, ?_⟩
  repeat walk_at "stp"
  refine v_ixL u_same (by exact rfl) ?_
  refine g_nm ?_
  repeat walk_at "stp"
  refine v_lenL (xs := cs.map .int) (u_ne hcp hc) ?_
  repeat walk_at "stp"
  refine v_gt ?_
  refine v_if (fun hc0 => ?_) (fun hc0 => ?_)
  · cases cs with
    | nil => simp at hc0
    | cons x cs =>
      show (if true = true then _ else _)
      rw [if_pos rfl]
      repeat walk_at "stp"
      refine v_ixL (u_ne hcp hc) (at0 (x := N.W.int x) (xs := cs.map .int)) ?_
      repeat walk_at "stp"
      refine v_int ?_
      repeat walk_at "stp"
      refine v_mod h0 ?_
      refine g_nm ?_
      repeat walk_at "stp"
      refine v_ixL (u_ne hcp hc) (at0 (x := N.W.int x) (xs := cs.map .int)) ?_
      repeat walk_at "stp"
      refine v_int ?_
      repeat walk_at "stp"
      refine v_div (okDiv_of 60 h0 (by omega) (by omega)) ?_
      repeat walk_at "stp"
      refine .inl ⟨_, _, 0, rfl, u_ne hcp hc, by simp [idx], ?_⟩
      repeat walk_at "stp"
      refine v_ixL u_same (at0 (x := N.W.int (x / many)) (xs := cs.map .int)) ?_
      repeat walk_at "stp"
      refine v_eqI ?_
      refine v_if (fun hz => ?_) (fun hz => ?_)
      · show (if true = true then _ else _)
        rw [if_pos rfl]
        repeat walk_at "stp"
        refine ⟨⟨_, _, rfl, u_same⟩, ?_⟩
        repeat walk_at "stp"
        refine ⟨_, 0, .int (x / many), u_same, by decide, by decide, by simp [idx], rfl, ?_⟩
        repeat walk_at "stp"
        exact dn_of (h _ _ (Int.emod_nonneg _ (by omega)) (Int.emod_lt_of_pos _ h0) (fun q h1 h2 => u_ne h2 (u_ne h2 (u_ne h1 rfl))) ⟨hpc, seed, k + 1, cs, u_ne hpc (u_ne hpc u_same), u_same, s0, s1, by omega, by omega⟩)
      · show (if false = true then _ else _)
        rw [if_neg Bool.false_ne_true]
        repeat walk_at "stp"
        exact dn_of (h _ _ (Int.emod_nonneg _ (by omega)) (Int.emod_lt_of_pos _ h0) (fun q h1 h2 => u_ne h2 (u_ne h1 rfl)) ⟨hpc, seed, k + 1, (x / many) :: cs, u_ne hpc u_same, u_same, s0, s1, by omega, by omega⟩)
  · show (if false = true then _ else _)
    rw [if_neg Bool.false_ne_true]
    have b1 : (k + 1).natAbs < 2 ^ 1001 := by omega
    repeat walk_at "stp"
    refine v_ixL u_same (by exact rfl) ?_
    repeat walk_at "stp"
    refine v_ixL u_same (by exact rfl) ?_
    repeat walk_at "stp"
    refine v_mul (okMul_of 13 1001 (by decide) b1 (by omega)) ?_
    repeat walk_at "stp"
    refine v_add ?_
    repeat walk_at "stp"
    refine v_mul (okMul_of 1020 16 (by omega) (by decide) (by omega)) ?_
    repeat walk_at "stp"
    refine v_int ?_
    repeat walk_at "stp"
    refine v_mod (by decide) ?_
    refine g_nm ?_
    generalize hm1 : (seed + 7919 * (k + 1)) * 48271 % 2147483647 = m1
    have p1 : 0 ≤ m1 := by rw [← hm1]; exact Int.emod_nonneg _ (by decide)
    have p2 : m1 < 2147483647 := by rw [← hm1]; exact Int.emod_lt_of_pos _ (by decide)
    repeat walk_at "stp"
    refine v_div (okDiv_of 20 (by decide) (by decide) (by omega)) ?_
    repeat walk_at "stp"
    refine v_add ?_
    repeat walk_at "stp"
    have q1 : 0 ≤ m1 / 1009 := Int.ediv_nonneg p1 (by decide)
    have q2 : m1 / 1009 ≤ m1 := Int.ediv_le_self _ p1
    refine v_mul (okMul_of 32 32 (by omega) (by omega) (by omega)) ?_
    repeat walk_at "stp"
    refine v_int ?_
    repeat walk_at "stp"
    refine v_mod (by decide) ?_
    refine g_nm ?_
    generalize hm2 : m1 * (m1 / 1009 + 69621) % 2147483647 = m2
    have p3 : 0 ≤ m2 := by rw [← hm2]; exact Int.emod_nonneg _ (by decide)
    have p4 : m2 < 2147483647 := by rw [← hm2]; exact Int.emod_lt_of_pos _ (by decide)
    repeat walk_at "stp"
    refine v_div (okDiv_of 20 (by decide) (by decide) (by omega)) ?_
    repeat walk_at "stp"
    refine v_add ?_
    repeat walk_at "stp"
    have q3 : 0 ≤ m2 / 2003 := Int.ediv_nonneg p3 (by decide)
    have q4 : m2 / 2003 ≤ m2 := Int.ediv_le_self _ p3
    refine v_mul (okMul_of 32 32 (by omega) (by omega) (by omega)) ?_
    repeat walk_at "stp"
    refine v_int ?_
    repeat walk_at "stp"
    refine v_mod (by decide) ?_
    refine g_nm ?_
    repeat walk_at "stp"
    refine v_div (okDiv_of 20 (by decide) (by decide) (by omega)) ?_
    repeat walk_at "stp"
    refine v_int ?_
    repeat walk_at "stp"
    refine v_mod h0 ?_
    exact dn_of (h _ _ (Int.emod_nonneg _ (by omega)) (Int.emod_lt_of_pos _ h0) (fun q h1 h2 => u_ne h1 rfl) ⟨hpc, seed, k + 1, cs, u_same, u_ne hcp hc, s0, s1, by omega, by omega⟩)
/-! Loops, by what holds of the rest. -/
theorem fr_ind {ok : AH → Prop} {g : G} {b : TS} {D : Ends} (I : List W → St → AH → Prop) (h0 : ∀ σ A, I [] σ A → ok A ∧ D.nx σ A)
    (hs : ∀ x r σ A, (∀ σ A, I r σ A → frGo ok g b D r σ A) → I (x :: r) σ A → ok A ∧ gDo g x σ fun σ1 => b { D with nx := fun σ' A' => dn A' fun B => frGo ok g b D r σ' B, ct := fun σ' A' => dn A' fun B => frGo ok g b D r σ' B, bk := D.nx } σ1 A) :
    ∀ xs σ A, I xs σ A → frGo ok g b D xs σ A
  | [], σ, A, h => by unfold frGo; exact h0 σ A h
  | x :: r, σ, A, h => by unfold frGo; exact hs x r σ A (fun σ A h => fr_ind I h0 hs r σ A h) h
theorem lc_ind {ok : AH → Prop} {g : G} {σ : St} {c : Option TE} {e : TE} {Q : VK} (I : List W → List W → AH → Prop) (h0 : ∀ acc A, I [] acc A → ok A ∧ ∀ p, A p = none → Q (.ref p) (up A p (.lst acc)))
    (hs : ∀ x r acc A, (∀ acc A, I r acc A → lcGo ok g σ c e Q r acc A) → I (x :: r) acc A → ok A ∧ gDo g x σ fun σ1 => match c with
      | none => e σ1 A fun y A2 => dn A2 fun A3 => lcGo ok g σ c e Q r (acc ++ [y]) A3
      | some t => t σ1 A (boolK fun b A1 => if b = true then e σ1 A1 fun y A2 => dn A2 fun A3 => lcGo ok g σ c e Q r (acc ++ [y]) A3 else dn A1 fun A3 => lcGo ok g σ c e Q r acc A3)) :
    ∀ xs acc A, I xs acc A → lcGo ok g σ c e Q xs acc A
  | [], acc, A, h => by unfold lcGo; exact h0 acc A h
  | x :: r, acc, A, h => by unfold lcGo; exact hs x r acc A (fun acc A h => lc_ind I h0 hs r acc A h) h
/-- while: I by what is left at most -/
theorem wh_ind {c : TE} {b : TS} {D : Ends} (I : Nat → St → AH → Prop)
    (hs : ∀ n σ A, (∀ σ A, I n σ A → whGo c b D n σ A) → I (n + 1) σ A → c σ A (boolK fun k A1 => if k = true then b { D with nx := fun σ' A' => dn A' fun B => whGo c b D n σ' B, ct := fun σ' A' => dn A' fun B => whGo c b D n σ' B, bk := D.nx } σ A1 else D.nx σ A1)) (h0 : ∀ σ A, ¬ I 0 σ A) :
    ∀ n σ A, I n σ A → whGo c b D n σ A
  | 0, σ, A, h => absurd h (h0 σ A)
  | n + 1, σ, A, h => by unfold whGo; exact hs n σ A (fun σ A h => wh_ind I hs h0 n σ A h) h
def b_law_pool : Ss := (.cons (.asg (.nm 1) (.bin .add (.bin .add (.bin .mod (.bi .int (.cons (.bi .sum (.cons (.sl (.v 0) .no (.so (.int 1))) .nil)) .nil)) (.int 1000003)) (.bi .len (.cons (.v 0) .nil))) (.int 1))) (.cons (.fr (.nm 2) (.val (.sl (.v 0) .no (.so (.int 63)))) (.cons (.asg (.nm 1) (.bin .mod (.bi .int (.cons (.bin .add (.bin .add (.bin .mul (.v 1) (.int 48271)) (.bin .mod (.bi .int (.cons (.v 2) .nil)) (.int 2147483629))) (.int 11)) .nil)) (.int 2147483647))) .nil)) (.cons (.ret (.lst (.cons (.v 1) (.cons (.int 0) (.cons (.lc (.bi .abs (.cons (.v 2) .nil)) (.nm 2) (.val (.sl (.v 0) .no (.so (.int 63)))) (.so (.cmp .ge (.bi .abs (.cons (.v 2) .nil)) (.bin .pow (.int 10) (.int 18)))) [2]) .nil))))) .nil)))
def spPool : Sp := fun ws A Q _ => ∃ ns : List Int, ws = [.fz (ns.map .int)] ∧ ns.length ≤ 63 ∧ ∀ p c A', A p = none → A c = none → (∀ q, q ≠ p → q ≠ c → A' q = A q) → Pool p c (2 ^ 900) A' → Q (.ref p) A'
theorem v_slF {A : AH} {Q : VK} {xs : List W} {lo hi : Option Int} (h : ∀ p, A p = none → Q (.ref p) (up A p (.lst (cut xs lo hi)))) : slW (.fz xs) lo hi A Q := h
theorem v_sumL {A : AH} {Q : VK} {a : Addr} {xs : List W} {ns : List Int} (ha : A a = some (.lst xs)) (hx : allI xs = some ns) (h : Q (.int ns.sum) A) : biW .sum [.ref a] A Q := ⟨_, _, ha, hx, h⟩
theorem allI_map : ∀ ns : List Int, allI (ns.map W.int) = some ns
  | [] => rfl
  | n :: r => by show (allI (r.map W.int)).map _ = _; rw [allI_map r]; rfl
theorem cut_map {α β : Type} (f : α → β) (xs : List α) (lo hi : Option Int) : cut (xs.map f) lo hi = (cut xs lo hi).map f := by
  unfold cut
  rw [List.length_map, List.map_take, List.map_drop]
theorem v_abs {A : AH} {Q : VK} {i : Int} (h : Q (.int (if i < 0 then -i else i)) A) : biW .abs [.int i] A Q := h
theorem v_pow {A : AH} {Q : VK} {i j : Int} (h0 : okPow i j) (h : Q (.int (i ^ j.toNat)) A) : binW .pow (.int i) (.int j) A Q := ⟨h0, h⟩
theorem u_none {A : AH} {a b : Addr} {o : O} (h : up A a o b = none) : b ≠ a ∧ A b = none := by
  by_cases e : b = a
  · rw [e, u_same] at h; cases h
  · exact ⟨e, (if_neg e).symm.trans h⟩
theorem k_pool (Γ : Gam) : Keeps Γ ⟨1, 3, b_law_pool⟩ spPool := by
  rintro ws A Q E ⟨ns, rfl, hl, h⟩
  refine ⟨rfl, ?_⟩
  unfold b_law_pool
  repeat walk_at "stp"
  refine v_slF fun p1 n1 => ?_
  rw [cut_map]
  repeat walk_at "stp"
  refine v_sumL u_same (allI_map _) ?_
  repeat walk_at "stp"
  refine v_int ?_
  repeat walk_at "stp"
  refine v_mod (by decide) ?_
  repeat walk_at "stp"
  refine v_lenF ?_
  repeat walk_at "stp"
  refine v_add ?_
  repeat walk_at "stp"
  refine v_add ?_
  refine g_nm ?_
  repeat walk_at "stp"
  refine s_fr ?_
  repeat walk_at "stp"
  refine v_slF fun p2 n2 => ?_
  rw [cut_map]
  refine .inl ⟨_, u_same, ?_⟩
  generalize hs0 : (cut ns none (some 1)).sum % 1000003 + ((ns.map W.int).length : Int) + 1 = s0
  have b1 : 0 ≤ s0 := by
    have := Int.emod_nonneg (cut ns none (some 1)).sum (show (1000003 : Int) ≠ 0 by decide)
    omega
  have b2 : s0 < 2 ^ 40 := by
    have := Int.emod_lt_of_pos (cut ns none (some 1)).sum (show (0 : Int) < 1000003 by decide)
    rw [List.length_map] at hs0
    omega
  refine fr_ind (fun xs σ A' => ∃ (zs : List Int) (sd : Int) (w : Option W), xs = zs.map .int ∧ σ = [some (.fz (ns.map .int)), some (.int sd), w] ∧ 0 ≤ sd ∧ sd < 2 ^ 40 ∧ A' = up (up A p1 (.lst ((cut ns none (some 1)).map .int))) p2 (.lst ((cut ns none (some 63)).map .int))) ?_ ?_ _ _ _ ⟨_, s0, none, rfl, rfl, b1, b2, rfl⟩
  · rintro σ A' ⟨zs, sd, w, hz, rfl, b1, b2, rfl⟩
    refine ⟨u_same, ?_⟩
    repeat walk_at "stp"
    refine e_lc ?_
    repeat walk_at "stp"
    refine v_slF fun p3 n3 => ?_
    rw [cut_map]
    refine .inl ⟨_, u_same, ?_⟩
    generalize hA3 : up (up (up A p1 (.lst ((cut ns none (some 1)).map .int))) p2 (.lst ((cut ns none (some 63)).map .int))) p3 (.lst ((cut ns none (some 63)).map W.int)) = A3
    have hp3 : A3 p3 = some (.lst ((cut ns none (some 63)).map W.int)) := by rw [← hA3]; exact u_same
    refine ⟨?_, lc_ind (fun xs acc A' => (∃ zs : List Int, xs = zs.map .int) ∧ (∃ cs : List Int, acc = cs.map .int) ∧ A' = A3) ?_ ?_ _ _ _ ⟨⟨_, rfl⟩, ⟨[], rfl⟩, rfl⟩⟩
    · rw [List.length_map]
      unfold cut lim
      rw [List.length_take, List.length_drop]
      omega
    · rintro acc A' ⟨_, ⟨cs, rfl⟩, rfl⟩
      refine ⟨hp3, fun p4 n4 => ?_⟩
      repeat walk_at "stp"
      intro p5 n5
      rw [← hA3] at n4 n5
      obtain ⟨e54, n5⟩ := u_none n5
      obtain ⟨e53, n5⟩ := u_none n5
      obtain ⟨e52, n5⟩ := u_none n5
      obtain ⟨e51, n5⟩ := u_none n5
      obtain ⟨e43, n4⟩ := u_none n4
      obtain ⟨e42, n4⟩ := u_none n4
      obtain ⟨e41, n4⟩ := u_none n4
      refine ⟨up (up A p4 (.lst (cs.map .int))) p5 (.lst [.int sd, .int 0, .ref p4]), fun q o hq => ?_, h p5 p4 _ n5 n4 (fun q h1 h2 => u_ne h1 (u_ne h2 rfl)) ⟨e54, sd, 0, cs, u_same, u_ne (Ne.symm e54) u_same, b1, b2, by omega, ?_⟩⟩
      · by_cases h5 : q = p5
        · subst h5; rw [u_same] at hq ⊢; exact hq
        · rw [up_ne h5] at hq ⊢
          by_cases h4 : q = p4
          · subst h4; rw [u_same] at hq ⊢; exact hq
          · rw [up_ne h4] at hq ⊢
            have g1 : q ≠ p1 := fun e => by rw [e, n1] at hq; cases hq
            have g2 : q ≠ p2 := fun e => by rw [e, (u_none n2).2] at hq; cases hq
            have g3 : q ≠ p3 := fun e => by rw [e, (u_none (u_none n3).2).2] at hq; cases hq
            rw [← hA3, up_ne g3, up_ne g2, up_ne g1]; exact hq
      · have z : (2 : Nat) ^ 900 ≤ 2 ^ 1000 := Nat.pow_le_pow_right (by decide) (by decide)
        rw [Int.zero_add]
        exact_mod_cast z
    · rintro x r acc A' ih ⟨⟨zs, hz2⟩, ⟨cs, rfl⟩, rfl⟩
      refine ⟨hp3, ?_⟩
      cases zs with
      | nil => cases hz2
      | cons z zs =>
        cases hz2
        refine g_nm ?_
        show rdE _ _ _ _ _ _
        repeat walk_at "stp"
        refine v_abs ?_
        repeat walk_at "stp"
        refine v_pow ⟨by decide, by decide, by decide⟩ ?_
        refine v_ge ?_
        refine v_if (fun hc => ?_) (fun hc => ?_)
        · show (if true = true then _ else _)
          rw [if_pos rfl]
          repeat walk_at "stp"
          refine v_abs ?_
          exact dn_of (ih _ _ ⟨⟨zs, rfl⟩, ⟨cs ++ [_], by rw [List.map_append]; rfl⟩, rfl⟩)
        · show (if false = true then _ else _)
          rw [if_neg Bool.false_ne_true]
          exact dn_of (ih _ _ ⟨⟨zs, rfl⟩, ⟨cs, rfl⟩, rfl⟩)
  · rintro x r σ A' ih ⟨zs, sd, w, hz, rfl, b1, b2, rfl⟩
    refine ⟨u_same, ?_⟩
    cases zs with
    | nil => cases hz
    | cons z zs =>
      cases hz
      refine g_nm ?_
      repeat walk_at "stp"
      refine v_mul (okMul_of 40 16 (by omega) (by decide) (by omega)) ?_
      repeat walk_at "stp"
      refine v_int ?_
      repeat walk_at "stp"
      refine v_mod (by decide) ?_
      repeat walk_at "stp"
      refine v_add ?_
      repeat walk_at "stp"
      refine v_add ?_
      repeat walk_at "stp"
      refine v_int ?_
      repeat walk_at "stp"
      refine v_mod (by decide) ?_
      refine g_nm ?_
      repeat walk_at "stp"
      refine dn_of (ih _ _ ⟨zs, _, _, rfl, rfl, Int.emod_nonneg _ (by decide), ?_, rfl⟩)
      exact Int.lt_trans (Int.emod_lt_of_pos _ (by decide)) (by decide)
/-! More rules by values; a tactic that goes on by itself. -/
theorem b_bl {K : Bool → AH → Prop} {A : AH} {b : Bool} (h : K b A) : boolK K (.bl b) A := h
theorem if_t {P Q : Prop} (h : P) : if true = true then P else Q := by rw [if_pos rfl]; exact h
theorem if_f {P Q : Prop} (h : Q) : if false = true then P else Q := by rw [if_neg Bool.false_ne_true]; exact h
theorem v_cond {P : Prop} [Decidable P] {X Y : AH → Prop} {A : AH} (h1 : P → X A) (h2 : ¬ P → Y A) : boolK (fun k A1 => if k = true then X A1 else Y A1) (.bl (decide P)) A := v_if (fun h => if_t (h1 h)) fun h => if_f (h2 h)
theorem v_isTT {A : AH} {xs : List W} {k : Bool → Prop} (h : k true) : isiW (.tup xs) .tuple A k := h
theorem v_isTS {A : AH} {xs : List W} {k : Bool → Prop} (h : k false) : isiW (.tup xs) .str A k := h
theorem v_isTI {A : AH} {xs : List W} {k : Bool → Prop} (h : k false) : isiW (.tup xs) .int A k := h
theorem v_isSS {A : AH} {s : Str} {k : Bool → Prop} (h : k true) : isiW (.str s) .str A k := h
theorem v_isST {A : AH} {s : Str} {k : Bool → Prop} (h : k false) : isiW (.str s) .tuple A k := h
theorem v_isII {A : AH} {i : Int} {k : Bool → Prop} (h : k true) : isiW (.int i) .int A k := h
theorem v_isIB {A : AH} {i : Int} {k : Bool → Prop} (h : k false) : isiW (.int i) .bool A k := h
theorem v_isO {A : AH} {a : Addr} {C D : Str} {fs : List (Str × W)} {k : Bool → Prop} (ha : A a = some (.ins C fs)) (h : k (subC C D)) : isiW (.ref a) (.own D) A k := by
  unfold isiW; dsimp only; rw [ha]; exact h
theorem v_itT {A : AH} {xs : List W} {k : List W → (AH → Prop) → Prop} (h : k xs fun _ => True) : valIt (.tup xs) A k := h
theorem v_itF {A : AH} {xs : List W} {k : List W → (AH → Prop) → Prop} (h : k xs fun _ => True) : valIt (.fz xs) A k := h
theorem v_itS {A : AH} {s : Str} {k : List W → (AH → Prop) → Prop} (h : k (s.cps.toList.map fun c => .str ⟨#[c]⟩) fun _ => True) : valIt (.str s) A k := h
theorem v_itL {A : AH} {a : Addr} {xs : List W} {k : List W → (AH → Prop) → Prop} (ha : A a = some (.lst xs)) (h : k xs fun A' => A' a = some (.lst xs)) : valIt (.ref a) A k := .inl ⟨_, ha, h⟩
theorem v_itD {A : AH} {a : Addr} {g : Gh} {kvs : List (W × W)} {k : List W → (AH → Prop) → Prop} (ha : A a = some (.dcl g kvs)) (h : k (kvs.map (·.1)) fun A' => A' a = some (.dcl g kvs)) : valIt (.ref a) A k := .inr ⟨_, _, ha, h⟩
theorem v_liT {A : AH} {xs : List W} {k : List W → (AH → Prop) → Prop} (h : k xs fun _ => True) : lstIt (.tup xs) A k := h
theorem v_liL {A : AH} {a : Addr} {xs : List W} {k : List W → (AH → Prop) → Prop} (ha : A a = some (.lst xs)) (h : k xs fun A' => A' a = some (.lst xs)) : lstIt (.ref a) A k := ⟨_, ha, h⟩
theorem v_isin {A : AH} {x y : W} {k : Bool → Prop} (h : inW x y A k) : cmpW .isin x y A k := h
theorem v_notin {A : AH} {x y : W} {k : Bool → Prop} (h : inW x y A fun b => k (!b)) : cmpW .notin x y A k := h
theorem v_eq {A : AH} {x y : W} {k : Bool → Prop} (h : eqW x y A k) : cmpW .eq x y A k := h
theorem v_ne {A : AH} {x y : W} {k : Bool → Prop} (h : eqW x y A fun b => k (!b)) : cmpW .ne x y A k := h
theorem v_neI {A : AH} {i j : Int} {k : Bool → Prop} (h : k (decide (i ≠ j))) : cmpW .ne (.int i) (.int j) A k := by
  refine v_ne (eq_int ?_)
  have e : (!decide (i = j)) = decide (i ≠ j) := by by_cases q : i = j <;> simp [q]
  rw [e]; exact h
theorem v_inD {A : AH} {a : Addr} {kvs : List (W × W)} {x : W} {k : Bool → Prop} (ha : A a = some (.dct kvs)) (hk : isKey x = true) (h : k (getK kvs x).isSome) : inW x (.ref a) A k := .inr (.inl ⟨_, .inl ha, hk, h⟩)
theorem v_inN {A : AH} {a : Addr} {kvs : List (W × W)} {x : W} {k : Bool → Prop} (ha : A a = some (.dnt kvs)) (hk : isNK x = true) (h : k (getN kvs x).isSome) : inW x (.ref a) A k := .inr (.inr ⟨_, ha, hk, h⟩)
theorem v_ixD {A : AH} {Q : VK} {a : Addr} {kvs : List (W × W)} {x v : W} (ha : Dc A a kvs) (hk : isKey x = true) (hv : getK kvs x = some v) (h : Q v A) : ixW (.ref a) x A Q := by
  cases x <;> first | (cases hk; done) | exact .inr (.inl ⟨_, _, ha, hk, hv, h⟩)
theorem v_ixN {A : AH} {Q : VK} {a : Addr} {kvs : List (W × W)} {x v : W} (ha : A a = some (.dnt kvs)) (hk : isNK x = true) (hv : getN kvs x = some v) (h : Q v A) : ixW (.ref a) x A Q := by
  cases x <;> first | (cases hk; done) | exact .inr (.inr ⟨_, _, ha, hk, hv, h⟩)
theorem r_dct {Γ : Gam} {xk : XK} {σ : St} {A : AH} {Q : VK} (h : ∀ p, A p = none → Q (.ref p) (up A p (.dct []))) : rdE Γ xk .dct0 σ A Q := e_dct0 (.inl h)
theorem r_dnt {Γ : Gam} {xk : XK} {σ : St} {A : AH} {Q : VK} (h : ∀ p, A p = none → Q (.ref p) (up A p (.dnt []))) : rdE Γ xk .dct0 σ A Q := e_dct0 (.inr h)
theorem v_tupleL {A : AH} {Q : VK} {a : Addr} {xs : List W} (ha : A a = some (.lst xs)) (h : Q (.tup xs) A) : biW .tuple [.ref a] A Q := ⟨_, ha, h⟩
theorem v_tupleT {A : AH} {Q : VK} {xs : List W} (h : Q (.tup xs) A) : biW .tuple [.tup xs] A Q := h
theorem v_listT {A : AH} {Q : VK} {xs : List W} (h : ∀ p, A p = none → Q (.ref p) (up A p (.lst xs))) : biW .list [.tup xs] A Q := h
theorem v_listL {A : AH} {Q : VK} {a : Addr} {xs : List W} (ha : A a = some (.lst xs)) (h : ∀ p, A p = none → Q (.ref p) (up A p (.lst xs))) : biW .list [.ref a] A Q := ⟨_, ha, h⟩
theorem v_slT {A : AH} {Q : VK} {xs : List W} {lo hi : Option Int} (h : Q (.tup (cut xs lo hi)) A) : slW (.tup xs) lo hi A Q := h
theorem v_slL {A : AH} {Q : VK} {a : Addr} {xs : List W} {lo hi : Option Int} (ha : A a = some (.lst xs)) (h : ∀ p, A p = none → Q (.ref p) (up A p (.lst (cut xs lo hi)))) : slW (.ref a) lo hi A Q := ⟨_, ha, h⟩
theorem v_lenS {A : AH} {Q : VK} {s : Str} (h0 : s.length ≤ lim) (h : Q (.int s.length) A) : biW .len [.str s] A Q := ⟨h0, h⟩
theorem v_addS {A : AH} {Q : VK} {s t : Str} (h0 : s.length + t.length ≤ lim) (h : Q (.str (s ++ t)) A) : binW .add (.str s) (.str t) A Q := ⟨h0, h⟩
theorem v_ltS {A : AH} {k : Bool → Prop} {s t : Str} (h : k (decide (s.cps.toList < t.cps.toList))) : cmpW .lt (.str s) (.str t) A k := h
theorem v_max2 {A : AH} {Q : VK} {i j : Int} (h : Q (.int (if j > i then j else i)) A) : biW .max2 [.int i, .int j] A Q := h
theorem allB_map {α : Type} (f : α → Bool) : ∀ xs : List α, allB (xs.map fun x => .bl (f x)) = some (xs.map f)
  | [] => rfl
  | x :: xs => by show (allB (xs.map fun x => .bl (f x))).map _ = _; rw [allB_map f xs]; rfl
theorem v_all {A : AH} {Q : VK} {a : Addr} {α : Type} {xs : List α} {f : α → Bool} (ha : A a = some (.lst (xs.map fun x => .bl (f x)))) (h : Q (.bl (xs.all f)) A) : biW .all [.ref a] A Q := by
  refine ⟨_, _, ha, allB_map f xs, ?_⟩
  rw [List.all_map]; exact h
theorem v_any {A : AH} {Q : VK} {a : Addr} {α : Type} {xs : List α} {f : α → Bool} (ha : A a = some (.lst (xs.map fun x => .bl (f x)))) (h : Q (.bl (xs.any f)) A) : biW .any [.ref a] A Q := by
  refine ⟨_, _, ha, allB_map f xs, ?_⟩
  rw [List.any_map]; exact h
theorem v_neg {A : AH} {Q : VK} {i : Int} (h : Q (.int (-i)) A) : Q (.int (-i)) A := h
/-! ### comprehensions of pure things -/
theorem lc_filter {ok : AH → Prop} {g : G} {σ : St} {t e : TE} {Q : VK} {α : Type} {A : AH} (w : α → W) (s : α → St) (b : α → Bool) (f : α → W) (hok : ok A) :
    ∀ (xs : List α) (acc : List W), (∀ x ∈ xs, gW g (w x) σ = some (s x)) → (∀ x ∈ xs, ∀ K : Bool → AH → Prop, K (b x) A → t (s x) A (boolK K)) → (∀ x ∈ xs, b x = true → ∀ K : VK, K (f x) A → e (s x) A K) →
      (∀ p, A p = none → Q (.ref p) (up A p (.lst (acc ++ (xs.filter b).map f)))) → lcGo ok g σ (some t) e Q (xs.map w) acc A
  | [], acc, _, _, _, h => by
    show lcGo ok g σ (some t) e Q [] acc A
    unfold lcGo
    refine ⟨hok, fun p hp => ?_⟩
    have := h p hp
    rw [List.filter_nil, List.map_nil, List.append_nil] at this
    exact this
  | x :: xs, acc, hg, hc, he, h => by
    show lcGo ok g σ (some t) e Q (w x :: xs.map w) acc A
    unfold lcGo
    refine ⟨hok, ?_⟩
    unfold gDo
    rw [hg x List.mem_cons_self]
    have hg' := fun y hy => hg y (List.mem_cons_of_mem x hy)
    have hc' := fun y hy => hc y (List.mem_cons_of_mem x hy)
    have he' := fun y hy => he y (List.mem_cons_of_mem x hy)
    refine hc x List.mem_cons_self _ ?_
    cases hb : b x with
    | true =>
      refine if_t (he x List.mem_cons_self hb _ (dn_of (lc_filter w s b f hok xs _ hg' hc' he' fun p hp => ?_)))
      have := h p hp
      rw [List.filter_cons_of_pos hb, List.map_cons] at this
      rw [List.append_assoc]; exact this
    | false =>
      refine if_f (dn_of (lc_filter w s b f hok xs _ hg' hc' he' fun p hp => ?_))
      have := h p hp
      rw [List.filter_cons_of_neg (by rw [hb]; exact Bool.false_ne_true)] at this
      exact this
theorem lc_map {ok : AH → Prop} {g : G} {σ : St} {e : TE} {Q : VK} {α : Type} {A : AH} (w : α → W) (s : α → St) (f : α → W) (hok : ok A) :
    ∀ (xs : List α) (acc : List W), (∀ x ∈ xs, gW g (w x) σ = some (s x)) → (∀ x ∈ xs, ∀ K : VK, K (f x) A → e (s x) A K) →
      (∀ p, A p = none → Q (.ref p) (up A p (.lst (acc ++ xs.map f)))) → lcGo ok g σ none e Q (xs.map w) acc A
  | [], acc, _, _, h => by
    show lcGo ok g σ none e Q [] acc A
    unfold lcGo
    refine ⟨hok, fun p hp => ?_⟩
    have := h p hp
    rw [List.map_nil, List.append_nil] at this
    exact this
  | x :: xs, acc, hg, he, h => by
    show lcGo ok g σ none e Q (w x :: xs.map w) acc A
    unfold lcGo
    refine ⟨hok, ?_⟩
    unfold gDo
    rw [hg x List.mem_cons_self]
    refine he x List.mem_cons_self _ (dn_of (lc_map w s f hok xs _ (fun y hy => hg y (List.mem_cons_of_mem x hy)) (fun y hy => he y (List.mem_cons_of_mem x hy)) fun p hp => ?_))
    have := h p hp
    rw [List.map_cons] at this
    rw [List.append_assoc]; exact this
/-! ### what stays -/
theorem sub_refl {A : AH} : Sub A A := fun _ _ h => h
theorem sub_trans {A B C : AH} (h : Sub A B) (g : Sub B C) : Sub A C := fun a o q => g a o (h a o q)
theorem sub_up {A B : AH} {p : Addr} {o : O} (h : Sub A B) (n : A p = none) : Sub A (up B p o) := fun a u q => by
  have e : a ≠ p := fun e => by rw [e, n] at q; cases q
  exact (if_neg e).trans (h a u q)
theorem sub_none {A B : AH} {p : Addr} (h : Sub A B) (n : B p = none) : A p = none := by
  cases e : A p with
  | none => rfl
  | some o => rw [h p o e] at n; cases n
theorem ne_of {A : AH} {p q : Addr} {o : O} (h : A q = some o) (n : A p = none) : q ≠ p := fun e => by rw [e, n] at h; cases h
/-- all but the pool stays -/
def PSub (p c : Addr) (A A' : AH) : Prop := ∀ q o, q ≠ p → q ≠ c → A q = some o → A' q = some o
theorem PSub.refl {p c : Addr} {A : AH} : PSub p c A A := fun _ _ _ _ h => h
theorem PSub.trans {p c : Addr} {A B C : AH} (h : PSub p c A B) (g : PSub p c B C) : PSub p c A C := fun q o h1 h2 h3 => g q o h1 h2 (h q o h1 h2 h3)
theorem PSub.of {p c : Addr} {A B : AH} (h : Sub A B) : PSub p c A B := fun q o _ _ h3 => h q o h3
theorem _root_.N.PFr.ps {p c : Addr} {A B : AH} (h : PFr p c A B) : PSub p c A B := fun q o h1 h2 h3 => by rw [h q h1 h2]; exact h3
theorem _root_.N.Pool.sub {p c : Addr} {m : Nat} {A B : AH} (h : Pool p c m A) (g : Sub A B) : Pool p c m B := by
  obtain ⟨h1, seed, k, cs, h2, h3, h4⟩ := h
  exact ⟨h1, seed, k, cs, g _ _ h2, g _ _ h3, h4⟩
theorem _root_.N.Pool.le {p c : Addr} {m n : Nat} {A : AH} (h : Pool p c m A) (l : n ≤ m) : Pool p c n A := by
  obtain ⟨h1, seed, k, cs, h2, h3, h4, h5, h6, h7⟩ := h
  refine ⟨h1, seed, k, cs, h2, h3, h4, h5, h6, ?_⟩
  revert h7
  generalize (2 : Int) ^ 1000 = z
  intro h7
  omega
theorem _root_.N.Pool.ne {p c : Addr} {m : Nat} {A : AH} (h : Pool p c m A) {f : Addr} (n : A f = none) : f ≠ p ∧ f ≠ c := by
  obtain ⟨h1, seed, k, cs, h2, h3, _⟩ := h
  exact ⟨fun e => (by rw [← e, n] at h2; cases h2), fun e => (by rw [← e, n] at h3; cases h3)⟩
/-- a use of the pool that leaves all else -/
theorem _root_.N.Pool.dnn {p c : Addr} {m : Nat} {A : AH} (h : Pool p c m A) : A p ≠ none ∧ A c ≠ none := by
  obtain ⟨h1, seed, k, cs, h2, h3, _⟩ := h
  exact ⟨fun z => (by rw [h2] at z; cases z), fun z => (by rw [h3] at z; cases z)⟩
theorem b_nt {K : Bool → AH → Prop} {A : AH} (h : K false A) : boolK K (.bl (!true)) A := h
theorem b_nf {K : Bool → AH → Prop} {A : AH} (h : K true A) : boolK K (.bl (!false)) A := h
theorem b_nP {P : Prop} [Decidable P] {K : Bool → AH → Prop} {A : AH} (h : boolK K (.bl (decide (¬ P))) A) : boolK K (.bl (!decide P)) A := by
  have e : (!decide P) = decide (¬ P) := by by_cases q : P <;> simp [q]
  rw [e]; exact h
theorem e_g' {Γ : Gam} {xk : XK} {σ : St} {A : AH} {Q : VK} {x : Str} {w : W} (hv : con x = some w) (h : Q w A) : rdE Γ xk (.g x) σ A Q := by
  unfold rdE; rw [hv]; exact h
theorem con_sg : con "MOST_SIGNS" = some (.int 12) := by with_unfolding_all rfl
theorem con_pl : con "MOST_PLACES" = some (.int 2) := by with_unfolding_all rfl
theorem con_li : con "MOST_LINES" = some (.int 24) := by with_unfolding_all rfl
theorem con_te : con "MOST_TERMS" = some (.int 60) := by with_unfolding_all rfl
theorem con_le : con "MOST_LETTERS" = some (.int 8) := by with_unfolding_all rfl
def abc : Str := "abcdefghijklmnopqrstuvwxyz"
theorem con_abc : con "LETTERS" = some (.str abc) := by with_unfolding_all rfl
local macro_rules | `(tactic| walk_at "gg") => `(tactic| ((try dsimp only [Bool.not_true, Bool.not_false]); first | with_reducible refine b_bl (b := true) ?_ | with_reducible refine b_bl (b := false) ?_ | with_reducible refine b_nt ?_ | with_reducible refine b_nf ?_ | with_reducible refine b_nP ?_ | with_reducible refine if_t ?_ | with_reducible refine if_f ?_ | with_reducible refine g_nm ?_ | with_reducible refine v_add ?_ | with_reducible refine v_sub ?_ | with_reducible refine v_lt ?_ | with_reducible refine v_le ?_ | with_reducible refine v_gt ?_ | with_reducible refine v_ge ?_ | with_reducible refine v_eqI ?_ | with_reducible refine v_neI ?_ | with_reducible refine v_lenT ?_ | with_reducible refine v_int ?_ | with_reducible refine v_isTT ?_ | with_reducible refine v_isTS ?_ | with_reducible refine v_isTI ?_ | with_reducible refine v_isSS ?_ | with_reducible refine v_isST ?_ | with_reducible refine v_isII ?_ | with_reducible refine v_isIB ?_ | with_reducible refine v_itT ?_ | with_reducible refine v_itF ?_ | with_reducible refine v_liT ?_ | with_reducible refine v_isin ?_ | with_reducible refine v_notin ?_ | with_reducible refine v_tupleT ?_ | with_reducible refine v_slT ?_ | with_reducible refine v_max2 ?_ | with_reducible refine e_g' con_sg ?_ | with_reducible refine e_g' con_pl ?_ | with_reducible refine e_g' con_li ?_ | with_reducible refine e_g' con_te ?_ | with_reducible refine e_g' con_le ?_ | with_reducible refine e_g' con_abc ?_ | walk_at "stp")) 
local macro_rules | `(tactic| walk_at "wk") => `(tactic| ((repeat walk_at "gg"); (try dsimp only)))
theorem v_ipA {A : AH} {Q : VK} {i j : Int} (h : Q (.int (i + j)) A) : ipW .add (.int i) (.int j) A Q := h
theorem e_lock' {Γ : Gam} {xk : XK} {σ : St} {A : AH} {Q : VK} {i : Nat} {e : E} {a : Addr} {kvs : List (W × W)} (hv : getv σ i = some (.ref a)) (ha : A a = some (.dct kvs))
    (h : ∀ g : Gh, rdE Γ (fun _ _ _ => False) e σ (up A a (.dcl g kvs)) fun w A1 => A1 a = some (.dcl g kvs) ∧ Q w (up A1 a (.dct kvs))) : rdE Γ xk (.lock i e) σ A Q := by
  unfold rdE; rw [hv]; exact ⟨_, ha, h⟩
theorem g_tp {is : List Nat} {xs : List W} {σ σ' : St} {k : St → Prop} (e : gvs is xs σ = some σ') (h : k σ') : gDo (.tp is) (.tup xs) σ k := by
  unfold gDo gW
  dsimp only
  rw [e]; exact h
theorem b_dT {P : Prop} [Decidable P] {K : Bool → AH → Prop} {A : AH} (hp : P) (h : K true A) : boolK K (.bl (decide P)) A := by rw [decide_eq_true hp]; exact h
theorem b_dF {P : Prop} [Decidable P] {K : Bool → AH → Prop} {A : AH} (hp : ¬ P) (h : K false A) : boolK K (.bl (decide P)) A := by rw [decide_eq_false hp]; exact h
theorem v_popR {A : AH} {Q : VK} {a : Addr} {x : W} {st : List W} (ha : A a = some (.lst (x :: st).reverse)) (h : Q x (up A a (.lst st.reverse))) : mtW .pop0 (.ref a) [] A Q := by
  refine ⟨_, x, ha, ?_, ?_⟩
  · rw [List.getLast?_reverse]; rfl
  · rw [List.reverse_cons, List.dropLast_concat]; exact h
theorem v_extT {A : AH} {Q : VK} {a : Addr} {xs ys : List W} (ha : A a = some (.lst xs)) (hl : xs.length + ys.length ≤ lim) (h : Q .non (up A a (.lst (xs ++ ys)))) : mtW .extend (.ref a) [.tup ys] A Q := ⟨_, ha, hl, h⟩
theorem v_extL {A : AH} {Q : VK} {a b : Addr} {xs ys : List W} (ha : A a = some (.lst xs)) (hb : A b = some (.lst ys)) (hl : xs.length + ys.length ≤ lim) (h : Q .non (up A a (.lst (xs ++ ys)))) : mtW .extend (.ref a) [.ref b] A Q := ⟨_, ha, _, hb, hl, h⟩
theorem v_app {A : AH} {Q : VK} {a : Addr} {xs : List W} {y : W} (ha : A a = some (.lst xs)) (hl : xs.length < lim) (h : Q .non (up A a (.lst (xs ++ [y])))) : mtW .append (.ref a) [y] A Q := ⟨_, ha, hl, h⟩
theorem cut1 {α : Type} {x : α} {xs : List α} : cut (x :: xs) (some 1) none = xs := by
  unfold cut cl
  simp
theorem sz_lim {sg : Sg} {d : Nat} (hd : d ≤ 12) (hs : SgOk sg) {t : W} (ht : Tm sg d t) : szW t ≤ 2 ^ 12 := by
  have h1 := ht.sz hs
  have h2 : 2 ^ d ≤ 2 ^ 12 := Nat.pow_le_pow_right (by decide) hd
  omega
theorem len_lim {sg : Sg} {d : Nat} {st : List W} {n : Nat} (ht : ∀ x ∈ st, Tm sg d x) (h : szL st ≤ n) : st.length ≤ n := Nat.le_trans (szL_len ht) h
theorem fr_nil {ok : AH → Prop} {g : G} {b : TS} {D : Ends} {σ : St} {A : AH} (h0 : ok A) (h : D.nx σ A) : frGo ok g b D [] σ A := by unfold frGo; exact ⟨h0, h⟩
theorem fr_cons {ok : AH → Prop} {g : G} {b : TS} {D : Ends} {σ : St} {A : AH} {x : W} {r : List W} (h0 : ok A)
    (h : gDo g x σ fun σ1 => b { D with nx := fun σ' A' => dn A' fun B => frGo ok g b D r σ' B, ct := fun σ' A' => dn A' fun B => frGo ok g b D r σ' B, bk := D.nx } σ1 A) : frGo ok g b D (x :: r) σ A := by unfold frGo; exact ⟨h0, h⟩
/-! ### sizes -/
def spSize : Sp := fun ws A Q _ => ∃ sg d t, ws = [t] ∧ SgOk sg ∧ d ≤ 12 ∧ Tm sg d t ∧ Q (.int (szW t)) A
theorem k_size_of (Γ : Gam) : Keeps Γ ⟨1, 3, b_size_of⟩ spSize := by
  rintro ws A Q E ⟨sg, d, t, rfl, hs, hd, ht, h⟩
  refine ⟨rfl, ?_⟩
  have hz := sz_lim hd hs ht
  unfold b_size_of
  walk_at "wk"
  intro p n
  walk_at "wk"
  refine s_wh ⟨szW t + 2, ?_⟩
  refine wh_ind (fun k σ A' => ∃ (st : List W) (f : Int), σ = [some t, some (.int f), some (.ref p)] ∧ Sub A A' ∧ A' p = some (.lst st.reverse) ∧ (∀ x ∈ st, Tm sg d x) ∧ f + szL st = szW t ∧ 0 ≤ f ∧ szL st < k) ?_ (fun _ _ ⟨_, _, _, _, _, _, _, _, h⟩ => absurd h (Nat.not_lt_zero _)) _ _ _ ⟨[t], 0, rfl, sub_up sub_refl n, u_same, fun x hx => by rw [List.mem_singleton.mp hx]; exact ht, by simp [szL], by decide, by simp [szL]⟩
  rintro k σ A' ih ⟨st, f, rfl, hA, hp, ht, hf, hf0, hk⟩
  walk_at "wk"
  refine v_lenL hp ?_
  walk_at "wk"
  refine v_cond (fun hc => ?_) (fun hc => ?_)
  · cases st with
    | nil => simp at hc
    | cons x st =>
      have hx := ht x List.mem_cons_self
      have hxp := hx.parts
      have hxs := hx.szp
      cases d with
      | zero => exact hx.elim
      | succ d =>
        obtain ⟨s, ps, rfl, hm, hps⟩ := hx
        simp only [parts] at hxp hxs
        simp only [szL] at hf hk
        walk_at "wk"
        refine v_ipA ?_
        walk_at "wk"
        refine ⟨⟨_, _, rfl, hp⟩, ?_⟩
        walk_at "wk"
        refine ⟨⟨_, _, rfl, hp⟩, ?_⟩
        walk_at "wk"
        refine v_popR hp ?_
        walk_at "wk"
        rw [cut1]
        have g1 : ∀ z ∈ ps.reverse ++ st, Tm sg (d + 1) z := fun z hz => by
          rcases List.mem_append.mp hz with hz | hz
          · exact hxp z (List.mem_reverse.mp hz)
          · exact ht z (List.mem_cons_of_mem _ hz)
        have g2 : szL (ps.reverse ++ st) = szL ps + szL st := by rw [szL_app, szL_rev]
        have g3 := szL_len g1
        refine v_extT u_same (by rw [List.length_reverse]; rw [List.length_append, List.length_reverse] at g3; unfold lim; omega) ?_
        walk_at "wk"
        exact dn_of (ih _ _ ⟨ps.reverse ++ st, f + 1, rfl, sub_up (sub_up hA n) n, by rw [u_same, List.reverse_append, List.reverse_reverse], g1, by rw [g2]; omega, by omega, by omega⟩)
  · cases st with
    | cons x st => simp at hc
    | nil =>
      walk_at "wk"
      simp only [szL] at hf
      refine ⟨A, hA, ?_⟩
      rw [show f = (szW t : Int) by omega]
      exact h
/-- the dict of the places -/
def plD (sg : Sg) : List (W × W) := sg.map fun p => (.str p.1, .int p.2)
theorem getK_pl : ∀ {sg : Sg} {s : Str} {k : Nat}, (sg.map (·.1)).Nodup → (s, k) ∈ sg → getK (plD sg) (.str s) = some (.int k)
  | p :: sg, s, k, h, hm => by
    obtain ⟨h1, h2⟩ := List.nodup_cons.mp h
    unfold getK plD
    rw [List.map_cons, List.find?_cons]
    rcases List.mem_cons.mp hm with e | hm
    · rw [← e]
      have q : keyB (.str s) (.str s) = true := keyB_str.mpr rfl
      simp only [q]; rfl
    · have q : keyB (.str p.1) (.str s) = false := by
        cases z : keyB (.str p.1) (.str s) with
        | false => rfl
        | true => exact absurd (by show p.1 ∈ _; rw [keyB_str.mp z]; exact List.mem_map_of_mem (f := (·.1)) hm) h1
      simp only [q]
      exact getK_pl h2 hm
def spTermOf : Sp := fun ws A Q _ => ∃ sg d t a, ws = [.ref a, t] ∧ A a = some (.dct (plD sg)) ∧ SgOk sg ∧ (sg.map (·.1)).Nodup ∧ d ≤ 12 ∧ Tm sg d t ∧ Q (.bl true) A
theorem k_is_term_of (Γ : Gam) : Keeps Γ ⟨2, 4, b_is_term_of⟩ spTermOf := by
  rintro ws A Q E ⟨sg, d, t, a, rfl, ha, hs, hn, hd, ht, h⟩
  refine ⟨rfl, ?_⟩
  have hz := sz_lim hd hs ht
  unfold b_is_term_of
  walk_at "wk"
  intro p n
  walk_at "wk"
  refine s_wh ⟨szW t + 2, ?_⟩
  refine wh_ind (fun k σ A' => ∃ (st : List W) (w : Option W), σ = [some (.ref a), some t, some (.ref p), w] ∧ Sub A A' ∧ A' p = some (.lst st.reverse) ∧ (∀ x ∈ st, Tm sg d x) ∧ szL st ≤ szW t ∧ szL st < k) ?_ (fun _ _ ⟨_, _, _, _, _, _, _, h⟩ => absurd h (Nat.not_lt_zero _)) _ _ _ ⟨[t], none, rfl, sub_up sub_refl n, u_same, fun x hx => by rw [List.mem_singleton.mp hx]; exact ht, by simp [szL], by simp [szL]⟩
  rintro k σ A' ih ⟨st, w, rfl, hA, hp, ht, hf, hk⟩
  walk_at "wk"
  refine v_lenL hp ?_
  walk_at "wk"
  refine v_cond (fun hc => ?_) (fun hc => ?_)
  · cases st with
    | nil => simp at hc
    | cons x st =>
      have hx := ht x List.mem_cons_self
      have hxp := hx.parts
      have hxs := hx.szp
      cases d with
      | zero => exact hx.elim
      | succ d =>
        obtain ⟨s, ps, rfl, hm, hps⟩ := hx
        simp only [parts] at hxp hxs
        simp only [szL] at hf hk
        walk_at "wk"
        refine ⟨⟨_, _, rfl, hp⟩, ?_⟩
        walk_at "wk"
        refine v_popR hp ?_
        walk_at "wk"
        refine b_dF (by simp; omega) ?_
        walk_at "wk"
        refine v_ixT at0 ?_
        walk_at "wk"
        refine v_ixT at0 ?_
        walk_at "wk"
        refine v_inD (u_ne (ne_of ha n) (hA _ _ ha)) rfl ?_
        rw [getK_pl hn hm, Option.isSome_some]
        walk_at "wk"
        refine v_ixT at0 ?_
        walk_at "wk"
        refine v_ixD (.inl (u_ne (ne_of ha n) (hA _ _ ha))) rfl (getK_pl hn hm) ?_
        walk_at "wk"
        refine b_dF (by simp) ?_
        walk_at "wk"
        refine ⟨⟨_, _, rfl, u_same⟩, ?_⟩
        walk_at "wk"
        rw [cut1]
        have g1 : ∀ z ∈ ps.reverse ++ st, Tm sg (d + 1) z := fun z hz => by
          rcases List.mem_append.mp hz with hz | hz
          · exact hxp z (List.mem_reverse.mp hz)
          · exact ht z (List.mem_cons_of_mem _ hz)
        have g2 : szL (ps.reverse ++ st) = szL ps + szL st := by rw [szL_app, szL_rev]
        have g3 := szL_len g1
        refine v_extT u_same (by rw [List.length_reverse]; rw [List.length_append, List.length_reverse] at g3; unfold lim; omega) ?_
        walk_at "wk"
        exact dn_of (ih _ _ ⟨ps.reverse ++ st, _, rfl, sub_up (sub_up hA n) n, by rw [u_same, List.reverse_append, List.reverse_reverse], g1, by omega, by omega⟩)
  · cases st with
    | cons x st => simp at hc
    | nil =>
      walk_at "wk"
      exact ⟨A, hA, h⟩
def spLineOf : Sp := fun ws A Q _ => ∃ sg d l r a, ws = [.ref a, .tup [l, r]] ∧ A a = some (.dct (plD sg)) ∧ SgOk sg ∧ (sg.map (·.1)).Nodup ∧ d ≤ 12 ∧ Tm sg d l ∧ Tm sg d r ∧ Q (.bl true) A
theorem k_is_line_of (Γ : Gam) (h1 : Tells Γ "is_pair" spPairT) (h2 : Tells Γ "is_term_of" spTermOf) : Keeps Γ ⟨2, 2, b_is_line_of⟩ spLineOf := by
  rintro ws A Q E ⟨sg, d, l, r, a, rfl, ha, hs, hn, hd, hl, hr, h⟩
  refine ⟨rfl, ?_⟩
  unfold b_is_line_of
  walk_at "wk"
  refine h1 _ _ _ _ ⟨_, rfl, ?_⟩
  refine b_dT rfl ?_
  walk_at "wk"
  refine v_ixT (v := l) rfl ?_
  walk_at "wk"
  refine h2 _ _ _ _ ⟨sg, d, l, a, rfl, ha, hs, hn, hd, hl, ?_⟩
  walk_at "wk"
  refine v_ixT (v := r) rfl ?_
  walk_at "wk"
  exact h2 _ _ _ _ ⟨sg, d, r, a, rfl, ha, hs, hn, hd, hr, dn_of h⟩
def spOrder : Sp := fun ws A Q _ => ∃ sg d t, ws = [t] ∧ SgOk sg ∧ d ≤ 12 ∧ Tm sg d t ∧ Q (.tup [.int (szW t), t]) A
theorem k_order_of (Γ : Gam) (h1 : Tells Γ "size_of" spSize) : Keeps Γ ⟨1, 1, b_order_of⟩ spOrder := by
  rintro ws A Q E ⟨sg, d, t, rfl, hs, hd, ht, h⟩
  refine ⟨rfl, ?_⟩
  unfold b_order_of
  walk_at "wk"
  refine h1 _ _ _ _ ⟨sg, d, t, rfl, hs, hd, ht, ?_⟩
  walk_at "wk"
  exact dn_of h
theorem dws_keys {A : AH} {ts : List W} (h : ∀ t ∈ ts, pw t = true) : DWs A (ts.map fun t => .tup [.int (szW t), t]) (ts.map keyT) := by
  induction ts with
  | nil => exact .nil
  | cons t ts ih => exact .cons (.tup (.cons (.int _) (.cons (dw_of (h t List.mem_cons_self)) .nil))) (ih fun x hx => h x (List.mem_cons_of_mem _ hx))
/-- sorted by a key that tells size and term -/
theorem v_srt {Γ : Gam} {f : Str} {A : AH} {Q : VK} {a : Addr} {ts : List W} {sg : Sg} {d : Nat} (hf : f ≠ "") (t1 : Tells Γ f spOrder) (ha : A a = some (.lst ts)) (hs : SgOk sg) (hd : d ≤ 12) (ht : ∀ t ∈ ts, Tm sg d t)
    (h : ∀ p, A p = none → Q (.ref p) (up A p (.lst (asc ts)))) : srtW Γ f (.ref a) A Q := by
  obtain ⟨k1, k2, k3⟩ := keys_ok hs (by omega) ht
  refine ⟨a, ts, ts.map fun t => .tup [.int (szW t), t], ts.map keyT, rfl, ha, by rw [List.length_map], dws_keys fun t h => ((ht t h).ok hs).1, k1, k2, k3, ?_, h⟩
  rw [if_neg hf]
  intro i x k hx hk
  rw [List.getElem?_map, hx] at hk
  cases hk
  exact t1 _ _ _ _ ⟨sg, d, x, rfl, hs, hd, ht x (List.mem_of_getElem? hx), rfl, rfl⟩
def spAsc : Sp := fun ws A Q _ => ∃ sg d a ts, ws = [.ref a] ∧ A a = some (.lst ts) ∧ SgOk sg ∧ d ≤ 12 ∧ (∀ t ∈ ts, Tm sg d t) ∧ ∀ p, A p = none → Q (.ref p) (up A p (.lst (asc ts)))
theorem k_ascending (Γ : Gam) (h1 : Tells Γ "order_of" spOrder) : Keeps Γ ⟨1, 1, b_ascending⟩ spAsc := by
  rintro ws A Q E ⟨sg, d, a, ts, rfl, ha, hs, hd, ht, h⟩
  refine ⟨rfl, ?_⟩
  unfold b_ascending
  walk_at "wk"
  exact v_srt (by decide) h1 ha hs hd ht fun p n => dn_of (h p n)
/-- a term or a text that waits -/
def Wt (sg : Sg) (d : Nat) (x : W) : Prop := Tm sg d x ∨ ∃ s : Str, x = .str s ∧ s.length ≤ 1
def wm (x : W) : Nat := match x with
  | .str _ => 1
  | x => 3 * szW x
def pcs : List W → List Str
  | [] => []
  | x :: r => txP x ++ pcs r
def wms : List W → Nat
  | [] => 0
  | x :: r => wm x + wms r
theorem wt_tm {sg : Sg} {d : Nat} {x : W} (h : Tm sg d x) : wm x = 3 * szW x := by
  cases d with
  | zero => exact h.elim
  | succ d => obtain ⟨s, ps, rfl, _⟩ := h; rfl
theorem wms_len {sg : Sg} {d : Nat} : ∀ {st : List W}, (∀ x ∈ st, Wt sg d x) → st.length ≤ wms st
  | [], _ => Nat.zero_le _
  | x :: r, h => by
    have h1 := wms_len fun y hy => h y (List.mem_cons_of_mem _ hy)
    have h2 : 1 ≤ wm x := by
      rcases h x List.mem_cons_self with q | ⟨s, rfl, _⟩
      · rw [wt_tm q]; have := q.pos; omega
      · exact Nat.le_refl _
    simp only [wms, List.length_cons]; omega
def PcOk (n : Nat) (l : List Str) : Prop := l.length ≤ n ∧ ∀ s ∈ l, s.length ≤ 101
theorem PcOk.app {n m k : Nat} {a b : List Str} (h : PcOk n a) (g : PcOk m b) (l : n + m ≤ k) : PcOk k (a ++ b) := ⟨by rw [List.length_append]; have := h.1; have := g.1; omega, fun s hs => by
  rcases List.mem_append.mp hs with q | q
  · exact h.2 s q
  · exact g.2 s q⟩
theorem app_len (s t : Str) : (s ++ t).length = s.length + t.length := by
  show (s.cps ++ t.cps).size = _
  rw [Array.size_append]; rfl
theorem txPL_ok {sg : Sg} {d : Nat} (ih : ∀ {t : W}, Tm sg d t → PcOk (3 * szW t) (txP t)) : ∀ {ps : List W}, (∀ p ∈ ps, Tm sg d p) → PcOk (1 + 3 * szL ps + ps.length) (txPL ps)
  | [], _ => ⟨by simp [txPL], fun s hs => by
      simp only [txPL, List.mem_singleton] at hs
      subst hs; decide⟩
  | p :: r, h => by
    have h1 := ih (h p List.mem_cons_self)
    have h2 := txPL_ok ih fun x hx => h x (List.mem_cons_of_mem _ hx)
    have h3 := h1.app h2 (Nat.le_refl _)
    simp only [txPL, szL, List.length_cons]
    refine ⟨by rw [List.length_cons]; have := h3.1; omega, fun s hs => ?_⟩
    rcases List.mem_cons.mp hs with rfl | hs
    · decide
    · exact h3.2 s hs
theorem txP_ok {sg : Sg} (hs : SgOk sg) : ∀ {d : Nat} {t : W}, Tm sg d t → PcOk (3 * szW t) (txP t)
  | 0, _, h => h.elim
  | d + 1, t, h => by
    obtain ⟨s, ps, rfl, hm, h⟩ := h
    have hl := (hs _ hm).2.2
    have hk : ps.length ≤ 2 := (hs _ hm).2.1
    cases ps with
    | nil =>
      simp only [txP, hdS, szW, szL]
      exact ⟨by simp, fun x hx => by obtain rfl := List.mem_singleton.mp hx; exact Nat.le_trans hl (by decide)⟩
    | cons p r =>
      have h1 := txP_ok hs (h p List.mem_cons_self)
      have h2 := txPL_ok (fun {t} ht => txP_ok hs ht) fun x hx => h x (List.mem_cons_of_mem _ hx)
      have h3 := h1.app h2 (Nat.le_refl _)
      simp only [txP, hdS, szW, szL]
      rw [List.length_cons] at hk
      refine ⟨by rw [List.length_cons]; have := h3.1; omega, fun x hx => ?_⟩
      rcases List.mem_cons.mp hx with rfl | hx
      · rw [app_len]; have : (("(" : Str)).length = 1 := by decide
        dsimp only at hl
        omega
      · exact h3.2 x hx
theorem sum_le {n : Nat} : ∀ {l : List Str}, (∀ s ∈ l, s.length ≤ n) → (l.map (·.length)).sum ≤ l.length * n
  | [], _ => Nat.zero_le _
  | x :: r, h => by
    have h1 := h x List.mem_cons_self
    have h2 := sum_le fun y hy => h y (List.mem_cons_of_mem _ hy)
    simp only [List.map_cons, List.sum_cons, List.length_cons]
    rw [Nat.succ_mul]; omega
def spText : Sp := fun ws A Q _ => ∃ sg d t, ws = [t] ∧ SgOk sg ∧ d ≤ 12 ∧ Tm sg d t ∧ Q (.str (tx t)) A
theorem k_text_of (Γ : Gam) : Keeps Γ ⟨1, 5, b_text_of⟩ spText := by
  rintro ws A Q E ⟨sg, d, t, rfl, hs, hd, ht, h⟩
  refine ⟨rfl, ?_⟩
  have hz := sz_lim hd hs ht
  have hpc := txP_ok hs ht
  unfold b_text_of
  walk_at "wk"
  intro p n
  walk_at "wk"
  intro q m
  walk_at "wk"
  have npq : p ≠ q := fun e => by have z := m; rw [← e, u_same] at z; cases z
  have nq : A q = none := (u_none m).2
  refine s_wh ⟨3 * szW t + 2, ?_⟩
  refine wh_ind (fun k σ A' => ∃ (st : List W) (fs : List Str) (w1 w2 : Option W), σ = [some t, some (.ref p), some (.ref q), w1, w2] ∧ Sub A A' ∧ A' p = some (.lst (fs.map .str)) ∧ A' q = some (.lst st.reverse) ∧ (∀ x ∈ st, Wt sg d x) ∧ fs ++ pcs st = txP t ∧ wms st ≤ 3 * szW t ∧ wms st < k) ?_ (fun _ _ ⟨_, _, _, _, _, _, _, _, _, _, _, h⟩ => absurd h (Nat.not_lt_zero _)) _ _ _
    ⟨[t], [], none, none, rfl, sub_up (sub_up sub_refl n) nq, u_ne npq u_same, u_same, fun x hx => by rw [List.mem_singleton.mp hx]; exact .inl ht, by simp [pcs], by simp [wms, wt_tm ht], by simp [wms, wt_tm ht]⟩
  rintro k σ A' ih ⟨st, fs, w1, w2, rfl, hA, hp, hq, hst, hf, hb, hk⟩
  have hfl : fs.length ≤ 3 * szW t := by have := hpc.1; rw [← hf, List.length_append] at this; omega
  walk_at "wk"
  refine v_lenL hq ?_
  walk_at "wk"
  refine v_cond (fun hc => ?_) (fun hc => ?_)
  · cases st with
    | nil => simp at hc
    | cons x st =>
      have hx := hst x List.mem_cons_self
      have hsr : ∀ z ∈ st, Wt sg d z := fun z hz => hst z (List.mem_cons_of_mem _ hz)
      have hl := wms_len hsr
      simp only [wms] at hb hk
      simp only [pcs] at hf
      walk_at "wk"
      refine ⟨⟨_, _, rfl, hq⟩, ?_⟩
      walk_at "wk"
      refine v_popR hq ?_
      walk_at "wk"
      rcases hx with hx | ⟨s, rfl, hs1⟩
      · have hxm := wt_tm hx
        cases d with
        | zero => exact hx.elim
        | succ d =>
          obtain ⟨s, ps, rfl, hm, hps⟩ := hx
          have hup : ∀ z ∈ ps, Wt sg (d + 1) z := fun z hz => .inl ((hps z hz).up (by omega))
          have hm2 := (hs _ hm).2.1
          walk_at "wk"
          match ps, hm2, hup, hps, hxm, hf with
          | [], _, _, _, hxm, hf =>
            refine b_dT rfl ?_
            walk_at "wk"
            refine ⟨⟨_, _, rfl, u_ne npq hp⟩, ?_⟩
            walk_at "wk"
            refine v_ixT at0 ?_
            walk_at "wk"
            refine v_app (u_ne npq hp) (by rw [List.length_map]; unfold lim; omega) ?_
            walk_at "wk"
            simp only [txP, hdS] at hf
            simp only [szW, szL] at hxm
            exact dn_of (ih _ _ ⟨st, fs ++ [s], _, _, rfl, sub_up (sub_up hA nq) n, by rw [u_same, List.map_append]; rfl, u_ne (Ne.symm npq) u_same, hsr, by rw [← hf]; simp, by omega, by omega⟩)
          | [a], _, hup, hps, hxm, hf =>
            refine b_dF (by simp) ?_
            walk_at "wk"
            refine ⟨⟨_, _, rfl, u_ne npq hp⟩, ?_⟩
            walk_at "wk"
            refine v_ixT at0 ?_
            walk_at "wk"
            have hsl := (hs _ hm).2.2
            refine v_addS (by have : (("(" : Str)).length = 1 := by decide
                              unfold lim; dsimp only at hsl; omega) ?_
            walk_at "wk"
            refine v_app (u_ne npq hp) (by rw [List.length_map]; unfold lim; omega) ?_
            walk_at "wk"
            refine ⟨⟨_, _, rfl, u_ne (Ne.symm npq) u_same⟩, ?_⟩
            walk_at "wk"
            refine v_app (u_ne (Ne.symm npq) u_same) (by rw [List.length_reverse]; unfold lim; omega) ?_
            walk_at "wk"
            refine s_fr ?_
            walk_at "wk"
            show okR _ ∧ okR _ ∧ _ ∧ _
            refine ⟨by simp [okR], by simp [okR], rfl, ?_⟩
            have er : rangeD (((([W.str s, a] : List W).length : Nat) : Int) - 1) (-1) ((((([W.str s, a] : List W).length : Nat) : Int) - 1) - 0).toNat = [.int 1] := rfl
            rw [er]
            refine fr_cons trivial ?_
            walk_at "wk"
            refine ⟨⟨_, _, rfl, u_same⟩, ?_⟩
            walk_at "wk"
            refine v_ixT (v := a) rfl ?_
            walk_at "wk"
            refine v_app u_same (by rw [List.length_append, List.length_reverse]; unfold lim; simp only [List.length_singleton]; omega) ?_
            walk_at "wk"
            refine b_dF (by decide) ?_
            walk_at "wk"
            refine dn_of (fr_nil trivial ?_)
            walk_at "wk"
            simp only [txP, txPL, hdS] at hf
            simp only [szW, szL] at hxm
            have ha := wt_tm ((hps a List.mem_cons_self).up (Nat.le_succ d))
            exact dn_of (ih _ _ ⟨a :: .str ")" :: st, fs ++ [_], _, _, rfl, sub_up (sub_up (sub_up (sub_up hA nq) n) nq) nq, u_ne npq (u_ne npq (by rw [u_same, List.map_append]; rfl)), by rw [u_same]; simp, fun z hz => by
              rcases List.mem_cons.mp hz with rfl | hz
              · exact hup _ List.mem_cons_self
              · rcases List.mem_cons.mp hz with rfl | hz
                · exact .inr ⟨_, rfl, by decide⟩
                · exact hsr z hz, by rw [← hf]; simp [pcs, txP], by simp only [wms, wm]; simp only [wm] at ha; omega, by simp only [wms, wm]; simp only [wm] at ha; omega⟩)
          | [a, b], _, hup, hps, hxm, hf =>
            refine b_dF (by simp) ?_
            walk_at "wk"
            refine ⟨⟨_, _, rfl, u_ne npq hp⟩, ?_⟩
            walk_at "wk"
            refine v_ixT at0 ?_
            walk_at "wk"
            have hsl := (hs _ hm).2.2
            refine v_addS (by have : (("(" : Str)).length = 1 := by decide
                              unfold lim; dsimp only at hsl; omega) ?_
            walk_at "wk"
            refine v_app (u_ne npq hp) (by rw [List.length_map]; unfold lim; omega) ?_
            walk_at "wk"
            refine ⟨⟨_, _, rfl, u_ne (Ne.symm npq) u_same⟩, ?_⟩
            walk_at "wk"
            refine v_app (u_ne (Ne.symm npq) u_same) (by rw [List.length_reverse]; unfold lim; omega) ?_
            walk_at "wk"
            refine s_fr ?_
            walk_at "wk"
            show okR _ ∧ okR _ ∧ _ ∧ _
            refine ⟨by simp [okR], by simp [okR], rfl, ?_⟩
            have er : rangeD (((([W.str s, a, b] : List W).length : Nat) : Int) - 1) (-1) ((((([W.str s, a, b] : List W).length : Nat) : Int) - 1) - 0).toNat = [.int 2, .int 1] := rfl
            rw [er]
            refine fr_cons trivial ?_
            walk_at "wk"
            refine ⟨⟨_, _, rfl, u_same⟩, ?_⟩
            walk_at "wk"
            refine v_ixT (v := b) rfl ?_
            walk_at "wk"
            refine v_app u_same (by rw [List.length_append, List.length_reverse]; unfold lim; simp only [List.length_singleton]; omega) ?_
            walk_at "wk"
            refine b_dT (by decide) ?_
            walk_at "wk"
            refine ⟨⟨_, _, rfl, u_same⟩, ?_⟩
            walk_at "wk"
            refine v_app u_same (by rw [List.length_append, List.length_append, List.length_reverse]; unfold lim; simp only [List.length_singleton]; omega) ?_
            walk_at "wk"
            refine dn_of (fr_cons trivial ?_)
            walk_at "wk"
            refine ⟨⟨_, _, rfl, u_same⟩, ?_⟩
            walk_at "wk"
            refine v_ixT (v := a) rfl ?_
            walk_at "wk"
            refine v_app u_same (by rw [List.length_append, List.length_append, List.length_append, List.length_reverse]; unfold lim; simp only [List.length_singleton]; omega) ?_
            walk_at "wk"
            refine b_dF (by decide) ?_
            walk_at "wk"
            refine dn_of (fr_nil trivial ?_)
            walk_at "wk"
            simp only [txP, txPL, hdS] at hf
            simp only [szW, szL] at hxm
            have ha := wt_tm ((hps a List.mem_cons_self).up (Nat.le_succ d))
            have hb' := wt_tm ((hps b (List.mem_cons_of_mem _ List.mem_cons_self)).up (Nat.le_succ d))
            exact dn_of (ih _ _ ⟨a :: .str "," :: b :: .str ")" :: st, fs ++ [_], _, _, rfl, sub_up (sub_up (sub_up (sub_up (sub_up (sub_up hA nq) n) nq) nq) nq) nq, u_ne npq (u_ne npq (u_ne npq (u_ne npq (by rw [u_same, List.map_append]; rfl)))), by rw [u_same]; simp, fun z hz => by
              rcases List.mem_cons.mp hz with rfl | hz
              · exact hup _ List.mem_cons_self
              · rcases List.mem_cons.mp hz with rfl | hz
                · exact .inr ⟨_, rfl, by decide⟩
                · rcases List.mem_cons.mp hz with rfl | hz
                  · exact hup _ (List.mem_cons_of_mem _ List.mem_cons_self)
                  · rcases List.mem_cons.mp hz with rfl | hz
                    · exact .inr ⟨_, rfl, by decide⟩
                    · exact hsr z hz, by rw [← hf]; simp [pcs, txP], by simp only [wms, wm]; simp only [wm] at ha hb'; omega, by simp only [wms, wm]; simp only [wm] at ha hb'; omega⟩)
      · walk_at "wk"
        refine ⟨⟨_, _, rfl, u_ne npq hp⟩, ?_⟩
        walk_at "wk"
        refine v_app (u_ne npq hp) (by rw [List.length_map]; unfold lim; omega) ?_
        walk_at "wk"
        simp only [txP] at hf
        exact dn_of (ih _ _ ⟨st, fs ++ [s], _, _, rfl, sub_up (sub_up hA nq) n, by rw [u_same, List.map_append]; rfl, u_ne (Ne.symm npq) u_same, hsr, by rw [← hf]; simp, by simp only [wm] at hb; omega, by simp only [wm] at hk; omega⟩)
  · cases st with
    | cons x st => simp at hc
    | nil =>
      walk_at "wk"
      simp only [pcs, List.append_nil] at hf
      refine ⟨⟨_, rfl⟩, ?_⟩
      walk_at "wk"
      refine ⟨_, hp, fs, rfl, ?_, ?_⟩
      · have l2 := sum_le hpc.2
        rw [hf]
        have l1 := hpc.1
        have l3 : (txP t).length * 101 ≤ 3 * 4096 * 101 := Nat.mul_le_mul_right _ (by omega)
        have : (("" : Str)).length = 0 := by decide
        rw [this, Nat.mul_zero]
        unfold lim; omega
      · walk_at "wk"
        rw [hf]
        exact ⟨A, hA, h⟩
theorem getK_nd : ∀ {f : List (W × W)} {q : W × W}, (f.map (·.1)).Nodup → (∀ q ∈ f, ∃ s, q.1 = .str s) → q ∈ f → getK f q.1 = some q.2
  | p :: f, q, h, hs, hm => by
    obtain ⟨h1, h2⟩ := List.nodup_cons.mp h
    unfold getK
    rw [List.find?_cons]
    obtain ⟨s, es⟩ := hs p List.mem_cons_self
    rcases List.mem_cons.mp hm with e | hm
    · subst e
      have z : keyB q.1 q.1 = true := by rw [es]; exact keyB_str.mpr rfl
      simp only [z]; rfl
    · obtain ⟨t, et⟩ := hs q (List.mem_cons_of_mem _ hm)
      have z : keyB p.1 q.1 = false := by
        cases z : keyB p.1 q.1 with
        | false => rfl
        | true =>
          rw [es, et] at z
          refine absurd ?_ h1
          show p.1 ∈ _
          rw [es, keyB_str.mp z, ← et]
          exact List.mem_map_of_mem (f := (·.1)) hm
      simp only [z]
      exact getK_nd h2 (fun x hx => hs x (List.mem_cons_of_mem _ hx)) hm
def spWithin : Sp := fun ws A Q _ => ∃ sg d a ts, ws = [.ref a] ∧ A a = some (.lst ts) ∧ SgOk sg ∧ d ≤ 12 ∧ (∀ t ∈ ts, Tm sg d t) ∧ szL ts ≤ 10000 ∧ ∀ p A', Sub A A' → A p = none → A' p = some (.lst (asc ((wi ts).map (·.2)))) → Q (.ref p) A'
theorem k_within_of (Γ : Gam) (h1 : Tells Γ "text_of" spText) (h2 : Tells Γ "ascending" spAsc) : Keeps Γ ⟨1, 5, b_within_of⟩ spWithin := by
  rintro ws A Q E ⟨sg, d, a, ts, rfl, ha, hs, hd, ht, hz, h⟩
  refine ⟨rfl, ?_⟩
  unfold b_within_of
  walk_at "wk"
  refine r_dct fun p n => ?_
  walk_at "wk"
  refine v_listL (u_ne (ne_of ha n) ha) ?_
  intro q m
  walk_at "wk"
  have npq : p ≠ q := fun e => by have z := m; rw [← e, u_same] at z; cases z
  have nq : A q = none := (u_none m).2
  have hts : ts.length ≤ szL ts := szL_len ht
  refine s_wh ⟨szL ts + 1, ?_⟩
  refine wh_ind (fun k σ A' => ∃ (st : List W) (f : List (W × W)) (w1 w2 : Option W), σ = [some (.ref a), some (.ref p), some (.ref q), w1, w2] ∧ Sub A A' ∧ A' p = some (.dct f) ∧ A' q = some (.lst st.reverse) ∧ (∀ x ∈ st, Tm sg d x) ∧ (∀ x ∈ f, Tm sg d x.2) ∧ wiGo k f st = wi ts ∧ f.length + szL st ≤ szL ts ∧ szL st < k) ?_ (fun _ _ ⟨_, _, _, _, _, _, _, _, _, _, _, _, h⟩ => absurd h (Nat.not_lt_zero _)) _ _ _
    ⟨ts.reverse, [], none, none, rfl, sub_up (sub_up sub_refl n) nq, u_ne npq u_same, by rw [u_same, List.reverse_reverse], fun x hx => ht x (List.mem_reverse.mp hx), (fun x hx => by cases hx), rfl, by rw [szL_rev]; simp, by rw [szL_rev]; omega⟩
  rintro k σ A' ih ⟨st, f, w1, w2, rfl, hA, hp, hq, hst, hf, hw, hl, hk⟩
  walk_at "wk"
  refine v_lenL hq ?_
  walk_at "wk"
  refine v_cond (fun hc => ?_) (fun hc => ?_)
  · cases st with
    | nil => simp at hc
    | cons x st =>
      have hx := hst x List.mem_cons_self
      have hsr : ∀ z ∈ st, Tm sg d z := fun z hz => hst z (List.mem_cons_of_mem _ hz)
      have hxz := hx.szp
      have hxpos := hx.pos
      simp only [szL] at hl hk
      unfold wiGo at hw
      walk_at "wk"
      refine ⟨⟨_, _, rfl, hq⟩, ?_⟩
      walk_at "wk"
      refine v_popR hq ?_
      walk_at "wk"
      refine h1 _ _ _ _ ⟨sg, d, x, rfl, hs, hd, hx, ?_⟩
      walk_at "wk"
      refine v_inD (u_ne npq hp) rfl ?_
      cases hg : (getK f (.str (tx x))).isSome with
      | true =>
        rw [hg, if_pos rfl] at hw
        walk_at "wk"
        exact dn_of (ih _ _ ⟨st, f, _, _, rfl, sub_up hA nq, u_ne npq hp, u_same, hsr, hf, hw, by omega, by omega⟩)
      | false =>
        rw [hg, if_neg Bool.false_ne_true] at hw
        walk_at "wk"
        have hg' : ¬ (getK f (.str (tx x))).isSome = true := by rw [hg]; exact Bool.false_ne_true
        refine .inr (.inl ⟨f, u_ne npq hp, rfl, by unfold lim; omega, ?_⟩)
        rw [putK_new hg'] at hw ⊢
        walk_at "wk"
        refine ⟨⟨_, _, rfl, u_ne (Ne.symm npq) u_same⟩, ?_⟩
        walk_at "wk"
        have hxp := hx.parts
        cases d with
        | zero => exact hx.elim
        | succ d =>
          obtain ⟨s, ps, rfl, hm, hps⟩ := hx
          simp only [parts] at hxp hxz hw
          walk_at "wk"
          rw [cut1]
          have g1 : ∀ z ∈ ps.reverse ++ st, Tm sg (d + 1) z := fun z hz => by
            rcases List.mem_append.mp hz with hz | hz
            · exact hxp z (List.mem_reverse.mp hz)
            · exact hsr z hz
          have g2 : szL (ps.reverse ++ st) = szL ps + szL st := by rw [szL_app, szL_rev]
          have g3 := szL_len g1
          refine v_extT (u_ne (Ne.symm npq) u_same) (by rw [List.length_reverse]; rw [List.length_append, List.length_reverse] at g3; unfold lim; omega) ?_
          walk_at "wk"
          refine dn_of (ih _ _ ⟨ps.reverse ++ st, f ++ [(_, _)], _, _, rfl, sub_up (sub_up (sub_up hA nq) n) nq, u_ne npq u_same, by rw [u_same, List.reverse_append, List.reverse_reverse], g1, fun z hz => ?_, hw, ?_, by omega⟩)
          · rcases List.mem_append.mp hz with hz | hz
            · exact hf z hz
            · obtain rfl := List.mem_singleton.mp hz
              exact ⟨s, ps, rfl, hm, hps⟩
          · rw [List.length_append, List.length_singleton]; omega
  · cases st with
    | cons x st => simp at hc
    | nil =>
      unfold wiGo at hw
      subst hw
      obtain ⟨c1, c2⟩ := la_ok ht
      have wk1 := wi_ok c1 c2
      have hks : ∀ q ∈ wi ts, ∃ s, q.1 = .str s := fun q hq => by obtain ⟨t, _, rfl⟩ := wk1.ks q hq; exact ⟨_, rfl⟩
      walk_at "wk"
      refine e_lock' (a := p) (by with_unfolding_all exact rfl) hp fun g => ?_
      refine e_lc ?_
      walk_at "wk"
      refine v_itD u_same ?_
      refine ⟨by rw [List.length_map]; unfold lim; omega, ?_⟩
      refine lc_map (A := up A' p (.dcl g (wi ts))) (fun kv : W × W => kv.1) (fun kv => setv (wipe [some (.ref a), some (.ref p), some (.ref q), w1, w2] [4]) 4 (some kv.1)) (fun kv => kv.2) u_same (wi ts) [] (fun _ _ => rfl) (fun kv hkv K hK => ?_) fun r nr => ?_
      · walk_at "wk"
        refine v_ixD (.inr ⟨g, u_same⟩) (by obtain ⟨s, e⟩ := hks kv hkv; rw [e]; rfl) (getK_nd wk1.nd hks hkv) ?_
        exact hK
      · have nrp : p ≠ r := fun e => by rw [← e, u_same] at nr; cases nr
        have nr' : A r = none := sub_none hA (u_none nr).2
        refine ⟨u_ne nrp u_same, ?_⟩
        walk_at "wk"
        refine h2 _ _ _ _ ⟨sg, d, r, (wi ts).map (·.2), rfl, u_ne (Ne.symm nrp) u_same, hs, hd, fun z hz => ?_, fun t nt => ?_⟩
        · obtain ⟨kv, hkv, rfl⟩ := List.mem_map.mp hz
          exact hf kv hkv
        · have nt' : A t = none := by
            have z1 := (u_none nt).2
            have z2 := (u_none z1).2
            exact sub_none hA (u_none z2).2
          exact dn_of (h t _ (sub_up (sub_up (sub_up (sub_up hA n) nr') n) nt') nt' u_same)
def ln (l : W × W) : W := .tup [l.1, l.2]
def sides : List (W × W) → List W
  | [] => []
  | l :: r => l.1 :: l.2 :: sides r
theorem sides_app : ∀ a b : List (W × W), sides (a ++ b) = sides a ++ sides b
  | [], b => rfl
  | x :: a, b => by simp only [List.cons_append, sides]; rw [sides_app a b]
theorem sides_len : ∀ a : List (W × W), (sides a).length = 2 * a.length
  | [] => rfl
  | x :: a => by simp only [sides, List.length_cons]; rw [sides_len a]; omega
def spSides : Sp := fun ws A Q _ => ∃ ls, ws = [.tup (ls.map ln)] ∧ ls.length ≤ 1000 ∧ ∀ p A', Sub A A' → A p = none → A' p = some (.lst (sides ls)) → Q (.ref p) A'
theorem k_sides_of (Γ : Gam) : Keeps Γ ⟨1, 4, b_sides_of⟩ spSides := by
  rintro ws A Q E ⟨ls, rfl, hl, h⟩
  refine ⟨rfl, ?_⟩
  unfold b_sides_of
  walk_at "wk"
  intro p n
  walk_at "wk"
  refine s_fr ?_
  walk_at "wk"
  refine fr_ind (fun xs σ A' => ∃ (dn rs : List (W × W)) (w1 w2 : Option W), xs = rs.map ln ∧ σ = [some (.tup (ls.map ln)), some (.ref p), w1, w2] ∧ Sub A A' ∧ A' p = some (.lst (sides dn)) ∧ dn ++ rs = ls) ?_ ?_ _ _ _ ⟨[], ls, none, none, rfl, rfl, sub_up sub_refl n, u_same, rfl⟩
  · rintro σ A' ⟨dn, rs, w1, w2, hx, rfl, hA, hp, e⟩
    refine ⟨trivial, ?_⟩
    walk_at "wk"
    have e2 : rs = [] := List.map_eq_nil_iff.mp hx.symm
    rw [e2, List.append_nil] at e
    rw [e] at hp
    exact dn_of (h p _ hA n hp)
  · rintro x r σ A' ih ⟨dn, rs, w1, w2, hx, rfl, hA, hp, e⟩
    cases rs with
    | nil => cases hx
    | cons y rs =>
      cases hx
      refine ⟨trivial, ?_⟩
      refine g_tp rfl ?_
      walk_at "wk"
      refine ⟨⟨_, _, rfl, hp⟩, ?_⟩
      walk_at "wk"
      intro q m
      walk_at "wk"
      have nqp : p ≠ q := ne_of hp m
      have nq : A q = none := sub_none hA m
      have l2 : dn.length ≤ 1000 := by rw [← e, List.length_append] at hl; omega
      refine v_extL (u_ne nqp hp) u_same (by rw [sides_len]; unfold lim; simp only [List.length_cons, List.length_nil]; omega) ?_
      walk_at "wk"
      exact dn_of (ih _ _ ⟨dn ++ [y], rs, _, _, rfl, rfl, sub_up (sub_up hA nq) n, by rw [u_same, sides_app]; rfl, by rw [List.append_assoc]; exact e⟩)
theorem if_dT {P : Prop} [Decidable P] {X Y : Prop} (hp : P) (h : X) : if decide P = true then X else Y := by rw [decide_eq_true hp]; exact if_t h
theorem if_dF {P : Prop} [Decidable P] {X Y : Prop} (hp : ¬ P) (h : Y) : if decide P = true then X else Y := by rw [decide_eq_false hp]; exact if_f h
theorem rangeL_map : ∀ (n : Nat) (lo : Int), rangeL lo n = (List.range n).map fun i : Nat => W.int (lo + i)
  | 0, _ => rfl
  | n + 1, lo => by
    show W.int lo :: rangeL (lo + 1) n = _
    rw [rangeL_map n, List.range_succ_eq_map, List.map_cons, List.map_map]
    congr 1
    · rw [Int.natCast_zero, Int.add_zero]
    · refine List.map_congr_left fun i _ => ?_
      show W.int _ = W.int _
      congr 1
      rw [Int.natCast_succ]; omega
theorem at_nat {α : Type} {xs : List α} {j : Int} {i : Nat} {v : α} (e : j = i) (h : xs[i]? = some v) : at? xs j = some v := by
  obtain ⟨hi, _⟩ := List.getElem?_eq_some_iff.mp h
  unfold at? idx
  rw [if_pos (by omega), if_pos (by omega), e]
  exact h
/-- each below the next -/
def Asc (xs : List Int) : Prop := ∀ i a b, xs[i]? = some a → xs[i + 1]? = some b → a < b
def spLot : Sp := fun ws A Q _ => ∃ (xs : List Int) (n : Int), ws = [.tup (xs.map .int), .int n] ∧ (∀ i ∈ xs, 0 ≤ i ∧ i < n) ∧ Asc xs ∧ xs.length ≤ 1000 ∧ Q (.bl true) A
theorem k_is_lot (Γ : Gam) (h1 : Tells Γ "is_within" spWithinI) : Keeps Γ ⟨2, 4, b_is_lot⟩ spLot := by
  rintro ws A Q E ⟨xs, n, rfl, hb, ha, hl, h⟩
  refine ⟨rfl, ?_⟩
  unfold b_is_lot
  walk_at "wk"
  refine e_lc ?_
  walk_at "wk"
  refine ⟨by rw [List.length_map]; unfold lim; omega, ?_⟩
  refine lc_map (A := A) W.int (fun i => setv (wipe [some (.tup (xs.map .int)), some (.int n), none, none] [3]) 3 (some (.int i))) (fun i => .bl (decide (0 ≤ i ∧ i ≤ n - 1))) trivial xs [] (fun _ _ => rfl) (fun i hi K hK => ?_) fun r nr => ?_
  · walk_at "wk"
    refine h1 _ _ _ _ ⟨i, 0, n - 1, rfl, ?_⟩
    exact hK
  · walk_at "wk"
    refine v_all (xs := xs) (f := fun i => decide (0 ≤ i ∧ i ≤ n - 1)) u_same ?_
    rw [List.all_eq_true.mpr fun i hi => decide_eq_true (by have := hb i hi; omega)]
    walk_at "wk"
    refine e_lc ?_
    walk_at "wk"
    show okR _ ∧ okR _ ∧ _ ∧ _
    rw [List.length_map, rangeL_map]
    refine ⟨by simp [okR], by unfold okR; omega, by rw [List.length_map, List.length_range]; unfold lim; omega, ?_⟩
    refine lc_map (A := up A r _) (fun i : Nat => W.int (1 + i)) (fun i => setv (wipe [some (.tup (xs.map .int)), some (.int n), none, none] [2]) 2 (some (.int (1 + i)))) (fun i => .bl true) trivial _ [] (fun _ _ => rfl) (fun i hi K hK => ?_) fun r2 nr2 => ?_
    · have hi := List.mem_range.mp hi
      have l1 : i < xs.length := by omega
      have l2 : i + 1 < xs.length := by omega
      walk_at "wk"
      refine v_ixT (at_nat (i := i) (by omega) (by rw [List.getElem?_map, List.getElem?_eq_getElem l1]; rfl)) ?_
      walk_at "wk"
      refine v_ixT (at_nat (i := i + 1) (by omega) (by rw [List.getElem?_map, List.getElem?_eq_getElem l2]; rfl)) ?_
      walk_at "wk"
      rw [decide_eq_true (ha i _ _ (List.getElem?_eq_getElem l1) (List.getElem?_eq_getElem l2))]
      exact hK
    · walk_at "wk"
      refine v_all (f := fun _ => true) u_same ?_
      rw [List.all_eq_true.mpr fun i hi => rfl]
      walk_at "wk"
      exact ⟨A, sub_up (sub_up sub_refl nr) (u_none nr2).2, h⟩
def signB (s : Str) : Bool := decide (1 ≤ s.length) && decide (s.length ≤ 8) && s.cps.toList.all fun c => decide (c ∈ abc.cps.toList)
def spSign : Sp := fun ws A Q _ => ∃ s : Str, ws = [.str s] ∧ signB s = true ∧ Q (.bl true) A
theorem k_is_sign (Γ : Gam) : Keeps Γ ⟨1, 2, b_is_sign⟩ spSign := by
  rintro ws A Q E ⟨s, rfl, hs, h⟩
  unfold signB at hs
  rw [Bool.and_eq_true, Bool.and_eq_true] at hs
  obtain ⟨⟨s1, s2⟩, s3⟩ := hs
  have s1 := of_decide_eq_true s1
  have s2 := of_decide_eq_true s2
  refine ⟨rfl, ?_⟩
  unfold b_is_sign
  walk_at "wk"
  refine v_lenS (by unfold lim; omega) ?_
  walk_at "wk"
  refine if_dT (by omega) ?_
  walk_at "wk"
  rw [decide_eq_true (show (s.length : Int) ≤ 8 by omega)]
  walk_at "wk"
  refine e_lc ?_
  walk_at "wk"
  refine v_itS ?_
  refine ⟨by rw [List.length_map, Array.length_toList]; unfold lim; have : s.length = s.cps.size := rfl; omega, ?_⟩
  refine lc_map (A := A) (fun c : Nat => W.str ⟨#[c]⟩) (fun c => setv (wipe [some (.str s), none] [1]) 1 (some (.str ⟨#[c]⟩))) (fun c => .bl (decide (c ∈ abc.cps.toList))) trivial _ [] (fun _ _ => rfl) (fun c hc K hK => ?_) fun r nr => ?_
  · walk_at "wk"
    walk_at "wk"
    exact ⟨c, rfl, hK⟩
  · walk_at "wk"
    refine v_all (f := fun c => decide (c ∈ abc.cps.toList)) u_same ?_
    rw [s3]
    walk_at "wk"
    exact ⟨A, sub_up sub_refl nr, h⟩
def pr (p : Str × Nat) : W := .tup [.str p.1, .int p.2]
def ascB : Sg → Bool
  | p :: q :: r => decide (p.1.cps.toList < q.1.cps.toList) && ascB (q :: r)
  | _ => true
/-- right signs -/
structure Sgn (sg : Sg) : Prop where
  lo : 1 ≤ sg.length
  hi : sg.length ≤ 12
  ok : ∀ p ∈ sg, signB p.1 = true ∧ p.2 ≤ 2
  asc : ascB sg = true
  zero : ∃ p ∈ sg, p.2 = 0
theorem ascB_at : ∀ {sg : Sg}, ascB sg = true → ∀ i p q, sg[i]? = some p → sg[i + 1]? = some q → p.1.cps.toList < q.1.cps.toList
  | [], _, _, _, _, h, _ => by cases h
  | [_], _, 0, _, _, _, h => by cases h
  | [_], _, _ + 1, _, _, h, _ => by cases h
  | p :: q :: r, h, 0, _, _, h1, h2 => by
    cases h1; cases h2
    unfold ascB at h
    rw [Bool.and_eq_true] at h
    exact of_decide_eq_true h.1
  | p :: q :: r, h, i + 1, x, y, h1, h2 => by
    unfold ascB at h
    rw [Bool.and_eq_true] at h
    exact ascB_at h.2 i x y h1 h2
def spSigns : Sp := fun ws A Q _ => ∃ sg : Sg, ws = [.tup (sg.map pr)] ∧ Sgn sg ∧ Q (.bl true) A
theorem k_are_signs (Γ : Gam) (h1 : Tells Γ "is_pair" spPairT) (h2 : Tells Γ "is_sign" spSign) (h3 : Tells Γ "is_within" spWithinI) : Keeps Γ ⟨1, 6, b_are_signs⟩ spSigns := by
  rintro ws A Q E ⟨sg, rfl, hs, h⟩
  refine ⟨rfl, ?_⟩
  have l1 := hs.lo
  have l2 := hs.hi
  unfold b_are_signs
  walk_at "wk"
  rw [List.length_map]
  refine if_dT (by omega) ?_
  walk_at "wk"
  rw [decide_eq_true (show (sg.length : Int) ≤ 12 by omega)]
  walk_at "wk"
  refine s_fr ?_
  walk_at "wk"
  refine fr_ind (fun xs σ A' => ∃ (rs : Sg) (w : Option W), xs = rs.map pr ∧ σ = [some (.tup (sg.map pr)), w, none, none, none, none] ∧ A' = A ∧ ∀ p ∈ rs, p ∈ sg) ?_ ?_ _ _ _ ⟨sg, none, rfl, rfl, rfl, fun _ h => h⟩
  · rintro σ A' ⟨rs, w, hx, rfl, rfl, _⟩
    refine ⟨trivial, ?_⟩
    walk_at "wk"
    refine e_lc ?_
    walk_at "wk"
    show okR _ ∧ okR _ ∧ _ ∧ _
    rw [List.length_map, rangeL_map]
    refine ⟨by simp [okR], by unfold okR; omega, by rw [List.length_map, List.length_range]; unfold lim; omega, ?_⟩
    refine lc_map (A := A') (fun i : Nat => W.int (1 + i)) (fun i => setv (wipe [some (.tup (sg.map pr)), w, none, none, none, none] [3]) 3 (some (.int (1 + i)))) (fun i => .bl true) trivial _ [] (fun _ _ => rfl) (fun i hi K hK => ?_) fun r nr => ?_
    · have hi := List.mem_range.mp hi
      have l1 : i < sg.length := by omega
      have l2 : i + 1 < sg.length := by omega
      walk_at "wk"
      refine v_ixT (at_nat (i := i) (v := pr (sg[i])) (by omega) (by rw [List.getElem?_map, List.getElem?_eq_getElem l1]; rfl)) ?_
      walk_at "wk"
      refine v_ixT at0 ?_
      walk_at "wk"
      refine v_ixT (at_nat (i := i + 1) (v := pr (sg[i + 1])) (by omega) (by rw [List.getElem?_map, List.getElem?_eq_getElem l2]; rfl)) ?_
      walk_at "wk"
      refine v_ixT at0 ?_
      walk_at "wk"
      refine v_ltS ?_
      rw [decide_eq_true (ascB_at hs.asc i _ _ (List.getElem?_eq_getElem l1) (List.getElem?_eq_getElem l2))]
      exact hK
    · walk_at "wk"
      refine v_all (f := fun _ => true) u_same ?_
      rw [List.all_eq_true.mpr fun i hi => rfl]
      walk_at "wk"
      refine e_lc ?_
      walk_at "wk"
      refine ⟨by rw [List.length_map]; unfold lim; omega, ?_⟩
      refine lc_map pr (fun p => setv (setv (wipe [some (.tup (sg.map pr)), w, some (.bl true), none, none, none] [4, 5]) 4 (some (.str p.1))) 5 (some (.int p.2))) (fun p => .bl (decide ((p.2 : Int) = 0))) trivial sg [] (fun _ _ => rfl) (fun p hp K hK => ?_) fun r2 nr2 => ?_
      · walk_at "wk"
        exact hK
      · walk_at "wk"
        refine v_any (f := fun p : Str × Nat => decide ((p.2 : Int) = 0)) u_same ?_
        obtain ⟨p, hp, hz⟩ := hs.zero
        rw [List.any_eq_true.mpr ⟨p, hp, decide_eq_true (by omega)⟩]
        walk_at "wk"
        exact ⟨A', sub_up (sub_up sub_refl nr) (u_none nr2).2, h⟩
  · rintro x r σ A' ih ⟨rs, w, hx, rfl, rfl, hr⟩
    cases rs with
    | nil => cases hx
    | cons y rs =>
      cases hx
      obtain ⟨y1, y2⟩ := hs.ok y (hr y List.mem_cons_self)
      refine ⟨trivial, ?_⟩
      walk_at "wk"
      refine h1 _ _ _ _ ⟨_, rfl, ?_⟩
      walk_at "wk"
      refine b_dT rfl ?_
      walk_at "wk"
      refine v_ixT at0 ?_
      walk_at "wk"
      refine h2 _ _ _ _ ⟨_, rfl, y1, ?_⟩
      walk_at "wk"
      refine v_ixT (v := .int y.2) rfl ?_
      walk_at "wk"
      refine h3 _ _ _ _ ⟨_, _, _, rfl, ?_⟩
      walk_at "wk"
      refine b_dT (by omega) ?_
      walk_at "wk"
      exact dn_of (ih _ _ ⟨rs, _, rfl, rfl, rfl, fun p hp => hr p (List.mem_cons_of_mem _ hp)⟩)
/-- what is there of the class -/
structure LH (Γ : Gam) : Prop where
  fl : ∀ C ∈ (["Lore", "RawLore"] : List Str), ∀ f ∈ (["signs", "lines", "kept_places", "kept_hall"] : List Str), Γ.has (meth C f) = false
  kp : Γ.has "Lore.keep" = true
  eq : Γ.has "Lore.__eq__" = true
theorem m_kp {C : Str} (h : C ∈ (["Lore", "RawLore"] : List Str)) : meth C "keep" = "Lore.keep" := by
  rcases List.mem_cons.mp h with rfl | h
  · decide +kernel
  · rcases List.mem_cons.mp h with rfl | h
    · decide +kernel
    · cases h
theorem m_eq {C : Str} (h : C ∈ (["Lore", "RawLore"] : List Str)) : meth C "__eq__" = "Lore.__eq__" := by
  rcases List.mem_cons.mp h with rfl | h
  · decide +kernel
  · rcases List.mem_cons.mp h with rfl | h
    · decide +kernel
    · cases h
theorem m_in1 : meth "Lore" "__init__" = "Lore.__init__" := by decide +kernel
theorem m_in2 : meth "RawLore" "__init__" = "RawLore.__init__" := by decide +kernel
theorem prs_pr : ∀ sg : Sg, prsW (sg.map pr) = some (plD sg)
  | [] => rfl
  | p :: sg => by
    show (if isKey (.str p.1) = true then (prsW (sg.map pr)).map ((W.str p.1, W.int p.2) :: ·) else none) = _
    rw [if_pos (show isKey (W.str p.1) = true from rfl), prs_pr sg]; rfl
theorem mrg_ap : ∀ (f g : List (W × W)), ((g ++ f).map (·.1)).Nodup → (∀ q ∈ f, ∃ s, q.1 = .str s) → mrgW g f = g ++ f
  | [], g, _, _ => by rw [List.append_nil]; rfl
  | q :: f, g, h, hs => by
    show mrgW (putK g q.1 q.2) f = _
    obtain ⟨s, es⟩ := hs q List.mem_cons_self
    have hn : ¬ (getK g (.str s)).isSome = true := fun z => by
      unfold getK at z
      rw [Option.isSome_map, List.find?_isSome] at z
      obtain ⟨x, hx, e⟩ := z
      rw [List.map_append, List.nodup_append] at h
      refine h.2.2 x.1 (List.mem_map_of_mem (f := (·.1)) hx) q.1 (by rw [List.map_cons]; exact List.mem_cons_self) ?_
      rw [es]
      cases hx1 : x.1 with
      | str t => rw [hx1] at e; rw [keyB_str.mp e]
      | _ => rw [hx1] at e; cases e
    rw [es, putK_new hn, ← es]
    rw [mrg_ap f (g ++ [(q.1, q.2)]) (by rw [List.append_assoc]; exact h) fun x hx => hs x (List.mem_cons_of_mem _ hx), List.append_assoc]; rfl
theorem mrg_pl {sg : Sg} (h : (sg.map (·.1)).Nodup) : mrgW [] (plD sg) = plD sg := by
  refine mrg_ap (plD sg) [] ?_ fun q hq => ?_
  · rw [List.nil_append]
    unfold plD
    rw [List.map_map]
    have e : (fun x : W × W => x.1) ∘ (fun p : Str × Nat => ((W.str p.1, W.int p.2) : W × W)) = (fun s => W.str s) ∘ (fun p : Str × Nat => p.1) := rfl
    rw [e, ← List.map_map]
    have inj : ∀ {l : List Str}, l.Nodup → (l.map fun s => W.str s).Nodup := fun {l} hl => by
      exact List.Pairwise.map _ (fun a b hab e => hab (by cases e; rfl)) hl
    exact inj h
  · unfold plD at hq
    obtain ⟨p, _, rfl⟩ := List.mem_map.mp hq
    exact ⟨_, rfl⟩
theorem pf1 {x : W} : putFW "signs" x [] = [(("signs" : Str), x)] := rfl
theorem pf2 {x y : W} : putFW "lines" y [(("signs" : Str), x)] = [(("signs" : Str), x), (("lines" : Str), y)] := by with_unfolding_all rfl
theorem pf3 {x y z : W} : putFW "kept_places" z [(("signs" : Str), x), (("lines" : Str), y)] = [(("signs" : Str), x), (("lines" : Str), y), (("kept_places" : Str), z)] := by with_unfolding_all rfl
theorem pf4 {x y z u : W} : putFW "kept_hall" u [(("signs" : Str), x), (("lines" : Str), y), (("kept_places" : Str), z)] = [(("signs" : Str), x), (("lines" : Str), y), (("kept_places" : Str), z), (("kept_hall" : Str), u)] := by with_unfolding_all rfl
/-- a lore stands there -/
def Lor (C : Str) (A : AH) (s : Addr) (sg : Sg) (ls : List (W × W)) : Prop := C ∈ (["Lore", "RawLore"] : List Str) ∧ ∃ q r,
  A s = some (.ins C [(("signs" : Str), .tup (sg.map pr)), (("lines" : Str), .tup (ls.map ln)), (("kept_places" : Str), .ref q), (("kept_hall" : Str), .ref r)]) ∧ A q = some (.dct (plD sg))
theorem Lor.sub {C : Str} {A B : AH} {s : Addr} {sg : Sg} {ls : List (W × W)} (h : Lor C A s sg ls) (g : Sub A B) : Lor C B s sg ls := by
  obtain ⟨h1, q, r, h2, h3⟩ := h
  exact ⟨h1, q, r, g _ _ h2, g _ _ h3⟩
/-- all but s stays -/
def But (s : Addr) (A A' : AH) : Prop := ∀ q o, q ≠ s → A q = some o → A' q = some o
def spKeep : Sp := fun ws A Q _ => ∃ s sg ls C, ws = [.ref s, .tup (sg.map pr), .tup (ls.map ln)] ∧ C ∈ (["Lore", "RawLore"] : List Str) ∧ A s = some (.ins C []) ∧ (sg.map (·.1)).Nodup ∧ ∀ A', But s A A' → Lor C A' s sg ls → Q .non A'
theorem k_keep (Γ : Gam) (L : LH Γ) : Keeps Γ ⟨3, 3, b_Lore_keep⟩ spKeep := by
  rintro ws A Q E ⟨s, sg, ls, C, rfl, hC, hs, hn, h⟩
  refine ⟨rfl, ?_⟩
  unfold b_Lore_keep
  walk_at "wk"
  refine ⟨C, _, hs, L.fl C hC _ (by simp), by simp, ?_⟩
  rw [pf1]
  walk_at "wk"
  refine ⟨C, _, u_same, L.fl C hC _ (by simp), by simp, ?_⟩
  rw [pf2]
  walk_at "wk"
  refine ⟨_, prs_pr sg, fun q nq => ?_⟩
  rw [mrg_pl hn]
  have q1 : s ≠ q := ne_of u_same nq
  have nq0 : A q = none := (u_none (u_none nq).2).2
  walk_at "wk"
  refine ⟨C, _, u_ne q1 u_same, L.fl C hC _ (by simp), by simp, ?_⟩
  rw [pf3]
  walk_at "wk"
  intro r nr
  have r1 : s ≠ r := ne_of u_same nr
  have r2 : q ≠ r := ne_of (u_ne (Ne.symm q1) u_same) nr
  have nr0 : A r = none := (u_none (u_none (u_none (u_none nr).2).2).2).2
  walk_at "wk"
  refine ⟨C, _, u_ne r1 u_same, L.fl C hC _ (by simp), by simp, ?_⟩
  rw [pf4]
  walk_at "wk"
  refine dn_of (h _ (fun x o hx ho => ?_) ⟨hC, q, r, u_same, u_ne (Ne.symm q1) (u_ne r2 (u_ne (Ne.symm q1) u_same))⟩)
  have xq := ne_of ho nq0
  have xr := ne_of ho nr0
  exact u_ne hx (u_ne xr (u_ne hx (u_ne xq (u_ne hx (u_ne hx ho)))))
/-- right lines of right signs -/
structure Lok (sg : Sg) (ls : List (W × W)) : Prop where
  sgn : Sgn sg
  tm : ∀ l ∈ ls, Tm sg 3 l.1 ∧ Tm sg 3 l.2
def spInit : Sp := fun ws A Q _ => ∃ s sg ls, ws = [.ref s, .tup (sg.map pr), .tup (ls.map ln)] ∧ A s = some (.ins "Lore" []) ∧ Lok sg ls ∧ (sg.map (·.1)).Nodup ∧ SgOk sg ∧ ls.length ≤ 24 ∧ (wi (sides ls)).length ≤ 60 ∧ ∀ A', But s A A' → Lor "Lore" A' s sg ls → Q .non A'
def spInitR : Sp := fun ws A Q _ => ∃ s sg ls, ws = [.ref s, .tup (sg.map pr), .tup (ls.map ln)] ∧ A s = some (.ins "RawLore" []) ∧ (sg.map (·.1)).Nodup ∧ ∀ A', But s A A' → Lor "RawLore" A' s sg ls → Q .non A'
theorem k_initR (Γ : Gam) (L : LH Γ) (h1 : Tells Γ "Lore.keep" spKeep) : Keeps Γ ⟨3, 3, b_RawLore___init__⟩ spInitR := by
  rintro ws A Q E ⟨s, sg, ls, rfl, hs, hn, h⟩
  refine ⟨rfl, ?_⟩
  unfold b_RawLore___init__
  walk_at "wk"
  refine ⟨s, _, _, rfl, hs, rfl, ?_⟩
  rw [m_kp (by simp)]
  refine ⟨L.kp, ?_⟩
  walk_at "wk"
  refine h1 _ _ _ _ ⟨s, sg, ls, _, rfl, by simp, hs, hn, fun A' g1 g2 => ?_⟩
  walk_at "wk"
  exact dn_of (h A' g1 g2)
theorem sides_tm {sg : Sg} {d : Nat} : ∀ {ls : List (W × W)}, (∀ l ∈ ls, Tm sg d l.1 ∧ Tm sg d l.2) → ∀ t ∈ sides ls, Tm sg d t
  | [], _, _, h => by cases h
  | l :: ls, h, t, ht => by
    simp only [sides] at ht
    rcases List.mem_cons.mp ht with rfl | ht
    · exact (h l List.mem_cons_self).1
    · rcases List.mem_cons.mp ht with rfl | ht
      · exact (h l List.mem_cons_self).2
      · exact sides_tm (fun x hx => h x (List.mem_cons_of_mem _ hx)) t ht
theorem sides_sz {sg : Sg} (hs : SgOk sg) {ls : List (W × W)} (h : ∀ l ∈ ls, Tm sg 3 l.1 ∧ Tm sg 3 l.2) : szL (sides ls) ≤ 14 * ls.length := by
  have h1 := szL_le (n := 7) (ts := sides ls) fun t ht => by have := (sides_tm h t ht).sz hs; omega
  rw [sides_len] at h1; omega
theorem pairs_mem : ∀ (n : Nat) (xs : List W), pairs n xs = (xs.zipIdx n).map fun p => W.tup [.int (p.2 : Nat), p.1]
  | _, [] => rfl
  | n, x :: r => by
    show W.tup [.int n, x] :: pairs (n + 1) r = _
    rw [pairs_mem (n + 1) r, List.zipIdx_cons, List.map_cons]
theorem k_init (Γ : Gam) (L : LH Γ) (h1 : Tells Γ "Lore.keep" spKeep) (h2 : Tells Γ "are_signs" spSigns) (h3 : Tells Γ "is_line_of" spLineOf) (h4 : Tells Γ "sides_of" spSides) (h5 : Tells Γ "within_of" spWithin) : Keeps Γ ⟨3, 6, b_Lore___init__⟩ spInit := by
  rintro ws A Q E ⟨s, sg, ls, rfl, hs, ⟨hsg, htm⟩, hn, hok, hl, hw, h⟩
  refine ⟨rfl, ?_⟩
  unfold b_Lore___init__
  walk_at "wk"
  refine h2 _ _ _ _ ⟨sg, rfl, hsg, ?_⟩
  walk_at "wk"
  refine b_dF (by rw [List.length_map]; omega) ?_
  walk_at "wk"
  refine ⟨_, prs_pr sg, fun q nq => ?_⟩
  rw [mrg_pl hn]
  walk_at "wk"
  refine s_fr ?_
  walk_at "wk"
  rw [pairs_mem]
  refine fr_ind (fun xs σ A' => ∃ (rs : List (W × Nat)) (w1 w2 : Option W), xs = rs.map (fun p => W.tup [.int (p.2 : Nat), p.1]) ∧ σ = [some (.ref s), some (.tup (sg.map pr)), some (.tup (ls.map ln)), some (.ref q), w1, w2] ∧ A' = up A q (.dct (plD sg)) ∧ ∀ p ∈ rs, p.1 ∈ ls.map ln) ?_ ?_ _ _ _ ⟨_, none, none, rfl, rfl, rfl, fun p hp => ?_⟩
  · rintro σ A' ⟨rs, w1, w2, hx, rfl, rfl, hr⟩
    refine ⟨trivial, ?_⟩
    walk_at "wk"
    refine h4 _ _ _ _ ⟨ls, rfl, by omega, fun p A1 g1 g2 g3 => ?_⟩
    walk_at "wk"
    refine h5 _ _ _ _ ⟨sg, 3, p, _, rfl, g3, hok, by omega, sides_tm htm, by have := sides_sz hok htm; omega, fun p2 A2 g4 g5 g6 => ?_⟩
    walk_at "wk"
    refine v_lenL g6 ?_
    rw [asc_len, List.length_map]
    walk_at "wk"
    refine b_dF (by omega) ?_
    walk_at "wk"
    have hs1 : A1 s = some (.ins "Lore" []) := g1 _ _ (u_ne (ne_of hs nq) hs)
    refine ⟨s, _, _, rfl, g4 _ _ hs1, rfl, ?_⟩
    rw [m_kp (by simp)]
    refine ⟨L.kp, ?_⟩
    walk_at "wk"
    refine h1 _ _ _ _ ⟨s, sg, ls, _, rfl, by simp, g4 _ _ hs1, hn, fun A' g7 g8 => ?_⟩
    walk_at "wk"
    refine dn_of (h A' (fun x o hx ho => g7 x o hx (g4 _ _ (g1 _ _ (u_ne (ne_of ho nq) ho)))) g8)
  · rintro x r σ A' ih ⟨rs, w1, w2, hx, rfl, rfl, hr⟩
    cases rs with
    | nil => cases hx
    | cons y rs =>
      cases hx
      obtain ⟨l, hl1, hl2⟩ := List.mem_map.mp (hr y List.mem_cons_self)
      obtain ⟨t1, t2⟩ := htm l hl1
      refine ⟨trivial, ?_⟩
      refine g_tp rfl ?_
      walk_at "wk"
      rw [← hl2]
      refine h3 _ _ _ _ ⟨sg, 3, l.1, l.2, q, rfl, u_same, hok, hn, by omega, t1, t2, ?_⟩
      walk_at "wk"
      exact dn_of (ih _ _ ⟨rs, _, _, rfl, rfl, rfl, fun p hp => hr p (List.mem_cons_of_mem _ hp)⟩)
  · obtain ⟨x, i⟩ := p
    have := List.mem_zipIdx hp
    exact this.2.2 ▸ List.getElem_mem _
/-! ### a lore's fields -/
section
variable {Γ : Gam} {C : Str} {A : AH} {s : Addr} {sg : Sg} {ls : List (W × W)}
variable {xk : XK} {σ : St} {i : Nat} {Q : VK}
theorem r_signs (L : LH Γ) (l : Lor C A s sg ls) (hv : getv σ i = some (.ref s)) (h : Q (.tup (sg.map pr)) A) : rdE Γ xk (.fld (.v i) "signs") σ A Q := by
  obtain ⟨hC, q, r, e, _⟩ := l
  refine e_fld (e_v' hv ?_)
  exact ⟨s, C, _, _, rfl, e, L.fl C hC _ (by simp), by with_unfolding_all rfl, h⟩
theorem r_lines (L : LH Γ) (l : Lor C A s sg ls) (hv : getv σ i = some (.ref s)) (h : Q (.tup (ls.map ln)) A) : rdE Γ xk (.fld (.v i) "lines") σ A Q := by
  obtain ⟨hC, q, r, e, _⟩ := l
  refine e_fld (e_v' hv ?_)
  exact ⟨s, C, _, _, rfl, e, L.fl C hC _ (by simp), by with_unfolding_all rfl, h⟩
theorem r_places (L : LH Γ) (l : Lor C A s sg ls) (hv : getv σ i = some (.ref s)) (h : ∀ q, A q = some (.dct (plD sg)) → Q (.ref q) A) : rdE Γ xk (.fld (.v i) "kept_places") σ A Q := by
  obtain ⟨hC, q, r, e, e2⟩ := l
  refine e_fld (e_v' hv ?_)
  exact ⟨s, C, _, _, rfl, e, L.fl C hC _ (by simp), by with_unfolding_all rfl, h q e2⟩
end
theorem ok_pr {sg : Sg} (hs : SgOk sg) : okW 2 (.tup (sg.map pr)) := okW.tup fun x hx => by
  obtain ⟨p, hp, rfl⟩ := List.mem_map.mp hx
  refine okW.tup fun y hy => ?_
  rcases List.mem_cons.mp hy with rfl | hy
  · exact .str _ (hs p hp).1
  · rcases List.mem_cons.mp hy with rfl | hy
    · exact .int _ _
    · cases hy
theorem ok_ln {sg : Sg} (hs : SgOk sg) {d : Nat} {l : W × W} (h : Tm sg d l.1 ∧ Tm sg d l.2) : okW (d + 1) (ln l) := okW.tup fun y hy => by
  rcases List.mem_cons.mp hy with rfl | hy
  · exact h.1.ok hs
  · rcases List.mem_cons.mp hy with rfl | hy
    · exact h.2.ok hs
    · cases hy
theorem ok_lns {sg : Sg} (hs : SgOk sg) {d : Nat} {ls : List (W × W)} (h : ∀ l ∈ ls, Tm sg d l.1 ∧ Tm sg d l.2) : okW (d + 2) (.tup (ls.map ln)) := okW.tup fun x hx => by
  obtain ⟨p, hp, rfl⟩ := List.mem_map.mp hx
  exact ok_ln hs (h p hp)
theorem Sgn.ok' {sg : Sg} (h : Sgn sg) : SgOk sg := fun p hp => by
  obtain ⟨h1, h2⟩ := h.ok p hp
  unfold signB at h1
  rw [Bool.and_eq_true, Bool.and_eq_true] at h1
  obtain ⟨⟨s1, s2⟩, s3⟩ := h1
  refine ⟨?_, h2, by have := of_decide_eq_true s2; omega⟩
  unfold PyData.strOk
  rw [← Array.all_toList]
  refine List.all_eq_true.mpr fun c hc => ?_
  have q := of_decide_eq_true (List.all_eq_true.mp s3 c hc)
  have b : ∀ c ∈ abc.cps.toList, c < 0x110000 := by decide +kernel
  exact decide_eq_true (b c q)
theorem asc_lt : ∀ {sg : Sg} {p : Str × Nat}, ascB (p :: sg) = true → ∀ q ∈ sg, p.1.cps.toList < q.1.cps.toList
  | [], _, _, _, h => by cases h
  | r :: sg, p, h, q, hq => by
    unfold ascB at h
    rw [Bool.and_eq_true] at h
    have h1 := of_decide_eq_true h.1
    rcases List.mem_cons.mp hq with rfl | hq
    · exact h1
    · exact List.lt_trans h1 (asc_lt h.2 q hq)
theorem asc_nd : ∀ {sg : Sg}, ascB sg = true → (sg.map (·.1)).Nodup
  | [], _ => List.nodup_nil
  | p :: sg, h => by
    rw [List.map_cons, List.nodup_cons]
    refine ⟨fun hm => ?_, asc_nd ?_⟩
    · obtain ⟨q, hq, e⟩ := List.mem_map.mp hm
      have := asc_lt h q hq
      have e' : q.1 = p.1 := e
      rw [e'] at this
      exact List.lt_irrefl _ this
    · cases sg with
      | nil => rfl
      | cons r sg =>
        unfold ascB at h
        rw [Bool.and_eq_true] at h
        exact h.2
def spEq : Sp := fun ws A Q _ => ∃ a b C C' sg ls, ws = [.ref a, .ref b] ∧ Lor C A a sg ls ∧ Lor C' A b sg ls ∧ Lok sg ls ∧ Q (.bl true) A
theorem k_eq (Γ : Gam) (L : LH Γ) : Keeps Γ ⟨2, 2, b_Lore___eq__⟩ spEq := by
  rintro ws A Q E ⟨a, b, C, C', sg, ls, rfl, la, lb, ok, h⟩
  refine ⟨rfl, ?_⟩
  have hs := ok.sgn.ok'
  unfold b_Lore___eq__
  walk_at "wk"
  obtain ⟨hC, q, r, e, _⟩ := id lb
  refine v_isO e ?_
  have e1 : subC C' "Lore" = true := by
    rcases List.mem_cons.mp hC with rfl | hC
    · decide +kernel
    · rcases List.mem_cons.mp hC with rfl | hC
      · decide +kernel
      · cases hC
  rw [e1]
  walk_at "wk"
  refine r_signs L la (by with_unfolding_all exact rfl) ?_
  walk_at "wk"
  refine r_signs L lb (by with_unfolding_all exact rfl) ?_
  refine v_eq (v_eqD (ok_pr hs) (ok_pr hs) (by omega) (by omega) (fun _ => ?_) fun z => absurd rfl z)
  walk_at "wk"
  refine r_lines L la (by with_unfolding_all exact rfl) ?_
  walk_at "wk"
  refine r_lines L lb (by with_unfolding_all exact rfl) ?_
  refine v_eq (v_eqD (ok_lns hs ok.tm) (ok_lns hs ok.tm) (by omega) (by omega) (fun _ => ?_) fun z => absurd rfl z)
  exact dn_of h
/-- x != y, x == y of lores alike -/
theorem v_own {Γ : Gam} (L : LH Γ) (t : Tells Γ "Lore.__eq__" spEq) {ne : Bool} {A : AH} {Q : VK} {a b : Addr} {C C' : Str} {sg : Sg} {ls : List (W × W)} (la : Lor C A a sg ls) (lb : Lor C' A b sg ls) (hc : C' = C ∨ subC C' C = false) (ok : Lok sg ls)
    (h : Q (.bl (if ne = true then false else true)) A) : ownW Γ ne (.ref a) (.ref b) A Q := by
  obtain ⟨hC, q, r, e, _⟩ := id la
  obtain ⟨hC', q', r', e', _⟩ := id lb
  refine ⟨a, b, C, C', _, _, rfl, rfl, e, e', hc, ?_, ?_⟩
  · rw [m_eq hC]; exact L.eq
  · rw [m_eq hC]
    exact t _ _ _ _ ⟨a, b, C, C', sg, ls, rfl, la, lb, ok, true, rfl, h⟩
/-- an argument that is a sequence -/
def SqA (A : AH) (x : W) (xs : List W) : Prop := x = .tup xs ∨ ∃ a, x = .ref a ∧ A a = some (.lst xs)
theorem v_tuple {A : AH} {Q : VK} {x : W} {xs : List W} (hx : SqA A x xs) (h : Q (.tup xs) A) : biW .tuple [x] A Q := by
  rcases hx with rfl | ⟨a, rfl, ha⟩
  · exact v_tupleT h
  · exact v_tupleL ha h
def spRaw : Sp := fun ws A Q _ => ∃ x y sg ls, ws = [x, y] ∧ SqA A x (sg.map pr) ∧ SqA A y (ls.map ln) ∧ (sg.map (·.1)).Nodup ∧ ∀ p A', Sub A A' → A p = none → Lor "RawLore" A' p sg ls → Q (.ref p) A'
theorem k_raw (Γ : Gam) (t : Tells Γ "RawLore.__init__" spInitR) : Keeps Γ ⟨2, 2, b_raw_lore⟩ spRaw := by
  rintro ws A Q E ⟨x, y, sg, ls, rfl, hx, hy, hn, h⟩
  refine ⟨rfl, ?_⟩
  unfold b_raw_lore
  walk_at "wk"
  refine v_tuple hx ?_
  walk_at "wk"
  refine v_tuple hy ?_
  walk_at "wk"
  intro p np
  rw [m_in2]
  refine t _ _ _ _ ⟨p, sg, ls, rfl, u_same, hn, fun A' g1 g2 => ⟨rfl, ?_⟩⟩
  exact dn_of (h p A' (fun x o ho => g1 x o (ne_of ho np) (u_ne (ne_of ho np) ho)) np g2)
def spChkL : Sp := fun ws A Q _ => ∃ a C sg ls l, ws = [.ref a, ln l] ∧ Lor C A a sg ls ∧ Sgn sg ∧ Tm sg 3 l.1 ∧ Tm sg 3 l.2 ∧ Q .non A
theorem k_check_line (Γ : Gam) (L : LH Γ) (t : Tells Γ "is_line_of" spLineOf) : Keeps Γ ⟨2, 2, b_check_line⟩ spChkL := by
  rintro ws A Q E ⟨a, C, sg, ls, l, rfl, la, hs, h1, h2, h⟩
  refine ⟨rfl, ?_⟩
  unfold b_check_line
  walk_at "wk"
  refine r_places L la (by with_unfolding_all exact rfl) (fun q hq => ?_)
  walk_at "wk"
  refine t _ _ _ _ ⟨sg, 3, l.1, l.2, q, rfl, hq, hs.ok', asc_nd hs.asc, by omega, h1, h2, ?_⟩
  walk_at "wk"
  exact dn_of h
def spWithLs : Sp := fun ws A Q _ => ∃ a C y sg ls ms, ws = [.ref a, y] ∧ Lor C A a sg ls ∧ SqA A y (ms.map ln) ∧ (sg.map (·.1)).Nodup ∧ ls.length + ms.length ≤ 1000 ∧ ∀ p A', Sub A A' → A p = none → Lor "RawLore" A' p sg (ls ++ ms) → Q (.ref p) A'
theorem k_with_lines (Γ : Gam) (L : LH Γ) (t : Tells Γ "raw_lore" spRaw) : Keeps Γ ⟨2, 2, b_with_lines⟩ spWithLs := by
  rintro ws A Q E ⟨a, C, y, sg, ls, ms, rfl, la, hy, hn, hl, h⟩
  refine ⟨rfl, ?_⟩
  unfold b_with_lines
  walk_at "wk"
  refine r_signs L la (by with_unfolding_all exact rfl) ?_
  walk_at "wk"
  refine r_lines L la (by with_unfolding_all exact rfl) ?_
  walk_at "wk"
  refine v_tuple hy ?_
  refine v_addT (by rw [List.length_map, List.length_map]; unfold lim; omega) ?_
  walk_at "wk"
  rw [← List.map_append]
  exact t _ _ _ _ ⟨_, _, sg, ls ++ ms, rfl, .inl rfl, .inl rfl, hn, fun p A' g1 g2 g3 => dn_of (h p A' g1 g2 g3)⟩
def spWithL : Sp := fun ws A Q _ => ∃ a C l sg ls, ws = [.ref a, ln l] ∧ Lor C A a sg ls ∧ Sgn sg ∧ Tm sg 3 l.1 ∧ Tm sg 3 l.2 ∧ ls.length ≤ 100 ∧ ∀ p A', Sub A A' → A p = none → Lor "RawLore" A' p sg (ls ++ [l]) → Q (.ref p) A'
theorem k_with_line (Γ : Gam) (t1 : Tells Γ "check_line" spChkL) (t2 : Tells Γ "with_lines" spWithLs) : Keeps Γ ⟨2, 2, b_with_line⟩ spWithL := by
  rintro ws A Q E ⟨a, C, l, sg, ls, rfl, la, hs, h1, h2, hl, h⟩
  refine ⟨rfl, ?_⟩
  unfold b_with_line
  walk_at "wk"
  refine t1 _ _ _ _ ⟨a, C, sg, ls, l, rfl, la, hs, h1, h2, ?_⟩
  walk_at "wk"
  intro p np
  walk_at "wk"
  refine t2 _ _ _ _ ⟨a, C, .ref p, sg, ls, [l], rfl, la.sub (sub_up sub_refl np), .inr ⟨p, rfl, u_same⟩, asc_nd hs.asc, by simp only [List.length_singleton]; omega, fun r A' g1 g2 g3 => ?_⟩
  exact dn_of (h r A' (sub_trans (sub_up sub_refl np) g1) (u_none g2).2 g3)
/-- without the numbers of a lot -/
def lessL {α : Type} (lot : List Int) (ls : List α) : List α := ((ls.zipIdx).filter fun p => decide ((p.2 : Int) ∉ lot)).map (·.1)
def spLess : Sp := fun ws A Q _ => ∃ a C sg ls lot, ws = [.ref a, .tup (lot.map .int)] ∧ Lor C A a sg ls ∧ (sg.map (·.1)).Nodup ∧ ls.length ≤ 1000 ∧ lot.length ≤ 1000 ∧ ∀ p A', Sub A A' → A p = none → Lor "RawLore" A' p sg (lessL lot ls) → Q (.ref p) A'
theorem zip_ln : ∀ (ls : List (W × W)) (n : Nat), (ls.map ln).zipIdx n = (ls.zipIdx n).map fun p => (ln p.1, p.2)
  | [], _ => rfl
  | l :: ls, n => by rw [List.map_cons, List.zipIdx_cons, List.zipIdx_cons, List.map_cons, zip_ln ls (n + 1)]
theorem k_less (Γ : Gam) (L : LH Γ) (t : Tells Γ "raw_lore" spRaw) : Keeps Γ ⟨2, 4, b_less_lines⟩ spLess := by
  rintro ws A Q E ⟨a, C, sg, ls, lot, rfl, la, hn, hl, hl2, h⟩
  refine ⟨rfl, ?_⟩
  unfold b_less_lines
  walk_at "wk"
  refine r_signs L la (by with_unfolding_all exact rfl) ?_
  walk_at "wk"
  refine e_lc ?_
  walk_at "wk"
  refine r_lines L la (by with_unfolding_all exact rfl) ?_
  refine v_liT ?_
  rw [pairs_mem, zip_ln, List.map_map]
  refine ⟨by rw [List.length_map, List.length_zipIdx]; unfold lim; omega, ?_⟩
  refine lc_filter (A := A) _ (fun p : (W × W) × Nat => setv (setv (wipe [some (.ref a), some (.tup (lot.map .int)), none, none] [2, 3]) 2 (some (.int p.2))) 3 (some (ln p.1))) (fun p => decide ((p.2 : Int) ∉ lot)) (fun p => ln p.1) trivial _ [] (fun _ _ => rfl) (fun p hp K hK => ?_) (fun p hp _ K hK => ?_) fun r nr => ?_
  · walk_at "wk"
    refine v_inT (n := 0) (.int _ _) (fun y hy => ?_) (by omega) (fun hm => ?_) fun hm => ?_
    · obtain ⟨i, _, rfl⟩ := List.mem_map.mp hy
      exact .int _ _
    · obtain ⟨i, hi, e⟩ := List.mem_map.mp hm
      cases e
      rw [decide_eq_false (p := ¬ ((p.2 : Int) ∈ lot)) (fun z => z hi)] at hK
      exact hK
    · rw [decide_eq_true (p := ¬ ((p.2 : Int) ∈ lot)) (fun z => hm (List.mem_map_of_mem z))] at hK
      exact hK
  · walk_at "wk"
    exact hK
  · walk_at "wk"
    refine t _ _ _ _ ⟨_, _, sg, lessL lot ls, rfl, .inl rfl, .inr ⟨r, rfl, ?_⟩, hn, fun p A' g1 g2 g3 => ?_⟩
    · rw [u_same]
      unfold lessL
      rw [List.map_map]; rfl
    · exact dn_of (h p A' (sub_trans (sub_up sub_refl nr) g1) (u_none g2).2 g3)
def spWithout : Sp := fun ws A Q _ => ∃ a C sg ls lot, ws = [.ref a, .tup (lot.map .int)] ∧ Lor C A a sg ls ∧ (sg.map (·.1)).Nodup ∧ ls.length ≤ 1000 ∧ lot.length ≤ 1000 ∧ (∀ i ∈ lot, 0 ≤ i ∧ i < (ls.length : Int)) ∧ Asc lot ∧ ∀ p A', Sub A A' → A p = none → Lor "RawLore" A' p sg (lessL lot ls) → Q (.ref p) A'
theorem k_without (Γ : Gam) (L : LH Γ) (t1 : Tells Γ "is_lot" spLot) (t2 : Tells Γ "less_lines" spLess) : Keeps Γ ⟨2, 2, b_without⟩ spWithout := by
  rintro ws A Q E ⟨a, C, sg, ls, lot, rfl, la, hn, hl, hl2, hb, ha, h⟩
  refine ⟨rfl, ?_⟩
  unfold b_without
  walk_at "wk"
  refine r_lines L la (by with_unfolding_all exact rfl) ?_
  walk_at "wk"
  rw [List.length_map]
  refine t1 _ _ _ _ ⟨lot, _, rfl, hb, ha, hl2, ?_⟩
  walk_at "wk"
  exact t2 _ _ _ _ ⟨a, C, sg, ls, lot, rfl, la, hn, hl, hl2, fun p A' g1 g2 g3 => dn_of (h p A' g1 g2 g3)⟩
def spToldOf : Sp := fun ws A Q _ => ∃ a C sg ls, ws = [.ref a] ∧ Lor C A a sg ls ∧ Lok sg ls ∧ ls.length ≤ 500 ∧ ∀ p A', Sub A A' → A p = none → A' p = some (.lst (asc ((wi (sides ls)).map (·.2)))) → Q (.ref p) A'
theorem k_told_of (Γ : Gam) (L : LH Γ) (t1 : Tells Γ "sides_of" spSides) (t2 : Tells Γ "within_of" spWithin) : Keeps Γ ⟨1, 1, b_told_of⟩ spToldOf := by
  rintro ws A Q E ⟨a, C, sg, ls, rfl, la, ok, hl, h⟩
  refine ⟨rfl, ?_⟩
  have hs := ok.sgn.ok'
  unfold b_told_of
  walk_at "wk"
  refine r_lines L la (by with_unfolding_all exact rfl) ?_
  walk_at "wk"
  refine t1 _ _ _ _ ⟨ls, rfl, by omega, fun p A1 g1 g2 g3 => ?_⟩
  walk_at "wk"
  exact t2 _ _ _ _ ⟨sg, 3, p, _, rfl, g3, hs, by omega, sides_tm ok.tm, by have := sides_sz hs ok.tm; omega, fun p2 A2 g4 g5 g6 => dn_of (h p2 A2 (sub_trans g1 g4) (sub_none g1 g5) g6)⟩
def spTold : Sp := fun ws A Q _ => ∃ a C sg ls, ws = [.ref a] ∧ Lor C A a sg ls ∧ Lok sg ls ∧ ls.length ≤ 500 ∧ Q (.tup (asc ((wi (sides ls)).map (·.2)))) A
theorem k_told_terms (Γ : Gam) (t1 : Tells Γ "told_of" spToldOf) : Keeps Γ ⟨1, 1, b_told_terms⟩ spTold := by
  rintro ws A Q E ⟨a, C, sg, ls, rfl, la, ok, hl, h⟩
  refine ⟨rfl, ?_⟩
  unfold b_told_terms
  walk_at "wk"
  refine t1 _ _ _ _ ⟨a, C, sg, ls, rfl, la, ok, hl, fun p A1 g1 g2 g3 => ?_⟩
  walk_at "wk"
  refine v_tupleL g3 ?_
  exact ⟨A, g1, h⟩
theorem lc_id {ok : AH → Prop} {g : G} {σ : St} {e : TE} {Q : VK} {A : AH} (s : W → St) (f : W → W) (hok : ok A) (xs : List W) (acc : List W) (hg : ∀ x ∈ xs, gW g x σ = some (s x)) (he : ∀ x ∈ xs, ∀ K : VK, K (f x) A → e (s x) A K)
    (h : ∀ p, A p = none → Q (.ref p) (up A p (.lst (acc ++ xs.map f)))) : lcGo ok g σ none e Q xs acc A := by
  have hh := lc_map (g := g) (σ := σ) (e := e) (Q := Q) (A := A) (ok := ok) (fun x : W => x) s f hok xs acc hg he h
  rw [List.map_id'] at hh
  exact hh
def spSizeD (d : Nat) : Sp := fun ws A Q _ => ∃ sg t, ws = [t] ∧ SgOk sg ∧ Tm sg d t ∧ Q (.int (szW t)) A
theorem sum_sz : ∀ ps : List W, (ps.map fun p => (szW p : Int)).sum = szL ps
  | [] => rfl
  | p :: ps => by
    rw [List.map_cons, List.sum_cons, sum_sz ps]
    simp only [szL]; omega
theorem k_lsize (Γ : Gam) (d : Nat) (t1 : Tells Γ "_law_size" (spSizeD d)) : Keeps Γ ⟨1, 2, b__law_size⟩ (spSizeD (d + 1)) := by
  rintro ws A Q E ⟨sg, t, rfl, hs, ht, h⟩
  refine ⟨rfl, ?_⟩
  obtain ⟨s, ps, rfl, hm, hps⟩ := ht
  have l2 := (hs _ hm).2.1
  unfold b__law_size
  walk_at "wk"
  refine e_lc ?_
  walk_at "wk"
  rw [cut1]
  walk_at "wk"
  refine ⟨by unfold lim; dsimp only at l2; omega, ?_⟩
  refine lc_id (A := A) (fun x => setv (wipe [some (.tup (.str s :: ps)), none] [1]) 1 (some x)) (fun x => .int (szW x)) trivial ps [] (fun _ _ => rfl) (fun x hx K hK => ?_) fun r nr => ?_
  · walk_at "wk"
    exact t1 _ _ _ _ ⟨sg, x, rfl, hs, hps x hx, hK⟩
  · walk_at "wk"
    refine v_sumL (ns := ps.map fun p => (szW p : Int)) u_same (by rw [List.nil_append, ← allI_map, List.map_map]; rfl) ?_
    walk_at "wk"
    rw [sum_sz]
    refine ⟨A, sub_up sub_refl nr, ?_⟩
    have e : (szW (.tup (.str s :: ps)) : Int) = 1 + (szL ps : Int) := by simp only [szW, szL]; omega
    rw [e] at h
    exact h
theorem k_lkey (Γ : Gam) (t1 : Tells Γ "_law_size" (spSizeD 12)) : Keeps Γ ⟨1, 1, b__law_key⟩ spOrder := by
  rintro ws A Q E ⟨sg, d, t, rfl, hs, hd, ht, h⟩
  refine ⟨rfl, ?_⟩
  unfold b__law_key
  walk_at "wk"
  refine t1 _ _ _ _ ⟨sg, t, rfl, hs, ht.up hd, ?_⟩
  walk_at "wk"
  exact dn_of h
theorem laGo_len : ∀ (n : Nat) (f st : List W), (laGo n f st).length ≤ f.length + n
  | 0, f, _ => by unfold laGo; omega
  | n + 1, f, [] => by unfold laGo; omega
  | n + 1, f, t :: st => by
    unfold laGo
    split
    · have := laGo_len n f st; omega
    · have := laGo_len n (f ++ [t]) ((parts t).reverse ++ st)
      rw [List.length_append, List.length_singleton] at this; omega
def spLWithin : Sp := fun ws A Q _ => ∃ sg d a ts, ws = [.ref a] ∧ A a = some (.lst ts) ∧ SgOk sg ∧ d ≤ 12 ∧ (∀ t ∈ ts, Tm sg d t) ∧ szL ts ≤ 10000 ∧ ∀ p A', Sub A A' → A p = none → A' p = some (.lst (asc (la ts))) → Q (.ref p) A'
theorem k_lwithin (Γ : Gam) (h2 : Tells Γ "_law_key" spOrder) : Keeps Γ ⟨1, 4, b__law_within⟩ spLWithin := by
  rintro ws A Q E ⟨sg, d, a, ts, rfl, ha, hs, hd, ht, hz, h⟩
  refine ⟨rfl, ?_⟩
  unfold b__law_within
  walk_at "wk"
  intro p n
  walk_at "wk"
  refine v_listL (u_ne (ne_of ha n) ha) ?_
  intro q m
  walk_at "wk"
  have npq : p ≠ q := fun e => by have z := m; rw [← e, u_same] at z; cases z
  have nq : A q = none := (u_none m).2
  have hts : ts.length ≤ szL ts := szL_len ht
  refine s_wh ⟨szL ts + 1, ?_⟩
  refine wh_ind (fun k σ A' => ∃ (st f : List W) (q : Addr) (w : Option W), σ = [some (.ref a), some (.ref p), some (.ref q), w] ∧ Sub A A' ∧ A q = none ∧ p ≠ q ∧ A' p = some (.lst f) ∧ A' q = some (.lst st.reverse) ∧ (∀ x ∈ st, Tm sg d x) ∧ (∀ x ∈ f, Tm sg d x) ∧ laGo k f st = la ts ∧ f.length + szL st ≤ szL ts ∧ szL st < k) ?_ (fun _ _ ⟨_, _, _, _, _, _, _, _, _, _, _, _, _, _, h⟩ => absurd h (Nat.not_lt_zero _)) _ _ _
    ⟨ts.reverse, [], q, none, rfl, sub_up (sub_up sub_refl n) nq, nq, npq, u_ne npq u_same, by rw [u_same, List.reverse_reverse], fun x hx => ht x (List.mem_reverse.mp hx), (fun x hx => by cases hx), rfl, by rw [szL_rev]; simp, by rw [szL_rev]; omega⟩
  rintro k σ A' ih ⟨st, f, q, w1, rfl, hA, nq, npq, hp, hq, hst, hf, hw, hl, hk⟩
  walk_at "wk"
  refine v_lenL hq ?_
  walk_at "wk"
  refine v_cond (fun hc => ?_) (fun hc => ?_)
  · cases st with
    | nil => simp at hc
    | cons x st =>
      have hx := hst x List.mem_cons_self
      have hsr : ∀ z ∈ st, Tm sg d z := fun z hz => hst z (List.mem_cons_of_mem _ hz)
      have hxz := hx.szp
      have hxpos := hx.pos
      simp only [szL] at hl hk
      unfold laGo at hw
      walk_at "wk"
      refine ⟨⟨_, _, rfl, hq⟩, ?_⟩
      walk_at "wk"
      refine v_popR hq ?_
      walk_at "wk"
      refine v_inL (n := d) (u_ne npq hp) (hx.ok hs) (fun y hy => (hf y hy).ok hs) (by omega) (fun hm => ?_) fun hm => ?_
      · rw [if_pos hm] at hw
        walk_at "wk"
        exact dn_of (ih _ _ ⟨st, f, q, _, rfl, sub_up hA nq, nq, npq, u_ne npq hp, u_same, hsr, hf, hw, by omega, by omega⟩)
      · rw [if_neg hm] at hw
        walk_at "wk"
        refine ⟨⟨_, _, rfl, u_ne npq hp⟩, ?_⟩
        walk_at "wk"
        refine v_app (u_ne npq hp) (by unfold lim; omega) ?_
        walk_at "wk"
        have hxp := hx.parts
        cases d with
        | zero => exact hx.elim
        | succ d =>
          obtain ⟨s, ps, rfl, hm', hps⟩ := hx
          simp only [parts] at hxp hxz hw
          walk_at "wk"
          rw [cut1]
          refine v_listT fun r nr => ?_
          have rp : p ≠ r := ne_of u_same nr
          have rq : q ≠ r := ne_of (u_ne (Ne.symm npq) u_same) nr
          have nr0 : A r = none := sub_none hA (u_none (u_none nr).2).2
          have g1 : ∀ z ∈ ps.reverse ++ st, Tm sg (d + 1) z := fun z hz => by
            rcases List.mem_append.mp hz with hz | hz
            · exact hxp z (List.mem_reverse.mp hz)
            · exact hsr z hz
          have g2 : szL (ps.reverse ++ st) = szL ps + szL st := by rw [szL_app, szL_rev]
          have g3 := szL_len g1
          refine v_addL (u_ne rq (u_ne (Ne.symm npq) u_same)) u_same (by rw [List.length_reverse]; rw [List.length_append, List.length_reverse] at g3; unfold lim; omega) fun t nt => ?_
          have tp : p ≠ t := ne_of (u_ne rp u_same) nt
          have nt0 : A t = none := sub_none hA (u_none (u_none (u_none nt).2).2).2
          walk_at "wk"
          refine dn_of (ih _ _ ⟨ps.reverse ++ st, f ++ [_], t, _, rfl, sub_up (sub_up (sub_up (sub_up hA nq) n) nr0) nt0, nt0, tp, u_ne tp (u_ne rp u_same), by rw [u_same, List.reverse_append, List.reverse_reverse], g1, fun z hz => ?_, hw, ?_, by omega⟩)
          · rcases List.mem_append.mp hz with hz | hz
            · exact hf z hz
            · obtain rfl := List.mem_singleton.mp hz
              exact ⟨s, ps, rfl, hm', hps⟩
          · rw [List.length_append, List.length_singleton]; omega
  · cases st with
    | cons x st => simp at hc
    | nil =>
      unfold laGo at hw
      subst hw
      walk_at "wk"
      refine v_srt (by decide) h2 hp hs hd hf fun t nt => ?_
      have nt' : A t = none := sub_none hA nt
      exact dn_of (h t _ (sub_up hA nt') nt' u_same)
def spLTold : Sp := fun ws A Q _ => ∃ (sg : Sg) (ls : List (W × W)), ws = [.tup (ls.map ln)] ∧ SgOk sg ∧ (∀ l ∈ ls, Tm sg 3 l.1 ∧ Tm sg 3 l.2) ∧ ls.length ≤ 100 ∧ ∀ p A', Sub A A' → A p = none → A' p = some (.lst (asc (la (ls.map (·.1) ++ ls.map (·.2))))) → Q (.ref p) A'
theorem k_ltold (Γ : Gam) (t1 : Tells Γ "_law_within" spLWithin) : Keeps Γ ⟨1, 2, b__law_told⟩ spLTold := by
  rintro ws A Q E ⟨sg, ls, rfl, hs, ht, hl, h⟩
  refine ⟨rfl, ?_⟩
  unfold b__law_told
  walk_at "wk"
  refine e_lc ?_
  walk_at "wk"
  refine ⟨by rw [List.length_map]; unfold lim; omega, ?_⟩
  refine lc_map (A := A) ln (fun x => setv (wipe [some (.tup (ls.map ln)), none] [1]) 1 (some (ln x))) (fun x => x.1) trivial ls [] (fun _ _ => rfl) (fun x hx K hK => ?_) fun r nr => ?_
  · walk_at "wk"
    exact v_ixT at0 hK
  · walk_at "wk"
    refine e_lc ?_
    walk_at "wk"
    refine ⟨by rw [List.length_map]; unfold lim; omega, ?_⟩
    refine lc_map (A := up A r _) ln (fun x => setv (wipe [some (.tup (ls.map ln)), none] [1]) 1 (some (ln x))) (fun x => x.2) trivial ls [] (fun _ _ => rfl) (fun x hx K hK => ?_) fun r2 nr2 => ?_
    · walk_at "wk"
      exact v_ixT (v := x.2) rfl hK
    · have n2 := (u_none nr2).2
      refine v_addL (u_ne (ne_of u_same nr2) u_same) u_same (by simp only [List.nil_append, List.length_map]; unfold lim; omega) fun r3 nr3 => ?_
      have n3 := (u_none (u_none nr3).2).2
      walk_at "wk"
      have ht' : ∀ t ∈ ls.map (fun x : W × W => x.1) ++ ls.map (fun x => x.2), Tm sg 3 t := fun t h => by
        rcases List.mem_append.mp h with h | h
        · obtain ⟨x, hx, rfl⟩ := List.mem_map.mp h
          exact (ht x hx).1
        · obtain ⟨x, hx, rfl⟩ := List.mem_map.mp h
          exact (ht x hx).2
      have hz := szL_le (n := 7) (ts := ls.map (fun x : W × W => x.1) ++ ls.map (fun x => x.2)) fun t h => by have := (ht' t h).sz hs; omega
      rw [List.length_append, List.length_map, List.length_map] at hz
      exact t1 _ _ _ _ ⟨sg, 3, r3, _, rfl, u_same, hs, by omega, ht', by show szL (ls.map (fun x : W × W => x.1) ++ ls.map (fun x => x.2)) ≤ _; omega, fun p A' g1 g2 g3 => dn_of (h p A' (sub_trans (sub_up (sub_up (sub_up sub_refl nr) n2) n3) g1) (u_none (u_none (u_none g2).2).2).2 g3)⟩
theorem cut_take {α : Type} {xs : List α} {n : Nat} : cut xs none (some (n : Int)) = xs.take n := by
  unfold cut cl
  dsimp only
  rw [if_neg (by omega)]
  simp only [List.drop_zero, Nat.sub_zero, Int.toNat_natCast]
  rcases Nat.le_total n xs.length with h | h
  · rw [Nat.min_eq_left h]
  · rw [Nat.min_eq_right h, List.take_of_length_le h, List.take_of_length_le (Nat.le_refl _)]
theorem sortW_id {xs : List W} {ds : List PyData} (hl : ds.length = xs.length) (h : ds.Pairwise fun a b => PySem.W.dataLe false id a b = true) : sortW xs ds = xs := by
  unfold sortW
  have e : ((xs.zip ds).map (·.1)) = xs := by rw [List.map_fst_zip (by omega)]
  have e2 : ((xs.zip ds).map (·.2)) = ds := by rw [List.map_snd_zip (by omega)]
  rw [List.mergeSort_of_pairwise]
  · exact e
  · rw [← e2] at h
    exact List.pairwise_map.mp h
def sg1 : Sg := [("a", 0), ("b", 0), ("c", 0)]
def sg2 : Sg := [("f", 1), ("g", 1), ("h", 1)]
def sg3 : Sg := [("p", 2), ("q", 2)]
def sgl (i j k : Nat) : Sg := sg1.take i ++ sg2.take j ++ sg3.take k
def sgnB (sg : Sg) : Bool := decide (1 ≤ sg.length) && decide (sg.length ≤ 12) && (sg.all fun p => signB p.1 && decide (p.2 ≤ 2)) && ascB sg && sg.any fun p => decide (p.2 = 0)
theorem sgnB_ok {sg : Sg} (h : sgnB sg = true) : Sgn sg := by
  unfold sgnB at h
  simp only [Bool.and_eq_true, decide_eq_true_eq, List.all_eq_true, List.any_eq_true] at h
  obtain ⟨⟨⟨⟨h1, h2⟩, h3⟩, h4⟩, h5⟩ := h
  exact ⟨h1, h2, h3, h4, h5⟩
def srtB (sg : Sg) : Bool := decide ((sg.map fun p => datW (pr p)).Pairwise fun a b => PySem.W.dataLe false id a b = true)
theorem sgl_ok : ∀ i < 3, ∀ j < 4, ∀ k < 3, (sgnB (sgl (1 + i) j k) && srtB (sgl (1 + i) j k)) = true := by decide +kernel
theorem PSub.gone {p c : Addr} {m : Nat} {A B : AH} {r : Addr} (h : PSub p c A B) (hP : Pool p c m B) (n : B r = none) : A r = none := by
  cases e : A r with
  | none => rfl
  | some o =>
    have z := hP.ne n
    rw [h r o z.1 z.2 e] at n; cases n
theorem PSub.new {p c : Addr} {A B : AH} {r : Addr} {o : O} (h : PSub p c A B) (n : A r = none) : PSub p c A (N.up B r o) := fun q u h1 h2 h3 => by
  have e : q ≠ r := fun e => by rw [e, n] at h3; cases h3
  exact (if_neg e).trans (h q u h1 h2 h3)
theorem _root_.N.Pool.new {p c : Addr} {m : Nat} {A : AH} {r : Addr} {o : O} (h : Pool p c m A) (n : A r = none) : Pool p c m (N.up A r o) := h.sub (sub_up sub_refl n)
theorem len_take {n m : Nat} {xs : Sg} (h : xs.length ≤ m) : ((xs.take n).map pr).length ≤ m := by
  rw [List.length_map, List.length_take]; omega
def spLSigns : Sp := fun ws A Q _ => ∃ p c m, ws = [.ref p] ∧ Pool p c (m + 3) A ∧ ∀ sg A', Sgn sg → PSub p c A A' → Pool p c m A' → Q (.tup (sg.map pr)) A'
theorem k_lsigns (Γ : Gam) (t1 : Tells Γ "_law_draw" spDraw) : Keeps Γ ⟨1, 2, b__law_signs⟩ spLSigns := by
  rintro ws A Q E ⟨p, c, m, rfl, hP, h⟩
  refine ⟨rfl, ?_⟩
  unfold b__law_signs
  walk_at "wk"
  intro r1 n1
  walk_at "wk"
  have P0 := hP.new (o := .lst (sg1.map pr)) n1
  refine t1 _ _ _ _ ⟨p, c, 3, m + 2, rfl, by decide, by decide, P0, fun x1 A1 x10 x11 f1 P1 => ?_⟩
  obtain ⟨i, rfl⟩ := Int.eq_ofNat_of_zero_le x10
  have S1 : PSub p c A A1 := (PSub.refl.new n1).trans f1.ps
  walk_at "wk"
  refine v_slL (xs := sg1.map pr) ((f1 r1 (hP.ne n1).1 (hP.ne n1).2).trans u_same) ?_
  rw [show (1 + (i : Int)) = ((1 + i : Nat) : Int) by omega, cut_take, ← List.map_take]
  intro r2 n2
  have m2 := S1.gone P1 n2
  have P2 := P1.new (o := .lst ((sg1.take (1 + i)).map pr)) n2
  have S2 := S1.new (o := .lst ((sg1.take (1 + i)).map pr)) m2
  walk_at "wk"
  intro r3 n3
  have m3 := S2.gone P2 n3
  have P3 := P2.new (o := .lst (sg2.map pr)) n3
  have S3 := S2.new (o := .lst (sg2.map pr)) m3
  walk_at "wk"
  refine t1 _ _ _ _ ⟨p, c, 4, m + 1, rfl, by decide, by decide, P3, fun x2 A2 x20 x21 f2 P4 => ?_⟩
  obtain ⟨j, rfl⟩ := Int.eq_ofNat_of_zero_le x20
  have S4 := S3.trans f2.ps
  walk_at "wk"
  refine v_slL (xs := sg2.map pr) ((f2 r3 (hP.ne m3).1 (hP.ne m3).2).trans u_same) ?_
  rw [cut_take, ← List.map_take]
  intro r4 n4
  have m4 := S4.gone P4 n4
  have P5 := P4.new (o := .lst ((sg2.take j).map pr)) n4
  have S5 := S4.new (o := .lst ((sg2.take j).map pr)) m4
  have q2 : A2 r2 = some (.lst ((sg1.take (1 + i)).map pr)) := (f2 r2 (hP.ne m2).1 (hP.ne m2).2).trans (u_ne (ne_of u_same n3) u_same)
  refine v_addL (u_ne (ne_of q2 n4) q2) u_same (by
    have := len_take (n := 1 + i) (xs := sg1) (m := 3) (by decide)
    have := len_take (n := j) (xs := sg2) (m := 3) (by decide)
    unfold lim; omega) ?_
  rw [← List.map_append]
  intro r5 n5
  have m5 := S5.gone P5 n5
  have P6 := P5.new (o := .lst ((sg1.take (1 + i) ++ sg2.take j).map pr)) n5
  have S6 := S5.new (o := .lst ((sg1.take (1 + i) ++ sg2.take j).map pr)) m5
  walk_at "wk"
  intro r6 n6
  have m6 := S6.gone P6 n6
  have P7 := P6.new (o := .lst (sg3.map pr)) n6
  have S7 := S6.new (o := .lst (sg3.map pr)) m6
  walk_at "wk"
  refine t1 _ _ _ _ ⟨p, c, 4, m, rfl, by decide, by decide, P7, fun x3 A3 x30 x31 f3 P8 => ?_⟩
  obtain ⟨k, rfl⟩ := Int.eq_ofNat_of_zero_le x30
  have S8 := S7.trans f3.ps
  walk_at "wk"
  rw [show (if (k : Int) - 1 > 0 then (k : Int) - 1 else 0) = ((k - 1 : Nat) : Int) by split <;> omega]
  refine v_slL (xs := sg3.map pr) ((f3 r6 (hP.ne m6).1 (hP.ne m6).2).trans u_same) ?_
  rw [cut_take, ← List.map_take]
  intro r7 n7
  have m7 := S8.gone P8 n7
  have P9 := P8.new (o := .lst ((sg3.take (k - 1)).map pr)) n7
  have S9 := S8.new (o := .lst ((sg3.take (k - 1)).map pr)) m7
  have q5 : A3 r5 = some (.lst ((sg1.take (1 + i) ++ sg2.take j).map pr)) := (f3 r5 (hP.ne m5).1 (hP.ne m5).2).trans (u_ne (ne_of u_same n6) u_same)
  refine v_addL (u_ne (ne_of q5 n7) q5) u_same (by
    have := len_take (n := 1 + i) (xs := sg1) (m := 3) (by decide)
    have := len_take (n := j) (xs := sg2) (m := 3) (by decide)
    have := len_take (n := k - 1) (xs := sg3) (m := 2) (by decide)
    rw [List.map_append, List.length_append]
    unfold lim; omega) ?_
  rw [← List.map_append]
  intro r8 n8
  have m8 := S9.gone P9 n8
  have P10 := P9.new (o := .lst ((sgl (1 + i) j (k - 1)).map pr)) n8
  have S10 := S9.new (o := .lst ((sgl (1 + i) j (k - 1)).map pr)) m8
  walk_at "wk"
  have ok := sgl_ok i (by omega) j (by omega) (k - 1) (by omega)
  rw [Bool.and_eq_true] at ok
  have okd := of_decide_eq_true ok.2
  have hs := sgnB_ok ok.1
  show srtW _ _ _ (N.up _ r8 (.lst ((sgl (1 + i) j (k - 1)).map pr))) _
  generalize hsg : sgl (1 + i) j (k - 1) = sg at *
  have pwp : ∀ p ∈ sg, okW 1 (pr p) := fun p hp => okW.tup fun y hy => by
    rcases List.mem_cons.mp hy with rfl | hy
    · exact .str _ (hs.ok' p hp).1
    · rcases List.mem_cons.mp hy with rfl | hy
      · exact .int _ _
      · cases hy
  refine ⟨r8, sg.map pr, sg.map pr, sg.map fun p => datW (pr p), rfl, u_same, rfl, ?_, ?_, .inl ?_, ?_, by rw [if_pos rfl], fun r9 n9 => ?_⟩
  · have := dws_of (A := N.up (N.up A3 r7 (.lst ((sg3.take (k - 1)).map pr))) r8 (.lst (sg.map pr))) (xs := sg.map pr) (pwL_iff.mpr fun x hx => by obtain ⟨p, hp, rfl⟩ := List.mem_map.mp hx; exact (pwp p hp).1)
    have e : ∀ l : Sg, datL (l.map pr) = l.map fun p => datW (pr p) := fun l => by
      induction l with
      | nil => rfl
      | cons x l ih => rw [List.map_cons, List.map_cons, ← ih]; rfl
    rw [e] at this
    exact this
  · intro a ha b hb
    obtain ⟨x, _, rfl⟩ := List.mem_map.mp ha
    obtain ⟨y, _, rfl⟩ := List.mem_map.mp hb
    simp [pr, datW, datL, PySem.W.alike, PySem.W.alikeAll]
  · intro a ha
    obtain ⟨x, _, rfl⟩ := List.mem_map.mp ha
    exact ⟨_, _, rfl⟩
  · intro a ha
    obtain ⟨x, hx, rfl⟩ := List.mem_map.mp ha
    have := (pwp x hx).2
    omega
  · walk_at "wk"
    refine v_tupleL u_same ?_
    rw [sortW_id (by rw [List.length_map, List.length_map]) okd]
    exact dn_of (h sg _ hs (S10.new (S10.gone P10 n9)) (P10.new n9))
def crT : Nat → Nat
  | 0 => 0
  | d + 1 => 2 + 2 * crT d
def spLTerm (d : Nat) : Sp := fun ws A Q _ => ∃ p c m sg, ws = [.ref p, .tup (sg.map pr), .int d] ∧ Sgn sg ∧ Pool p c (m + crT (d + 1)) A ∧ ∀ t A', Tm sg (d + 1) t → PSub p c A A' → Pool p c m A' → Q t A'
def b_term_rest : Ss := (.cons (.asg (.tp [4, 5]) (.ix (.v 3) (.call "_law_draw" (.cons (.v 0) (.cons (.bi .len (.cons (.v 3) .nil)) .nil))))) (.cons (.ret (.bin .add (.tup (.cons (.v 4) .nil)) (.bi .tuple (.cons (.lc (.call "_law_term" (.cons (.v 0) (.cons (.v 1) (.cons (.bin .sub (.v 2) (.int 1)) .nil)))) (.nm 7) (.rng1 (.v 5)) .no [7]) .nil)))) .nil))
theorem rangeL_len' : ∀ (n : Nat) (lo : Int), (rangeL lo n).length = n
  | 0, _ => rfl
  | n + 1, lo => by show (rangeL (lo + 1) n).length + 1 = _; rw [rangeL_len']
theorem k_term_rest (Γ : Gam) (d : Nat) (t1 : Tells Γ "_law_draw" spDraw) (t2 : ∀ e, d = e + 1 → Tells Γ "_law_term" (spLTerm e)) {D : Ends} {p c : Addr} {m : Nat} {sg so : Sg} {r : Addr} {w4 w5 w6 w7 : Option W} {A0 A : AH}
    (hs : Sgn sg) (hr : A r = some (.lst (so.map pr))) (ho : ∀ q ∈ so, q ∈ sg ∧ (d = 0 → q.2 = 0)) (h0 : so ≠ []) (hl : so.length ≤ 20) (S : PSub p c A0 A) (hP : Pool p c (m + 1 + 2 * crT d) A) (hrp : r ≠ p ∧ r ≠ c)
    (h : ∀ t A', Tm sg (d + 1) t → PSub p c A0 A' → Pool p c m A' → D.rt t A') :
    rdSs Γ b_term_rest D [some (.ref p), some (.tup (sg.map pr)), some (.int d), some (.ref r), w4, w5, w6, w7] A := by
  unfold b_term_rest
  walk_at "wk"
  refine v_lenL hr ?_
  walk_at "wk"
  rw [List.length_map]
  have hl0 : 0 < so.length := List.length_pos_iff.mpr h0
  refine t1 _ _ _ _ ⟨p, c, so.length, m + 2 * crT d, rfl, by omega, by omega, hP.le (by omega), fun x A1 x0 x1 f1 P1 => ?_⟩
  obtain ⟨i, rfl⟩ := Int.eq_ofNat_of_zero_le x0
  have hi : i < so.length := by omega
  obtain ⟨q1, q2⟩ := ho so[i] (List.getElem_mem hi)
  generalize so[i]'hi = q at *
  have S1 := S.trans f1.ps
  have hr1 := (f1 r hrp.1 hrp.2).trans hr
  have hat : at? (so.map pr) (i : Int) = some (pr so[i]) := at_nat rfl (by rw [List.getElem?_map, List.getElem?_eq_getElem hi]; rfl)
  obtain ⟨q1, q2⟩ := ho so[i] (List.getElem_mem hi)
  generalize so[i]'hi = q at *
  obtain ⟨s, k⟩ := q
  have hk2 : k ≤ 2 := (hs.ok _ q1).2
  refine v_ixL hr1 hat ?_
  refine g_tp rfl ?_
  walk_at "wk"
  refine e_lc ?_
  walk_at "wk"
  refine ⟨by unfold okR; omega, ?_⟩
  rw [Int.toNat_natCast]
  refine ⟨by rw [rangeL_len']; unfold lim; omega, ?_⟩
  refine lc_ind (fun xs acc A' => ∃ j, xs.length = j ∧ acc.length + j = k ∧ (∀ t ∈ acc, Tm sg d t) ∧ PSub p c A0 A' ∧ Pool p c (m + j * crT d) A') ?_ ?_ _ _ _ ⟨k, rangeL_len' _ _, by simp, fun t ht => by (cases ht), S1, P1.le (Nat.add_le_add_left (Nat.mul_le_mul_right _ hk2) _)⟩
  · rintro acc A' ⟨j, hj, hk, ht, S2, P2⟩
    have j0 : j = 0 := hj.symm
    subst j0
    refine ⟨trivial, fun r2 n2 => ?_⟩
    have m2 := S2.gone P2 n2
    walk_at "wk"
    refine v_tupleL u_same ?_
    refine v_addT (by simp only [List.length_singleton]; unfold lim; omega) ?_
    walk_at "wk"
    exact h _ _ ⟨s, acc, rfl, by rw [show acc.length = k by omega]; exact q1, ht⟩ (S2.new m2) ((P2.le (by omega)).new n2)
  · rintro x xs acc A' ih ⟨j, hj, hk, ht, S2, P2⟩
    refine ⟨trivial, ?_⟩
    cases j with
    | zero => simp at hj
    | succ j =>
      cases d with
      | zero => have := q2 rfl; simp only at this; omega
      | succ d =>
        refine g_nm ?_
        show rdE _ _ _ _ _ _
        walk_at "wk"
        rw [show ((d + 1 : Nat) : Int) - 1 = (d : Int) by omega]
        refine t2 d rfl _ _ _ _ ⟨p, c, m + j * crT (d + 1), sg, rfl, hs, by rw [Nat.add_assoc, ← Nat.succ_mul]; exact P2, fun t A2 g1 g2 g3 => ?_⟩
        refine dn_of (ih _ _ ⟨j, by simpa using hj, by rw [List.length_append, List.length_singleton]; omega, fun y hy => ?_, S2.trans g2, g3⟩)
        rcases List.mem_append.mp hy with hy | hy
        · exact ht y hy
        · obtain rfl := List.mem_singleton.mp hy
          exact g1
theorem k_lterm (Γ : Gam) (d : Nat) (hd : d ≤ 10) (t1 : Tells Γ "_law_draw" spDraw) (t2 : ∀ e, d = e + 1 → Tells Γ "_law_term" (spLTerm e)) : Keeps Γ ⟨3, 8, b__law_term⟩ (spLTerm d) := by
  rintro ws A Q E ⟨p, c, m, sg, rfl, hs, hP, h⟩
  refine ⟨rfl, ?_⟩
  have hl := hs.hi
  unfold b__law_term
  walk_at "wk"
  refine e_lc ?_
  walk_at "wk"
  refine ⟨by rw [List.length_map]; unfold lim; omega, ?_⟩
  refine lc_filter (A := A) pr (fun q => setv (wipe [some (.ref p), some (.tup (sg.map pr)), some (.int d), none, none, none, none, none] [6]) 6 (some (pr q))) (fun q => decide ((q.2 : Int) = 0) || decide ((0 : Int) < d)) pr trivial sg [] (fun _ _ => rfl) (fun q hq K hK => ?_) (fun q hq _ K hK => ?_) fun r1 n1 => ?_
  · walk_at "wk"
    refine v_ixT (v := .int q.2) rfl ?_
    walk_at "wk"
    refine v_cond (fun hz => ?_) fun hz => ?_
    · rw [decide_eq_true hz, Bool.true_or] at hK
      exact hK
    · rw [decide_eq_false hz, Bool.false_or] at hK
      walk_at "wk"
      exact hK
  · walk_at "wk"
    exact hK
  · generalize hso : (sg.filter fun q => decide ((q.2 : Int) = 0) || decide ((0 : Int) < d)) = so
    have hso1 : ∀ q ∈ so, q ∈ sg ∧ (d = 0 → q.2 = 0) := fun q hq => by
      rw [← hso] at hq
      obtain ⟨a, b⟩ := List.mem_filter.mp hq
      refine ⟨a, fun z => ?_⟩
      rw [z] at b
      simp at b; exact b
    have hso0 : so ≠ [] := by
      obtain ⟨q, hq, hz⟩ := hs.zero
      refine List.ne_nil_of_mem (a := q) ?_
      rw [← hso]
      exact List.mem_filter.mpr ⟨hq, by rw [hz]; simp⟩
    have hso2 : so.length ≤ 12 := by rw [← hso]; exact Nat.le_trans (List.length_filter_le _ _) hl
    rw [List.nil_append]
    have e3 : crT (d + 1) = 2 + 2 * crT d := rfl
    rw [e3] at hP
    have P1 := hP.new (o := .lst (so.map pr)) n1
    have S1 : PSub p c A (N.up A r1 (.lst (so.map pr))) := PSub.refl.new n1
    have ne1 := hP.ne n1
    walk_at "wk"
    have fin : ∀ {A1 : AH} {s2 : Sg} {r : Addr} {w4 w5 w6 w7 : Option W}, A1 r = some (.lst (s2.map pr)) → (∀ q ∈ s2, q ∈ sg ∧ (d = 0 → q.2 = 0)) → s2 ≠ [] → s2.length ≤ 20 → PSub p c A A1 → Pool p c (m + 1 + 2 * crT d) A1 → (r ≠ p ∧ r ≠ c) →
        rdSs Γ b_term_rest { nx := fun x A' => dn A' (Q W.non), rt := fun w A' => dn A' (Q w), ex := fun C vs x A' => dn A' (E C vs) } [some (.ref p), some (.tup (sg.map pr)), some (.int d), some (.ref r), w4, w5, w6, w7] A1 := fun g1 g2 g3 g4 g5 g6 g7 =>
      k_term_rest Γ d t1 t2 hs g1 g2 g3 g4 g5 g6 g7 fun t A' g8 g9 g10 => dn_of (h t A' g8 g9 g10)
    refine v_cond (fun hd0 => ?_) fun hd0 => ?_
    · walk_at "wk"
      refine t1 _ _ _ _ ⟨p, c, 3, m + 1 + 2 * crT d, rfl, by decide, by decide, P1.le (by omega), fun x A1 x0 x1 f1 P2 => ?_⟩
      have S2 := S1.trans f1.ps
      have hr1 := (f1 r1 ne1.1 ne1.2).trans (u_same (A := A) (a := r1) (o := .lst (so.map pr)))
      walk_at "wk"
      refine v_cond (fun hx => ?_) fun hx => ?_
      · walk_at "wk"
        refine e_lc ?_
        walk_at "wk"
        refine ⟨by rw [List.length_map]; unfold lim; omega, ?_⟩
        refine lc_filter (A := A1) pr (fun q => setv (wipe [some (.ref p), some (.tup (sg.map pr)), some (.int d), some (.ref r1), none, none, none, none] [6]) 6 (some (pr q))) (fun q => decide ((0 : Int) < (q.2 : Int))) pr trivial sg [] (fun _ _ => rfl) (fun q hq K hK => ?_) (fun q hq _ K hK => ?_) fun r2 n2 => ?_
        · walk_at "wk"
          exact v_ixT (v := .int q.2) rfl hK
        · walk_at "wk"
          exact hK
        · have m2 := S2.gone P2 n2
          generalize hs2 : (sg.filter fun q => decide ((0 : Int) < (q.2 : Int))) = s2
          have hs2m : ∀ q ∈ s2, q ∈ sg := fun q hq => by rw [← hs2] at hq; exact (List.mem_filter.mp hq).1
          have hs2l : s2.length ≤ 12 := by rw [← hs2]; exact Nat.le_trans (List.length_filter_le _ _) hl
          rw [List.nil_append]
          walk_at "wk"
          refine v_slL (u_ne (ne_of hr1 n2) hr1) ?_
          rw [show (1 : Int) = ((1 : Nat) : Int) from rfl, cut_take, ← List.map_take]
          intro r3 n3
          have n3' := (u_none n3).2
          have m3 := S2.gone P2 n3'
          have lt1 : (so.take 1).length ≤ 1 := by rw [List.length_take]; omega
          refine v_addL (u_ne (ne_of u_same n3) u_same) u_same (by rw [List.length_map, List.length_map]; unfold lim; omega) ?_
          rw [← List.map_append]
          intro r4 n4
          have n4' := (u_none (u_none n4).2).2
          have m4 := S2.gone P2 n4'
          walk_at "wk"
          refine fin u_same (fun q hq => ?_) ?_ (by rw [List.length_append]; omega) (((S2.new m2).new m3).new m4) (((P2.new n2).new n3).new n4) (hP.ne m4)
          · rcases List.mem_append.mp hq with hq | hq
            · exact ⟨hs2m q hq, fun z => by rw [z] at hd0; exact absurd hd0 (by decide)⟩
            · exact hso1 q (List.mem_of_mem_take hq)
          · cases so with
            | nil => exact absurd rfl hso0
            | cons a b => simp
      · walk_at "wk"
        exact fin hr1 hso1 hso0 (by omega) S2 P2 ne1
    · walk_at "wk"
      exact fin u_same hso1 hso0 (by omega) S1 (P1.le (by omega)) ne1
theorem v_rvT {A : AH} {Q : VK} {xs : List W} (h : Q (.tup xs.reverse) A) : rvW (.tup xs) A Q := h
theorem crT_mono : ∀ {a b : Nat}, a ≤ b → crT a ≤ crT b
  | 0, _, _ => Nat.zero_le _
  | a + 1, 0, h => by omega
  | a + 1, b + 1, h => by
    have := crT_mono (a := a) (b := b) (by omega)
    simp only [crT]; omega
def TmL (sg : Sg) (d : Nat) (ls : List (W × W)) : Prop := ∀ l ∈ ls, Tm sg d l.1 ∧ Tm sg d l.2
def crL (d : Nat) : Nat := 4 + 2 * crT (d + 1)
def spLLines : Sp := fun ws A Q _ => ∃ p c m sg M d, ws = [.ref p, .tup (sg.map pr), .int (M : Nat), .int (d : Nat)] ∧ Sgn sg ∧ M ≤ 30 ∧ d ≤ 10 ∧ Pool p c (m + 1 + M * crL d) A ∧ ∀ ls A', TmL sg (d + 1) ls → ls.length ≤ M → PSub p c A A' → Pool p c m A' → Q (.tup (ls.map ln)) A'
theorem k_llines (Γ : Gam) (t1 : Tells Γ "_law_draw" spDraw) (t2 : ∀ e ≤ 10, Tells Γ "_law_term" (spLTerm e)) : Keeps Γ ⟨4, 7, b__law_lines⟩ spLLines := by
  rintro ws A Q E ⟨p, c, m, sg, M, d, rfl, hs, hM, hd, hP, h⟩
  refine ⟨rfl, ?_⟩
  unfold b__law_lines
  walk_at "wk"
  intro f nf
  have nef := hP.ne nf
  walk_at "wk"
  refine s_fr ?_
  walk_at "wk"
  refine t1 _ _ _ _ ⟨p, c, (M : Int) + 1, m + M * crL d, rfl, by omega, by omega, (hP.le (by omega)).new nf, fun x A1 x0 x1 f1 P1 => ?_⟩
  obtain ⟨n, rfl⟩ := Int.eq_ofNat_of_zero_le x0
  have S1 : PSub p c A A1 := (PSub.refl.new nf).trans f1.ps
  have q1 : A1 f = some (.lst (([] : List (W × W)).map ln)) := (f1 f nef.1 nef.2).trans u_same
  walk_at "wk"
  refine ⟨by unfold okR; omega, ?_⟩
  rw [Int.toNat_natCast]
  have hnM : n ≤ M := by omega
  refine fr_ind (fun xs σ A' => ∃ (k : Nat) (fs : List (W × W)) (w5 w6 : Option W), xs.length = k ∧ σ = [some (.ref p), some (.tup (sg.map pr)), some (.int (M : Nat)), some (.int (d : Nat)), some (.ref f), w5, w6] ∧ PSub p c A A' ∧ A' f = some (.lst (fs.map ln)) ∧ TmL sg (d + 1) fs ∧ fs.length + k ≤ M ∧ Pool p c (m + k * crL d) A') ?_ ?_ _ _ _
    ⟨n, [], none, none, rangeL_len' _ _, rfl, S1, q1, (fun l hl => by cases hl), by simpa using hnM, P1.le (Nat.add_le_add_left (Nat.mul_le_mul_right _ hnM) _)⟩
  · rintro σ A' ⟨k, fs, w5, w6, hk, rfl, S2, q2, ht, hl, P2⟩
    refine ⟨trivial, ?_⟩
    walk_at "wk"
    refine v_tupleL q2 ?_
    exact dn_of (h fs A' ht (by omega) S2 (P2.le (by omega)))
  · rintro x xs σ A' ih ⟨k, fs, w5, w6, hk, rfl, S2, q2, ht, hl, P2⟩
    cases k with
    | zero => simp at hk
    | succ k =>
      have hk' : xs.length = k := by simpa using hk
      refine ⟨trivial, ?_⟩
      have cr : m + (k + 1) * crL d = m + k * crL d + crT (d + 1) + crT (d + 1) + 4 := by unfold crL; rw [Nat.succ_mul]; omega
      rw [cr] at P2
      have t3 : ∀ e : Nat, e ≤ d → Tells Γ "_law_term" (spLTerm e) := fun e he => t2 e (by omega)
      walk_at "wk"
      refine t1 _ _ _ _ ⟨p, c, (d : Int) + 1, m + k * crL d + crT (d + 1) + crT (d + 1) + 3, rfl, by omega, by omega, P2, fun x A1 x0 x1 f1 P3 => ?_⟩
      obtain ⟨e, rfl⟩ := Int.eq_ofNat_of_zero_le x0
      have he : e ≤ d := by omega
      have me := crT_mono (a := e + 1) (b := d + 1) (by omega)
      walk_at "wk"
      refine t3 e he _ _ _ _ ⟨p, c, m + k * crL d + crT (d + 1) + 3, sg, rfl, hs, P3.le (by omega), fun a A2 ha S3 P4 => ?_⟩
      walk_at "wk"
      refine t1 _ _ _ _ ⟨p, c, (d : Int) + 1, m + k * crL d + crT (d + 1) + 2, rfl, by omega, by omega, P4, fun x A3 x0 x1 f2 P5 => ?_⟩
      obtain ⟨e2, rfl⟩ := Int.eq_ofNat_of_zero_le x0
      have he2 : e2 ≤ d := by omega
      have me2 := crT_mono (a := e2 + 1) (b := d + 1) (by omega)
      walk_at "wk"
      refine t3 e2 he2 _ _ _ _ ⟨p, c, m + k * crL d + 2, sg, rfl, hs, P5.le (by omega), fun b A4 hb S5 P6 => ?_⟩
      have S6 : PSub p c A' A4 := ((f1.ps.trans S3).trans f2.ps).trans S5
      have q6 := S6 f _ nef.1 nef.2 q2
      have fin : ∀ {A5 : AH} {l : W × W} {w5 : Option W}, PSub p c A A5 → A5 f = some (.lst (fs.map ln)) → Tm sg (d + 1) l.1 ∧ Tm sg (d + 1) l.2 → Pool p c (m + k * crL d) A5 → _ := fun {A5 l w5} g1 g2 g3 g4 => ih [some (.ref p), some (.tup (sg.map pr)), some (.int (M : Nat)), some (.int (d : Nat)), some (.ref f), w5, some (ln l)] (N.up A5 f (.lst (fs.map ln ++ [ln l])))
        ⟨k, fs ++ [l], _, _, hk', rfl, g1.new nf, by rw [u_same, List.map_append]; rfl, fun y hy => by
          rcases List.mem_append.mp hy with hy | hy
          · exact ht y hy
          · obtain rfl := List.mem_singleton.mp hy
            exact g3, by rw [List.length_append, List.length_singleton]; omega, by
          obtain ⟨z1, sd, kk, cs, z2, z3, z4⟩ := g4
          exact ⟨z1, sd, kk, cs, u_ne (Ne.symm nef.1) z2, u_ne (Ne.symm nef.2) z3, z4⟩⟩
      have tab : Tm sg (d + 1) a ∧ Tm sg (d + 1) b := ⟨ha.up (by omega), hb.up (by omega)⟩
      walk_at "wk"
      refine v_lenL q6 ?_
      walk_at "wk"
      rw [List.length_map]
      refine v_cond (fun h0 => ?_) fun h0 => ?_
      · walk_at "wk"
        refine t1 _ _ _ _ ⟨p, c, 8, m + k * crL d + 1, rfl, by decide, by decide, P6, fun x A5 x0 x1 f3 P7 => ?_⟩
        have q7 := (f3 f nef.1 nef.2).trans q6
        have S7 := (S2.trans S6).trans f3.ps
        walk_at "wk"
        refine v_cond (fun hx => ?_) fun hx => ?_
        · walk_at "wk"
          refine v_lenL q7 ?_
          rw [List.length_map]
          refine t1 _ _ _ _ ⟨p, c, fs.length, m + k * crL d, rfl, by omega, by omega, P7, fun x A6 x0 x1 f4 P8 => ?_⟩
          obtain ⟨i, rfl⟩ := Int.eq_ofNat_of_zero_le x0
          have hi : i < fs.length := by omega
          have q8 := (f4 f nef.1 nef.2).trans q7
          have S8 := S7.trans f4.ps
          walk_at "wk"
          have hat : at? (fs.map ln) (i : Int) = some (ln (fs[i]'hi)) := at_nat rfl (by rw [List.getElem?_map, List.getElem?_eq_getElem hi]; rfl)
          refine v_ixL q8 hat ?_
          refine v_rvT ?_
          walk_at "wk"
          refine ⟨⟨_, _, rfl, q8⟩, ?_⟩
          walk_at "wk"
          refine v_app q8 (by rw [List.length_map]; unfold lim; omega) ?_
          walk_at "wk"
          have hl2 := ht _ (List.getElem_mem hi)
          exact dn_of (fin (l := ((fs[i]'hi).2, (fs[i]'hi).1)) S8 q8 ⟨hl2.2, hl2.1⟩ P8)
        · walk_at "wk"
          refine ⟨⟨_, _, rfl, q7⟩, ?_⟩
          walk_at "wk"
          refine v_app q7 (by rw [List.length_map]; unfold lim; omega) ?_
          walk_at "wk"
          exact dn_of (fin (l := (a, b)) S7 q7 tab (P7.le (by omega)))
      · walk_at "wk"
        refine ⟨⟨_, _, rfl, q6⟩, ?_⟩
        walk_at "wk"
        refine v_app q6 (by rw [List.length_map]; unfold lim; omega) ?_
        walk_at "wk"
        exact dn_of (fin (l := (a, b)) (S2.trans S6) q6 tab (P6.le (by omega)))
theorem cut_last {α : Type} {xs : List α} : cut xs none (some (-1)) = xs.dropLast := by
  unfold cut cl
  dsimp only
  rw [if_pos (by decide), List.dropLast_eq_take, List.drop_zero]
  congr 1
  omega
theorem asc_la_nil : asc (la (([] : List (W × W)).map (·.1) ++ ([] : List (W × W)).map (·.2))) = [] := by
  have e : (la (([] : List (W × W)).map (·.1) ++ ([] : List (W × W)).map (·.2))) = [] := by
    unfold la
    show laGo 1 [] [] = []
    unfold laGo; rfl
  rw [e]
  refine List.eq_nil_of_length_eq_zero ?_
  rw [asc_len]; rfl
/-- told by the law's own look -/
noncomputable def tl (ls : List (W × W)) : List W := la (ls.map (·.1) ++ ls.map (·.2))
def spLLore : Sp := fun ws A Q _ => ∃ p c m M d, ws = [.ref p, .int (M : Nat), .int (d : Nat)] ∧ M ≤ 30 ∧ d ≤ 2 ∧ Pool p c (m + 1 + M * crL d + 3) A ∧ ∀ sg ls A', Sgn sg → TmL sg 3 ls → ls.length ≤ M → (tl ls).length ≤ 40 → PSub p c A A' → Pool p c m A' → Q (.tup [.tup (sg.map pr), .tup (ls.map ln)]) A'
theorem k_llore (Γ : Gam) (t1 : Tells Γ "_law_signs" spLSigns) (t2 : Tells Γ "_law_lines" spLLines) (t3 : Tells Γ "_law_told" spLTold) : Keeps Γ ⟨3, 5, b__law_lore⟩ spLLore := by
  rintro ws A Q E ⟨p, c, m, M, d, rfl, hM, hd, hP, h⟩
  refine ⟨rfl, ?_⟩
  unfold b__law_lore
  walk_at "wk"
  refine t1 _ _ _ _ ⟨p, c, _, rfl, hP, fun sg A1 hs S1 P1 => ?_⟩
  walk_at "wk"
  refine t2 _ _ _ _ ⟨p, c, m, sg, M, d, rfl, hs, hM, by omega, P1, fun ls A2 ht hl S2 P2 => ?_⟩
  have S3 := S1.trans S2
  walk_at "wk"
  refine s_wh ⟨ls.length + 1, ?_⟩
  refine wh_ind (fun k σ A' => ∃ ms : List (W × W), σ = [some (.ref p), some (.int (M : Nat)), some (.int (d : Nat)), some (.tup (sg.map pr)), some (.tup (ms.map ln))] ∧ TmL sg 3 ms ∧ ms.length ≤ M ∧ PSub p c A A' ∧ Pool p c m A' ∧ ms.length < k) ?_ (fun _ _ ⟨_, _, _, _, _, _, h⟩ => absurd h (Nat.not_lt_zero _)) _ _ _
    ⟨ls, rfl, fun l hl => ⟨(ht l hl).1.up (by omega), (ht l hl).2.up (by omega)⟩, hl, S3, P2, by omega⟩
  rintro k σ A' ih ⟨ms, rfl, ht, hl, S4, P4, hk⟩
  walk_at "wk"
  refine t3 _ _ _ _ ⟨sg, ms, rfl, hs.ok', ht, by omega, fun r A5 g1 g2 g3 => ?_⟩
  walk_at "wk"
  refine v_lenL g3 ?_
  have el := asc_len (la (ms.map (·.1) ++ ms.map (·.2)))
  walk_at "wk"
  refine v_cond (fun hc => ?_) fun hc => ?_
  · walk_at "wk"
    rw [cut_last, ← List.map_dropLast]
    have hne : ms ≠ [] := fun e => by
      rw [e, asc_la_nil] at hc
      exact absurd hc (by decide)
    have l3 : ms.dropLast.length + 1 = ms.length := by
      rw [List.length_dropLast]
      have := List.length_pos_iff.mpr hne
      omega
    exact dn_of (ih _ _ ⟨ms.dropLast, rfl, fun l hl => ht l (List.dropLast_subset _ hl), by omega, S4.trans (.of g1), P4.sub g1, by omega⟩)
  · walk_at "wk"
    exact dn_of (h sg ms A5 hs ht hl (by unfold tl; rw [← el]; omega) (S4.trans (.of g1)) (P4.sub g1))
/-- Lore(signs, lines) -/
theorem mk_lore {Γ : Gam} (t : Tells Γ "Lore.__init__" spInit) {A : AH} {sg : Sg} {ls : List (W × W)} {P : Addr → AH → Prop} {xk : XK} (ok : Lok sg ls) (hl : ls.length ≤ 24) (hw : (wi (sides ls)).length ≤ 60)
    (h : ∀ p A2, Sub A A2 → A p = none → Lor "Lore" A2 p sg ls → P p A2) : ∀ p, A p = none → Γ.fn (meth "Lore" "__init__") [.ref p, .tup (sg.map pr), .tup (ls.map ln)] (N.up A p (.ins "Lore" [])) (fun v A2 => v = .non ∧ P p A2) xk := fun p np => by
  rw [m_in1]
  exact t _ _ _ _ ⟨p, sg, ls, rfl, u_same, ok, asc_nd ok.sgn.asc, ok.sgn.ok', hl, hw, fun A' g1 g2 => ⟨rfl, h p A' (fun x o ho => g1 x o (ne_of ho np) (u_ne (ne_of ho np) ho)) np g2⟩⟩
def spMade : Sp := fun ws A Q _ => ∃ sg ls, ws = [.tup [.tup (sg.map pr), .tup (ls.map ln)]] ∧ Lok sg ls ∧ ls.length ≤ 24 ∧ (wi (sides ls)).length ≤ 60 ∧ ∀ p A', Sub A A' → A p = none → Lor "Lore" A' p sg ls → Q (.ref p) A'
theorem k_made (Γ : Gam) (t : Tells Γ "Lore.__init__" spInit) : Keeps Γ ⟨1, 1, b__law_made⟩ spMade := by
  rintro ws A Q E ⟨sg, ls, rfl, ok, hl, hw, h⟩
  refine ⟨rfl, ?_⟩
  unfold b__law_made
  walk_at "wk"
  refine v_ixT at0 ?_
  walk_at "wk"
  refine v_ixT (v := .tup (ls.map ln)) rfl ?_
  walk_at "wk"
  exact mk_lore t ok hl hw fun p A2 g1 g2 g3 => dn_of (h p A2 g1 g2 g3)
theorem v_neq {Γ : Gam} (L : LH Γ) (t : Tells Γ "Lore.__eq__" spEq) {A : AH} {Q : VK} {a b : Addr} {C C' : Str} {sg : Sg} {ls : List (W × W)} (la : Lor C A a sg ls) (lb : Lor C' A b sg ls) (hc : C' = C ∨ subC C' C = false) (ok : Lok sg ls)
    (h : Q (.bl false) A) : ownW Γ true (.ref a) (.ref b) A Q := v_own L t la lb hc ok (by rw [if_pos rfl]; exact h)
theorem v_eqq {Γ : Gam} (L : LH Γ) (t : Tells Γ "Lore.__eq__" spEq) {A : AH} {Q : VK} {a b : Addr} {C C' : Str} {sg : Sg} {ls : List (W × W)} (la : Lor C A a sg ls) (lb : Lor C' A b sg ls) (hc : C' = C ∨ subC C' C = false) (ok : Lok sg ls)
    (h : Q (.bl true) A) : ownW Γ false (.ref a) (.ref b) A Q := v_own L t la lb hc ok (by rw [if_neg Bool.false_ne_true]; exact h)
theorem subC_RL : subC "Lore" "RawLore" = false := by decide +kernel
theorem rangeL_r : ∀ (k n : Nat), rangeL (n : Int) k = (List.range' n k).map fun i : Nat => W.int i
  | 0, _ => rfl
  | k + 1, n => by
    show W.int n :: rangeL ((n : Int) + 1) k = _
    rw [show (n : Int) + 1 = ((n + 1 : Nat) : Int) by omega, rangeL_r k (n + 1)]
    rfl
theorem less_r {lot : List Int} {g : Nat → W} : ∀ (ls : List (W × W)) (n : Nat), (∀ (i : Nat) (x : W × W), ls[i]? = some x → g (n + i) = ln x) →
    (((ls.zipIdx n).filter fun p => decide ((p.2 : Int) ∉ lot)).map (·.1)).map ln = ((List.range' n ls.length).filter fun i : Nat => decide ((i : Int) ∉ lot)).map g
  | [], _, _ => rfl
  | x :: ls, n, h => by
    have ih := less_r (lot := lot) (g := g) ls (n + 1) fun i y hy => by
      have := h (i + 1) y hy
      rw [← this]; congr 1; omega
    have e0 : g n = ln x := h 0 x rfl
    rw [List.zipIdx_cons, List.length_cons, List.range'_succ]
    by_cases hc : (n : Int) ∉ lot
    · have hd : decide (¬ ((n : Int) ∈ lot)) = true := decide_eq_true hc
      rw [List.filter_cons, if_pos hd, List.filter_cons, if_pos hd]
      simp only [List.map_cons]
      rw [ih, e0]
    · have hd : ¬ decide (¬ ((n : Int) ∈ lot)) = true := by rw [decide_eq_false hc]; exact Bool.false_ne_true
      rw [List.filter_cons, if_neg hd, List.filter_cons, if_neg hd]
      exact ih
theorem less_nil {α : Type} (ls : List α) : lessL [] ls = ls := by
  unfold lessL
  rw [List.filter_eq_self.mpr fun p _ => by simp]
  simp
theorem less_all {α : Type} {lot : List Int} : ∀ (ls : List α) (n : Nat), (∀ i ∈ lot, ((n + ls.length : Nat) : Int) ≤ i) → ((ls.zipIdx n).filter fun p => decide ((p.2 : Int) ∉ lot)).map (·.1) = ls
  | [], _, _ => rfl
  | x :: ls, n, h => by
    have hd : decide (¬ ((n : Int) ∈ lot)) = true := decide_eq_true fun hm => by have := h _ hm; rw [List.length_cons] at this; omega
    rw [List.zipIdx_cons, List.filter_cons, if_pos hd, List.map_cons, less_all ls (n + 1) fun i hi => by have := h i hi; rw [List.length_cons] at this; omega]
theorem less_none {α : Type} {lot : List Int} : ∀ (ls : List α) (n : Nat), (∀ i : Nat, i < ls.length → ((n + i : Nat) : Int) ∈ lot) → ((ls.zipIdx n).filter fun p => decide ((p.2 : Int) ∉ lot)).map (·.1) = []
  | [], _, _ => rfl
  | x :: ls, n, h => by
    have hd : ¬ decide (¬ ((n : Int) ∈ lot)) = true := by rw [decide_eq_false fun z => z (h 0 (by simp))]; exact Bool.false_ne_true
    rw [List.zipIdx_cons, List.filter_cons, if_neg hd]
    exact less_none ls (n + 1) fun i hi => by have := h (i + 1) (by simpa using hi); rw [show n + 1 + i = n + (i + 1) by omega]; exact this
theorem less_last {α : Type} {lot : List Int} (ls ms : List α) (h1 : ∀ i ∈ lot, (ls.length : Int) ≤ i) (h2 : ∀ i : Nat, i < ms.length → ((ls.length + i : Nat) : Int) ∈ lot) : lessL lot (ls ++ ms) = ls := by
  unfold lessL
  rw [List.zipIdx_append, List.filter_append, List.map_append, less_all ls 0 (by simpa using h1), less_none ms (0 + ls.length) (by simpa using h2), List.append_nil]
theorem sides_mem {t : W} : ∀ {ls : List (W × W)}, t ∈ sides ls → t ∈ ls.map (·.1) ++ ls.map (·.2)
  | l :: ls, h => by
    simp only [sides] at h
    rcases List.mem_cons.mp h with rfl | h
    · simp
    · rcases List.mem_cons.mp h with rfl | h
      · simp
      · have := sides_mem h
        rcases List.mem_append.mp this with q | q
        · exact List.mem_append_left _ (List.mem_cons_of_mem _ q)
        · exact List.mem_append_right _ (List.mem_cons_of_mem _ q)
theorem tl_ok {sg : Sg} {ls : List (W × W)} (h : TmL sg 3 ls) : Closed (tl ls) ∧ ∀ t ∈ sides ls, t ∈ tl ls := by
  obtain ⟨a, b⟩ := la_ok (sg := sg) (d := 3) (ts := ls.map (·.1) ++ ls.map (·.2)) fun t ht => by
    rcases List.mem_append.mp ht with h' | h'
    · obtain ⟨x, hx, rfl⟩ := List.mem_map.mp h'; exact (h x hx).1
    · obtain ⟨x, hx, rfl⟩ := List.mem_map.mp h'; exact (h x hx).2
  exact ⟨a, fun t ht => b t (sides_mem ht)⟩
theorem wi_tl {sg : Sg} {ls : List (W × W)} (h : TmL sg 3 ls) (hl : (tl ls).length ≤ 40) : (wi (sides ls)).length ≤ 60 := by
  obtain ⟨a, b⟩ := tl_ok h
  have := wi_len a b
  omega
theorem wi_tl1 {sg : Sg} (hs : SgOk sg) {ls : List (W × W)} {l : W × W} (h : TmL sg 3 ls) (hl : (tl ls).length ≤ 40) (h1 : Tm sg 3 l.1) (h2 : Tm sg 3 l.2) : (wi (sides (ls ++ [l]))).length ≤ 60 := by
  obtain ⟨a, b⟩ := tl_ok h
  have := wi_len (R := (tl ls ++ subs l.1) ++ subs l.2) ((a.app (subs_closed h1)).app (subs_closed h2)) (ts := sides (ls ++ [l])) fun t ht => by
    rw [sides_app] at ht
    rcases List.mem_append.mp ht with ht | ht
    · exact List.mem_append_left _ (List.mem_append_left _ (b t ht))
    · simp only [sides] at ht
      rcases List.mem_cons.mp ht with rfl | ht
      · exact List.mem_append_left _ (List.mem_append_right _ (subs_self h1))
      · rcases List.mem_cons.mp ht with rfl | ht
        · exact List.mem_append_right _ (subs_self h2)
        · cases ht
  have l1 := subs_len h1
  have l2 := subs_len h2
  have l3 := h1.sz hs
  have l4 := h2.sz hs
  rw [List.length_append, List.length_append] at this
  omega
theorem asc_pw : ∀ {xs : List Int}, xs.Pairwise (· < ·) → Asc xs
  | [], _, _, _, _, h, _ => by cases h
  | [_], _, 0, _, _, _, h => by cases h
  | [_], _, _ + 1, _, _, h, _ => by cases h
  | x :: y :: r, h, 0, a, b, h1, h2 => by
    cases h1; cases h2
    exact (List.pairwise_cons.mp h).1 _ List.mem_cons_self
  | x :: y :: r, h, i + 1, a, b, h1, h2 => asc_pw (List.pairwise_cons.mp h).2 i a b h1 h2
theorem tmL_app {sg : Sg} {d : Nat} {a b : List (W × W)} (h : TmL sg d a) (g : TmL sg d b) : TmL sg d (a ++ b) := fun l hl => by
  rcases List.mem_append.mp hl with q | q
  · exact h l q
  · exact g l q
theorem tmL_one {sg : Sg} {d : Nat} {l : W × W} (h1 : Tm sg d l.1) (h2 : Tm sg d l.2) : TmL sg d [l] := fun x hx => by
  obtain rfl := List.mem_singleton.mp hx
  exact ⟨h1, h2⟩
/-- what the laws of this kind lean on -/
structure Kit (Γ : Gam) : Prop where
  lh : LH Γ
  pool : Tells Γ "_law_pool" spPool
  draw : Tells Γ "_law_draw" spDraw
  term : ∀ e ≤ 10, Tells Γ "_law_term" (spLTerm e)
  lore : Tells Γ "_law_lore" spLLore
  made : Tells Γ "_law_made" spMade
  init : Tells Γ "Lore.__init__" spInit
  eq : Tells Γ "Lore.__eq__" spEq
/-- told from a level on -/
def At (G : Nat → Gam) (k : Nat) (f : Str) (sp : Sp) : Prop := ∀ n, k ≤ n → Tells (G n) f sp
theorem at_of {ds : List PD} {G : Nat → Gam} (S : Sys ds G) {f : Str} {d : PD} {sp : Sp} (k : Nat) (hd : look ds f = some d) (hk : ∀ n, k ≤ n → Keeps (G n) d.d sp) : At G (k + 1) f sp := fun n hn => by
  cases n with
  | zero => omega
  | succ m => exact S.tell hd (hk m (by omega))
theorem At.le {G : Nat → Gam} {k j : Nat} {f : Str} {sp : Sp} (h : At G k f sp) (l : k ≤ j) : At G j f sp := fun n hn => h n (Nat.le_trans l hn)
def lhB (ds : List PD) : Bool := (["Lore", "RawLore"] : List Str).all (fun C => (["signs", "lines", "kept_places", "kept_hall"] : List Str).all fun f => !(look ds (meth C f)).isSome) && (look ds "Lore.keep").isSome && (look ds "Lore.__eq__").isSome
theorem lh_of {ds : List PD} {G : Nat → Gam} (S : Sys ds G) (h : lhB ds = true) (n : Nat) : LH (G n) := by
  unfold lhB at h
  rw [Bool.and_eq_true, Bool.and_eq_true] at h
  refine ⟨fun C hC f hf => ?_, by rw [S.has]; exact h.1.2, by rw [S.has]; exact h.2⟩
  rw [S.has]
  have := List.all_eq_true.mp (List.all_eq_true.mp h.1.1 C hC) f hf
  simpa using this
/-! Things of any form: whether one is a term. -/
mutual
def plW (A : AH) : W → Prop
  | .tup xs => plL A xs
  | .str s => PyData.strOk s = true
  | .ref a => (∃ xs, A a = some (.lst xs)) ∨ ∃ kvs, A a = some (.dct kvs)
  | .fz _ => False
  | .exc _ _ => False
  | _ => True
def plL (A : AH) : List W → Prop
  | [] => True
  | x :: r => plW A x ∧ plL A r
end
mutual
def ndW : W → Nat
  | .tup xs => 1 + ndL xs
  | _ => 1
def ndL : List W → Nat
  | [] => 0
  | x :: r => ndW x + ndL r
end
mutual
def dpW : W → Nat
  | .tup xs => 1 + dpL xs
  | _ => 0
def dpL : List W → Nat
  | [] => 0
  | x :: r => max (dpW x) (dpL r)
end
mutual
def isT (sg : Sg) : W → Bool
  | .tup (.str s :: ps) => decide ((s, ps.length) ∈ sg) && isTs sg ps
  | _ => false
def isTs (sg : Sg) : List W → Bool
  | [] => true
  | p :: r => isT sg p && isTs sg r
end
theorem plL_iff {A : AH} : ∀ {xs : List W}, plL A xs ↔ ∀ x ∈ xs, plW A x
  | [] => by simp [plL]
  | x :: r => by simp [plL, plL_iff (xs := r)]
mutual
theorem plW_sub {A B : AH} (h : Sub A B) : ∀ {x : W}, plW A x → plW B x
  | .tup xs, g => by unfold plW at g ⊢; exact plL_sub h g
  | .str s, g => by unfold plW at g ⊢; exact g
  | .ref a, g => by
    unfold plW at g ⊢
    exact g.imp (fun ⟨xs, e⟩ => ⟨xs, h _ _ e⟩) fun ⟨xs, e⟩ => ⟨xs, h _ _ e⟩
  | .fz _, g => by unfold plW at g; exact g.elim
  | .exc _ _, g => by unfold plW at g; exact g.elim
  | .non, _ => by unfold plW; trivial
  | .bl _, _ => by unfold plW; trivial
  | .int _, _ => by unfold plW; trivial
theorem plL_sub {A B : AH} (h : Sub A B) : ∀ {xs : List W}, plL A xs → plL B xs
  | [], _ => by unfold plL; trivial
  | x :: r, g => by
    unfold plL at g ⊢
    exact ⟨plW_sub h g.1, plL_sub h g.2⟩
end
theorem ndL_app : ∀ xs ys : List W, ndL (xs ++ ys) = ndL xs + ndL ys
  | [], ys => by simp [ndL]
  | x :: xs, ys => by simp only [List.cons_append, ndL]; rw [ndL_app xs ys]; omega
theorem ndL_rev : ∀ xs : List W, ndL xs.reverse = ndL xs
  | [] => rfl
  | x :: xs => by rw [List.reverse_cons, ndL_app, ndL_rev xs]; simp only [ndL]; omega
theorem nd_pos (x : W) : 1 ≤ ndW x := by cases x <;> simp only [ndW] <;> omega
theorem ndL_len : ∀ xs : List W, xs.length ≤ ndL xs
  | [] => Nat.zero_le _
  | x :: xs => by
    have := nd_pos x
    have := ndL_len xs
    simp only [ndL, List.length_cons]; omega
theorem isTs_all (sg : Sg) : ∀ xs : List W, isTs sg xs = xs.all (isT sg)
  | [] => rfl
  | x :: xs => by unfold isTs; rw [List.all_cons, isTs_all sg xs]
theorem isTs_app (sg : Sg) (xs ys : List W) : isTs sg (xs ++ ys) = (isTs sg xs && isTs sg ys) := by rw [isTs_all, isTs_all, isTs_all, List.all_append]
theorem isTs_rev (sg : Sg) (xs : List W) : isTs sg xs.reverse = isTs sg xs := by rw [isTs_all, isTs_all, List.all_reverse]
mutual
theorem tm_of {sg : Sg} : ∀ {t : W}, isT sg t = true → Tm sg (dpW t) t
  | .tup (.str s :: ps), h => by
    unfold isT at h
    rw [Bool.and_eq_true] at h
    have e : dpW (.tup (.str s :: ps)) = dpL ps + 1 := by simp only [dpW, dpL]; omega
    rw [e]
    exact ⟨s, ps, rfl, of_decide_eq_true h.1, tms_of h.2⟩
  | .tup [], h => by unfold isT at h; cases h
  | .tup (.int _ :: _), h => by unfold isT at h; cases h
  | .tup (.bl _ :: _), h => by unfold isT at h; cases h
  | .tup (.non :: _), h => by unfold isT at h; cases h
  | .tup (.tup _ :: _), h => by unfold isT at h; cases h
  | .tup (.ref _ :: _), h => by unfold isT at h; cases h
  | .tup (.fz _ :: _), h => by unfold isT at h; cases h
  | .tup (.exc _ _ :: _), h => by unfold isT at h; cases h
  | .int _, h => by unfold isT at h; cases h
  | .bl _, h => by unfold isT at h; cases h
  | .non, h => by unfold isT at h; cases h
  | .str _, h => by unfold isT at h; cases h
  | .ref _, h => by unfold isT at h; cases h
  | .fz _, h => by unfold isT at h; cases h
  | .exc _ _, h => by unfold isT at h; cases h
theorem tms_of {sg : Sg} : ∀ {ps : List W}, isTs sg ps = true → ∀ p ∈ ps, Tm sg (dpL ps) p
  | [], _ => fun p hp => by cases hp
  | q :: r, h => fun p hp => by
    unfold isTs at h
    rw [Bool.and_eq_true] at h
    have h1 := tm_of h.1
    have h2 := tms_of h.2
    rcases List.mem_cons.mp hp with rfl | hp
    · exact h1.up (by simp only [dpL]; omega)
    · exact (h2 p hp).up (by simp only [dpL]; omega)
end
theorem Tm.isT {sg : Sg} : ∀ {d : Nat} {t : W}, Tm sg d t → isT sg t = true
  | 0, _, h => h.elim
  | d + 1, t, h => by
    obtain ⟨s, ps, rfl, h1, h2⟩ := h
    unfold N.R.isT
    rw [decide_eq_true h1, isTs_all, Bool.true_and]
    exact List.all_eq_true.mpr fun p hp => Tm.isT (h2 p hp)
theorem v_noT {A : AH} {x : W} {k : Bool → Prop} (g : plW A x) (n : ∀ xs, x ≠ .tup xs) (h : k false) : isiW x .tuple A k := by
  cases x with
  | tup xs => exact absurd rfl (n xs)
  | ref a =>
    unfold plW at g
    unfold isiW
    dsimp only
    rcases g with ⟨xs, e⟩ | ⟨xs, e⟩ <;> rw [e] <;> exact h
  | fz _ => unfold plW at g; exact g.elim
  | exc _ _ => unfold plW at g; exact g.elim
  | _ => exact h
theorem v_noS {A : AH} {x : W} {k : Bool → Prop} (g : plW A x) (n : ∀ s, x ≠ .str s) (h : k false) : isiW x .str A k := by
  cases x with
  | str s => exact absurd rfl (n s)
  | ref a =>
    unfold plW at g
    unfold isiW
    dsimp only
    rcases g with ⟨xs, e⟩ | ⟨xs, e⟩ <;> rw [e] <;> exact h
  | fz _ => unfold plW at g; exact g.elim
  | exc _ _ => unfold plW at g; exact g.elim
  | _ => exact h
theorem isT_no {sg : Sg} {x : W} (n : ∀ s ps, x ≠ .tup (.str s :: ps)) : isT sg x = false := by
  cases x with
  | tup xs =>
    cases xs with
    | nil => unfold isT; rfl
    | cons y ys =>
      cases y with
      | str s => exact absurd rfl (n s ys)
      | _ => unfold isT; rfl
  | _ => unfold isT; rfl
theorem getK_plE : ∀ {sg : Sg} {s : Str} {v : W}, getK (plD sg) (.str s) = some v → ∃ k : Nat, v = .int k ∧ (s, k) ∈ sg
  | [], s, v, h => by cases h
  | p :: sg, s, v, h => by
    unfold getK plD at h
    rw [List.map_cons, List.find?_cons] at h
    cases z : keyB (.str p.1) (.str s) with
    | true =>
      simp only [z] at h
      cases h
      have e := keyB_str.mp z
      exact ⟨p.2, rfl, by rw [← e]; exact List.mem_cons_self⟩
    | false =>
      simp only [z] at h
      obtain ⟨k, e, m⟩ := getK_plE (sg := sg) (s := s) (v := v) (by unfold getK plD; exact h)
      exact ⟨k, e, List.mem_cons_of_mem _ m⟩
theorem getK_plN {sg : Sg} {s : Str} (hn : (sg.map (·.1)).Nodup) (h : getK (plD sg) (.str s) = none) (k : Nat) : (s, k) ∉ sg := fun m => by
  rw [getK_pl hn m] at h; cases h
def spTermG : Sp := fun ws A Q _ => ∃ sg t a, ws = [.ref a, t] ∧ A a = some (.dct (plD sg)) ∧ (sg.map (·.1)).Nodup ∧ plW A t ∧ ndW t ≤ 100000 ∧ Q (.bl (isT sg t)) A
theorem k_is_termG (Γ : Gam) : Keeps Γ ⟨2, 4, b_is_term_of⟩ spTermG := by
  rintro ws A Q E ⟨sg, t, a, rfl, ha, hn, ht, hz, h⟩
  refine ⟨rfl, ?_⟩
  unfold b_is_term_of
  walk_at "wk"
  intro p n
  walk_at "wk"
  refine s_wh ⟨ndW t + 2, ?_⟩
  refine wh_ind (fun k σ A' => ∃ (st : List W) (w : Option W), σ = [some (.ref a), some t, some (.ref p), w] ∧ Sub A A' ∧ A' p = some (.lst st.reverse) ∧ plL A st ∧ isT sg t = isTs sg st ∧ ndL st ≤ ndW t ∧ ndL st < k) ?_ (fun _ _ ⟨_, _, _, _, _, _, _, _, h⟩ => absurd h (Nat.not_lt_zero _)) _ _ _ ⟨[t], none, rfl, sub_up sub_refl n, u_same, by unfold plL plL; exact ⟨ht, trivial⟩, by simp [isTs], by simp [ndL], by simp [ndL]⟩
  rintro k σ A' ih ⟨st, w, rfl, hA, hp, hpl, he, hf, hk⟩
  walk_at "wk"
  refine v_lenL hp ?_
  walk_at "wk"
  refine v_cond (fun hc => ?_) (fun hc => ?_)
  · cases st with
    | nil => simp at hc
    | cons x st =>
      unfold plL at hpl
      simp only [ndL] at hf hk
      unfold isTs at he
      have hA2 : Sub A (N.up A' p (.lst st.reverse)) := sub_up hA n
      have hx := plW_sub hA2 hpl.1
      have no : isT sg x = false → isT sg t = false := fun z => by rw [he, z]; rfl
      walk_at "wk"
      refine ⟨⟨_, _, rfl, hp⟩, ?_⟩
      walk_at "wk"
      refine v_popR hp ?_
      walk_at "wk"
      by_cases hx1 : ∃ xs, x = .tup xs
      · obtain ⟨xs, rfl⟩ := hx1
        walk_at "wk"
        cases xs with
        | nil =>
          refine b_dT rfl ?_
          walk_at "wk"
          rw [no (isT_no fun s ps e => by cases e)] at h
          exact ⟨A, hA2, h⟩
        | cons y ys =>
          refine b_dF (by simp; omega) ?_
          walk_at "wk"
          refine v_ixT at0 ?_
          unfold plW plL at hx
          by_cases hy : ∃ s, y = .str s
          · obtain ⟨s, rfl⟩ := hy
            walk_at "wk"
            refine v_ixT at0 ?_
            walk_at "wk"
            refine v_inD (u_ne (ne_of ha n) (hA _ _ ha)) rfl ?_
            cases hg : getK (plD sg) (.str s) with
            | none =>
              rw [Option.isSome_none]
              walk_at "wk"
              have z : isT sg (.tup (.str s :: ys)) = false := by
                unfold isT
                rw [decide_eq_false (getK_plN hn hg _)]; rfl
              rw [no z] at h
              exact ⟨A, hA2, h⟩
            | some v =>
              obtain ⟨k2, rfl, hm⟩ := getK_plE hg
              rw [Option.isSome_some]
              walk_at "wk"
              refine v_ixT at0 ?_
              walk_at "wk"
              refine v_ixD (.inl (u_ne (ne_of ha n) (hA _ _ ha))) rfl hg ?_
              walk_at "wk"
              refine v_cond (fun hl => ?_) fun hl => ?_
              · walk_at "wk"
                have z : isT sg (.tup (.str s :: ys)) = false := by
                  unfold isT
                  rw [decide_eq_false]
                  · rfl
                  · intro hm2
                    have e1 := getK_pl hn hm
                    rw [getK_pl hn hm2] at e1
                    cases e1
                    simp at hl
                rw [no z] at h
                exact ⟨A, hA2, h⟩
              · walk_at "wk"
                refine ⟨⟨_, _, rfl, u_same⟩, ?_⟩
                walk_at "wk"
                rw [cut1]
                have hl2 : ys.length = k2 := by
                  simp only [List.length_cons, ne_eq, Decidable.not_not] at hl
                  omega
                have hpl1 := hpl.1
                unfold plW plL at hpl1
                have g0 : plL A (ys.reverse ++ st) := plL_iff.mpr fun z hz => by
                  rcases List.mem_append.mp hz with hz | hz
                  · exact plL_iff.mp hpl1.2 z (List.mem_reverse.mp hz)
                  · exact plL_iff.mp hpl.2 z hz
                have g2 : ndL (ys.reverse ++ st) = ndL ys + ndL st := by rw [ndL_app, ndL_rev]
                have g3 := ndL_len (ys.reverse ++ st)
                have g4 : ndW (.tup (.str s :: ys)) = 2 + ndL ys := by simp only [ndW, ndL]; omega
                rw [g4] at hf hk
                refine v_extT u_same (by rw [List.length_reverse]; rw [List.length_append, List.length_reverse] at g3; unfold lim; omega) ?_
                walk_at "wk"
                refine dn_of (ih _ _ ⟨ys.reverse ++ st, _, rfl, sub_up hA2 n, by rw [u_same, List.reverse_append, List.reverse_reverse], g0, ?_, by omega, by omega⟩)
                rw [he, isTs_app, isTs_rev]
                unfold isT
                rw [decide_eq_true (by rw [hl2]; exact hm), Bool.true_and]
          · refine v_noS hx.1 (fun s e => hy ⟨s, e⟩) ?_
            walk_at "wk"
            rw [no (isT_no fun s ps e => hy ⟨s, by cases e; rfl⟩)] at h
            exact ⟨A, hA2, h⟩
      · refine v_noT hx (fun xs e => hx1 ⟨xs, e⟩) ?_
        walk_at "wk"
        rw [no (isT_no fun s ps e => hx1 ⟨_, e⟩)] at h
        exact ⟨A, hA2, h⟩
  · cases st with
    | cons x st => simp at hc
    | nil =>
      walk_at "wk"
      rw [he] at h
      exact ⟨A, hA, h⟩
/-! is_term, size, and what they raise. -/
def spThere : Sp := fun ws A Q _ => ∃ a C sg ls t, ws = [.ref a, t] ∧ Lor C A a sg ls ∧ Sgn sg ∧ plW A t ∧ ndW t ≤ 100000 ∧ Q (.bl (isT sg t)) A
theorem k_is_term_there (Γ : Gam) (L : LH Γ) (t1 : Tells Γ "is_term_of" spTermG) : Keeps Γ ⟨2, 2, b_is_term_there⟩ spThere := by
  rintro ws A Q E ⟨a, C, sg, ls, t, rfl, la, hs, ht, hz, h⟩
  refine ⟨rfl, ?_⟩
  unfold b_is_term_there
  walk_at "wk"
  refine r_places L la (by with_unfolding_all exact rfl) (fun q hq => ?_)
  walk_at "wk"
  exact t1 _ _ _ _ ⟨sg, t, q, rfl, hq, asc_nd hs.asc, ht, hz, dn_of h⟩
theorem k_is_term (Γ : Gam) (t1 : Tells Γ "is_term_there" spThere) : Keeps Γ ⟨2, 2, b_is_term⟩ spThere := by
  rintro ws A Q E ⟨a, C, sg, ls, t, rfl, la, hs, ht, hz, h⟩
  refine ⟨rfl, ?_⟩
  unfold b_is_term
  walk_at "wk"
  exact t1 _ _ _ _ ⟨a, C, sg, ls, t, rfl, la, hs, ht, hz, dn_of h⟩
def spChkT : Sp := fun ws A Q E => ∃ a C sg ls t, ws = [.ref a, t] ∧ Lor C A a sg ls ∧ Sgn sg ∧ plW A t ∧ ndW t ≤ 100000 ∧ (isT sg t = true → Q .non A) ∧ (isT sg t = false → E "NoTerm" [] A)
theorem k_check_term (Γ : Gam) (t1 : Tells Γ "is_term_there" spThere) : Keeps Γ ⟨2, 2, b_check_term⟩ spChkT := by
  rintro ws A Q E ⟨a, C, sg, ls, t, rfl, la, hs, ht, hz, h1, h2⟩
  refine ⟨rfl, ?_⟩
  unfold b_check_term
  walk_at "wk"
  refine t1 _ _ _ _ ⟨a, C, sg, ls, t, rfl, la, hs, ht, hz, ?_⟩
  cases e : isT sg t with
  | true =>
    walk_at "wk"
    exact dn_of (h1 e)
  | false =>
    walk_at "wk"
    exact dn_of (h2 e)
def spSizeR : Sp := fun ws A Q E => ∃ a C sg ls t, ws = [.ref a, t] ∧ Lor C A a sg ls ∧ Sgn sg ∧ plW A t ∧ ndW t ≤ 100000 ∧ dpW t ≤ 12 ∧ (isT sg t = true → Q (.int (szW t)) A) ∧ (isT sg t = false → E "NoTerm" [] A)
theorem k_size (Γ : Gam) (t1 : Tells Γ "check_term" spChkT) (t2 : Tells Γ "size_of" spSize) : Keeps Γ ⟨2, 2, b_size⟩ spSizeR := by
  rintro ws A Q E ⟨a, C, sg, ls, t, rfl, la, hs, ht, hz, hd, h1, h2⟩
  refine ⟨rfl, ?_⟩
  unfold b_size
  walk_at "wk"
  refine t1 _ _ _ _ ⟨a, C, sg, ls, t, rfl, la, hs, ht, hz, fun e => ?_, fun e => dn_of (h2 e)⟩
  walk_at "wk"
  exact t2 _ _ _ _ ⟨sg, dpW t, t, rfl, hs.ok', hd, tm_of e, dn_of (h1 e)⟩
def spFlag : Sp := fun ws A Q _ => ∃ a b, ws = [.bl a, .bl b] ∧ Q (.bl (a == b)) A
theorem v_isBB {A : AH} {b : Bool} {k : Bool → Prop} (h : k true) : isiW (.bl b) .bool A k := h
theorem eq_bl {A : AH} {a b : Bool} {k : Bool → Prop} (h : k (a == b)) : eqW (.bl a) (.bl b) A k := by
  refine ⟨.bool a, .bool b, .bl a, .bl b, ⟨rfl, Nat.zero_le _⟩, ⟨rfl, Nat.zero_le _⟩, ?_⟩
  have e : PyData.eqv (.bool a) (.bool b) = (a == b) := by cases a <;> cases b <;> rfl
  rw [e]; exact h
theorem k_lflag (Γ : Gam) : Keeps Γ ⟨2, 2, b__law_flag⟩ spFlag := by
  rintro ws A Q E ⟨a, b, rfl, h⟩
  refine ⟨rfl, ?_⟩
  unfold b__law_flag
  walk_at "wk"
  refine v_isBB ?_
  walk_at "wk"
  refine v_eq (eq_bl ?_)
  exact dn_of h
/-- what repr takes -/
def rpW (x : W) : Prop := (∃ i : Int, x = .int i ∧ i.natAbs < 2 ^ 1000) ∨ ∃ s : Str, x = .str s ∧ PyData.strOk s = true ∧ s.length ≤ 1000
def spIs : Sp := fun ws A Q _ => ∃ x d, ws = [x, x] ∧ DW A x d ∧ okD d ∧ d.showable = true ∧ d.shown.length ≤ lim ∧ PyData.strOk d.shown = true ∧ Q (.bl true) A
theorem k_lis (Γ : Gam) : Keeps Γ ⟨2, 2, b__law_is⟩ spIs := by
  rintro ws A Q E ⟨x, d, rfl, h1, h2, h3, h4, h5, h⟩
  refine ⟨rfl, ?_⟩
  unfold b__law_is
  walk_at "wk"
  refine ⟨d, h1, h2, h3, h4, ?_⟩
  walk_at "wk"
  refine ⟨d, h1, h2, h3, h4, ?_⟩
  refine v_eq (v_eqD (n := 0) (m := 0) (.str 0 h5) (.str 0 h5) (by omega) (by omega) (fun _ => ?_) fun z => absurd rfl z)
  exact dn_of h
/-- the thing nested 36 deep -/
def spDeep : Sp := fun ws A Q _ => ws = [] ∧ ∀ p xs A', Sub A A' → A p = none → A' p = some (.lst xs) → Q (.ref p) A'
theorem k_ldeep (Γ : Gam) : Keeps Γ ⟨0, 2, b__law_deep⟩ spDeep := by
  rintro ws A Q E ⟨rfl, h⟩
  refine ⟨rfl, ?_⟩
  unfold b__law_deep
  walk_at "wk"
  intro p n
  walk_at "wk"
  refine s_fr ?_
  walk_at "wk"
  refine ⟨by unfold okR; omega, ?_⟩
  refine fr_ind (fun xs σ A' => ∃ (p : Addr) (ys : List W) (w : Option W), σ = [some (.ref p), w] ∧ Sub A A' ∧ A p = none ∧ A' p = some (.lst ys)) ?_ ?_ _ _ _ ⟨p, _, none, rfl, sub_up sub_refl n, n, u_same⟩
  · rintro σ A' ⟨p, ys, w, rfl, hA, n, hp⟩
    refine ⟨trivial, ?_⟩
    walk_at "wk"
    exact dn_of (h p ys A' hA n hp)
  · rintro x r σ A' ih ⟨p, ys, w, rfl, hA, n, hp⟩
    refine ⟨trivial, ?_⟩
    walk_at "wk"
    intro q m
    walk_at "wk"
    have m' : A q = none := sub_none hA m
    exact dn_of (ih _ _ ⟨q, _, _, rfl, sub_up hA m', m', u_same⟩)
def spRight (d : Nat) : Sp := fun ws A Q _ => ∃ sg t, ws = [.tup (sg.map pr), t] ∧ Sgn sg ∧ plW A t ∧ dpW t ≤ d ∧ ndW t ≤ 100000 ∧ Q (.bl (isT sg t)) A
theorem dp_parts {y : W} {ys : List W} {d : Nat} (h : dpW (.tup (y :: ys)) ≤ d + 1) : ∀ x ∈ ys, dpW x ≤ d := by
  have key : ∀ (ys : List W) (d : Nat), dpL ys ≤ d → ∀ x ∈ ys, dpW x ≤ d := by
    intro ys
    induction ys with
    | nil => intro d _ x hx; cases hx
    | cons z zs ih =>
      intro d h x hx
      simp only [dpL] at h
      rcases List.mem_cons.mp hx with rfl | hx
      · omega
      · exact ih d (by omega) x hx
  simp only [dpW, dpL] at h
  exact key ys d (by omega)
theorem nd_parts {x : W} : ∀ {ys : List W}, x ∈ ys → ndW x ≤ ndL ys
  | y :: ys, h => by
    simp only [ndL]
    rcases List.mem_cons.mp h with rfl | h
    · omega
    · have := nd_parts h; omega
theorem k_lright (Γ : Gam) (d : Nat) (t1 : ∀ e, d = e + 1 → Tells Γ "_law_is_right" (spRight e)) : Keeps Γ ⟨2, 3, K03.b__law_is_right⟩ (spRight d) := by
  rintro ws A Q E ⟨sg, t, rfl, hs, ht, hd, hz, h⟩
  refine ⟨rfl, ?_⟩
  unfold K03.b__law_is_right
  walk_at "wk"
  by_cases ht1 : ∃ xs, t = .tup xs
  · obtain ⟨xs, rfl⟩ := ht1
    walk_at "wk"
    cases xs with
    | nil =>
      refine b_dT rfl ?_
      walk_at "wk"
      rw [isT_no fun s ps e => by cases e] at h
      exact dn_of h
    | cons y ys =>
      refine b_dF (by simp; omega) ?_
      walk_at "wk"
      refine v_ixT at0 ?_
      have hpl := ht
      unfold plW plL at hpl
      by_cases hy : ∃ s, y = .str s
      · obtain ⟨s, rfl⟩ := hy
        have hso : PyData.strOk s = true := by have := hpl.1; unfold plW at this; exact this
        walk_at "wk"
        refine v_ixT at0 ?_
        walk_at "wk"
        have eN : ((ys.length + 1 : Nat) : Int) - 1 = (ys.length : Nat) := by omega
        simp only [List.length_cons]
        rw [eN]
        have ok1 : okW 1 (.tup [.str s, .int ys.length]) := okW.tup fun z hz => by
          rcases List.mem_cons.mp hz with rfl | hz
          · exact .str _ hso
          · rcases List.mem_cons.mp hz with rfl | hz
            · exact .int _ _
            · cases hz
        have ok2 : ∀ z ∈ sg.map pr, okW 1 z := fun z hz => by
          obtain ⟨q, hq, rfl⟩ := List.mem_map.mp hz
          refine okW.tup fun y hy => ?_
          rcases List.mem_cons.mp hy with rfl | hy
          · exact .str _ (hs.ok' q hq).1
          · rcases List.mem_cons.mp hy with rfl | hy
            · exact .int _ _
            · cases hy
        have mem : W.tup [.str s, .int ys.length] ∈ sg.map pr ↔ (s, ys.length) ∈ sg := by
          constructor
          · intro hm
            obtain ⟨q, hq, e⟩ := List.mem_map.mp hm
            have e2 : W.tup [.str q.1, .int q.2] = .tup [.str s, .int ys.length] := e
            injection e2 with e2
            injection e2 with e3 e4
            injection e3 with e3
            injection e4 with e4
            injection e4 with e4
            have e5 : q.2 = ys.length := by omega
            rw [← e3, ← e5]
            exact hq
          · intro hm
            exact List.mem_map.mpr ⟨_, hm, rfl⟩
        refine v_inT (n := 1) ok1 ok2 (by omega) (fun hm => ?_) fun hm => ?_
        · walk_at "wk"
          refine e_lc ?_
          walk_at "wk"
          rw [cut1]
          have hln := ndL_len ys
          have hnd : ndW (.tup (.str s :: ys)) = 2 + ndL ys := by simp only [ndW, ndL]; omega
          rw [hnd] at hz
          refine ⟨by unfold lim; omega, ?_⟩
          cases d with
          | zero => simp only [dpW, dpL] at hd; omega
          | succ d =>
            have hdp := dp_parts hd
            refine lc_id (A := A) (fun x => setv (wipe [some (.tup (sg.map pr)), some (.tup (.str s :: ys)), none] [2]) 2 (some x)) (fun x => .bl (isT sg x)) trivial ys [] (fun _ _ => rfl) (fun x hx K hK => ?_) fun r nr => ?_
            · walk_at "wk"
              exact t1 d rfl _ _ _ _ ⟨sg, x, rfl, hs, plL_iff.mp hpl.2 x hx, hdp x hx, by have := nd_parts hx; omega, hK⟩
            · walk_at "wk"
              refine v_all (xs := ys) (f := isT sg) u_same ?_
              have e : isT sg (.tup (.str s :: ys)) = ys.all (isT sg) := by
                unfold isT
                rw [decide_eq_true (mem.mp hm), Bool.true_and, isTs_all]
              rw [e] at h
              exact ⟨A, sub_up sub_refl nr, h⟩
        · walk_at "wk"
          have e : isT sg (.tup (.str s :: ys)) = false := by
            unfold isT
            rw [decide_eq_false fun z => hm (mem.mpr z)]; rfl
          rw [e] at h
          exact dn_of h
      · refine v_noS hpl.1 (fun s e => hy ⟨s, e⟩) ?_
        walk_at "wk"
        rw [isT_no fun s ps e => hy ⟨s, by cases e; rfl⟩] at h
        exact dn_of h
  · refine v_noT ht (fun xs e => ht1 ⟨xs, e⟩) ?_
    walk_at "wk"
    rw [isT_no fun s ps e => ht1 ⟨_, e⟩] at h
    exact dn_of h
/-- the size told, or "none" -/
def spSizeTold : Sp := fun ws A Q _ => ∃ a C sg ls t, ws = [.ref a, t] ∧ Lor C A a sg ls ∧ Sgn sg ∧ plW A t ∧ ndW t ≤ 100000 ∧ dpW t ≤ 12 ∧ Q (if isT sg t = true then .int (szW t) else .str "none") A
theorem k_lsizetold (Γ : Gam) (t1 : Tells Γ "size" spSizeR) : Keeps Γ ⟨2, 3, K03.b__law_size_told⟩ spSizeTold := by
  rintro ws A Q E ⟨a, C, sg, ls, t, rfl, la, hs, ht, hz, hd, h⟩
  refine ⟨rfl, ?_⟩
  unfold K03.b__law_size_told
  walk_at "wk"
  refine t1 _ _ _ _ ⟨a, C, sg, ls, t, rfl, la, hs, ht, hz, hd, fun e => ?_, fun e => ?_⟩
  · rw [if_pos e] at h
    walk_at "wk"
    exact dn_of h
  · rw [if_neg (by rw [e]; exact Bool.false_ne_true)] at h
    show rdHs _ _ _ _ _ _ _
    unfold rdHs
    rw [if_pos (by decide +kernel)]
    walk_at "wk"
    exact dn_of h
/-! ### a term bent -/
mutual
theorem plW_ps {p c : Addr} {m : Nat} {A B : AH} (P : Pool p c m B) (g : PSub p c A B) : ∀ {x : W}, plW A x → plW B x
  | .tup xs, h => by unfold plW at h ⊢; exact plL_ps P g h
  | .str s, h => by unfold plW at h ⊢; exact h
  | .ref a, h => by
    unfold plW at h ⊢
    obtain ⟨_, sd, k, cs, z1, z2, _⟩ := P
    by_cases e1 : a = p
    · subst e1; exact .inl ⟨_, z1⟩
    by_cases e2 : a = c
    · subst e2; exact .inl ⟨_, z2⟩
    exact h.imp (fun ⟨xs, e⟩ => ⟨xs, g _ _ e1 e2 e⟩) fun ⟨xs, e⟩ => ⟨xs, g _ _ e1 e2 e⟩
  | .fz _, h => by unfold plW at h; exact h.elim
  | .exc _ _, h => by unfold plW at h; exact h.elim
  | .non, _ => by unfold plW; trivial
  | .bl _, _ => by unfold plW; trivial
  | .int _, _ => by unfold plW; trivial
theorem plL_ps {p c : Addr} {m : Nat} {A B : AH} (P : Pool p c m B) (g : PSub p c A B) : ∀ {xs : List W}, plL A xs → plL B xs
  | [], _ => by unfold plL; trivial
  | x :: r, h => by
    unfold plL at h ⊢
    exact ⟨plW_ps P g h.1, plL_ps P g h.2⟩
end
theorem tm_pl {sg : Sg} (hs : SgOk sg) {A : AH} : ∀ {d : Nat} {t : W}, Tm sg d t → plW A t
  | 0, _, h => h.elim
  | d + 1, t, h => by
    obtain ⟨s, ps, rfl, h1, h2⟩ := h
    unfold plW plL
    exact ⟨by unfold plW; exact (hs _ h1).1, plL_iff.mpr fun p hp => tm_pl hs (h2 p hp)⟩
theorem dpL_le {n : Nat} : ∀ {xs : List W}, (∀ x ∈ xs, dpW x ≤ n) → dpL xs ≤ n
  | [], _ => Nat.zero_le _
  | x :: r, h => by
    simp only [dpL]
    exact Nat.max_le.mpr ⟨h x List.mem_cons_self, dpL_le fun y hy => h y (List.mem_cons_of_mem _ hy)⟩
theorem tm_dp {sg : Sg} : ∀ {d : Nat} {t : W}, Tm sg d t → dpW t ≤ d
  | 0, _, h => h.elim
  | d + 1, t, h => by
    obtain ⟨s, ps, rfl, h1, h2⟩ := h
    have := dpL_le (n := d) fun p hp => tm_dp (h2 p hp)
    simp only [dpW, dpL]; omega
theorem ndL_two {sg : Sg} {d : Nat} (ih : ∀ {t : W}, Tm sg d t → ndW t = 2 * szW t) : ∀ {ps : List W}, (∀ p ∈ ps, Tm sg d p) → ndL ps = 2 * szL ps
  | [], _ => rfl
  | p :: r, h => by
    simp only [ndL, szL]
    have := ih (h p List.mem_cons_self)
    have := ndL_two ih fun x hx => h x (List.mem_cons_of_mem _ hx)
    omega
theorem tm_nd {sg : Sg} : ∀ {d : Nat} {t : W}, Tm sg d t → ndW t = 2 * szW t
  | 0, _, h => h.elim
  | d + 1, t, h => by
    obtain ⟨s, ps, rfl, h1, h2⟩ := h
    have := ndL_two (fun {t} ht => tm_nd ht) h2
    simp only [ndW, ndL, szW, szL]; omega
/-- what comes of a bent term -/
def Bt (A : AH) (d n : Nat) (x : W) : Prop := plW A x ∧ dpW x ≤ d + 1 ∧ ndW x ≤ n + 6
theorem Bt.ps {p c : Addr} {m : Nat} {A B : AH} (P : Pool p c m B) (g : PSub p c A B) {d n : Nat} {x : W} (h : Bt A d n x) : Bt B d n x := ⟨plW_ps P g h.1, h.2⟩
theorem cut_tk {α : Type} {xs : List α} {n : Nat} {j : Int} (e : j = n) : cut xs none (some j) = xs.take n := by rw [e]; exact cut_take
theorem cut_dr {α : Type} {xs : List α} {n : Nat} {j : Int} (e : j = n) : cut xs (some j) none = xs.drop n := by
  rw [e]
  unfold cut cl
  dsimp only
  rw [if_neg (by omega)]
  rw [Int.toNat_natCast]
  rcases Nat.le_total n xs.length with h | h
  · rw [Nat.min_eq_left h]
    exact List.take_of_length_le (by rw [List.length_drop]; omega)
  · rw [Nat.min_eq_right h, List.drop_length, List.drop_eq_nil_of_le h, List.take_nil]
theorem ndL_take (xs : List W) (n : Nat) : ndL (xs.take n) + ndL (xs.drop n) = ndL xs := by rw [← ndL_app, List.take_append_drop]
theorem dpL_mem {x : W} : ∀ {xs : List W}, x ∈ xs → dpW x ≤ dpL xs
  | y :: ys, h => by
    simp only [dpL]
    rcases List.mem_cons.mp h with rfl | h
    · omega
    · have := dpL_mem h; omega
theorem strOk_a : PyData.strOk "a" = true := by decide +kernel
theorem strOk_b : PyData.strOk "b" = true := by decide +kernel
theorem strOk_z : PyData.strOk "zz" = true := by decide +kernel
def spBent (d : Nat) : Sp := fun ws A Q _ => ∃ p c m sg t, ws = [.ref p, t] ∧ Sgn sg ∧ Tm sg d t ∧ Pool p c (m + 2 * d) A ∧ ∀ w A', Bt A' d (ndW t) w → PSub p c A A' → Pool p c m A' → Q w A'
set_option maxHeartbeats 1000000
def b_bent_rest : Ss := (.cons (.asg (.nm 2) (.lst (.cons .non (.cons (.str "a") (.cons (.int 0) (.cons (.bl true) (.cons (.tup .nil) (.cons (.lst (.cons (.str "a") .nil)) (.cons (.tup (.cons (.str "zz") .nil)) (.cons (.tup (.cons (.int 1) .nil)) (.cons .dct0 (.cons (.tup (.cons (.tup (.cons (.str "a") .nil)) .nil)) (.cons (.bin .add (.v 1) (.tup (.cons (.tup (.cons (.str "a") .nil)) .nil))) (.cons (.sl (.v 1) .no (.so (.neg (.int 1)))) (.cons (.bi .list (.cons (.v 1) .nil)) (.cons (.call "_law_deep" .nil) .nil)))))))))))))))) (.cons (.asg (.nm 2) (.bin .add (.v 2) (.lst (.cons (.tup (.cons (.str "a") .nil)) (.cons (.tup (.cons (.str "b") .nil)) (.cons (.tup (.cons (.ix (.v 1) (.int 0)) (.cons (.tup (.cons (.str "a") .nil)) .nil))) (.cons (.tup (.cons (.ix (.v 1) (.int 0)) (.cons (.tup (.cons (.str "a") .nil)) (.cons (.tup (.cons (.str "a") .nil)) .nil)))) (.cons (.bin .add (.tup (.cons .non .nil)) (.sl (.v 1) (.so (.int 1)) .no)) .nil)))))))) (.cons (.ret (.ix (.v 2) (.call "_law_draw" (.cons (.v 0) (.cons (.int 19) .nil))))) .nil)))
theorem k_bent_rest (Γ : Gam) (d : Nat) (hd : d ≤ 10) (t1 : Tells Γ "_law_draw" spDraw) (t3 : Tells Γ "_law_deep" spDeep) {D : Ends} {p c : Addr} {m : Nat} {sg : Sg} {s : Str} {ps : List W} {w2 w3 : Option W} {A0 A : AH} (hs : Sgn sg) (hm : (s, ps.length) ∈ sg) (hps : ∀ q ∈ ps, Tm sg d q)
    (S : PSub p c A0 A) (hP : Pool p c (m + 1) A) (h : ∀ w A', Bt A' (d + 1) (ndW (.tup (.str s :: ps))) w → PSub p c A0 A' → Pool p c m A' → D.rt w A') :
    rdSs Γ b_bent_rest D [some (.ref p), some (.tup (.str s :: ps)), w2, w3] A := by
  have hso := hs.ok'
  have hl2 : ps.length ≤ 2 := (hso _ hm).2.1
  have hso1 : PyData.strOk s = true := (hso _ hm).1
  have ht : Tm sg (d + 1) (.tup (.str s :: ps)) := ⟨s, ps, rfl, hm, hps⟩
  unfold b_bent_rest
  walk_at "wk"
  intro r1 n1
  have P1 := hP.new (o := .lst [.str "a"]) n1
  have m1 := S.gone hP n1
  walk_at "wk"
  refine r_dct fun r2 n2 => ?_
  have n2' := (u_none n2).2
  have m2 := S.gone hP n2'
  have P2 := P1.new (o := .dct []) n2
  walk_at "wk"
  refine v_addT (by simp only [List.length_cons, List.length_nil]; unfold lim; omega) ?_
  walk_at "wk"
  rw [cut_last]
  walk_at "wk"
  refine v_listT fun r3 n3 => ?_
  have n3' := (u_none (u_none n3).2).2
  have m3 := S.gone hP n3'
  have P3 := P2.new (o := .lst (.str s :: ps)) n3
  walk_at "wk"
  refine t3 _ _ _ _ ⟨rfl, fun r4 ys A4 g4 n4 e4 => ?_⟩
  have P4 := P3.sub g4
  have S4 : PSub p c A0 A4 := (((S.new m1).new m2).new m3).trans (.of g4)
  have q1 : A4 r1 = some (.lst [.str "a"]) := g4 _ _ (u_ne (ne_of (u_ne (ne_of u_same n2) u_same) n3) (u_ne (ne_of u_same n2) u_same))
  have q2 : A4 r2 = some (.dct []) := g4 _ _ (u_ne (ne_of u_same n3) u_same)
  have q3 : A4 r3 = some (.lst (.str s :: ps)) := g4 _ _ u_same
  walk_at "wk"
  intro r5 n5
  have P5 := P4.new (o := .lst [.non, .str "a", .int 0, .bl true, .tup [], .ref r1, .tup [.str "zz"], .tup [.int 1], .ref r2, .tup [.tup [.str "a"]], .tup (.str s :: ps ++ [.tup [.str "a"]]), .tup (.str s :: ps).dropLast, .ref r3, .ref r4]) n5
  have m5 := S4.gone P4 n5
  walk_at "wk"
  refine v_ixT at0 ?_
  walk_at "wk"
  refine v_ixT at0 ?_
  walk_at "wk"
  rw [cut1]
  refine v_addT (by simp only [List.length_cons, List.length_nil]; unfold lim; omega) ?_
  walk_at "wk"
  intro r6 n6
  have n6' := (u_none n6).2
  refine v_addL (u_ne (ne_of u_same n6) u_same) u_same (by simp only [List.length_cons, List.length_nil]; unfold lim; omega) fun r7 n7 => ?_
  have n7' := (u_none (u_none n7).2).2
  have m6 := S4.gone P4 n6'
  have m7 := S4.gone P4 n7'
  walk_at "wk"
  refine t1 _ _ _ _ ⟨p, c, 19, m, rfl, by decide, by decide, (P5.new n6).new n7, fun x A8 x0 x1 f8 P8 => ?_⟩
  obtain ⟨i, rfl⟩ := Int.eq_ofNat_of_zero_le x0
  have ne7 := (P5.new n6).ne n7
  have S8 : PSub p c A0 A8 := (((S4.new m5).new m6).new m7).trans f8.ps
  have K8 : ∀ r o, A4 r = some o → r ≠ p ∧ r ≠ c → A8 r = some o := fun r o e h12 => by
    have z5 : r ≠ r5 := ne_of e n5
    have z6 : r ≠ r6 := ne_of (u_ne z5 e) n6
    have z7 : r ≠ r7 := ne_of (u_ne z6 (u_ne z5 e)) n7
    exact (f8 r h12.1 h12.2).trans (u_ne z7 (u_ne z6 (u_ne z5 e)))
  have k1 := K8 _ _ q1 (hP.ne n1)
  have k2 := K8 _ _ q2 (P1.ne n2)
  have k3 := K8 _ _ q3 (P2.ne n3)
  have k4 := K8 _ _ e4 (P3.ne n4)
  have q7 := (f8 r7 ne7.1 ne7.2).trans u_same
  have dps : ∀ q ∈ ps, dpW q ≤ d := fun q hq => tm_dp (hps q hq)
  have dpp := dpL_le dps
  have pls : ∀ q ∈ ps, plW A8 q := fun q hq => tm_pl hso (hps q hq)
  have pla : plW A8 (.str "a") := by unfold plW; exact strOk_a
  have plb : plW A8 (.str "b") := by unfold plW; exact strOk_b
  have plz : plW A8 (.str "zz") := by unfold plW; exact strOk_z
  have plss : plW A8 (.str s) := by unfold plW; exact hso1
  have pl1 : ∀ {x : W}, plW A8 x → plW A8 (.tup [x]) := fun {x} h => by unfold plW plL plL; exact ⟨h, trivial⟩
  have B : ∀ x ∈ ([.non, .str "a", .int 0, .bl true, .tup [], .ref r1, .tup [.str "zz"], .tup [.int 1], .ref r2, .tup [.tup [.str "a"]], .tup (.str s :: ps ++ [.tup [.str "a"]]), .tup (.str s :: ps).dropLast, .ref r3, .ref r4] ++ [.tup [.str "a"], .tup [.str "b"], .tup [.str s, .tup [.str "a"]], .tup [.str s, .tup [.str "a"], .tup [.str "a"]], .tup ([.non] ++ ps)] : List W), Bt A8 (d + 1) (ndW (.tup (.str s :: ps))) x := by
    have nd0 : ndW (.tup (.str s :: ps)) = 2 + ndL ps := by simp only [ndW, ndL]; omega
    rw [nd0]
    simp only [List.cons_append, List.nil_append]
    refine List.forall_mem_cons.mpr ⟨⟨by unfold plW; trivial, by simp only [dpW]; omega, by simp only [ndW]; omega⟩, ?_⟩
    refine List.forall_mem_cons.mpr ⟨⟨pla, by simp only [dpW]; omega, by simp only [ndW]; omega⟩, ?_⟩
    refine List.forall_mem_cons.mpr ⟨⟨by unfold plW; trivial, by simp only [dpW]; omega, by simp only [ndW]; omega⟩, ?_⟩
    refine List.forall_mem_cons.mpr ⟨⟨by unfold plW; trivial, by simp only [dpW]; omega, by simp only [ndW]; omega⟩, ?_⟩
    refine List.forall_mem_cons.mpr ⟨⟨by unfold plW plL; trivial, by simp only [dpW, dpL]; omega, by simp only [ndW, ndL]; omega⟩, ?_⟩
    refine List.forall_mem_cons.mpr ⟨⟨by unfold plW; exact .inl ⟨_, k1⟩, by simp only [dpW]; omega, by simp only [ndW]; omega⟩, ?_⟩
    refine List.forall_mem_cons.mpr ⟨⟨pl1 plz, by simp only [dpW, dpL]; omega, by simp only [ndW, ndL]; omega⟩, ?_⟩
    refine List.forall_mem_cons.mpr ⟨⟨pl1 (by unfold plW; trivial), by simp only [dpW, dpL]; omega, by simp only [ndW, ndL]; omega⟩, ?_⟩
    refine List.forall_mem_cons.mpr ⟨⟨by unfold plW; exact .inr ⟨_, k2⟩, by simp only [dpW]; omega, by simp only [ndW]; omega⟩, ?_⟩
    refine List.forall_mem_cons.mpr ⟨⟨pl1 (pl1 pla), by simp only [dpW, dpL]; omega, by simp only [ndW, ndL]; omega⟩, ?_⟩
    refine List.forall_mem_cons.mpr ⟨⟨?_, ?_, ?_⟩, ?_⟩
    · unfold plW
      refine plL_iff.mpr fun x hx => ?_
      rcases List.mem_cons.mp hx with rfl | hx
      · exact plss
      · rcases List.mem_append.mp hx with hx | hx
        · exact pls x hx
        · rw [List.mem_singleton.mp hx]; exact pl1 pla
    · have : dpL (.str s :: (ps ++ [.tup [.str "a"]])) ≤ d + 1 := dpL_le fun x hx => by
        rcases List.mem_cons.mp hx with rfl | hx
        · simp only [dpW]; omega
        · rcases List.mem_append.mp hx with hx | hx
          · have := dps x hx; omega
          · rw [List.mem_singleton.mp hx]; simp only [dpW, dpL]; omega
      simp only [dpW] at this ⊢; omega
    · simp only [ndW, ndL, ndL_app]; omega
    refine List.forall_mem_cons.mpr ⟨⟨?_, ?_, ?_⟩, ?_⟩
    · unfold plW
      refine plL_iff.mpr fun x hx => ?_
      rcases List.mem_cons.mp (List.dropLast_subset _ hx) with rfl | hx
      · exact plss
      · exact pls x hx
    · have : dpL (.str s :: ps).dropLast ≤ d + 1 := dpL_le fun x hx => by
        rcases List.mem_cons.mp (List.dropLast_subset _ hx) with rfl | hx
        · simp only [dpW]; omega
        · have := dps x hx; omega
      simp only [dpW] at this ⊢; omega
    · have := ndL_take (.str s :: ps) ((W.str s :: ps).length - 1)
      rw [List.dropLast_eq_take]
      simp only [ndW, ndL] at this ⊢; omega
    refine List.forall_mem_cons.mpr ⟨⟨by unfold plW; exact .inl ⟨_, k3⟩, by simp only [dpW]; omega, by simp only [ndW]; omega⟩, ?_⟩
    refine List.forall_mem_cons.mpr ⟨⟨by unfold plW; exact .inl ⟨_, k4⟩, by simp only [dpW]; omega, by simp only [ndW]; omega⟩, ?_⟩
    refine List.forall_mem_cons.mpr ⟨⟨pl1 pla, by simp only [dpW, dpL]; omega, by simp only [ndW, ndL]; omega⟩, ?_⟩
    refine List.forall_mem_cons.mpr ⟨⟨pl1 plb, by simp only [dpW, dpL]; omega, by simp only [ndW, ndL]; omega⟩, ?_⟩
    refine List.forall_mem_cons.mpr ⟨⟨by unfold plW plL plL plL; exact ⟨plss, pl1 pla, trivial⟩, by simp only [dpW, dpL]; omega, by simp only [ndW, ndL]; omega⟩, ?_⟩
    refine List.forall_mem_cons.mpr ⟨⟨by unfold plW plL plL plL plL; exact ⟨plss, pl1 pla, pl1 pla, trivial⟩, by simp only [dpW, dpL]; omega, by simp only [ndW, ndL]; omega⟩, ?_⟩
    refine List.forall_mem_cons.mpr ⟨⟨by unfold plW plL; exact ⟨by unfold plW; trivial, plL_iff.mpr pls⟩, by simp only [dpW, dpL]; omega, by simp only [ndW, ndL]; omega⟩, fun x hx => by cases hx⟩
  have hi : i < 19 := by omega
  have hi2 : i < ([.non, .str "a", .int 0, .bl true, .tup [], .ref r1, .tup [.str "zz"], .tup [.int 1], .ref r2, .tup [.tup [.str "a"]], .tup (.str s :: ps ++ [.tup [.str "a"]]), .tup (.str s :: ps).dropLast, .ref r3, .ref r4] ++ [.tup [.str "a"], .tup [.str "b"], .tup [.str s, .tup [.str "a"]], .tup [.str s, .tup [.str "a"], .tup [.str "a"]], .tup ([.non] ++ ps)] : List W).length := by
    simp only [List.length_append, List.length_cons, List.length_nil]; omega
  refine v_ixL q7 (at_nat rfl (List.getElem?_eq_getElem hi2)) ?_
  exact h _ _ (B _ (List.getElem_mem hi2)) S8 P8
theorem k_lbent (Γ : Gam) (d : Nat) (hd : d ≤ 10) (t1 : Tells Γ "_law_draw" spDraw) (t2 : ∀ e, d = e + 1 → Tells Γ "_law_bent" (spBent e)) (t3 : Tells Γ "_law_deep" spDeep) : Keeps Γ ⟨2, 4, K03.b__law_bent⟩ (spBent d) := by
  rintro ws A Q E ⟨p, c, m, sg, t, rfl, hs, ht, hP, h⟩
  refine ⟨rfl, ?_⟩
  have hso := hs.ok'
  cases d with
  | zero => exact ht.elim
  | succ d =>
  obtain ⟨s, ps, rfl, hm, hps⟩ := ht
  have hl2 : ps.length ≤ 2 := (hso _ hm).2.1
  have hso1 : PyData.strOk s = true := (hso _ hm).1
  have rest : ∀ {A1 : AH} {w2 w3 : Option W}, PSub p c A A1 → Pool p c (m + 1) A1 → rdSs Γ b_bent_rest { nx := fun x A' => dn A' (Q W.non), rt := fun w A' => dn A' (Q w), ex := fun C vs x A' => dn A' (E C vs) } [some (.ref p), some (.tup (.str s :: ps)), w2, w3] A1 := fun S P =>
    k_bent_rest Γ d (by omega) t1 t3 hs hm hps S P fun w A' h1 h2 h3 => dn_of (h w A' h1 h2 h3)
  unfold K03.b__law_bent
  walk_at "wk"
  cases ps with
  | nil =>
    refine b_dF (by simp) ?_
    walk_at "wk"
    exact rest PSub.refl (hP.le (by omega))
  | cons q0 qs =>
    generalize hps0 : q0 :: qs = ps at *
    have hpos : 1 ≤ ps.length := by rw [← hps0]; simp
    refine b_dT (by simp only [List.length_cons]; omega) ?_
    walk_at "wk"
    refine t1 _ _ _ _ ⟨p, c, 3, m + 2 * d + 1, rfl, by decide, by decide, hP.le (by omega), fun x A1 x0 x1 f1 P1 => ?_⟩
    have S1 : PSub p c A A1 := f1.ps
    walk_at "wk"
    refine v_cond (fun hx => ?_) fun hx => ?_
    · walk_at "wk"
      simp only [List.length_cons]
      have eN : ((ps.length + 1 : Nat) : Int) - 1 = (ps.length : Nat) := by omega
      rw [eN]
      refine t1 _ _ _ _ ⟨p, c, ps.length, m + 2 * d, rfl, by omega, by omega, P1, fun y A2 y0 y1 f2 P2 => ?_⟩
      obtain ⟨i, rfl⟩ := Int.eq_ofNat_of_zero_le y0
      have S2 := S1.trans f2.ps
      have hi : i < ps.length := by omega
      walk_at "wk"
      rw [cut_tk (n := i + 1) (by omega)]
      refine v_ixT (at_nat (i := i + 1) (by omega) (by rw [List.getElem?_cons_succ, List.getElem?_eq_getElem hi])) ?_
      have hpi := hps _ (List.getElem_mem hi)
      walk_at "wk"
      refine t2 d rfl _ _ _ _ ⟨p, c, m, sg, _, rfl, hs, hpi, P2, fun w A3 hw S3 P3 => ?_⟩
      have S4 := S2.trans S3
      walk_at "wk"
      refine v_addT (by simp only [List.length_take, List.length_cons, List.length_nil]; unfold lim; omega) ?_
      walk_at "wk"
      rw [cut_dr (n := i + 2) (by omega)]
      refine v_addT (by simp only [List.length_append, List.length_take, List.length_drop, List.length_cons, List.length_nil]; unfold lim; omega) ?_
      refine dn_of (h _ A3 ?_ S4 P3)
      have pls : ∀ q ∈ ps, plW A3 q := fun q hq => tm_pl hso (hps q hq)
      have dps : ∀ q ∈ ps, dpW q ≤ d := fun q hq => tm_dp (hps q hq)
      rw [List.take_succ_cons, List.drop_succ_cons]
      refine ⟨?_, ?_, ?_⟩
      · unfold plW
        refine plL_iff.mpr fun x hx => ?_
        rcases List.mem_append.mp hx with hx | hx
        · rcases List.mem_append.mp hx with hx | hx
          · rcases List.mem_cons.mp hx with rfl | hx
            · unfold plW; exact hso1
            · exact pls x (List.mem_of_mem_take hx)
          · rw [List.mem_singleton.mp hx]; exact hw.1
        · exact pls x (List.mem_of_mem_drop hx)
      · have : dpL (W.str s :: ps.take i ++ [w] ++ ps.drop (i + 1)) ≤ d + 1 := dpL_le fun x hx => by
          rcases List.mem_append.mp hx with hx | hx
          · rcases List.mem_append.mp hx with hx | hx
            · rcases List.mem_cons.mp hx with rfl | hx
              · simp only [dpW]; omega
              · have := dps x (List.mem_of_mem_take hx); omega
            · rw [List.mem_singleton.mp hx]; exact hw.2.1
          · have := dps x (List.mem_of_mem_drop hx); omega
        simp only [dpW] at this ⊢; omega
      · have e1 := ndL_take ps i
        rw [List.drop_eq_getElem_cons hi] at e1
        have e2 := hw.2.2
        simp only [ndW, ndL, ndL_app, List.cons_append] at e1 e2 ⊢
        omega
    · walk_at "wk"
      exact rest S1 (P1.le (by omega))
/-! ### the law -/
theorem lor_ps {C : Str} {A B : AH} {s p c : Addr} {m : Nat} {sg : Sg} {ls : List (W × W)} (h : Lor C A s sg ls) (P : Pool p c m A) (g : PSub p c A B) : Lor C B s sg ls := by
  obtain ⟨h1, q, r, h2, h3⟩ := h
  obtain ⟨_, sd, k, cs, z1, z2, _⟩ := P
  have ne : ∀ {x y : Addr} {o : O} {xs : List W}, A x = some o → A y = some (.lst xs) → (∀ ys, o ≠ .lst ys) → x ≠ y := fun e1 e2 e3 e => by
    rw [e, e2] at e1
    cases e1
    exact e3 _ rfl
  exact ⟨h1, q, r, g _ _ (ne h2 z1 fun _ z => by cases z) (ne h2 z2 fun _ z => by cases z) h2, g _ _ (ne h3 z1 fun _ z => by cases z) (ne h3 z2 fun _ z => by cases z) h3⟩
theorem Sgn.l {sg : Sg} (h : Sgn sg) : SgL sg := by
  refine ⟨fun q hq c hc => ?_, fun s k j h1 h2 => ?_⟩
  · obtain ⟨h1, _⟩ := h.ok q hq
    unfold signB at h1
    rw [Bool.and_eq_true, Bool.and_eq_true] at h1
    have z := of_decide_eq_true (List.all_eq_true.mp h1.2 c hc)
    have b : ∀ c ∈ abc.cps.toList, lt1 c = true := by decide +kernel
    exact b c z
  · have e1 := getK_pl (asc_nd h.asc) h1
    rw [getK_pl (asc_nd h.asc) h2] at e1
    cases e1; rfl
theorem shown_small : ∀ n ∈ List.range 300, (PyData.int (n : Nat)).showable = true ∧ (PyData.int (n : Nat)).shown.length ≤ lim ∧ PyData.strOk (PyData.int (n : Nat)).shown = true := by decide +kernel
theorem shown_none : (PyData.str "none").showable = true ∧ (PyData.str "none").shown.length ≤ lim ∧ PyData.strOk (PyData.str "none").shown = true := by decide +kernel
def spLaw : Sp := fun ws A Q _ => ∃ ns : List Int, ws = [.fz (ns.map .int)] ∧ ns.length ≤ 63 ∧ ∀ A', Q (.bl true) A'
theorem told_eq {sg : Sg} (hs : Sgn sg) {ls : List (W × W)} (h : TmL sg 3 ls) : asc ((wi (sides ls)).map (·.2)) = asc (tl ls) := by
  unfold tl
  refine asc_wi hs.ok' hs.l (d := 3) (fun t ht => ?_) fun t => ⟨sides_mem, fun hm => ?_⟩
  · rcases List.mem_append.mp (sides_mem ht) with h' | h'
    · obtain ⟨x, hx, rfl⟩ := List.mem_map.mp h'; exact (h x hx).1
    · obtain ⟨x, hx, rfl⟩ := List.mem_map.mp h'; exact (h x hx).2
  · have key : ∀ {ls : List (W × W)}, t ∈ ls.map (·.1) ++ ls.map (·.2) → t ∈ sides ls := by
      intro ls
      induction ls with
      | nil => intro h; cases h
      | cons l ls ih =>
        intro h
        simp only [sides]
        rcases List.mem_append.mp h with h | h
        · rcases List.mem_cons.mp h with rfl | h
          · exact List.mem_cons_self
          · exact List.mem_cons_of_mem _ (List.mem_cons_of_mem _ (ih (List.mem_append_left _ h)))
        · rcases List.mem_cons.mp h with rfl | h
          · exact List.mem_cons_of_mem _ List.mem_cons_self
          · exact List.mem_cons_of_mem _ (List.mem_cons_of_mem _ (ih (List.mem_append_right _ h)))
    exact key hm
set_option maxHeartbeats 2000000
theorem k_law03 (Γ : Gam) (K : Kit Γ) (tb : ∀ e ≤ 5, Tells Γ "_law_bent" (spBent e)) (t2 : Tells Γ "_law_is_right" (spRight 6)) (t3 : Tells Γ "_law_size" (spSizeD 12)) (t4 : Tells Γ "is_term" spThere) (t5 : Tells Γ "_law_flag" spFlag) (t6 : Tells Γ "_law_size_told" spSizeTold) (t7 : Tells Γ "_law_is" spIs)
    (t8 : Tells Γ "told_terms" spTold) (t9 : Tells Γ "_law_told" spLTold) : Keeps Γ ⟨1, 9, K03.b_law⟩ spLaw := by
  rintro ws A Q E ⟨ns, rfl, hn, h⟩
  refine ⟨rfl, ?_⟩
  have hL : crL 2 = 32 := by decide
  have hT : ∀ e, e ≤ 4 → crT (e + 1) ≤ 62 := fun e he => Nat.le_trans (crT_mono (by omega : e + 1 ≤ 5)) (by decide)
  unfold K03.b_law
  walk_at "wk"
  refine K.pool _ _ _ _ ⟨ns, rfl, hn, fun p c A0 np nc f0 PP => ?_⟩
  have P0 : Pool p c (3 * 534) A0 := PP.le (Nat.le_trans (by decide : 3 * 534 ≤ 2 ^ 11) (Nat.pow_le_pow_right (by decide) (by decide)))
  clear PP
  walk_at "wk"
  refine s_fr ?_
  walk_at "wk"
  refine ⟨by unfold okR; omega, ?_⟩
  refine fr_ind (fun xs σ A' => ∃ (k : Nat) (w2 w3 w4 w5 w6 w7 w8 : Option W), xs.length = k ∧ σ = [some (.fz (ns.map .int)), some (.ref p), w2, w3, w4, w5, w6, w7, w8] ∧ Pool p c (k * 534) A') ?_ ?_ _ _ _
    ⟨3, none, none, none, none, none, none, none, rfl, rfl, P0⟩
  · rintro σ A' ⟨k, w2, w3, w4, w5, w6, w7, w8, hk, rfl, P⟩
    refine ⟨trivial, ?_⟩
    walk_at "wk"
    exact dn_of (h _)
  · rintro x xs σ A' ih ⟨k, w2, w3, w4, w5, w6, w7, w8, hk, rfl, P⟩
    cases k with
    | zero => simp at hk
    | succ k =>
      have hk' : xs.length = k := by simpa using hk
      refine ⟨trivial, ?_⟩
      walk_at "wk"
      refine K.lore _ _ _ _ ⟨p, c, k * 534 + 370, 5, 2, rfl, by omega, by omega, P.le (by rw [hL]; omega), fun sg ls A1 hs ht hl hw S1 P1 => ?_⟩
      have ok : Lok sg ls := ⟨hs, ht⟩
      have hso := hs.ok'
      walk_at "wk"
      refine K.made _ _ _ _ ⟨sg, ls, rfl, ok, by omega, wi_tl ht hw, fun a A2 g2 n2 L2 => ?_⟩
      have P2 := P1.sub g2
      walk_at "wk"
      refine s_fr ?_
      walk_at "wk"
      refine ⟨by unfold okR; omega, ?_⟩
      refine fr_ind (fun xs σ A' => ∃ (j : Nat) (w5 w6 w7 w8 : Option W), xs.length = j ∧ σ = [some (.fz (ns.map .int)), some (.ref p), some x, some (.tup [.tup (sg.map pr), .tup (ls.map ln)]), some (.ref a), w5, w6, w7, w8] ∧ Lor "Lore" A' a sg ls ∧ Pool p c (k * 534 + j * 74) A') ?_ ?_ _ _ _
        ⟨5, _, _, _, _, rfl, rfl, L2, P2⟩
      · rintro σ A3 ⟨j, w5, w6, w7, w8, hj, rfl, L3, P3⟩
        refine ⟨trivial, ?_⟩
        have tml : ∀ t ∈ tl ls, Tm sg 3 t := la_tm fun t h => by
          rcases List.mem_append.mp h with h' | h'
          · obtain ⟨x, hx, rfl⟩ := List.mem_map.mp h'; exact (ht x hx).1
          · obtain ⟨x, hx, rfl⟩ := List.mem_map.mp h'; exact (ht x hx).2
        have okt : okW 4 (.tup (asc (tl ls))) := okW.tup fun y hy => (tml y (asc_mem.mp hy)).ok hso
        walk_at "wk"
        refine t8 _ _ _ _ ⟨a, "Lore", sg, ls, rfl, L3, ok, by omega, ?_⟩
        rw [told_eq hs ht]
        walk_at "wk"
        refine v_ixT (v := .tup (ls.map ln)) rfl ?_
        walk_at "wk"
        refine t9 _ _ _ _ ⟨sg, ls, rfl, hso, ht, by omega, fun r A4 g4 n4 e4 => ?_⟩
        walk_at "wk"
        refine v_tupleL (xs := asc (tl ls)) e4 ?_
        refine v_ne (v_eqD okt okt (by omega) (by omega) (fun _ => ?_) fun z => absurd rfl z)
        walk_at "wk"
        refine t8 _ _ _ _ ⟨a, "Lore", sg, ls, rfl, L3.sub g4, ok, by omega, ?_⟩
        walk_at "wk"
        exact dn_of (ih _ _ ⟨k, _, _, _, _, _, _, _, hk', rfl, (P3.sub g4).le (by omega)⟩)
      · rintro y ys σ A3 ih2 ⟨j, w5, w6, w7, w8, hj, rfl, L3, P3⟩
        cases j with
        | zero => simp at hj
        | succ j =>
          have hj' : ys.length = j := by simpa using hj
          refine ⟨trivial, ?_⟩
          have rest : ∀ {A4 : AH} {w : W} {w5 w7 w8 : Option W}, plW A4 w → dpW w ≤ 6 → ndW w ≤ 100 → Lor "Lore" A4 a sg ls → Pool p c (k * 534 + j * 74) A4 → _ := fun {A4 w w5 w7 w8} g1 g2 g3 g4 g5 =>
            ih2 [some (.fz (ns.map .int)), some (.ref p), some x, some (.tup [.tup (sg.map pr), .tup (ls.map ln)]), some (.ref a), w5, some w, w7, w8] A4 ⟨j, _, _, _, _, hj', rfl, g4, g5⟩
          walk_at "wk"
          refine v_ixT at0 ?_
          walk_at "wk"
          refine K.draw _ _ _ _ ⟨p, c, 5, k * 534 + j * 74 + 73, rfl, by decide, by decide, P3.le (by omega), fun z A4 z0 z1 f4 P4 => ?_⟩
          obtain ⟨e, rfl⟩ := Int.eq_ofNat_of_zero_le z0
          have he : e ≤ 4 := by omega
          have hTe := hT e he
          have L4 := lor_ps L3 P3 f4.ps
          walk_at "wk"
          refine K.term e (by omega) _ _ _ _ ⟨p, c, k * 534 + j * 74 + 11, sg, rfl, hs, P4.le (by omega), fun t A5 ht5 S5 P5 => ?_⟩
          have L5 := lor_ps L4 P4 S5
          have hsz := ht5.sz hso
          have hsz2 : 2 ^ (e + 1) ≤ 2 ^ 5 := Nat.pow_le_pow_right (by decide) (by omega)
          have hnd := tm_nd ht5
          have hdp := tm_dp ht5
          walk_at "wk"
          refine K.draw _ _ _ _ ⟨p, c, 3, k * 534 + j * 74 + 10, rfl, by decide, by decide, P5, fun z2 A6 z20 z21 f6 P6 => ?_⟩
          have L6 := lor_ps L5 P5 f6.ps
          walk_at "wk"
          refine v_cond (fun hx => ?_) fun hx => ?_
          · walk_at "wk"
            refine tb (e + 1) (by omega) _ _ _ _ ⟨p, c, k * 534 + j * 74, sg, t, rfl, hs, ht5, P6.le (by omega), fun w A7 hw S7 P7 => ?_⟩
            have L7 := lor_ps L6 P6 S7
            have hpl := hw.1
            have hd6 : dpW w ≤ 6 := by have := hw.2.1; omega
            have hn100 : ndW w ≤ 100 := by have := hw.2.2; omega
            walk_at "wk"
            refine v_ixT at0 ?_
            walk_at "wk"
            refine t2 _ _ _ _ ⟨sg, w, rfl, hs, hpl, hd6, by omega, ?_⟩
            cases hT1 : isT sg w with
            | true =>
              have htm := tm_of hT1
              have hsz9 := htm.sz hso
              have hsz8 : 2 ^ dpW w ≤ 2 ^ 6 := Nat.pow_le_pow_right (by decide) hd6
              walk_at "wk"
              refine t3 _ _ _ _ ⟨sg, w, rfl, hso, htm.up (by omega), ?_⟩
              walk_at "wk"
              refine t4 _ _ _ _ ⟨a, "Lore", sg, ls, w, rfl, L7, hs, hpl, by omega, ?_⟩
              rw [hT1]
              walk_at "wk"
              refine t5 _ _ _ _ ⟨true, true, rfl, ?_⟩
              rw [beq_self_eq_true]
              walk_at "wk"
              refine t6 _ _ _ _ ⟨a, "Lore", sg, ls, w, rfl, L7, hs, hpl, by omega, by omega, ?_⟩
              rw [if_pos hT1]
              walk_at "wk"
              obtain ⟨s1, s2, s3⟩ := shown_small (szW w) (List.mem_range.mpr (by omega))
              refine t7 _ _ _ _ ⟨_, .int (szW w), rfl, .int _, ⟨rfl, Nat.zero_le _⟩, s1, s2, s3, ?_⟩
              walk_at "wk"
              exact dn_of (rest hpl hd6 hn100 L7 P7)
            | false =>
              walk_at "wk"
              refine t4 _ _ _ _ ⟨a, "Lore", sg, ls, w, rfl, L7, hs, hpl, by omega, ?_⟩
              rw [hT1]
              walk_at "wk"
              refine t5 _ _ _ _ ⟨false, false, rfl, ?_⟩
              rw [beq_self_eq_true]
              walk_at "wk"
              refine t6 _ _ _ _ ⟨a, "Lore", sg, ls, w, rfl, L7, hs, hpl, by omega, by omega, ?_⟩
              rw [if_neg (by rw [hT1]; exact Bool.false_ne_true)]
              walk_at "wk"
              obtain ⟨s1, s2, s3⟩ := shown_none
              refine t7 _ _ _ _ ⟨_, .str "none", rfl, .str _, ⟨by decide +kernel, Nat.zero_le _⟩, s1, s2, s3, ?_⟩
              walk_at "wk"
              exact dn_of (rest hpl hd6 hn100 L7 P7)
          · have hpl : plW A6 t := tm_pl hso ht5
            have hd6 : dpW t ≤ 6 := by omega
            have hn100 : ndW t ≤ 100 := by omega
            have P7 : Pool p c (k * 534 + j * 74) A6 := P6.le (by omega)
            walk_at "wk"
            refine v_ixT at0 ?_
            walk_at "wk"
            refine t2 _ _ _ _ ⟨sg, t, rfl, hs, hpl, hd6, by omega, ?_⟩
            cases hT1 : isT sg t with
            | true =>
              have htm := tm_of hT1
              have hsz9 := htm.sz hso
              have hsz8 : 2 ^ dpW t ≤ 2 ^ 6 := Nat.pow_le_pow_right (by decide) hd6
              walk_at "wk"
              refine t3 _ _ _ _ ⟨sg, t, rfl, hso, htm.up (by omega), ?_⟩
              walk_at "wk"
              refine t4 _ _ _ _ ⟨a, "Lore", sg, ls, t, rfl, L6, hs, hpl, by omega, ?_⟩
              rw [hT1]
              walk_at "wk"
              refine t5 _ _ _ _ ⟨true, true, rfl, ?_⟩
              rw [beq_self_eq_true]
              walk_at "wk"
              refine t6 _ _ _ _ ⟨a, "Lore", sg, ls, t, rfl, L6, hs, hpl, by omega, by omega, ?_⟩
              rw [if_pos hT1]
              walk_at "wk"
              obtain ⟨s1, s2, s3⟩ := shown_small (szW t) (List.mem_range.mpr (by omega))
              refine t7 _ _ _ _ ⟨_, .int (szW t), rfl, .int _, ⟨rfl, Nat.zero_le _⟩, s1, s2, s3, ?_⟩
              walk_at "wk"
              exact dn_of (rest hpl hd6 hn100 L6 P7)
            | false =>
              walk_at "wk"
              refine t4 _ _ _ _ ⟨a, "Lore", sg, ls, t, rfl, L6, hs, hpl, by omega, ?_⟩
              rw [hT1]
              walk_at "wk"
              refine t5 _ _ _ _ ⟨false, false, rfl, ?_⟩
              rw [beq_self_eq_true]
              walk_at "wk"
              refine t6 _ _ _ _ ⟨a, "Lore", sg, ls, t, rfl, L6, hs, hpl, by omega, by omega, ?_⟩
              rw [if_neg (by rw [hT1]; exact Bool.false_ne_true)]
              walk_at "wk"
              obtain ⟨s1, s2, s3⟩ := shown_none
              refine t7 _ _ _ _ ⟨_, .str "none", rfl, .str _, ⟨by decide +kernel, Nat.zero_le _⟩, s1, s2, s3, ?_⟩
              walk_at "wk"
              exact dn_of (rest hpl hd6 hn100 L6 P7)
end N.R
set_option maxRecDepth 100000
set_option maxHeartbeats 4000000
namespace K03
open PySem N
abbrev prg : Program := PySem.Challenge.pw_neatbooks_k03_whole_terms_sizes_told_ter
def top (i : Nat) : Stmt := prg.main.body.getD i (.Pass ⟨0, 0, 0, 0⟩)
def mem (i j : Nat) : Stmt := match top i with
  | .ClassDef _ _ _ b .. => b.getD j (.Pass ⟨0, 0, 0, 0⟩)
  | _ => .Pass ⟨0, 0, 0, 0⟩
def b_is_integer : Ss := (.cons (.ret (.and (.isi (.v 0) .int) (.not (.isi (.v 0) .bool)))) .nil)
def d_is_integer : PD := { key := "is_integer", dd := ⟨("is_integer", none), "is_integer", "is_integer", L2.defArgs (top 5), L2.defBody (top 5), L2.defScope (top 5), [], []⟩, ps := [("thing" : Str)], NN := [("thing" : Str)], body := b_is_integer }
def b_is_within : Ss := (.cons (.ret (.and (.call "is_integer" (.cons (.v 0) .nil)) (.cmp2 .le .le (.v 1) (.v 0) (.v 2)))) .nil)
def d_is_within : PD := { key := "is_within", dd := ⟨("is_within", none), "is_within", "is_within", L2.defArgs (top 6), L2.defBody (top 6), L2.defScope (top 6), [], []⟩, ps := [("thing" : Str), ("least" : Str), ("most" : Str)], NN := [("thing" : Str), ("least" : Str), ("most" : Str)], body := b_is_within }
def b_is_pair : Ss := (.cons (.ret (.and (.isi (.v 0) .tuple) (.cmp .eq (.bi .len (.cons (.v 0) .nil)) (.int 2)))) .nil)
def d_is_pair : PD := { key := "is_pair", dd := ⟨("is_pair", none), "is_pair", "is_pair", L2.defArgs (top 7), L2.defBody (top 7), L2.defScope (top 7), [], []⟩, ps := [("thing" : Str)], NN := [("thing" : Str)], body := b_is_pair }
def b_is_sign : Ss := (.cons (.ife (.or (.not (.isi (.v 0) .str)) (.not (.cmp2 .le .le (.int 1) (.bi .len (.cons (.v 0) .nil)) (.g "MOST_LETTERS")))) (.cons (.ret (.bl false)) .nil) .nil) (.cons (.ret (.bi .all (.cons (.lc (.cmp .isin (.v 1) (.g "LETTERS")) (.nm 1) (.val (.v 0)) .no [1]) .nil))) .nil))
def d_is_sign : PD := { key := "is_sign", dd := ⟨("is_sign", none), "is_sign", "is_sign", L2.defArgs (top 15), L2.defBody (top 15), L2.defScope (top 15), [], []⟩, ps := [("thing" : Str)], NN := [("thing" : Str), ("letter" : Str)], body := b_is_sign }
def b_are_signs : Ss := (.cons (.ife (.or (.not (.isi (.v 0) .tuple)) (.not (.cmp2 .le .le (.int 1) (.bi .len (.cons (.v 0) .nil)) (.g "MOST_SIGNS")))) (.cons (.ret (.bl false)) .nil) .nil) (.cons (.fr (.nm 1) (.val (.v 0)) (.cons (.ife (.or (.not (.call "is_pair" (.cons (.v 1) .nil))) (.or (.not (.call "is_sign" (.cons (.ix (.v 1) (.int 0)) .nil))) (.not (.call "is_within" (.cons (.ix (.v 1) (.int 1)) (.cons (.int 0) (.cons (.g "MOST_PLACES") .nil))))))) (.cons (.ret (.bl false)) .nil) .nil) .nil)) (.cons (.asg (.nm 2) (.bi .all (.cons (.lc (.cmp .lt (.ix (.ix (.v 0) (.bin .sub (.v 3) (.int 1))) (.int 0)) (.ix (.ix (.v 0) (.v 3)) (.int 0))) (.nm 3) (.rng2 (.int 1) (.bi .len (.cons (.v 0) .nil))) .no [3]) .nil))) (.cons (.ret (.and (.v 2) (.bi .any (.cons (.lc (.cmp .eq (.v 5) (.int 0)) (.tp [4, 5]) (.val (.v 0)) .no [4, 5]) .nil)))) .nil))))
def d_are_signs : PD := { key := "are_signs", dd := ⟨("are_signs", none), "are_signs", "are_signs", L2.defArgs (top 16), L2.defBody (top 16), L2.defScope (top 16), [], []⟩, ps := [("thing" : Str)], NN := [("thing" : Str), ("pair" : Str), ("rising" : Str), ("at" : Str), ("sign" : Str), ("places" : Str)], body := b_are_signs }
def b_is_term_of : Ss := (.cons (.asg (.nm 2) (.lst (.cons (.v 1) .nil))) (.cons (.wh (.cmp .gt (.bi .len (.cons (.v 2) .nil)) (.int 0)) (.cons (.asg (.nm 3) (.mt .pop0 (.v 2) .nil)) (.cons (.ife (.or (.not (.isi (.v 3) .tuple)) (.or (.cmp .eq (.bi .len (.cons (.v 3) .nil)) (.int 0)) (.not (.isi (.ix (.v 3) (.int 0)) .str)))) (.cons (.ret (.bl false)) .nil) .nil) (.cons (.ife (.or (.cmp .notin (.ix (.v 3) (.int 0)) (.v 0)) (.cmp .ne (.bi .len (.cons (.v 3) .nil)) (.bin .add (.ix (.v 0) (.ix (.v 3) (.int 0))) (.int 1)))) (.cons (.ret (.bl false)) .nil) .nil) (.cons (.ex (.mt .extend (.v 2) (.cons (.sl (.v 3) (.so (.int 1)) .no) .nil))) .nil))))) (.cons (.ret (.bl true)) .nil)))
def d_is_term_of : PD := { key := "is_term_of", dd := ⟨("is_term_of", none), "is_term_of", "is_term_of", L2.defArgs (top 17), L2.defBody (top 17), L2.defScope (top 17), [], []⟩, ps := [("places" : Str), ("thing" : Str)], NN := [("places" : Str), ("thing" : Str), ("waiting" : Str), ("here" : Str)], body := b_is_term_of }
def b_is_line_of : Ss := (.cons (.ret (.and (.call "is_pair" (.cons (.v 1) .nil)) (.and (.call "is_term_of" (.cons (.v 0) (.cons (.ix (.v 1) (.int 0)) .nil))) (.call "is_term_of" (.cons (.v 0) (.cons (.ix (.v 1) (.int 1)) .nil)))))) .nil)
def d_is_line_of : PD := { key := "is_line_of", dd := ⟨("is_line_of", none), "is_line_of", "is_line_of", L2.defArgs (top 18), L2.defBody (top 18), L2.defScope (top 18), [], []⟩, ps := [("places" : Str), ("thing" : Str)], NN := [("places" : Str), ("thing" : Str)], body := b_is_line_of }
def b_size_of : Ss := (.cons (.asg (.nm 1) (.int 0)) (.cons (.asg (.nm 2) (.lst (.cons (.v 0) .nil))) (.cons (.wh (.cmp .gt (.bi .len (.cons (.v 2) .nil)) (.int 0)) (.cons (.aug 1 .add (.int 1)) (.cons (.ex (.mt .extend (.v 2) (.cons (.sl (.mt .pop0 (.v 2) .nil) (.so (.int 1)) .no) .nil))) .nil))) (.cons (.ret (.v 1)) .nil))))
def d_size_of : PD := { key := "size_of", dd := ⟨("size_of", none), "size_of", "size_of", L2.defArgs (top 19), L2.defBody (top 19), L2.defScope (top 19), [], []⟩, ps := [("term" : Str)], NN := [("term" : Str), ("found" : Str), ("waiting" : Str)], body := b_size_of }
def b_order_of : Ss := (.cons (.ret (.tup (.cons (.call "size_of" (.cons (.v 0) .nil)) (.cons (.v 0) .nil)))) .nil)
def d_order_of : PD := { key := "order_of", dd := ⟨("order_of", none), "order_of", "order_of", L2.defArgs (top 20), L2.defBody (top 20), L2.defScope (top 20), [], []⟩, ps := [("term" : Str)], NN := [("term" : Str)], body := b_order_of }
def b_ascending : Ss := (.cons (.ret (.srt (.v 0) "order_of")) .nil)
def d_ascending : PD := { key := "ascending", dd := ⟨("ascending", none), "ascending", "ascending", L2.defArgs (top 21), L2.defBody (top 21), L2.defScope (top 21), [], []⟩, ps := [("terms" : Str)], NN := [("terms" : Str)], body := b_ascending }
def b_text_of : Ss := (.cons (.asg (.nm 1) (.lst .nil)) (.cons (.asg (.nm 2) (.lst (.cons (.v 0) .nil))) (.cons (.wh (.cmp .gt (.bi .len (.cons (.v 2) .nil)) (.int 0)) (.cons (.asg (.nm 3) (.mt .pop0 (.v 2) .nil)) (.cons (.ife (.isi (.v 3) .str) (.cons (.ex (.mt .append (.v 1) (.cons (.v 3) .nil))) .nil) (.cons (.ife (.cmp .eq (.bi .len (.cons (.v 3) .nil)) (.int 1)) (.cons (.ex (.mt .append (.v 1) (.cons (.ix (.v 3) (.int 0)) .nil))) .nil) (.cons (.ex (.mt .append (.v 1) (.cons (.bin .add (.ix (.v 3) (.int 0)) (.str "(")) .nil))) (.cons (.ex (.mt .append (.v 2) (.cons (.str ")") .nil))) (.cons (.fr (.nm 4) (.rng3 (.bin .sub (.bi .len (.cons (.v 3) .nil)) (.int 1)) (.int 0) (.neg (.int 1))) (.cons (.ex (.mt .append (.v 2) (.cons (.ix (.v 3) (.v 4)) .nil))) (.cons (.ife (.cmp .gt (.v 4) (.int 1)) (.cons (.ex (.mt .append (.v 2) (.cons (.str ",") .nil))) .nil) .nil) .nil))) .nil)))) .nil)) .nil))) (.cons (.ret (.mt .join (.str "") (.cons (.v 1) .nil))) .nil))))
def d_text_of : PD := { key := "text_of", dd := ⟨("text_of", none), "text_of", "text_of", L2.defArgs (top 22), L2.defBody (top 22), L2.defScope (top 22), [], []⟩, ps := [("term" : Str)], NN := [("term" : Str), ("found" : Str), ("waiting" : Str), ("here" : Str), ("at" : Str)], body := b_text_of }
def b_within_of : Ss := (.cons (.asg (.nm 1) .dct0) (.cons (.asg (.nm 2) (.bi .list (.cons (.v 0) .nil))) (.cons (.wh (.cmp .gt (.bi .len (.cons (.v 2) .nil)) (.int 0)) (.cons (.asg (.nm 3) (.mt .pop0 (.v 2) .nil)) (.cons (.asg (.nm 4) (.call "text_of" (.cons (.v 3) .nil))) (.cons (.ife (.cmp .notin (.v 4) (.v 1)) (.cons (.setix (.v 1) (.v 4) (.v 3)) (.cons (.ex (.mt .extend (.v 2) (.cons (.sl (.v 3) (.so (.int 1)) .no) .nil))) .nil)) .nil) .nil)))) (.cons (.ret (.call "ascending" (.cons (.lock 1 (.lc (.ix (.v 1) (.v 4)) (.nm 4) (.val (.v 1)) .no [4])) .nil))) .nil))))
def d_within_of : PD := { key := "within_of", dd := ⟨("within_of", none), "within_of", "within_of", L2.defArgs (top 23), L2.defBody (top 23), L2.defScope (top 23), [], []⟩, ps := [("terms" : Str)], NN := [("terms" : Str), ("found" : Str), ("waiting" : Str), ("here" : Str), ("key" : Str)], body := b_within_of }
def b_sides_of : Ss := (.cons (.asg (.nm 1) (.lst .nil)) (.cons (.fr (.tp [2, 3]) (.val (.v 0)) (.cons (.ex (.mt .extend (.v 1) (.cons (.lst (.cons (.v 2) (.cons (.v 3) .nil))) .nil))) .nil)) (.cons (.ret (.v 1)) .nil)))
def d_sides_of : PD := { key := "sides_of", dd := ⟨("sides_of", none), "sides_of", "sides_of", L2.defArgs (top 24), L2.defBody (top 24), L2.defScope (top 24), [], []⟩, ps := [("lines" : Str)], NN := [("lines" : Str), ("found" : Str), ("left" : Str), ("right" : Str)], body := b_sides_of }
def b_Lore___init__ : Ss := (.cons (.ife (.not (.call "are_signs" (.cons (.v 1) .nil))) (.cons (.rais "BadLore" (.cons (.str "signs") .nil)) .nil) .nil) (.cons (.ife (.or (.not (.isi (.v 2) .tuple)) (.cmp .gt (.bi .len (.cons (.v 2) .nil)) (.g "MOST_LINES"))) (.cons (.rais "BadLore" (.cons (.str "lines") .nil)) .nil) .nil) (.cons (.asg (.nm 3) (.bi .dict (.cons (.v 1) .nil))) (.cons (.fr (.tp [4, 5]) (.enum (.v 2)) (.cons (.ife (.not (.call "is_line_of" (.cons (.v 3) (.cons (.v 5) .nil)))) (.cons (.rais "BadLore" (.cons (.v 4) .nil)) .nil) .nil) .nil)) (.cons (.ife (.cmp .gt (.bi .len (.cons (.call "within_of" (.cons (.call "sides_of" (.cons (.v 2) .nil)) .nil)) .nil)) (.g "MOST_TERMS")) (.cons (.rais "BadLore" (.cons (.str "terms") .nil)) .nil) .nil) (.cons (.ex (.mth (.v 0) "keep" (.cons (.v 1) (.cons (.v 2) .nil)))) .nil))))))
def d_Lore___init__ : PD := { key := "Lore.__init__", dd := ⟨("Lore", some "__init__"), "__init__", "Lore.__init__", L2.defArgs (mem 25 0), L2.defBody (mem 25 0), L2.defScope (mem 25 0), [], []⟩, ps := [("self" : Str), ("signs" : Str), ("lines" : Str)], NN := [("self" : Str), ("signs" : Str), ("lines" : Str), ("places" : Str), ("number" : Str), ("line" : Str)], body := b_Lore___init__ }
def b_Lore_keep : Ss := (.cons (.setfld (.v 0) "signs" (.v 1)) (.cons (.setfld (.v 0) "lines" (.v 2)) (.cons (.setfld (.v 0) "kept_places" (.bi .dict (.cons (.v 1) .nil))) (.cons (.setfld (.v 0) "kept_hall" (.lst .nil)) .nil))))
def d_Lore_keep : PD := { key := "Lore.keep", dd := ⟨("Lore", some "keep"), "keep", "Lore.keep", L2.defArgs (mem 25 1), L2.defBody (mem 25 1), L2.defScope (mem 25 1), [], []⟩, ps := [("self" : Str), ("signs" : Str), ("lines" : Str)], NN := [("self" : Str), ("signs" : Str), ("lines" : Str)], body := b_Lore_keep }
def b_Lore___eq__ : Ss := (.cons (.ret (.and (.isi (.v 1) (.own "Lore")) (.and (.cmp .eq (.fld (.v 0) "signs") (.fld (.v 1) "signs")) (.cmp .eq (.fld (.v 0) "lines") (.fld (.v 1) "lines"))))) .nil)
def d_Lore___eq__ : PD := { key := "Lore.__eq__", dd := ⟨("Lore", some "__eq__"), "__eq__", "Lore.__eq__", L2.defArgs (mem 25 2), L2.defBody (mem 25 2), L2.defScope (mem 25 2), [], []⟩, ps := [("self" : Str), ("other" : Str)], NN := [("self" : Str), ("other" : Str)], body := b_Lore___eq__ }
def b_is_term_there : Ss := (.cons (.ret (.call "is_term_of" (.cons (.fld (.v 0) "kept_places") (.cons (.v 1) .nil)))) .nil)
def d_is_term_there : PD := { key := "is_term_there", dd := ⟨("is_term_there", none), "is_term_there", "is_term_there", L2.defArgs (top 26), L2.defBody (top 26), L2.defScope (top 26), [], []⟩, ps := [("lore" : Str), ("thing" : Str)], NN := [("lore" : Str), ("thing" : Str)], body := b_is_term_there }
def b_is_term : Ss := (.cons (.ret (.call "is_term_there" (.cons (.v 0) (.cons (.v 1) .nil)))) .nil)
def d_is_term : PD := { key := "is_term", dd := ⟨("is_term", none), "is_term", "is_term", L2.defArgs (top 27), L2.defBody (top 27), L2.defScope (top 27), [], []⟩, ps := [("lore" : Str), ("thing" : Str)], NN := [("lore" : Str), ("thing" : Str)], body := b_is_term }
def b_check_term : Ss := (.cons (.ife (.not (.call "is_term_there" (.cons (.v 0) (.cons (.v 1) .nil)))) (.cons (.rais "NoTerm" .nil) .nil) .nil) .nil)
def d_check_term : PD := { key := "check_term", dd := ⟨("check_term", none), "check_term", "check_term", L2.defArgs (top 28), L2.defBody (top 28), L2.defScope (top 28), [], []⟩, ps := [("lore" : Str), ("thing" : Str)], NN := [("lore" : Str), ("thing" : Str)], body := b_check_term }
def b_size : Ss := (.cons (.ex (.call "check_term" (.cons (.v 0) (.cons (.v 1) .nil)))) (.cons (.ret (.call "size_of" (.cons (.v 1) .nil))) .nil))
def d_size : PD := { key := "size", dd := ⟨("size", none), "size", "size", L2.defArgs (top 29), L2.defBody (top 29), L2.defScope (top 29), [], []⟩, ps := [("lore" : Str), ("term" : Str)], NN := [("lore" : Str), ("term" : Str)], body := b_size }
def b_told_of : Ss := (.cons (.ret (.call "within_of" (.cons (.call "sides_of" (.cons (.fld (.v 0) "lines") .nil)) .nil))) .nil)
def d_told_of : PD := { key := "told_of", dd := ⟨("told_of", none), "told_of", "told_of", L2.defArgs (top 30), L2.defBody (top 30), L2.defScope (top 30), [], []⟩, ps := [("lore" : Str)], NN := [("lore" : Str)], body := b_told_of }
def b_told_terms : Ss := (.cons (.ret (.bi .tuple (.cons (.call "told_of" (.cons (.v 0) .nil)) .nil))) .nil)
def d_told_terms : PD := { key := "told_terms", dd := ⟨("told_terms", none), "told_terms", "told_terms", L2.defArgs (top 31), L2.defBody (top 31), L2.defScope (top 31), [], []⟩, ps := [("lore" : Str)], NN := [("lore" : Str)], body := b_told_terms }
def b__law_pool : Ss := (.cons (.asg (.nm 1) (.bin .add (.bin .add (.bin .mod (.bi .int (.cons (.bi .sum (.cons (.sl (.v 0) .no (.so (.int 1))) .nil)) .nil)) (.int 1000003)) (.bi .len (.cons (.v 0) .nil))) (.int 1))) (.cons (.fr (.nm 2) (.val (.sl (.v 0) .no (.so (.int 63)))) (.cons (.asg (.nm 1) (.bin .mod (.bi .int (.cons (.bin .add (.bin .add (.bin .mul (.v 1) (.int 48271)) (.bin .mod (.bi .int (.cons (.v 2) .nil)) (.int 2147483629))) (.int 11)) .nil)) (.int 2147483647))) .nil)) (.cons (.ret (.lst (.cons (.v 1) (.cons (.int 0) (.cons (.lc (.bi .abs (.cons (.v 2) .nil)) (.nm 2) (.val (.sl (.v 0) .no (.so (.int 63)))) (.so (.cmp .ge (.bi .abs (.cons (.v 2) .nil)) (.bin .pow (.int 10) (.int 18)))) [2]) .nil))))) .nil)))
def d__law_pool : PD := { key := "_law_pool", dd := ⟨("_law_pool", none), "_law_pool", "_law_pool", L2.defArgs (top 33), L2.defBody (top 33), L2.defScope (top 33), [], []⟩, ps := [("_law_script" : Str)], NN := [("_law_script" : Str), ("_law_seed" : Str), ("_law_cell" : Str)], body := b__law_pool }
def b__law_draw : Ss := (.cons (.setix (.v 0) (.int 1) (.bin .add (.ix (.v 0) (.int 1)) (.int 1))) (.cons (.asg (.nm 2) (.ix (.v 0) (.int 2))) (.cons (.ife (.cmp .gt (.bi .len (.cons (.v 2) .nil)) (.int 0)) (.cons (.asg (.nm 4) (.bin .mod (.bi .int (.cons (.ix (.v 2) (.int 0)) .nil)) (.v 1))) (.cons (.setix (.v 2) (.int 0) (.bin .fdiv (.bi .int (.cons (.ix (.v 2) (.int 0)) .nil)) (.v 1))) (.cons (.ife (.cmp .eq (.ix (.v 2) (.int 0)) (.int 0)) (.cons (.ex (.mt .popAt (.v 2) (.cons (.int 0) .nil))) .nil) .nil) (.cons (.ret (.v 4)) .nil)))) .nil) (.cons (.asg (.nm 3) (.bin .mod (.bi .int (.cons (.bin .mul (.bin .add (.ix (.v 0) (.int 0)) (.bin .mul (.int 7919) (.ix (.v 0) (.int 1)))) (.int 48271)) .nil)) (.int 2147483647))) (.cons (.asg (.nm 3) (.bin .mod (.bi .int (.cons (.bin .mul (.v 3) (.bin .add (.bin .fdiv (.v 3) (.int 1009)) (.int 69621))) .nil)) (.int 2147483647))) (.cons (.asg (.nm 3) (.bin .mod (.bi .int (.cons (.bin .mul (.v 3) (.bin .add (.bin .fdiv (.v 3) (.int 2003)) (.int 40692))) .nil)) (.int 2147483399))) (.cons (.ret (.bin .mod (.bi .int (.cons (.bin .fdiv (.v 3) (.int 16)) .nil)) (.v 1))) .nil)))))))
def d__law_draw : PD := { key := "_law_draw", dd := ⟨("_law_draw", none), "_law_draw", "_law_draw", L2.defArgs (top 34), L2.defBody (top 34), L2.defScope (top 34), [], []⟩, ps := [("_law_pool_here" : Str), ("_law_many" : Str)], NN := [("_law_pool_here" : Str), ("_law_many" : Str), ("_law_cells" : Str), ("_law_mixed" : Str), ("_law_digit" : Str)], body := b__law_draw }
def b__law_deep : Ss := (.cons (.asg (.nm 0) (.lst (.cons .non .nil))) (.cons (.fr (.nm 1) (.rng1 (.int 35)) (.cons (.asg (.nm 0) (.lst (.cons (.v 0) .nil))) .nil)) (.cons (.ret (.v 0)) .nil)))
def d__law_deep : PD := { key := "_law_deep", dd := ⟨("_law_deep", none), "_law_deep", "_law_deep", L2.defArgs (top 35), L2.defBody (top 35), L2.defScope (top 35), [], []⟩, ps := [], NN := [("_law_thing" : Str), ("_law_turn" : Str)], body := b__law_deep }
def b__law_flag : Ss := (.cons (.ret (.and (.isi (.v 0) .bool) (.cmp .eq (.v 0) (.v 1)))) .nil)
def d__law_flag : PD := { key := "_law_flag", dd := ⟨("_law_flag", none), "_law_flag", "_law_flag", L2.defArgs (top 36), L2.defBody (top 36), L2.defScope (top 36), [], []⟩, ps := [("_law_thing" : Str), ("_law_due" : Str)], NN := [("_law_thing" : Str), ("_law_due" : Str)], body := b__law_flag }
def b__law_is : Ss := (.cons (.ret (.cmp .eq (.bi .repr (.cons (.v 0) .nil)) (.bi .repr (.cons (.v 1) .nil)))) .nil)
def d__law_is : PD := { key := "_law_is", dd := ⟨("_law_is", none), "_law_is", "_law_is", L2.defArgs (top 37), L2.defBody (top 37), L2.defScope (top 37), [], []⟩, ps := [("_law_told_here" : Str), ("_law_due" : Str)], NN := [("_law_told_here" : Str), ("_law_due" : Str)], body := b__law_is }
def b__law_signs : Ss := (.cons (.asg (.nm 1) (.sl (.lst (.cons (.tup (.cons (.str "a") (.cons (.int 0) .nil))) (.cons (.tup (.cons (.str "b") (.cons (.int 0) .nil))) (.cons (.tup (.cons (.str "c") (.cons (.int 0) .nil))) .nil)))) .no (.so (.bin .add (.int 1) (.call "_law_draw" (.cons (.v 0) (.cons (.int 3) .nil))))))) (.cons (.asg (.nm 1) (.bin .add (.v 1) (.sl (.lst (.cons (.tup (.cons (.str "f") (.cons (.int 1) .nil))) (.cons (.tup (.cons (.str "g") (.cons (.int 1) .nil))) (.cons (.tup (.cons (.str "h") (.cons (.int 1) .nil))) .nil)))) .no (.so (.call "_law_draw" (.cons (.v 0) (.cons (.int 4) .nil))))))) (.cons (.asg (.nm 1) (.bin .add (.v 1) (.sl (.lst (.cons (.tup (.cons (.str "p") (.cons (.int 2) .nil))) (.cons (.tup (.cons (.str "q") (.cons (.int 2) .nil))) .nil))) .no (.so (.bi .max2 (.cons (.int 0) (.cons (.bin .sub (.call "_law_draw" (.cons (.v 0) (.cons (.int 4) .nil))) (.int 1)) .nil))))))) (.cons (.ret (.bi .tuple (.cons (.srt (.v 1) "") .nil))) .nil))))
def d__law_signs : PD := { key := "_law_signs", dd := ⟨("_law_signs", none), "_law_signs", "_law_signs", L2.defArgs (top 38), L2.defBody (top 38), L2.defScope (top 38), [], []⟩, ps := [("_law_pool_here" : Str)], NN := [("_law_pool_here" : Str), ("_law_some" : Str)], body := b__law_signs }
def b__law_term : Ss := (.cons (.asg (.nm 3) (.lc (.v 6) (.nm 6) (.val (.v 1)) (.so (.or (.cmp .eq (.ix (.v 6) (.int 1)) (.int 0)) (.cmp .gt (.v 2) (.int 0)))) [6])) (.cons (.ife (.and (.cmp .gt (.v 2) (.int 0)) (.cmp .gt (.call "_law_draw" (.cons (.v 0) (.cons (.int 3) .nil))) (.int 0))) (.cons (.asg (.nm 3) (.bin .add (.lc (.v 6) (.nm 6) (.val (.v 1)) (.so (.cmp .gt (.ix (.v 6) (.int 1)) (.int 0))) [6]) (.sl (.v 3) .no (.so (.int 1))))) .nil) .nil) (.cons (.asg (.tp [4, 5]) (.ix (.v 3) (.call "_law_draw" (.cons (.v 0) (.cons (.bi .len (.cons (.v 3) .nil)) .nil))))) (.cons (.ret (.bin .add (.tup (.cons (.v 4) .nil)) (.bi .tuple (.cons (.lc (.call "_law_term" (.cons (.v 0) (.cons (.v 1) (.cons (.bin .sub (.v 2) (.int 1)) .nil)))) (.nm 7) (.rng1 (.v 5)) .no [7]) .nil)))) .nil))))
def d__law_term : PD := { key := "_law_term", dd := ⟨("_law_term", none), "_law_term", "_law_term", L2.defArgs (top 39), L2.defBody (top 39), L2.defScope (top 39), [], []⟩, ps := [("_law_pool_here" : Str), ("_law_signs_here" : Str), ("_law_deep_here" : Str)], NN := [("_law_pool_here" : Str), ("_law_signs_here" : Str), ("_law_deep_here" : Str), ("_law_some" : Str), ("_law_sign" : Str), ("_law_places" : Str), ("_law_pair" : Str), ("_law_place" : Str)], body := b__law_term }
def b__law_lines : Ss := (.cons (.asg (.nm 4) (.lst .nil)) (.cons (.fr (.nm 5) (.rng1 (.call "_law_draw" (.cons (.v 0) (.cons (.bin .add (.v 2) (.int 1)) .nil)))) (.cons (.asg (.nm 6) (.tup (.cons (.call "_law_term" (.cons (.v 0) (.cons (.v 1) (.cons (.call "_law_draw" (.cons (.v 0) (.cons (.bin .add (.v 3) (.int 1)) .nil))) .nil)))) (.cons (.call "_law_term" (.cons (.v 0) (.cons (.v 1) (.cons (.call "_law_draw" (.cons (.v 0) (.cons (.bin .add (.v 3) (.int 1)) .nil))) .nil)))) .nil)))) (.cons (.ife (.and (.cmp .gt (.bi .len (.cons (.v 4) .nil)) (.int 0)) (.cmp .eq (.call "_law_draw" (.cons (.v 0) (.cons (.int 8) .nil))) (.int 0))) (.cons (.asg (.nm 6) (.rv (.ix (.v 4) (.call "_law_draw" (.cons (.v 0) (.cons (.bi .len (.cons (.v 4) .nil)) .nil)))))) .nil) .nil) (.cons (.ex (.mt .append (.v 4) (.cons (.v 6) .nil))) .nil)))) (.cons (.ret (.bi .tuple (.cons (.v 4) .nil))) .nil)))
def d__law_lines : PD := { key := "_law_lines", dd := ⟨("_law_lines", none), "_law_lines", "_law_lines", L2.defArgs (top 40), L2.defBody (top 40), L2.defScope (top 40), [], []⟩, ps := [("_law_pool_here" : Str), ("_law_signs_here" : Str), ("_law_most" : Str), ("_law_deep_here" : Str)], NN := [("_law_pool_here" : Str), ("_law_signs_here" : Str), ("_law_most" : Str), ("_law_deep_here" : Str), ("_law_found" : Str), ("_law_turn" : Str), ("_law_line" : Str)], body := b__law_lines }
def b__law_lore : Ss := (.cons (.asg (.nm 3) (.call "_law_signs" (.cons (.v 0) .nil))) (.cons (.asg (.nm 4) (.call "_law_lines" (.cons (.v 0) (.cons (.v 3) (.cons (.v 1) (.cons (.v 2) .nil)))))) (.cons (.wh (.cmp .gt (.bi .len (.cons (.call "_law_told" (.cons (.v 4) .nil)) .nil)) (.int 40)) (.cons (.asg (.nm 4) (.sl (.v 4) .no (.so (.neg (.int 1))))) .nil)) (.cons (.ret (.tup (.cons (.v 3) (.cons (.v 4) .nil)))) .nil))))
def d__law_lore : PD := { key := "_law_lore", dd := ⟨("_law_lore", none), "_law_lore", "_law_lore", L2.defArgs (top 41), L2.defBody (top 41), L2.defScope (top 41), [], []⟩, ps := [("_law_pool_here" : Str), ("_law_most" : Str), ("_law_deep_here" : Str)], NN := [("_law_pool_here" : Str), ("_law_most" : Str), ("_law_deep_here" : Str), ("_law_signs_here" : Str), ("_law_lines_here" : Str)], body := b__law_lore }
def b__law_made : Ss := (.cons (.ret (.make "Lore" (.cons (.ix (.v 0) (.int 0)) (.cons (.ix (.v 0) (.int 1)) .nil)))) .nil)
def d__law_made : PD := { key := "_law_made", dd := ⟨("_law_made", none), "_law_made", "_law_made", L2.defArgs (top 42), L2.defBody (top 42), L2.defScope (top 42), [], []⟩, ps := [("_law_spec" : Str)], NN := [("_law_spec" : Str)], body := b__law_made }
def b__law_size : Ss := (.cons (.ret (.bin .add (.int 1) (.bi .sum (.cons (.lc (.call "_law_size" (.cons (.v 1) .nil)) (.nm 1) (.val (.sl (.v 0) (.so (.int 1)) .no)) .no [1]) .nil)))) .nil)
def d__law_size : PD := { key := "_law_size", dd := ⟨("_law_size", none), "_law_size", "_law_size", L2.defArgs (top 43), L2.defBody (top 43), L2.defScope (top 43), [], []⟩, ps := [("_law_term_here" : Str)], NN := [("_law_term_here" : Str), ("_law_part" : Str)], body := b__law_size }
def b__law_key : Ss := (.cons (.ret (.tup (.cons (.call "_law_size" (.cons (.v 0) .nil)) (.cons (.v 0) .nil)))) .nil)
def d__law_key : PD := { key := "_law_key", dd := ⟨("_law_key", none), "_law_key", "_law_key", L2.defArgs (top 44), L2.defBody (top 44), L2.defScope (top 44), [], []⟩, ps := [("_law_term_here" : Str)], NN := [("_law_term_here" : Str)], body := b__law_key }
def b__law_within : Ss := (.cons (.asg (.nm 1) (.lst .nil)) (.cons (.asg (.nm 2) (.bi .list (.cons (.v 0) .nil))) (.cons (.wh (.cmp .gt (.bi .len (.cons (.v 2) .nil)) (.int 0)) (.cons (.asg (.nm 3) (.mt .pop0 (.v 2) .nil)) (.cons (.ife (.cmp .notin (.v 3) (.v 1)) (.cons (.ex (.mt .append (.v 1) (.cons (.v 3) .nil))) (.cons (.asg (.nm 2) (.bin .add (.v 2) (.bi .list (.cons (.sl (.v 3) (.so (.int 1)) .no) .nil)))) .nil)) .nil) .nil))) (.cons (.ret (.srt (.v 1) "_law_key")) .nil))))
def d__law_within : PD := { key := "_law_within", dd := ⟨("_law_within", none), "_law_within", "_law_within", L2.defArgs (top 45), L2.defBody (top 45), L2.defScope (top 45), [], []⟩, ps := [("_law_terms" : Str)], NN := [("_law_terms" : Str), ("_law_found" : Str), ("_law_left" : Str), ("_law_here" : Str)], body := b__law_within }
def b__law_told : Ss := (.cons (.ret (.call "_law_within" (.cons (.bin .add (.lc (.ix (.v 1) (.int 0)) (.nm 1) (.val (.v 0)) .no [1]) (.lc (.ix (.v 1) (.int 1)) (.nm 1) (.val (.v 0)) .no [1])) .nil))) .nil)
def d__law_told : PD := { key := "_law_told", dd := ⟨("_law_told", none), "_law_told", "_law_told", L2.defArgs (top 46), L2.defBody (top 46), L2.defScope (top 46), [], []⟩, ps := [("_law_lines_here" : Str)], NN := [("_law_lines_here" : Str), ("_law_line" : Str)], body := b__law_told }
def d__law_is_right : PD := { key := "_law_is_right", dd := ⟨("_law_is_right", none), "_law_is_right", "_law_is_right", L2.defArgs (top 47), L2.defBody (top 47), L2.defScope (top 47), [], []⟩, ps := [("_law_signs_here" : Str), ("_law_thing" : Str)], NN := [("_law_signs_here" : Str), ("_law_thing" : Str), ("_law_part" : Str)], body := b__law_is_right }
def d__law_bent : PD := { key := "_law_bent", dd := ⟨("_law_bent", none), "_law_bent", "_law_bent", L2.defArgs (top 48), L2.defBody (top 48), L2.defScope (top 48), [], []⟩, ps := [("_law_pool_here" : Str), ("_law_term_here" : Str)], NN := [("_law_pool_here" : Str), ("_law_term_here" : Str), ("_law_odd" : Str), ("_law_at" : Str)], body := b__law_bent }
def d__law_size_told : PD := { key := "_law_size_told", dd := ⟨("_law_size_told", none), "_law_size_told", "_law_size_told", L2.defArgs (top 49), L2.defBody (top 49), L2.defScope (top 49), [], []⟩, ps := [("_law_lore_here" : Str), ("_law_thing" : Str)], NN := [("_law_lore_here" : Str), ("_law_thing" : Str), ("_law_found" : Str)], body := b__law_size_told }
def d_law : PD := { key := "law", dd := ⟨("law", none), "law", "law", L2.defArgs (top 50), L2.defBody (top 50), L2.defScope (top 50), [], []⟩, ps := [("_law_script" : Str)], NN := [("_law_script" : Str), ("_law_pool_here" : Str), ("_law_turn" : Str), ("_law_spec" : Str), ("_law_lore_here" : Str), ("_law_again" : Str), ("_law_thing" : Str), ("_law_right" : Str), ("_law_due" : Str)], body := b_law }
def ds : List PD := [d_is_integer, d_is_within, d_is_pair, d_is_sign, d_are_signs, d_is_term_of, d_is_line_of, d_size_of, d_order_of, d_ascending, d_text_of, d_within_of, d_sides_of, d_Lore___init__, d_Lore_keep, d_Lore___eq__, d_is_term_there, d_is_term, d_check_term, d_size, d_told_of, d_told_terms, d__law_pool, d__law_draw, d__law_deep, d__law_flag, d__law_is, d__law_signs, d__law_term, d__law_lines, d__law_lore, d__law_made, d__law_size, d__law_key, d__law_within, d__law_told, d__law_is_right, d__law_bent, d__law_size_told, d_law]
def D : SE := ⟨[("is_integer" : Str), ("is_within" : Str), ("is_pair" : Str), ("is_sign" : Str), ("are_signs" : Str), ("is_term_of" : Str), ("is_line_of" : Str), ("size_of" : Str), ("order_of" : Str), ("ascending" : Str), ("text_of" : Str), ("within_of" : Str), ("sides_of" : Str), ("is_term_there" : Str), ("is_term" : Str), ("check_term" : Str), ("size" : Str), ("told_of" : Str), ("told_terms" : Str), ("_law_pool" : Str), ("_law_draw" : Str), ("_law_deep" : Str), ("_law_flag" : Str), ("_law_is" : Str), ("_law_signs" : Str), ("_law_term" : Str), ("_law_lines" : Str), ("_law_lore" : Str), ("_law_made" : Str), ("_law_size" : Str), ("_law_key" : Str), ("_law_within" : Str), ("_law_told" : Str), ("_law_is_right" : Str), ("_law_bent" : Str), ("_law_size_told" : Str), ("law" : Str)], [("Lore" : Str)], [("LETTERS" : Str), ("MOST_LETTERS" : Str), ("MOST_LINES" : Str), ("MOST_PLACES" : Str), ("MOST_SIGNS" : Str), ("MOST_TERMS" : Str)], [("kept_hall" : Str), ("kept_places" : Str), ("lines" : Str), ("signs" : Str)], [("keep" : Str)], [("BadLore" : Str), ("NoTerm" : Str)]⟩
def loose0 : List Str := [("__name__" : Str), ("LoreError" : Str), ("BadLore" : Str), ("NoTerm" : Str), ("is_integer" : Str), ("is_within" : Str), ("is_pair" : Str), ("MOST_SIGNS" : Str), ("MOST_PLACES" : Str), ("MOST_LINES" : Str), ("MOST_TERMS" : Str), ("MOST_LETTERS" : Str), ("LETTERS" : Str), ("is_sign" : Str), ("are_signs" : Str), ("is_term_of" : Str), ("is_line_of" : Str), ("size_of" : Str), ("order_of" : Str), ("ascending" : Str), ("text_of" : Str), ("within_of" : Str), ("sides_of" : Str), ("Lore" : Str), ("is_term_there" : Str), ("is_term" : Str), ("check_term" : Str), ("size" : Str), ("told_of" : Str), ("told_terms" : Str)]
def loose1 : List Str := [("_law_pool" : Str), ("_law_draw" : Str), ("_law_deep" : Str), ("_law_flag" : Str), ("_law_is" : Str), ("_law_signs" : Str), ("_law_term" : Str), ("_law_lines" : Str), ("_law_lore" : Str), ("_law_made" : Str), ("_law_size" : Str), ("_law_key" : Str), ("_law_within" : Str), ("_law_told" : Str), ("_law_is_right" : Str), ("_law_bent" : Str), ("_law_size_told" : Str)]
def loose : List Str := loose0 ++ loose1
abbrev R : PySem.W.OpenRow := PySem.W.OpenLaw.row PySem.Challenge.rw_neatbooks_k03_whole_terms_sizes_told_ter
def hk : PySem.W.Hook := N.hookN 5 (ds.map (·.dd)) (exB prg D ds)
def ob (s : PySem.W.SharedT) : He.AlX := N.obsN 5 (ds.map (·.dd)) (exB prg D ds) (HandSHeadRun.getT s)
theorem ob_eq (s : PySem.W.SharedT) : ob s = hk.obs s.abs := N.obsN_eq (HandSHeadRun.getT_eq s)
theorem run (w : World) : HandSHeadRun.RunEq R (PySem.W.view R.prog [50]) hk ob 6000 loose w := by
  intro os
  kernel_rfl
theorem hall : ds.all (PD.okB D) = true := by decide +kernel
open N.R in
theorem plain : Plain ds 60 63 := fun G S ns hn => by
  have L : ∀ n, LH (G n) := lh_of S (by decide +kernel)
  have aInt : At G 1 "is_integer" spIntegerI := at_of S (d := d_is_integer) 0 rfl fun n _ => k_is_integer (G n)
  have aWin : At G 2 "is_within" spWithinI := at_of S (d := d_is_within) 1 rfl fun n h => k_is_within (G n) (aInt n h)
  have aPair : At G 1 "is_pair" spPairT := at_of S (d := d_is_pair) 0 rfl fun n _ => k_is_pair (G n)
  have aSign : At G 1 "is_sign" spSign := at_of S (d := d_is_sign) 0 rfl fun n _ => k_is_sign (G n)
  have aSigns : At G 3 "are_signs" spSigns := at_of S (d := d_are_signs) 2 rfl fun n h => k_are_signs (G n) (aPair n (by omega)) (aSign n (by omega)) (aWin n h)
  have aTermOf : At G 1 "is_term_of" spTermOf := at_of S (d := d_is_term_of) 0 rfl fun n _ => k_is_term_of (G n)
  have aLineOf : At G 2 "is_line_of" spLineOf := at_of S (d := d_is_line_of) 1 rfl fun n h => k_is_line_of (G n) (aPair n h) (aTermOf n h)
  have aSize : At G 1 "size_of" spSize := at_of S (d := d_size_of) 0 rfl fun n _ => k_size_of (G n)
  have aOrder : At G 2 "order_of" spOrder := at_of S (d := d_order_of) 1 rfl fun n h => k_order_of (G n) (aSize n h)
  have aAsc : At G 3 "ascending" spAsc := at_of S (d := d_ascending) 2 rfl fun n h => k_ascending (G n) (aOrder n h)
  have aText : At G 1 "text_of" spText := at_of S (d := d_text_of) 0 rfl fun n _ => k_text_of (G n)
  have aWithin : At G 4 "within_of" spWithin := at_of S (d := d_within_of) 3 rfl fun n h => k_within_of (G n) (aText n (by omega)) (aAsc n h)
  have aSides : At G 1 "sides_of" spSides := at_of S (d := d_sides_of) 0 rfl fun n _ => k_sides_of (G n)
  have aKeep : At G 1 "Lore.keep" spKeep := at_of S (d := d_Lore_keep) 0 rfl fun n _ => k_keep (G n) (L n)
  have aInit : At G 5 "Lore.__init__" spInit := at_of S (d := d_Lore___init__) 4 rfl fun n h => k_init (G n) (L n) (aKeep n (by omega)) (aSigns n (by omega)) (aLineOf n (by omega)) (aSides n (by omega)) (aWithin n h)
  have aEq : At G 1 "Lore.__eq__" spEq := at_of S (d := d_Lore___eq__) 0 rfl fun n _ => k_eq (G n) (L n)
  have aToldOf : At G 5 "told_of" spToldOf := at_of S (d := d_told_of) 4 rfl fun n h => k_told_of (G n) (L n) (aSides n (by omega)) (aWithin n h)
  have aTold : At G 6 "told_terms" spTold := at_of S (d := d_told_terms) 5 rfl fun n h => k_told_terms (G n) (aToldOf n h)
  have aPool : At G 1 "_law_pool" spPool := at_of S (d := d__law_pool) 0 rfl fun n _ => k_pool (G n)
  have aDraw : At G 1 "_law_draw" spDraw := at_of S (d := d__law_draw) 0 rfl fun n _ => k_draw (G n)
  have aLSigns : At G 2 "_law_signs" spLSigns := at_of S (d := d__law_signs) 1 rfl fun n h => k_lsigns (G n) (aDraw n h)
  have aTerm : ∀ e : Nat, e ≤ 10 → At G (e + 2) "_law_term" (spLTerm e) := by
    intro e
    induction e with
    | zero => exact fun _ => at_of S (d := d__law_term) 1 rfl fun n h => k_lterm (G n) 0 (by omega) (aDraw n h) fun e he => by omega
    | succ e ih =>
      intro he
      have t2 : ∀ n, e + 2 ≤ n → ∀ e2, e + 1 = e2 + 1 → Tells (G n) "_law_term" (spLTerm e2) := by
        intro n h e2 he2
        have q : e = e2 := by omega
        rw [← q]
        exact ih (by omega) n h
      exact at_of S (d := d__law_term) (e + 2) rfl fun n h => k_lterm (G n) (e + 1) he (aDraw n (by omega)) (t2 n h)
  have aTerms : ∀ n, 12 ≤ n → ∀ e ≤ 10, Tells (G n) "_law_term" (spLTerm e) := fun n h e he => aTerm e he n (by omega)
  have aLines : At G 13 "_law_lines" spLLines := at_of S (d := d__law_lines) 12 rfl fun n h => k_llines (G n) (aDraw n (by omega)) (aTerms n h)
  have aLSize : ∀ d : Nat, At G d "_law_size" (spSizeD d) := by
    intro d
    induction d with
    | zero => exact fun n _ ws A Q E => fun ⟨sg, t, _, _, h, _⟩ => h.elim
    | succ d ih => exact at_of S (d := d__law_size) d rfl fun n h => k_lsize (G n) d (ih n h)
  have aLKey : At G 13 "_law_key" spOrder := at_of S (d := d__law_key) 12 rfl fun n h => k_lkey (G n) (aLSize 12 n h)
  have aLWithin : At G 14 "_law_within" spLWithin := at_of S (d := d__law_within) 13 rfl fun n h => k_lwithin (G n) (aLKey n h)
  have aLTold : At G 15 "_law_told" spLTold := at_of S (d := d__law_told) 14 rfl fun n h => k_ltold (G n) (aLWithin n h)
  have aLore : At G 16 "_law_lore" spLLore := at_of S (d := d__law_lore) 15 rfl fun n h => k_llore (G n) (aLSigns n (by omega)) (aLines n (by omega)) (aLTold n h)
  have aMade : At G 6 "_law_made" spMade := at_of S (d := d__law_made) 5 rfl fun n h => k_made (G n) (aInit n h)
  have kit : ∀ n, 16 ≤ n → Kit (G n) := fun n h => ⟨L n, aPool n (by omega), aDraw n (by omega), aTerms n (by omega), aLore n h, aMade n (by omega), aInit n (by omega), aEq n (by omega)⟩
  have aTermG : At G 1 "is_term_of" spTermG := at_of S (d := d_is_term_of) 0 rfl fun n _ => k_is_termG (G n)
  have aThere : At G 2 "is_term_there" spThere := at_of S (d := d_is_term_there) 1 rfl fun n h => k_is_term_there (G n) (L n) (aTermG n h)
  have aIsTerm : At G 3 "is_term" spThere := at_of S (d := d_is_term) 2 rfl fun n h => k_is_term (G n) (aThere n h)
  have aChkT : At G 3 "check_term" spChkT := at_of S (d := d_check_term) 2 rfl fun n h => k_check_term (G n) (aThere n h)
  have aSizeR : At G 4 "size" spSizeR := at_of S (d := d_size) 3 rfl fun n h => k_size (G n) (aChkT n h) (aSize n (by omega))
  have aFlag : At G 1 "_law_flag" spFlag := at_of S (d := d__law_flag) 0 rfl fun n _ => k_lflag (G n)
  have aIs : At G 1 "_law_is" spIs := at_of S (d := d__law_is) 0 rfl fun n _ => k_lis (G n)
  have aDeep : At G 1 "_law_deep" spDeep := at_of S (d := d__law_deep) 0 rfl fun n _ => k_ldeep (G n)
  have aSizeTold : At G 5 "_law_size_told" spSizeTold := at_of S (d := d__law_size_told) 4 rfl fun n h => k_lsizetold (G n) (aSizeR n h)
  have aRight : ∀ d : Nat, At G (d + 1) "_law_is_right" (spRight d) := by
    intro d
    induction d with
    | zero => exact at_of S (d := d__law_is_right) 0 rfl fun n _ => k_lright (G n) 0 fun e he => by omega
    | succ d ih =>
      have t2 : ∀ n, d + 1 ≤ n → ∀ e, d + 1 = e + 1 → Tells (G n) "_law_is_right" (spRight e) := by
        intro n h e he
        have q : d = e := by omega
        rw [← q]
        exact ih n h
      exact at_of S (d := d__law_is_right) (d + 1) rfl fun n h => k_lright (G n) (d + 1) (t2 n h)
  have aBent : ∀ d : Nat, d ≤ 10 → At G (d + 2) "_law_bent" (spBent d) := by
    intro d
    induction d with
    | zero => exact fun _ => at_of S (d := d__law_bent) 1 rfl fun n h => k_lbent (G n) 0 (by omega) (aDraw n h) (fun e he => by omega) (aDeep n h)
    | succ d ih =>
      intro hd
      have t2 : ∀ n, d + 2 ≤ n → ∀ e, d + 1 = e + 1 → Tells (G n) "_law_bent" (spBent e) := by
        intro n h e he
        have q : d = e := by omega
        rw [← q]
        exact ih (by omega) n h
      exact at_of S (d := d__law_bent) (d + 2) rfl fun n h => k_lbent (G n) (d + 1) hd (aDraw n (by omega)) (t2 n h) (aDeep n (by omega))
  have aLaw : At G 17 "law" spLaw := at_of S (d := d_law) 16 rfl fun n h => k_law03 (G n) (kit n h) (fun e he => aBent e (by omega) n (by omega)) (aRight 6 n (by omega)) (aLSize 12 n (by omega)) (aIsTerm n (by omega)) (aFlag n (by omega)) (aSizeTold n (by omega)) (aIs n (by omega)) (aTold n (by omega)) (aLTold n (by omega))
  exact aLaw 60 (by omega) _ _ _ _ ⟨ns, rfl, hn, fun _ => rfl⟩
open PySem PySem.W PySem.Calls PyProof.Rows N in
theorem claim_holds : PySem.Challenge.rw_neatbooks_k03_whole_terms_sizes_told_ter.Holds := by
  w_on; o_law
  refine HandSHeadRun.head_any (r := OpenLaw.row PySem.Challenge.rw_neatbooks_k03_whole_terms_sizes_told_ter) (q := view (OpenLaw.row PySem.Challenge.rw_neatbooks_k03_whole_terms_sizes_told_ter).prog [50]) (H := hk) (ob := ob) (M := 6000) (loose := loose) (d := HandSHeadRun.topDef (OpenLaw.row PySem.Challenge.rw_neatbooks_k03_whole_terms_sizes_told_ter).prog 50) (kwd := []) ob_eq
    (by kernel_rfl) (fun s => by kernel_rfl) run (by kernel_rfl) (by kernel_rfl) (by kernel_rfl) (by rfl) (by first | assumption | decide +kernel) (by decide +kernel) ⟨rfl, rfl, rfl, rfl, rfl, by decide +kernel⟩ ?hw ?hc
  case hw => w_witness2
  case hc =>
    refine N.walk_end (l := PySem.Challenge.rw_neatbooks_k03_whole_terms_sizes_told_ter) (n := 63) (k := 2 * 60) (x := "_law_script") rfl (by decide) (by kernel_rfl) ⟨rfl, by decide, by decide⟩ ?F
    intro w mg fa h Y G hmg0
    obtain ⟨K, KX, c⟩ := Y
    have hmg : mg ("law" : PySem.Str) = some (.ref fa) := by
      have e : (HandSHeadRun.topDef (OpenLaw.row PySem.Challenge.rw_neatbooks_k03_whole_terms_sizes_told_ter).prog 50).name = ("law" : PySem.Str) := by kernel_rfl
      rw [← e]
      exact hmg0
    have F := facts_of hall KX G c
    obtain ⟨d, hd, hm⟩ := F.fn "law" (by decide +kernel)
    have e1 : look ds "law" = some d_law := by kernel_rfl
    cases e1.symm.trans hd
    obtain ⟨fd, sp, h1, h2, h3⟩ := N.law_end (P := (PySem.Challenge.rw_neatbooks_k03_whole_terms_sizes_told_ter).prog) (w := w) (x := "_law_script") F hall hd rfl plain
    cases hmg.symm.trans hm
    exact ⟨K, fd, sp, KX, h1, h2, h3⟩
end K03
theorem PySem.Challenge.cw_neatbooks_k03_whole_terms_sizes_told_ter_holds : PySem.Challenge.rw_neatbooks_k03_whole_terms_sizes_told_ter.Holds :=
  K03.claim_holds
